import PyProof.Rows.All
import HandS.ForMost
import HandS.ForExc
import HandS.Zip
import HandS.Walk
import PyProof.Draws
import HandS.Style
import PyProof.SliceStr2
import HandS.TupMul
import PyProof.StrOps2
import HandS.TupAny
import HandS.Deep
import HandS.IsInst
import HandS.TupLe
import PyProof.Rows.SeqMore
import KE.DataCmp
import KE.DataEq
import KE.SortData
import HandS.Set
import PyProof.Rows.SortWalk
import PyProof.TupleOfSeq
import PyProof.CollectStr
import KE.DataMinMax
import KE.DataFind
import PyProof.ListStr
import HandS.TupSets
import KE.KeyNested
import HandS.More
import HandS.Conv
import HandS.Ends
import HandS.Defaults
import HandS.HeadHook1
import HandS.HeadHook2
import HandS.HeadHook3
import HandS.Head0
import HandS.Head1
import HandS.Head2
import HandS.HeadEnd
import PySem.Challenge.RW_mirrorsure_k51_whole_symmetries
import Wide.Once
set_option Elab.async false
set_option linter.all false
set_option maxRecDepth 100000
set_option maxHeartbeats 0
/-! the data, the small language, its evaluator -/
namespace Ev
open PySem

/-- data as a tree; texts by their codes -/
inductive D where
  | non | bl (b : Bool) | int (i : Int) | str (s : List Nat) | tup (xs : List D) | lst (xs : List D) | dic (kvs : List (D × D)) | map (kvs : List (D × D)) | fn (f : Nat) | exn (c : Nat)
  deriving Inhabited

inductive Bop where
  | add | sub | mul | fdiv | mod | pow
  deriving DecidableEq
inductive Cop where
  | eq | ne | lt | le | gt | ge | is_ | isnot | in_ | notin
  deriving DecidableEq
/-- targets: a name, or a tuple of names, by slots -/
inductive Tg where
  | n (i : Nat) | t (is : List Nat)
  deriving DecidableEq

inductive Bi where
  | len | tuple | list | all | any | int | abs | sorted | min | max | sum | isa (t : String)
inductive Mt where
  | join | index | count
mutual
inductive E where
  | c (d : D) | v (i : Nat) | g (n : Str) | m (i : Nat) | mv (i : Nat)
  | tup (es : List E) | lst (es : List E)
  | bin (o : Bop) (a b : E) | neg (a : E)
  | cmp (o : Cop) (a b : E) | chain (o o' : Cop) (a b c : E)
  | and (a b : E) | or (a b : E) | not (a : E) | ifx (t a b : E)
  | ix (a b : E) | sl (a : E) (lo hi : Option E) | rev (a : E)
  | bi (f : Bi) (as : List E) | mt (f : Mt) (o : E) (as : List E)
  | call (f : Nat) (as : List E)
  | comp (own : List Nat) (elt : E) (t : Tg) (it : It) (ifs : Option E)
  | comp2 (own own1 : List Nat) (elt : E) (t : Tg) (it : It) (t1 : Tg) (it1 : It) (ifs : Option E)
  | pop (i : Nat) | popAt (i : Nat) (e : E)
  | dead | lrg (a : E) | dsp (ks : List Int) (vs : List E) (a : E) | gd (n : Str) (a : E) | gc (n : Str) (a : E) | tdp (ts : List (List Nat × List Nat)) | tix (a b : E) | sset (a : E) | lset (a : E)
inductive It where
  | e (a : E) | r1 (a : E) | r2 (a b : E) | r3 (a b c : E) | en (a : E) | zp (a b : E)
end
inductive S where
  | asg (t : Tg) (e : E) | new (i : Nat) (e : E) | par (ts : List (Nat × Bool)) (es : List E)
  | seti (i : Nat) (k e : E) | app (i : Nat) (e : E) | ext (i : Nat) (e : E)
  | ex (e : E) | ret (e : E) | ife (t : E) (a b : List S) | for_ (t : Tg) (it : It) (b : List S) | whl (t : E) (b : List S)
  | rais (c : Nat) | frz (i : Nat) | dead

/-- a slot: nothing, a value, a list (dict) that this frame alone may change -/
inductive Sl where
  | un | va (d : D) | mu (d : D)
  deriving Inhabited
abbrev Env := List Sl
inductive R (α : Type) where
  | ok (a : α) (r : Env) | exc (c : Nat) (r : Env) | bad
inductive Out where
  | ret (d : D) (fr : Bool) (outs : List D) | exc (c : Nat) (outs : List D) | bad
inductive RS where
  | next (r : Env) | ret (d : D) (fr : Bool) (r : Env) | exc (c : Nat) (r : Env) | bad
structure Cfg where
  fn : Nat → Option (List Nat × (List D → Out))
  glb : Str → Option D
  wf : Nat
  io : List Nat

def R.bind {α β : Type} (x : R α) (f : α → Env → R β) : R β := match x with
  | .ok a r => f a r
  | .exc c r => .exc c r
  | .bad => .bad
def R.map {α β : Type} (f : α → β) (x : R α) : R β := match x with
  | .ok a r => .ok (f a) r
  | .exc c r => .exc c r
  | .bad => .bad
def lift {α : Type} (o : Option α) (r : Env) : R α := match o with
  | some a => .ok a r
  | none => .bad

/-! ### values -/
def cap : Nat := 65536
def b2i (b : Bool) : Int := if b then 1 else 0
mutual
def D.eqv : D → D → Bool
  | .non, .non => true
  | .bl a, .bl b => a == b
  | .bl a, .int j => b2i a == j
  | .int i, .bl b => i == b2i b
  | .int i, .int j => i == j
  | .str x, .str y => x == y
  | .lst xs, .lst ys => D.eqvs xs ys
  | .tup xs, .tup ys => D.eqvs xs ys
  | _, _ => false
def D.eqvs : List D → List D → Bool
  | [], [] => true
  | x :: xs, y :: ys => D.eqv x y && D.eqvs xs ys
  | _, _ => false
end
mutual
/-- plain data of at most that depth -/
def D.okd : Nat → D → Bool
  | _, .non => true
  | _, .bl _ => true
  | _, .int _ => true
  | _, .str _ => true
  | n + 1, .tup xs => D.okds n xs
  | n + 1, .lst xs => D.okds n xs
  | _, _ => false
def D.okds : Nat → List D → Bool
  | _, [] => true
  | n, x :: xs => D.okd n x && D.okds n xs
end
mutual
/-- the two can be compared, place by place -/
def D.alike : D → D → Bool
  | .non, .non => true
  | .bl _, .bl _ => true
  | .int _, .int _ => true
  | .str _, .str _ => true
  | .lst xs, .lst ys => D.alikes xs ys
  | .tup xs, .tup ys => D.alikes xs ys
  | _, _ => false
def D.alikes : List D → List D → Bool
  | x :: xs, y :: ys => D.alike x y && D.alikes xs ys
  | [], _ => true
  | _ :: _, [] => true
end
mutual
def D.lt : D → D → Bool
  | .bl a, .bl b => decide (b2i a < b2i b)
  | .int i, .int j => decide (i < j)
  | .str x, .str y => decide (x < y)
  | .lst xs, .lst ys => D.lts xs ys
  | .tup xs, .tup ys => D.lts xs ys
  | _, _ => false
def D.lts : List D → List D → Bool
  | [], [] => false
  | [], _ :: _ => true
  | _ :: _, [] => false
  | x :: xs, y :: ys => if D.eqv x y then D.lts xs ys else D.lt x y
end
def D.le (a b : D) : Bool := !D.lt b a
def ixOf (n : Nat) (i : Int) : Option Nat := if 0 ≤ i then (if i < n then some i.toNat else none) else if -(n : Int) ≤ i then some (i + n).toNat else none
def at? {α : Type} (xs : List α) (i : Int) : Option α := (ixOf xs.length i).bind fun j => xs[j]?
def sIx (n d : Nat) : Option Int → Nat
  | none => d
  | some v => if v < 0 then (v + (n : Int)).toNat else min v.toNat n
def cut {α : Type} (xs : List α) (lo hi : Option Int) : List α := (xs.drop (sIx xs.length 0 lo)).take (sIx xs.length xs.length hi - sIx xs.length 0 lo)
def big0 : Int := 4611686018427387904
def M64 : Int := 18446744073709551616
def binD : Bop → D → D → Option D
  | .add, .int i, .int j => some (.int (i + j))
  | .add, .str x, .str y => if x.length + y.length ≤ cap then some (.str (x ++ y)) else none
  | .add, .tup x, .tup y => if x.length + y.length ≤ cap then some (.tup (x ++ y)) else none
  | .add, .lst x, .lst y => if x.length + y.length ≤ cap then some (.lst (x ++ y)) else none
  | .sub, .int i, .int j => some (.int (i - j))
  | .mul, .str x, .int j => if x.length * j.toNat ≤ cap ∧ -big0 < j ∧ j < big0 then some (.str (List.replicate j.toNat x).flatten) else none
  | .mul, .tup x, .int j => if x.length ≤ 1000 ∧ 1 ≤ j ∧ j ≤ 1000 ∧ x.length * j.toNat ≤ cap ∧ x ≠ [] then some (.tup (List.replicate j.toNat x).flatten) else none
  | .mul, .lst x, .int j => if x.length * j.toNat ≤ cap ∧ -big0 < j ∧ j < big0 then some (.lst (List.replicate j.toNat x).flatten) else none
  | .mul, .int i, .int j => if (-M64 < i ∧ i < M64) ∨ (-M64 < j ∧ j < M64) then some (.int (i * j)) else none
  | .fdiv, .int i, .int j => if 0 < j ∧ j < 1073741824 then some (.int (i / j)) else none
  | .mod, .int i, .int j => if 0 < j then some (.int (i % j)) else none
  | .pow, .int i, .int j => if 0 ≤ j ∧ j ≤ 1000 ∧ -M64 < i ∧ i < M64 then some (.int (i ^ j.toNat)) else none
  | _, _, _ => none
/-- does it give a new list? -/
def binF : Bop → D → D → Bool
  | .add, .lst _, .lst _ => true
  | .mul, .lst _, .int _ => true
  | _, _, _ => false
def dep : Nat := 60
def inD (x : D) (xs : List D) : Bool := xs.any fun y => D.eqv y x
def isNon : D → Bool
  | .non => true
  | _ => false
def inOf (a b : D) : Option Bool := match b with
  | .lst ys => if D.okd dep a && D.okd dep (.lst ys) then some (inD a ys) else none
  | .tup ys => if D.okd dep a && D.okd dep (.tup ys) then some (inD a ys) else none
  | .str y => match a with
    | .str [c] => some (y.contains c)
    | _ => none
  | _ => none
def isOf (a b : D) : Option Bool := match b with
  | .non => some (isNon a)
  | .bl y => match a with
    | .bl x => some (x == y)
    | _ => none
  | _ => none
def cmpOk (a b : D) : Bool := D.okd dep a && D.okd dep b && D.alike a b && !isNon a
def cmpI (o : Int → Int → Bool) (g : D → D → Bool) (a b : D) : Option Bool := match a, b with
  | .int i, .int j => some (o i j)
  | a, b => if cmpOk a b then some (g a b) else none
def cmpD : Cop → D → D → Option Bool
  | .eq, a, b => if D.okd dep a && D.okd dep b then some (D.eqv a b) else none
  | .ne, a, b => if D.okd dep a && D.okd dep b then some (!D.eqv a b) else none
  | .lt, a, b => cmpI (fun i j => decide (i < j)) (fun a b => D.lt a b) a b
  | .le, a, b => cmpI (fun i j => decide (i ≤ j)) (fun a b => !D.lt b a) a b
  | .gt, a, b => cmpI (fun i j => decide (j < i)) (fun a b => D.lt b a) a b
  | .ge, a, b => cmpI (fun i j => decide (j ≤ i)) (fun a b => !D.lt a b) a b
  | .is_, a, b => isOf a b
  | .isnot, a, b => (isOf a b).map (!·)
  | .in_, a, b => inOf a b
  | .notin, a, b => (inOf a b).map (!·)
def ixD : D → D → Option D
  | .tup xs, .int i => at? xs i
  | .lst xs, .int i => at? xs i
  | .str s, .int i => (at? s i).map fun c => .str [c]
  | _, _ => none
def slD : D → Option Int → Option Int → Option D
  | .tup xs, lo, hi => some (.tup (cut xs lo hi))
  | .lst xs, lo, hi => some (.lst (cut xs lo hi))
  | .str s, lo, hi => some (.str (cut s lo hi))
  | _, _, _ => none
def isLst : D → Bool
  | .lst _ => true
  | _ => false
def bools : List D → Option (List Bool)
  | [] => some []
  | .bl b :: r => (bools r).map (b :: ·)
  | _ :: _ => none
def strs? : List D → Option (List (List Nat))
  | [] => some []
  | .str b :: r => (strs? r).map (b :: ·)
  | _ :: _ => none
def ints? : List D → Option (List Int)
  | [] => some []
  | .int b :: r => (ints? r).map (b :: ·)
  | _ :: _ => none
def tyOf : D → String
  | .non => "NoneType"
  | .bl _ => "bool"
  | .int _ => "int"
  | .str _ => "str"
  | .tup _ => "tuple"
  | .lst _ => "list"
  | .dic _ => "dict"
  | .map _ => "dict"
  | .fn _ => "function"
  | .exn _ => "exception"
def joinS (sep : List Nat) : List (List Nat) → List Nat
  | [] => []
  | [x] => x
  | x :: y :: r => x ++ (sep ++ joinS sep (y :: r))
def rangeD (a b : Int) : List D := (List.range (b - a).toNat).map fun k => .int (a + (k : Nat))
def downD (a b : Int) : List D := (List.range (a - b).toNat).map fun k => .int (a + ((k : Nat) : Int) * (-1))
/-- built-in calls: the answer, and whether it is a new list -/
def lenD : D → Option (D × Bool)
  | .str s => some (.int s.length, false)
  | .tup s => some (.int s.length, false)
  | .lst s => some (.int s.length, false)
  | _ => none
def tupleD : D → Option (D × Bool)
  | .lst s => some (.tup s, false)
  | .tup s => some (.tup s, false)
  | _ => none
def listD : D → Option (D × Bool)
  | .lst s => some (.lst s, true)
  | .tup s => some (.lst s, true)
  | .str s => some (.lst (s.map fun c => .str [c]), true)
  | _ => none
def allD (f : List Bool → Bool) : D → Option (D × Bool)
  | .lst s => (bools s).map fun bs => (.bl (f bs), false)
  | _ => none
def intD : D → Option (D × Bool)
  | .bl b => some (.int (b2i b), false)
  | .int i => some (.int i, false)
  | _ => none
def absD : D → Option (D × Bool)
  | .int i => some (.int (if i < 0 then -i else i), false)
  | _ => none
def isTy (t : String) (d : D) : Option (D × Bool) := match d with
  | .dic _ => none
  | .map _ => none
  | .fn _ => none
  | .exn _ => none
  | _ => some (.bl (tyOf d == t || (tyOf d == "bool" && t == "int")), false)
def leI (i j : Int) : Bool := decide (i ≤ j)
def isTup1 : D → Bool
  | .tup (_ :: _) => true
  | _ => false
def noTup : D → Bool
  | .tup _ => false
  | .non => false
  | _ => true
/-- data that can be sorted -/
def sortOk (s : List D) : Bool := decide (s.length ≤ cap) && D.okds 40 s && (s.all fun x => s.all fun y => D.alike x y) && (s.all isTup1 || s.all noTup)
def sortG (s : List D) : Option (D × Bool) := if sortOk s then some (.lst (s.mergeSort D.le), true) else match s with
  | [x] => if D.okd 40 x && D.alike x x && !isNon x then some (.lst [x], true) else none
  | _ => none
/-- a list of few ints, or any data that are alike -/
def sortedD : D → Option (D × Bool)
  | .lst s => match ints? s with
    | some is => if s.length < 64 then some (.lst ((is.mergeSort leI).map D.int), true) else sortG s
    | none => sortG s
  | .tup s => sortG s
  | .str s => sortG (s.map fun c => .str [c])
  | _ => none
def minI : Int → List Int → Int
  | m, [] => m
  | m, i :: is => minI (if i < m then i else m) is
def maxI : Int → List Int → Int
  | m, [] => m
  | m, i :: is => maxI (if m < i then i else m) is
/-! sets -/
mutual
/-- what may be a key, of at most that depth -/
def D.hok : Nat → D → Bool
  | _, .non => true
  | _, .int _ => true
  | _, .str _ => true
  | n + 1, .tup xs => D.hoks n xs
  | _, _ => false
def D.hoks : Nat → List D → Bool
  | _, [] => true
  | n, x :: xs => D.hok n x && D.hoks n xs
end
def isTup : D → Bool
  | .tup _ => true
  | _ => false
/-- each once, as they come first -/
def dedupD : List D → List D
  | [] => []
  | x :: xs => x :: (dedupD xs).filter fun y => !D.eqv y x
def setOk (xs : List D) : Bool := (xs.all fun x => isTup x && D.hok 8 x) && decide ((dedupD xs).length ≤ 999)
def seqOf : D → Option (List D)
  | .lst xs => some xs
  | .tup xs => some xs
  | _ => none
def ssetD (d : D) : Option (D × Bool) := match seqOf d with
  | some xs => if setOk xs then sortG (dedupD xs) else none
  | none => none
def lsetD (d : D) : Option (D × Bool) := match seqOf d with
  | some xs => if setOk xs then some (.int (dedupD xs).length, false) else none
  | none => none
/-- data of which the least can be told -/
def bestOk (s : List D) : Bool := D.okds 40 s && (s.all fun x => s.all fun y => D.alike x y) && (s.all fun x => !isNon x)
def minG : List D → Option (D × Bool)
  | [] => none
  | x :: xs => if bestOk (x :: xs) then some (xs.foldl (fun a y => if D.lt y a then y else a) x, false) else none
def maxG : List D → Option (D × Bool)
  | [] => none
  | x :: xs => if bestOk (x :: xs) then some (xs.foldl (fun a y => if D.lt a y then y else a) x, false) else none
def minD : List D → Option (D × Bool)
  | [.lst s] => match ints? s with
    | some (i :: is) => some (.int (minI i is), false)
    | _ => minG s
  | [.tup s] => minG s
  | [.int i, .int j] => some (.int (if j < i then j else i), false)
  | _ => none
def maxD : List D → Option (D × Bool)
  | [.lst s] => match ints? s with
    | some (i :: is) => some (.int (maxI i is), false)
    | _ => maxG s
  | [.tup s] => maxG s
  | [.int i, .int j] => some (.int (if j > i then j else i), false)
  | _ => none
def sumD : D → Option (D × Bool)
  | .lst s => match ints? s with
    | some is => some (.int is.sum, false)
    | none => none
  | _ => none
/-- a table of texts: known keys, with their values or without -/
def lookC : List (D × D) → List Nat → Option (Option D)
  | (.str k, .tup []) :: r, z => if k = z then some none else lookC r z
  | (.str k, .tup [d]) :: r, z => if k = z then some (some d) else lookC r z
  | _ :: r, z => lookC r z
  | [], _ => none
def tabI (o : Option D) (x : D) : Option (D × Bool) := match o, x with
  | some (.dic kvs), .str z => match lookC kvs z with
    | some (some d) => some (d, false)
    | _ => none
  | _, _ => none
/-- a display of texts -/
def dts (ts : List (List Nat × List Nat)) : List (D × D) := ts.map fun p => (.str p.1, .tup [.str p.2])
def tabC (o : Option D) (x : D) : Option Bool := match o, x with
  | some (.dic kvs), .str z => (lookC kvs z).map Option.isSome
  | _, _ => none
def one (f : D → Option (D × Bool)) : List D → Option (D × Bool)
  | [a] => f a
  | _ => none
def biD : Bi → List D → Option (D × Bool)
  | .len, as => one lenD as
  | .tuple, as => one tupleD as
  | .list, as => one listD as
  | .all, as => one (allD fun bs => bs.all id) as
  | .any, as => one (allD fun bs => bs.any id) as
  | .int, as => one intD as
  | .abs, as => one absD as
  | .sorted, as => one sortedD as
  | .min, as => minD as
  | .max, as => maxD as
  | .sum, as => one sumD as
  | .isa t, as => one (isTy t) as
def joinD (s : List Nat) (xs : List D) : Option (D × Bool) := match strs? xs with
  | some ys => if (ys.map List.length).sum + ys.length * s.length ≤ cap then some (.str (joinS s ys), false) else none
  | none => none
def joinOf : D → List D → Option (D × Bool)
  | .str s, [.lst xs] => joinD s xs
  | .str s, [.tup xs] => joinD s xs
  | _, _ => none
/-- the first place of an equal one -/
def placeD (xs : List D) (d : D) : Option Nat := xs.findIdx? fun y => D.eqv y d
def indexOf : D → List D → Option (D × Bool)
  | .lst xs, [d] => if D.okd dep (.lst xs) && D.okd dep d then (placeD xs d).map fun (j : Nat) => (D.int (j : Int), false) else none
  | _, _ => none
def countOf : D → List D → Option (D × Bool)
  | .lst xs, [d] => if D.okd dep (.lst xs) && D.okd dep d then some (.int (xs.countP fun y => D.eqv y d), false) else none
  | _, _ => none
def recvOk : Mt → D → Bool
  | .join, .str _ => true
  | .index, .lst _ => true
  | .count, .lst _ => true
  | _, _ => false
def mtD : Mt → D → List D → Option (D × Bool)
  | .join, o, as => joinOf o as
  | .index, o, as => indexOf o as
  | .count, o, as => countOf o as

/-! ### slots -/
def getV (r : Env) (i : Nat) : Option D := match r[i]? with
  | some (.va d) => some d
  | _ => none
def getM (r : Env) (i : Nat) : Option D := match r[i]? with
  | some (.mu d) => some d
  | _ => none
/-- a slot is given a value; a slot of a parameter that is passed by reference is never given one -/
def setV (io : List Nat) (i : Nat) (d : D) (r : Env) : Option Env := if io.contains i || decide (r.length ≤ i) then none else some (r.set i (.va d))
def setM (io : List Nat) (i : Nat) (d : D) (r : Env) : Option Env := if io.contains i || decide (r.length ≤ i) then none else some (r.set i (.mu d))
def setVs (io : List Nat) : List Nat → List D → Env → Option Env
  | [], [], r => some r
  | i :: is, d :: ds, r => (setV io i d r).bind (setVs io is ds)
  | _, _, _ => none
def setT (io : List Nat) (t : Tg) (d : D) (r : Env) : Option Env := match t with
  | .n i => setV io i d r
  | .t is => match d with
    | .tup xs => setVs io is xs r
    | _ => none
/-- an operand: a value, or a slot that is looked at later -/
inductive Op where
  | d (x : D) | m (i : Nat)
def Op.get (r : Env) : Op → Option D
  | .d x => some x
  | .m i => getM r i
def gets (r : Env) : List Op → Option (List D)
  | [] => some []
  | o :: os => match o.get r, gets r os with
    | some d, some ds => some (d :: ds)
    | _, _ => none
/-- the slots handed over by reference, with their places -/
def refsAt : Nat → List Op → List (Nat × Nat)
  | _, [] => []
  | k, .d _ :: os => refsAt (k + 1) os
  | k, .m i :: os => (k, i) :: refsAt (k + 1) os
def putMs : List Nat → List D → Env → Env
  | i :: is, d :: ds, r => putMs is ds (r.set i (.mu d))
  | _, _, r => r
def after (is : List Nat) (r : Env) : Out → R (D × Bool)
  | .ret d fr outs => if outs.length = is.length then .ok (d, fr) (putMs is outs r) else .bad
  | .exc c outs => if outs.length = is.length then .exc c (putMs is outs r) else .bad
  | .bad => .bad
def callE (C : Cfg) (f : Nat) (os : List Op) (r : Env) : R (D × Bool) := match C.fn f with
  | none => .bad
  | some (io, sem) => match gets r os with
    | none => .bad
    | some ds => if (refsAt 0 os).map (·.1) = io ∧ ((refsAt 0 os).map (·.2)).Nodup then after ((refsAt 0 os).map (·.2)) r (sem ds) else .bad
/-- a comprehension's own slots are put away, and come back -/
def hide : List Nat → Env → Env
  | [], r => r
  | i :: is, r => (hide is r).set i .un
def back (old : Env) : List Nat → Env → Env
  | [], r => r
  | i :: is, r => (back old is r).set i (old[i]?.getD .un)
def canHide (io : List Nat) (r : Env) (own : List Nat) : Bool := own.all fun i => decide (i < r.length) && !io.contains i && (match r[i]? with | some (.mu _) => false | _ => true)
def compLoop (f : D → Env → R (Option D)) : List D → List D → Env → R (List D)
  | [], acc, r => .ok acc r
  | x :: xs, acc, r => (f x r).bind fun o r1 => match o with
    | some y => if acc.length < cap then compLoop f xs (acc ++ [y]) r1 else .bad
    | none => compLoop f xs acc r1
def loopAcc (f : D → List D → Env → R (List D)) : List D → List D → Env → R (List D)
  | [], acc, r => .ok acc r
  | x :: xs, acc, r => (f x acc r).bind fun acc r => loopAcc f xs acc r
def lookI : List Int → List D → Int → Option D
  | k :: ks, d :: ds, i => if k = i then some d else lookI ks ds i
  | _, _, _ => none
/-- an exception that leaves a comprehension is not carried -/
def quiet {α : Type} : R α → R α
  | .exc _ _ => .bad
  | x => x
def enumD (xs : List D) : List D := (List.range xs.length).zip xs |>.map fun p => .tup [.int (p.1 : Nat), p.2]
def zipD (xs ys : List D) : List D := (xs.zip ys).map fun p => .tup [p.1, p.2]
def itemsOf : D → Option (List D)
  | .tup xs => some xs
  | .lst xs => some xs
  | .str s => some (s.map fun c => .str [c])
  | _ => none
def big : Int := 4611686018427387904

/-- e as an operand; x is what it evaluates to as a value -/
def opOf (e : E) (r : Env) (x : R (D × Bool)) : R Op := match e with
  | .m i => match getM r i with
    | some _ => .ok (.m i) r
    | none => .bad
  | _ => x.map fun y => .d y.1
mutual
def evX (C : Cfg) : E → Env → R (D × Bool)
  | .c d, r => .ok (d, false) r
  | .v i, r => lift ((getV r i).map (·, false)) r
  | .g n, r => lift ((C.glb n).map (·, false)) r
  | .m _, _ => .bad
  | .dead, _ => .bad
  | .mv i, r => match getM r i with
    | some d => if C.io.contains i then .bad else .ok (d, isLst d) (r.set i .un)
    | none => .bad
  | .tup es, r => (evEs C es r).bind fun ds r => if ds.length ≤ cap then .ok (.tup ds, false) r else .bad
  | .lst es, r => (evEs C es r).bind fun ds r => if ds.length ≤ cap then .ok (.lst ds, true) r else .bad
  | .bin o a b, r => (opOf a r (evX C a r)).bind fun x r => (opOf b r (evX C b r)).bind fun y r => match x.get r, y.get r with
    | some x, some y => lift ((binD o x y).map (·, binF o x y)) r
    | _, _ => .bad
  | .neg a, r => (evX C a r).bind fun x r => match x.1 with
    | .int i => .ok (.int (-i), false) r
    | _ => .bad
  | .cmp o a b, r => (opOf a r (evX C a r)).bind fun x r => (opOf b r (evX C b r)).bind fun y r => match x.get r, y.get r with
    | some x, some y => lift ((cmpD o x y).map (D.bl ·, false)) r
    | _, _ => .bad
  | .chain o o' a b c, r => (evX C a r).bind fun x r => (evX C b r).bind fun y r => match cmpD o x.1 y.1 with
    | some true => (evX C c r).bind fun z r => lift ((cmpD o' y.1 z.1).map (D.bl ·, false)) r
    | some false => .ok (.bl false, false) r
    | none => .bad
  | .and a b, r => (evX C a r).bind fun x r => match x.1 with
    | .bl true => (evX C b r).map fun y => (y.1, false)
    | .bl false => .ok (.bl false, false) r
    | _ => .bad
  | .or a b, r => (evX C a r).bind fun x r => match x.1 with
    | .bl true => .ok (.bl true, false) r
    | .bl false => (evX C b r).map fun y => (y.1, false)
    | _ => .bad
  | .not a, r => (evX C a r).bind fun x r => match x.1 with
    | .bl b => .ok (.bl (!b), false) r
    | _ => .bad
  | .ifx t a b, r => (evT C t r).bind fun c r => if c then (evX C a r).map (fun y => (y.1, false)) else (evX C b r).map fun y => (y.1, false)
  | .ix a b, r => (opOf a r (evX C a r)).bind fun x r => (evX C b r).bind fun y r => match x.get r with
    | some x => lift ((ixD x y.1).map (·, false)) r
    | none => .bad
  | .sl a lo hi, r => (opOf a r (evX C a r)).bind fun x r => (evI C lo r).bind fun l r => (evI C hi r).bind fun h r => match x.get r with
    | some x => lift ((slD x l h).map (·, isLst x)) r
    | none => .bad
  | .rev a, r => (evX C a r).bind fun x r => match x.1 with
    | .str s => if s.length ≤ cap then .ok (.str s.reverse, false) r else .bad
    | .lst s => if s.length ≤ cap then .ok (.lst s.reverse, true) r else .bad
    | _ => .bad
  | .bi f as, r => (evOs C as r).bind fun os r => match gets r os with
    | some ds => lift (biD f ds) r
    | none => .bad
  | .mt f o as, r => (opOf o r (evX C o r)).bind fun x r => match x.get r with
    | none => .bad
    | some x0 => if recvOk f x0 then (evOs C as r).bind fun os r => match x.get r, gets r os with
        | some x1, some ds => lift (mtD f x1 ds) r
        | _, _ => .bad
      else .bad
  | .call f as, r => match C.fn f with
    | none => .bad
    | some _ => (evOs C as r).bind fun os r => callE C f os r
  | .comp own elt t it ifs, r => (evIt C it r).bind fun xs r0 => if canHide C.io r0 own then
      (quiet (compLoop (fun x r => match setT C.io t x r with
        | none => .bad
        | some r => match ifs with
          | none => (evX C elt r).bind fun y r1 => .ok (some y.1) (hide own r1)
          | some c => (evT C c r).bind fun b r => if b then (evX C elt r).bind fun y r1 => .ok (some y.1) (hide own r1) else .ok none (hide own r)) xs [] (hide own r0))).bind
        fun ds r1 => .ok (.lst ds, true) (back r0 own r1)
      else .bad
  | .comp2 own own1 elt t it t1 it1 ifs, r => (evIt C it r).bind fun xs r0 => if canHide C.io r0 own then
      (quiet (loopAcc (fun x acc r => match setT C.io t x r with
        | none => .bad
        | some r => (evIt C it1 r).bind fun ys r => (loopAcc (fun y acc r => match setT C.io t1 y r with
            | none => .bad
            | some r => match ifs with
              | none => (evX C elt r).bind fun z r1 => if acc.length < cap then .ok (acc ++ [z.1]) (hide own1 r1) else .bad
              | some c => (evT C c r).bind fun b r => if b then (evX C elt r).bind fun z r1 => if acc.length < cap then .ok (acc ++ [z.1]) (hide own1 r1) else .bad else .ok acc (hide own1 r)) ys acc (hide own1 r)).bind fun acc r => .ok acc (hide own r)) xs [] (hide own r0))).bind
        fun ds r1 => .ok (.lst ds, true) (back r0 own r1)
      else .bad
  | .lrg a, r => (evX C a r).bind fun x r => match x.1 with
    | .int i => if -big ≤ i ∧ i ≤ 65536 then .ok (.lst (rangeD 0 i), true) r else .bad
    | _ => .bad
  | .dsp ks vs a, r => (evEs C vs r).bind fun ds r => (evX C a r).bind fun x r => match x.1 with
    | .int i => lift ((lookI ks ds i).map (·, false)) r
    | _ => .bad
  | .tdp ts, r => .ok (.dic (dts ts), false) r
  | .sset a, r => (opOf a r (evX C a r)).bind fun x r => match x.get r with
    | some x => lift (ssetD x) r
    | none => .bad
  | .lset a, r => (opOf a r (evX C a r)).bind fun x r => match x.get r with
    | some x => lift (lsetD x) r
    | none => .bad
  | .tix a b, r => (evX C a r).bind fun x r => (evX C b r).bind fun y r => lift (tabI (some x.1) y.1) r
  | .gd n a, r => (evX C a r).bind fun x r => lift (tabI (C.glb n) x.1) r
  | .gc n a, r => (evX C a r).bind fun x r => lift ((tabC (C.glb n) x.1).map (D.bl ·, false)) r
  | .pop i, r => match getM r i with
    | some (.lst xs) => match xs[xs.length - 1]? with
      | some y => .ok (y, false) (r.set i (.mu (.lst xs.dropLast)))
      | none => .bad
    | _ => .bad
  | .popAt i e, r => match getM r i with
    | none => .bad
    | some _ => (evX C e r).bind fun k r => match getM r i, k.1 with
      | some (.lst xs), .int k => match (if -big ≤ k ∧ k < big then ixOf xs.length k else none) with
        | some j => match xs[j]? with
          | some y => .ok (y, false) (r.set i (.mu (.lst (xs.eraseIdx j))))
          | none => .bad
        | none => .bad
      | _, _ => .bad
def evT (C : Cfg) : E → Env → R Bool
  | .not a, r => (evT C a r).map (!·)
  | .and a b, r => (evT C a r).bind fun x r => if x then evT C b r else .ok false r
  | .or a b, r => (evT C a r).bind fun x r => if x then .ok true r else evT C b r
  | .ifx _ _ _, _ => .bad
  | .c (.bl b), r => .ok b r
  | .v i, r => match getV r i with
    | some (.bl b) => .ok b r
    | _ => .bad
  | .cmp o a b, r => (opOf a r (evX C a r)).bind fun x r => (opOf b r (evX C b r)).bind fun y r => match x.get r, y.get r with
    | some x, some y => lift (cmpD o x y) r
    | _, _ => .bad
  | .chain o o' a b c, r => (evX C a r).bind fun x r => (evX C b r).bind fun y r => match cmpD o x.1 y.1 with
    | some true => (evX C c r).bind fun z r => lift (cmpD o' y.1 z.1) r
    | some false => .ok false r
    | none => .bad
  | .gc n a, r => (evX C a r).bind fun x r => lift (tabC (C.glb n) x.1) r
  | .bi f as, r => (evOs C as r).bind fun os r => match gets r os with
    | some ds => match biD f ds with
      | some (.bl b, _) => .ok b r
      | _ => .bad
    | none => .bad
  | .call f as, r => match C.fn f with
    | none => .bad
    | some _ => ((evOs C as r).bind fun os r => callE C f os r).bind fun x r => match x.1 with
      | .bl b => .ok b r
      | _ => .bad
  | _, _ => .bad
def evI (C : Cfg) : Option E → Env → R (Option Int)
  | none, r => .ok none r
  | some e, r => (evX C e r).bind fun x r => match x.1 with
    | .int i => .ok (some i) r
    | _ => .bad
def evEs (C : Cfg) : List E → Env → R (List D)
  | [], r => .ok [] r
  | e :: es, r => (evX C e r).bind fun d r => (evEs C es r).map (d.1 :: ·)
def evOs (C : Cfg) : List E → Env → R (List Op)
  | [], r => .ok [] r
  | e :: es, r => (opOf e r (evX C e r)).bind fun d r => (evOs C es r).map (d :: ·)
def evIt (C : Cfg) : It → Env → R (List D)
  | .e a, r => (evX C a r).bind fun x r => lift (itemsOf x.1) r
  | .r1 a, r => (evX C a r).bind fun x r => match x.1 with
    | .int i => if -big ≤ i ∧ i < big then .ok (rangeD 0 i) r else .bad
    | _ => .bad
  | .r2 a b, r => (evX C a r).bind fun x r => (evX C b r).bind fun y r => match x.1, y.1 with
    | .int i, .int j => if -big ≤ i ∧ i < big ∧ -big ≤ j ∧ j < big then .ok (rangeD i j) r else .bad
    | _, _ => .bad
  | .r3 a b c, r => (evX C a r).bind fun x r => (evX C b r).bind fun y r => (evX C c r).bind fun z r => match x.1, y.1, z.1 with
    | .int i, .int j, .int k => if -big ≤ i ∧ i < big ∧ -big ≤ j ∧ j < big ∧ k = -1 then .ok (downD i j) r else .bad
    | _, _, _ => .bad
  | .en a, r => (evX C a r).bind fun x r => match x.1 with
    | .lst xs => .ok (enumD xs) r
    | .tup xs => .ok (enumD xs) r
    | _ => .bad
  | .zp a b, r => (evX C a r).bind fun x r => (evX C b r).bind fun y r => match x.1, y.1 with
    | .lst xs, .lst ys => .ok (zipD xs ys) r
    | .tup xs, .tup ys => .ok (zipD xs ys) r
    | _, _ => .bad
end
def forLoop (f : D → Env → RS) : List D → Env → RS
  | [], r => .next r
  | x :: xs, r => match f x r with
    | .next r1 => forLoop f xs r1
    | o => o
def whileLoop (t : Env → R Bool) (b : Env → RS) : Nat → Env → RS
  | 0, _ => .bad
  | n + 1, r => match t r with
    | .ok true r1 => match b r1 with
      | .next r2 => whileLoop t b n r2
      | o => o
    | .ok false r1 => .next r1
    | .exc c r1 => .exc c r1
    | .bad => .bad
def R.toS {α : Type} (x : R α) (f : α → Env → RS) : RS := match x with
  | .ok a r => f a r
  | .exc c r => .exc c r
  | .bad => .bad
def nextO : Option Env → RS
  | some r => .next r
  | none => .bad
/-- a, b = x, y -/
def evPar (C : Cfg) : List Bool → List E → Env → R (List D)
  | [], [], r => .ok [] r
  | f :: fs, e :: es, r => (evX C e r).bind fun x r => if f = false ∨ x.2 = true then (evPar C fs es r).map (x.1 :: ·) else .bad
  | _, _, _ => .bad
def setP (io : List Nat) : List (Nat × Bool) → List D → Env → Option Env
  | [], [], r => some r
  | (i, f) :: ts, d :: ds, r => (if f then setM io i d r else setV io i d r).bind (setP io ts ds)
  | _, _, _ => none
mutual
def evS (C : Cfg) : S → Env → RS
  | .asg t e, r => (evX C e r).toS fun x r => nextO (setT C.io t x.1 r)
  | .new i e, r => (evX C e r).toS fun x r => if x.2 then nextO (setM C.io i x.1 r) else .bad
  | .par ts es, r => (evPar C (ts.map (·.2)) es r).toS fun ds r => nextO (setP C.io ts ds r)
  | .seti i k e, r => (evX C e r).toS fun x r => match getM r i with
    | none => .bad
    | some _ => (evX C k r).toS fun y r => match getM r i, y.1 with
      | some (.lst xs), .int k => match ixOf xs.length k with
        | some j => .next (r.set i (.mu (.lst (xs.set j x.1))))
        | none => .bad
      | _, _ => .bad
  | .app i e, r => match getM r i with
    | none => .bad
    | some _ => (evX C e r).toS fun x r => match getM r i with
      | some (.lst xs) => if xs.length < cap then .next (r.set i (.mu (.lst (xs ++ [x.1])))) else .bad
      | _ => .bad
  | .ext _ _, _ => .bad
  | .dead, _ => .bad
  | .ex e, r => (evX C e r).toS fun _ r => .next r
  | .ret e, r => (evX C e r).toS fun x r => .ret x.1 x.2 r
  | .ife t a b, r => (evT C t r).toS fun c r => if c then evSs C a r else evSs C b r
  | .for_ t it b, r => (evIt C it r).toS fun xs r => forLoop (fun x r => match setT C.io t x r with
    | some r => evSs C b r
    | none => .bad) xs r
  | .whl t b, r => whileLoop (fun r => evT C t r) (fun r => evSs C b r) C.wf r
  | .rais c, r => .exc c r
  | .frz i, r => match getM r i with
    | some d => if C.io.contains i then .bad else .next (r.set i (.va d))
    | none => .bad
def evSs (C : Cfg) : List S → Env → RS
  | [], r => .next r
  | s :: ss, r => match evS C s r with
    | .next r1 => evSs C ss r1
    | o => o
end
structure Fn where
  np : Nat
  ns : Nat
  io : List Nat
  body : List S
structure Pg where
  fns : Nat → Option Fn
  glb : Str → Option D
  wf : Nat
def outsOf (io : List Nat) (r : Env) : List D := io.map fun i => (getM r i).getD .non
def argsFrom (io : List Nat) : Nat → List D → Env
  | _, [] => []
  | k, d :: ds => (if io.contains k then .mu d else .va d) :: argsFrom io (k + 1) ds
def entry (fn : Fn) (ds : List D) : Env := argsFrom fn.io 0 ds ++ List.replicate (fn.ns - fn.np) .un
def fin (io : List Nat) : RS → Out
  | .next r => .ret .non false (outsOf io r)
  | .ret d fr r => .ret d fr (outsOf io r)
  | .exc c r => .exc c (outsOf io r)
  | .bad => .bad
def cfg (T : Pg) (call : Nat → List D → Out) (io : List Nat) : Cfg := ⟨fun f => (T.fns f).map fun fn => (fn.io, call f), T.glb, T.wf, io⟩
def call (T : Pg) : Nat → Nat → List D → Out
  | 0, _, _ => .bad
  | n + 1, f, ds => match T.fns f with
    | none => .bad
    | some fn => if ds.length = fn.np then fin fn.io (evSs (cfg T (call T n) fn.io) fn.body (entry fn ds)) else .bad
end Ev

/-! enumerate of a tuple -/
namespace Ev.En
open PySem L2
theorem dr_tup {P : Program} {w : World} {B : Around} (hB : B.handled = none) (j a : Addr) (ne : a ≠ j) (its : Array Value) :
    Draws P w B j [j, a] its.size (fun k v => its[k]? = some v) (fun k h => h.IsTupleIter j a k ∧ h.IsTuple a its) where
  live := fun _ _ t => by
    obtain ⟨o, e, _⟩ := t.1
    exact ⟨o, e⟩
  frame := fun _ _ _ t hk => by
    obtain ⟨⟨o, e, c, d⟩, o2, e2, r2⟩ := t
    exact ⟨⟨o, hk j (by simp) o e, c, d⟩, o2, hk a (by simp) o2 e2, r2⟩
  item := fun k s R X hi t hR => by
    refine RZ.nextOf_tuple_item t.1 t.2 (x := its[k]) (by simp [hi]) fun g q1 q2 => ?_
    refine hR _ g s.toks (by simp [hi]) ⟨q1, ?_⟩ q2
    obtain ⟨o2, e2, r2⟩ := t.2
    exact ⟨o2, q2.extBut a o2 ne e2, r2⟩
  done := fun s R X t hE => RZ.nextOf_tuple_end hB t.1 t.2 (by simp) hE
open AutoSeq1 (wpAny_loadPart') in
theorem new_tup (a : Addr) (its : Array Value) (n : Nat) (dct : Option Addr) (sl : Array (Option Value)) :
    Meets (Builtin.«enumerate.__new__» ⟨[.type "enumerate", .ref a], []⟩) (fun _ Z s => s.heap.get? a = some { cls := .type "tuple", dict := dct, data := .seq its n, slots := sl } ∧
      Z (.ok (.ret (.ref (s.heap.push { cls := .type "tuple_iterator", data := .fields #[.ref a, .int 0 0] }).objs.size)))
        { s with heap := (s.heap.push { cls := .type "tuple_iterator", data := .fields #[.ref a, .int 0 0] }).push { cls := .type "enumerate", data := .fields #[.none, .bool false, .ref s.heap.objs.size, rawInt 0, .none, .none] } }) :=
  .of_wp fun P w B Z s hz => by
    obtain ⟨hp, gg, dd, tk, os⟩ := s
    obtain ⟨ha, hz⟩ := hz
    have sub := sub_enumerate
    have hT : Heap.IsTuple (Shared.heap ⟨hp, gg, dd, tk, os⟩) a its := ⟨_, ha, rfl, n, rfl⟩
    wp_walk using wpAny_loadPart' ha
    refine wpAny_stack_any fun _ => wpAny_pure ?_
    split
    · rename_i cc _ _ _ _ _
      cases (cc == Value.type "enumerate")
      · wp_walk using wpAny_loadPart' ha, wpAny_pyIter_tuple hT
        exact ⟨_, rfl, hz⟩
      · wp_walk using wpAny_loadPart' ha, wpAny_pyIter_tuple hT
        exact ⟨_, rfl, hz⟩
    · wp_walk using wpAny_loadPart' ha, wpAny_pyIter_tuple hT
      exact ⟨_, rfl, hz⟩
section
variable {P : Program} {w : World} {B : Around} {X0 : Value → Shared → Prop} {s : Shared}
theorem call_tup {a : Addr} {its : Array Value} {R : Value → Shared → Prop} (hT : s.heap.IsTuple a its)
    (k : ∀ g, IsEnum g (s.heap.objs.size + 1) s.heap.objs.size 0 .none → g.IsTupleIter s.heap.objs.size a 0 → g.objs.size = s.heap.objs.size + 2 →
      (∀ c o, s.heap.get? c = some o → g.get? c = some o) → R (.ref (s.heap.objs.size + 1)) { s with heap := g }) :
    wpAny (model P w) B (PySem.call (.type "enumerate") [.ref a]) R X0 s := by
  obtain ⟨⟨cl, dct, dt, sl⟩, e0, ec, n, ed⟩ := hT
  have ec : cl = .type "tuple" := ec
  have ed : dt = .seq its n := ed
  subst ec ed
  refine callType_new F.called_enumerate (by decide) (F.typeCall_enumerate_1 _) (F.newCall_enumerate_1 _) (fun ob => F.args_object_init_2 ob _) F.entry_enumerate_new (new_tup a its n dct sl) ⟨e0, ?_⟩
  have sz : (s.heap.push { cls := .type "tuple_iterator", data := .fields #[.ref a, .int 0 0] }).objs.size = s.heap.objs.size + 1 := Heap.size_push ..
  show _ ∧ _
  rw [sz]
  have ee : IsEnum ((s.heap.push { cls := .type "tuple_iterator", data := .fields #[.ref a, .int 0 0] }).push { cls := .type "enumerate", data := .fields #[.none, .bool false, .ref s.heap.objs.size, rawInt 0, .none, .none] }) (s.heap.objs.size + 1) s.heap.objs.size 0 .none := by
    have z := Heap.get?_push_size (s.heap.push { cls := .type "tuple_iterator", data := .fields #[.ref a, .int 0 0] }) (o := { cls := .type "enumerate", data := .fields #[.none, .bool false, .ref s.heap.objs.size, rawInt 0, .none, .none] }) rfl
    rw [sz] at z
    exact z
  exact ⟨⟨_, ee, rfl⟩, k _ ee ⟨_, Heap.get?_push_of_some _ (Heap.get?_push_size _ rfl), rfl, rfl⟩ (by rw [Heap.size_push, sz]) fun c o y => Heap.get?_push_of_some _ (Heap.get?_push_of_some _ y)⟩
end
/-- a tuple's items, numbered -/
def ItT (K : PySem.W.Frag) (a : Addr) : L2.It :=
  ⟨fun i H => ∃ (xs : List V) (x : V), SqT K H a xs ∧ xs[i]? = some x, fun i H v H' => ∃ T x, v = .ref T ∧ H T = none ∧ H' = upd H T (.tup [.int (i : Nat), x]) ∧ ∀ xs, SqT K H a xs → xs[i]? = some x, fun i H => ∃ xs : List V, SqT K H a xs ∧ xs.length = i⟩
theorem turn_T {P : Program} {w : World} {K : PySem.W.Frag} {es : List PySem.Expr} {kk : Nat} {tp : Pos} (a e j : Addr) (na : a ≠ j) (ne2 : e ≠ a) :
    Turn P w K (.Tuple es kk tp) (ItT K a) [e, j] e (fun i g => (∃ old, IsEnum g e j ((i : Nat) : Int) old) ∧ g.IsTupleIter j a i ∧ e ≠ j) where
  mem := by simp
  obj := fun i g t b hb => by
    obtain ⟨⟨old, h1⟩, ⟨o, h2, _, h3⟩, _⟩ := t
    rcases (by simpa using hb : b = e ∨ b = j) with rfl | rfl
    · exact ⟨_, h1, fun v z => nomatch z⟩
    · exact ⟨o, h2, fun v z => by rw [h3] at z; cases z⟩
  keep := fun i g g' t k => by
    obtain ⟨⟨old, h1⟩, ⟨o, h2, h3, h4⟩, h5⟩ := t
    exact ⟨⟨old, k e (by simp) _ h1⟩, ⟨o, k j (by simp) o h2, h3, h4⟩, h5⟩
  item := by
    intro X eP ew eK ec i pins s σ H E I hf t go
    subst eP ew eK
    obtain ⟨⟨old, h1⟩, h2, h5⟩ := t
    obtain ⟨xs, x, hq, hx⟩ := go
    obtain ⟨its, rv, tp', hz⟩ := I.tuple hq
    have tT : s.heap.IsTuple a its.toArray := tp'
    obtain ⟨u, hu, ru⟩ := rv.get hx
    have le : e < s.heap.objs.size := Heap.lt_size h1
    have lj : j < s.heap.objs.size := by obtain ⟨_, z, _⟩ := h2; exact Heap.lt_size z
    have hi : i < its.toArray.size := by
      have := (List.getElem?_eq_some_iff.mp hu).1
      simpa using this
    refine wpAny_pyNext_enum_itemD (dr_tup (P := X.prog) (w := X.w) (B := X.A.in1) (I.ok.hd ec) j a na its.toArray) h1 ⟨h2, tT⟩ hi h5 (by simp [h5, ne2]) fun y g tk ey ho st hT hsz hk => ?_
    have ey : y = u := by
      have : its.toArray[i]? = some u := by simpa using hu
      exact Option.some.inj (ey.symm.trans this)
    subst ey
    refine ⟨_, rfl, wpAny_letOwnedTupleGo_enum (s := { s with heap := g, toks := tk + 1 }) ho fun g2 he2 sb => ?_⟩
    have hT2 : g2.get? s.heap.objs.size = some { cls := .type "tuple", data := .seq #[.int i tk, y] } := (sb.2 _ (Nat.ne_of_gt le)).trans hT
    have nw : ObjOk X.prog X.w (upd H s.heap.objs.size (.tup [.int (i : Nat), x])) g2 s.heap.objs.size (.tup [.int (i : Nat), x]) :=
      ⟨by show 2 ≤ sizeLine; decide, [.int i tk, y], .cons ⟨_, rfl⟩ (.cons ru .nil), ⟨_, hT2, rfl, _, rfl⟩⟩
    have I1 : Inv X pins σ (upd H s.heap.objs.size (.tup [.int (i : Nat), x])) { s with heap := g2, toks := tk + 1 } :=
      I.turnedNew (ch := [e, j]) (fun b ob hb z => (sb.2 b (fun y => hb (by simp [y]))).trans (hk b ob (fun y => hb (by simp [y])) (fun y => hb (by simp [y])) z)) hf (Nat.le_refl _) nw
    refine ⟨.ref s.heap.objs.size, _, I1, rfl, ⟨_, x, rfl, I.hok.fresh (Nat.le_refl _), rfl, fun ys hy => by rw [I.tuple_inj hy hq]; exact hx⟩, ⟨⟨y, ?_⟩, ?_, h5⟩, fun b hb => ?_⟩
    · have e1 : ((i + 1 : Nat) : Int) = (i : Int) + 1 := by omega
      rw [e1]
      exact he2
    · obtain ⟨o, q1, q2, q3⟩ := st.1
      exact ⟨o, (sb.2 j (Ne.symm h5)).trans q1, q2, q3⟩
    · have lb : b < s.heap.objs.size := by
        rcases (by simpa using hb : b = e ∨ b = j) with rfl | rfl
        · exact le
        · exact lj
      rw [upd_ne (Nat.ne_of_lt lb)]
      exact (hf b hb).1
  done := by
    intro X eP ew eK ec i pins s σ H E I hf t go
    subst eP ew eK
    obtain ⟨⟨old, h1⟩, h2, h5⟩ := t
    obtain ⟨xs, hq, hx⟩ := go
    obtain ⟨its, rv, tp', hz⟩ := I.tuple hq
    have tT : s.heap.IsTuple a its.toArray := tp'
    have hl := rv.length
    obtain ⟨f0, f1, f2, f3, f4, f5⟩ := hf j (by simp)
    have ei : i = its.toArray.size := by
      rw [List.size_toArray]
      omega
    subst ei
    exact wpAny_pyNext_enum_endD (dr_tup (P := X.prog) (w := X.w) (B := X.A.in1) (I.ok.hd ec) j a na its.toArray) h1 ⟨h2, tT⟩ fun g eb => ⟨rfl, I.turned (t' := s.toks) (fun b o hb z => eb b o hb z) f0 f1 f3 f4 f5⟩
  self := fun A i s Q E t k => by
    obtain ⟨⟨_, h1⟩, _⟩ := t
    exact wpAny_pyIter_enum h1 k
open PySem.Spec PyProof.Rows in
/-- enumerate(x), x a list or a tuple -/
theorem pi_any {X : Cx} {e : PySem.Expr} {te : TE} {p pos tp : Pos} {es : List PySem.Expr} {kk : Nat} (hg : Gl X "enumerate") (hm : X.mg "enumerate" = none) (ha : PA X [e] (tCons te tNil)) (hs : starEach [e] X.env = [(false, eval e X.env)]) :
    PI X (.Tuple es kk tp) (.Call (.Name "enumerate" p) [e] [] pos) (fun σ H Rr => te σ H fun x H1 => ∃ a, [x] = [V.ref a] ∧ ((∃ xs, SqL X.K H1 a xs ∧ Rr (Ite X.K a) H1) ∨ ∃ xs, SqT X.K H1 a xs ∧ Rr (ItT X.K a) H1)) := by
  refine ⟨fun pins s σ H Rr I h => ?_⟩
  have h : tCons te tNil σ H (fun vs H1 => ∃ a, vs = [V.ref a] ∧ ((∃ xs, SqL X.K H1 a xs ∧ Rr (Ite X.K a) H1) ∨ ∃ xs, SqT X.K H1 a xs ∧ Rr (ItT X.K a) H1)) := h
  refine Call_ (ld_blt I hg hm boot_enumerate (PyProof.Rows.callWith_type1 (thn (ha.run pos pins s σ H _ I h) fun us s1 ⟨vs, H1, I1, r1, q1⟩ => ?_) hs rfl))
  obtain ⟨a, rfl, q⟩ := q1
  obtain ⟨u, rfl, ru⟩ := r1.one
  cases ru
  have fr : ∀ c, c ∈ [s1.heap.objs.size + 1, s1.heap.objs.size] → FpOk X pins H1 c := fun c hc => by
    have le : s1.heap.objs.size ≤ c := by
      rcases (by simpa using hc : c = s1.heap.objs.size + 1 ∨ c = s1.heap.objs.size) with rfl | rfl <;> omega
    exact I1.fpOk le (I1.hok.fresh le)
  rcases q with ⟨xs, hq, q⟩ | ⟨xs, hq, q⟩
  · obtain ⟨its, rv, pl, _⟩ := I1.list hq
    refine call_enumerate_list pl.isList fun g e1 e2 _ hk => wpAny_pyIter_enum e1 ?_
    have I2 : Inv X pins σ H1 { s1 with heap := g } := I1.kept (t' := s1.toks) hk
    exact ⟨s1.heap.objs.size + 1, [s1.heap.objs.size + 1, s1.heap.objs.size], _, _, H1, rfl, I2, turn_enum a _ _, ⟨⟨.none, e1⟩, e2, Nat.succ_ne_self _⟩, fr, q⟩
  · obtain ⟨its, rv, pl, _⟩ := I1.tuple hq
    have tT : s1.heap.IsTuple a its.toArray := pl
    have la : a < s1.heap.objs.size := by obtain ⟨o, z, _⟩ := id tT; exact Heap.lt_size z
    refine call_tup tT fun g e1 e2 _ hk => wpAny_pyIter_enum e1 ?_
    have I2 : Inv X pins σ H1 { s1 with heap := g } := I1.kept (t' := s1.toks) hk
    exact ⟨s1.heap.objs.size + 1, [s1.heap.objs.size + 1, s1.heap.objs.size], _, _, H1, rfl, I2, turn_T a (s1.heap.objs.size + 1) s1.heap.objs.size (Nat.ne_of_lt la) (Ne.symm (Nat.ne_of_lt (Nat.lt_succ_of_lt la))), ⟨⟨.none, e1⟩, e2, Nat.succ_ne_self _⟩, fr, q⟩
theorem walk_T {K : PySem.W.Frag} {a : Addr} {xs : List V} : Walk (ItT K a) xs.length (fun H => SqT K H a xs) (YPair (fun i => some (.int (i : Nat))) (fun i => xs[i]?)) := by
  refine ⟨fun i _ hi q => ⟨xs, xs[i], q, by simp [hi]⟩, fun _ q => ⟨xs, q, rfl⟩, fun i H v H' _ q y => ?_⟩
  obtain ⟨T, x, y1, y2, y3, y4⟩ := y
  exact ⟨T, .int (i : Nat), x, y1, y2, y3, rfl, y4 xs q⟩
end Ev.En

/-! a text, backward -/
namespace Ev.Rv
open PySem L2 PySem.Spec PyProof.Rows
theorem picked (x : Str) (t : Tok) : (slicePicked x none none (some (-1, t))).filterMap (x.cps[·]?) = x.cps.toList.reverse := by
  show (sliceRange ((x.cps.size : Int) - 1) (-1) (-1)).filterMap (x.cps[·]?) = _
  rw [PySem.W.krv_sliceRange, PySem.W.krv_range, List.filterMap_reverse, PySem.W.krv_all]
def tRev (te : TE) : TE := fun σ H Q => te σ H fun x H1 => ∃ z : Str, x = .str z ∧ z.cps.size ≤ sizeLine ∧ Q (.str ⟨z.cps.toList.reverse.toArray⟩) H1
theorem pe_rev {X : Cx} {e : PySem.Expr} {te : TE} {k : Nat} {p1 p2 p3 pos : Pos} (he : PE X e te) : PE X (.Subscript e (.Slice none none (some (.UnaryOp .USub (.Constant (.int 1) k p1) p2)) p3) pos) (tRev te) := by
  refine ⟨fun pins s σ H R I h => ?_⟩
  refine Subscript_ (thn (he.run pins s σ H _ I h) fun v s1 ⟨x, H1, I1, r1, q1⟩ => ?_)
  obtain ⟨z, ez, hz, q⟩ := q1
  subst ez
  obtain ⟨t, rfl⟩ := (show ∃ t, v = Value.str z t from r1)
  have hm : PO X (some (.UnaryOp .USub (.Constant (.int 1) k p1) p2)) (tPart (tUn (rU fun i => .int (-i)) (tC (.int 1)))) := po_some (pe_un un_neg pe_int)
  refine wpAny_Slice (thn (po_none.run pins s1 σ H1 (fun o G => o = none ∧ G = H1) I1 ⟨rfl, rfl⟩) fun v2 s2 ⟨l, G2, I2, w2, e2, g2⟩ => ?_)
  subst e2 g2
  refine thn (po_none.run pins s2 σ G2 (fun o G => o = none ∧ G = G2) I2 ⟨rfl, rfl⟩) fun v3 s3 ⟨u, G3, I3, w3, e3, g3⟩ => ?_
  subst e3 g3
  refine thn (hm.run pins s3 σ G3 (fun o G => o = some (-1) ∧ G = G3) I3 ⟨1, rfl, -1, rfl, rfl, rfl⟩) fun v4 s4 ⟨o, G4, I4, w4, e4, g4⟩ => ?_
  subst e4 g4
  have I5 : Inv X pins σ G4 { s4 with heap := s4.heap.push { cls := .type "slice", data := .fields #[v2, v3, v4] } } := I4.kept (t' := s4.toks) fun b ob q => Heap.get?_push_of_some _ q
  show wpAny (model X.prog X.w) X.A (subscriptTail e (.Slice none none (some (.UnaryOp .USub (.Constant (.int 1) k p1) p2)) p3) (.str z t) (.ref s4.heap.objs.size)) (EP X pins σ R) X.xe { s4 with heap := s4.heap.push { cls := .type "slice", data := .fields #[v2, v3, v4] } }
  refine tail_any (ops := [.str z t, .ref s4.heap.objs.size]) (typeIs_str _ z t) (F.slot_str_getitem.lookup) ?_ (by with_unfolding_all rfl)
  obtain ⟨t4, n4⟩ : ∃ t4, v4 = Value.int (-1) t4 := by
    cases w4 with
    | int i t => exact ⟨t, rfl⟩
  cases w2
  cases w3
  subst n4
  refine wpAny_getItem_str_slice (l := none) (u := none) (st := some (-1, t4)) ⟨_, Heap.get?_push_size _ rfl, rfl, rfl⟩ rfl ?_
  unfold sliceMade
  rw [if_neg (by simp)]
  rw [picked]
  refine ⟨?_, .str _, _, I5.tok _, ⟨_, rfl⟩, q⟩
  show z.cps.toList.reverse.toArray.size ≤ sizeLine
  simpa using hz
end Ev.Rv

/-! how the data stand in the layer's heap; what an evaluation may change -/
namespace Ev
open PySem L2
abbrev AP := Addr → Prop
def sv (s : List Nat) : Str := ⟨s.toArray⟩
def GoodS (s : List Nat) : Prop := s.length ≤ cap ∧ ∀ c ∈ s, c < 1114112
def noH : Hp := fun _ => none
def FzT (K : PySem.W.Frag) (H : Hp) (M : AP) (a : Addr) (vs : List V) : Prop := (¬ M a ∧ Rd H a (.tup vs)) ∨ SqT K noH a vs
def FzL (K : PySem.W.Frag) (H : Hp) (M : AP) (a : Addr) (vs : List V) : Prop := (¬ M a ∧ Rd H a (.lst vs)) ∨ SqL K noH a vs
def dkv (ts : List (List Nat × List Nat)) : List (Key × V) := ts.map fun p => (Sum.inr (sv p.1), V.str (sv p.2))
mutual
inductive IsD (K : PySem.W.Frag) (H : Hp) (M : AP) : V → D → Prop
  | non : IsD K H M .non .non
  | bl (b : Bool) : IsD K H M (.bl b) (.bl b)
  | int (i : Int) : IsD K H M (.int i) (.int i)
  | str (s : List Nat) : GoodS s → IsD K H M (.str (sv s)) (.str s)
  | tup (a : Addr) (vs : List V) (ds : List D) : FzT K H M a vs → IsDs K H M vs ds → IsD K H M (.ref a) (.tup ds)
  | lst (a : Addr) (vs : List V) (ds : List D) : FzL K H M a vs → IsDs K H M vs ds → IsD K H M (.ref a) (.lst ds)
  | dic (a : Addr) (ts : List (List Nat × List Nat)) : (∀ p, p ∈ ts → GoodS p.2) → ¬ M a → H a = some (.dK (dkv ts)) → IsD K H M (.ref a) (.dic (dts ts))
inductive IsDs (K : PySem.W.Frag) (H : Hp) (M : AP) : List V → List D → Prop
  | nil : IsDs K H M [] []
  | cons (v : V) (vs : List V) (d : D) (ds : List D) : IsD K H M v d → IsDs K H M vs ds → IsDs K H M (v :: vs) (d :: ds)
end
def Stay (M : AP) (H : Hp) (M' : AP) (H' : Hp) : Prop := ∀ a u, ¬ M a → H a = some u → ¬ M' a ∧ H' a = some u
theorem FzT.stay {K : PySem.W.Frag} {H H' : Hp} {M M' : AP} {a : Addr} {vs : List V} (st : Stay M H M' H') : FzT K H M a vs → FzT K H' M' a vs
  | .inl ⟨h1, .inl h2⟩ => .inl ⟨(st a _ h1 h2).1, .inl (st a _ h1 h2).2⟩
  | .inl ⟨h1, .inr ⟨o, h2⟩⟩ => .inl ⟨(st a _ h1 h2).1, .inr ⟨o, (st a _ h1 h2).2⟩⟩
  | .inr h => .inr h
theorem FzL.stay {K : PySem.W.Frag} {H H' : Hp} {M M' : AP} {a : Addr} {vs : List V} (st : Stay M H M' H') : FzL K H M a vs → FzL K H' M' a vs
  | .inl ⟨h1, .inl h2⟩ => .inl ⟨(st a _ h1 h2).1, .inl (st a _ h1 h2).2⟩
  | .inl ⟨h1, .inr ⟨o, h2⟩⟩ => .inl ⟨(st a _ h1 h2).1, .inr ⟨o, (st a _ h1 h2).2⟩⟩
  | .inr h => .inr h
mutual
theorem IsD.stay {K : PySem.W.Frag} {H H' : Hp} {M M' : AP} (st : Stay M H M' H') : ∀ {v : V} {d : D}, IsD K H M v d → IsD K H' M' v d
  | _, _, .non => .non
  | _, _, .bl b => .bl b
  | _, _, .int i => .int i
  | _, _, .str s g => .str s g
  | _, _, .tup a vs ds f h => .tup a vs ds (f.stay st) (IsDs.stay st h)
  | _, _, .lst a vs ds f h => .lst a vs ds (f.stay st) (IsDs.stay st h)
  | _, _, .dic a ts g m e => .dic a ts g (st a _ m e).1 (st a _ m e).2
theorem IsDs.stay {K : PySem.W.Frag} {H H' : Hp} {M M' : AP} (st : Stay M H M' H') : ∀ {vs : List V} {ds : List D}, IsDs K H M vs ds → IsDs K H' M' vs ds
  | _, _, .nil => .nil
  | _, _, .cons v vs d ds h t => .cons v vs d ds (IsD.stay st h) (IsDs.stay st t)
end
theorem noH_T {K : PySem.W.Frag} {H : Hp} {a : Addr} {vs : List V} (h : SqT K noH a vs) : SqT K H a vs := by
  rcases h with (h | ⟨o, h⟩) | h
  · cases h
  · cases h
  · exact .inr h
theorem noH_L {K : PySem.W.Frag} {H : Hp} {a : Addr} {vs : List V} (h : SqL K noH a vs) : SqL K H a vs := by
  rcases h with (h | ⟨o, h⟩) | h
  · cases h
  · cases h
  · exact .inr h
theorem FzT.sq {K : PySem.W.Frag} {H : Hp} {M : AP} {a : Addr} {vs : List V} : FzT K H M a vs → SqT K H a vs
  | .inl h => .inl h.2
  | .inr h => noH_T h
theorem FzL.sq {K : PySem.W.Frag} {H : Hp} {M : AP} {a : Addr} {vs : List V} : FzL K H M a vs → SqL K H a vs
  | .inl h => .inl h.2
  | .inr h => noH_L h
theorem IsDs.length {K : PySem.W.Frag} {H : Hp} {M : AP} : ∀ {vs : List V} {ds : List D}, IsDs K H M vs ds → vs.length = ds.length
  | _, _, .nil => rfl
  | _, _, .cons _ _ _ _ _ t => by simp [IsDs.length t]
theorem IsDs.append {K : PySem.W.Frag} {H : Hp} {M : AP} : ∀ {vs ws : List V} {ds es : List D}, IsDs K H M vs ds → IsDs K H M ws es → IsDs K H M (vs ++ ws) (ds ++ es)
  | _, _, _, _, .nil, h => h
  | _, _, _, _, .cons v vs d ds h t, q => .cons v _ d _ h (IsDs.append t q)
theorem IsDs.get {K : PySem.W.Frag} {H : Hp} {M : AP} : ∀ {vs : List V} {ds : List D} {i : Nat} {d : D}, IsDs K H M vs ds → ds[i]? = some d → ∃ v, vs[i]? = some v ∧ IsD K H M v d
  | _, _, _, _, .nil, h => by simp at h
  | _, _, 0, _, .cons v vs d ds h t, e => by
    simp at e
    subst e
    exact ⟨v, by simp, h⟩
  | _, _, i + 1, d', .cons v vs d ds h t, e => by
    obtain ⟨w, h1, h2⟩ := IsDs.get (i := i) (d := d') t (by simpa using e)
    exact ⟨w, by simpa using h1, h2⟩
theorem IsDs.getV {K : PySem.W.Frag} {H : Hp} {M : AP} : ∀ {vs : List V} {ds : List D} {i : Nat} {v : V}, IsDs K H M vs ds → vs[i]? = some v → ∃ d, ds[i]? = some d ∧ IsD K H M v d
  | _, _, _, _, .nil, h => by simp at h
  | _, _, 0, _, .cons v vs d ds h t, e => by
    simp at e
    subst e
    exact ⟨d, by simp, h⟩
  | _, _, i + 1, d', .cons v vs d ds h t, e => by
    obtain ⟨w, h1, h2⟩ := IsDs.getV (i := i) (v := d') t (by simpa using e)
    exact ⟨w, by simpa using h1, h2⟩
theorem IsDs.set {K : PySem.W.Frag} {H : Hp} {M : AP} {v : V} {d : D} (q : IsD K H M v d) : ∀ {vs : List V} {ds : List D} (i : Nat), IsDs K H M vs ds → IsDs K H M (vs.set i v) (ds.set i d)
  | _, _, _, .nil => .nil
  | _, _, 0, .cons _ vs _ ds h t => .cons v vs d ds q t
  | _, _, i + 1, .cons w vs e ds h t => .cons w _ e _ h (IsDs.set q i t)
theorem IsDs.take {K : PySem.W.Frag} {H : Hp} {M : AP} : ∀ {vs : List V} {ds : List D} (n : Nat), IsDs K H M vs ds → IsDs K H M (vs.take n) (ds.take n)
  | _, _, 0, _ => by simpa using IsDs.nil
  | _, _, n + 1, .nil => by simpa using IsDs.nil
  | _, _, n + 1, .cons v vs d ds h t => by simpa using IsDs.cons v _ d _ h (IsDs.take n t)
theorem IsDs.drop {K : PySem.W.Frag} {H : Hp} {M : AP} : ∀ {vs : List V} {ds : List D} (n : Nat), IsDs K H M vs ds → IsDs K H M (vs.drop n) (ds.drop n)
  | _, _, 0, h => by simpa using h
  | _, _, n + 1, .nil => by simpa using IsDs.nil
  | _, _, n + 1, .cons v vs d ds h t => by simpa using IsDs.drop n t
theorem IsDs.erase {K : PySem.W.Frag} {H : Hp} {M : AP} : ∀ {vs : List V} {ds : List D} (n : Nat), IsDs K H M vs ds → IsDs K H M (vs.eraseIdx n) (ds.eraseIdx n)
  | _, _, _, .nil => by simpa using IsDs.nil
  | _, _, 0, .cons v vs d ds h t => by simpa using t
  | _, _, n + 1, .cons v vs d ds h t => by simpa using IsDs.cons v _ d _ h (IsDs.erase n t)
theorem IsDs.dropLast {K : PySem.W.Frag} {H : Hp} {M : AP} {vs : List V} {ds : List D} (h : IsDs K H M vs ds) : IsDs K H M vs.dropLast ds.dropLast := by
  rw [List.dropLast_eq_take, List.dropLast_eq_take, h.length]
  exact h.take _
theorem IsDs.reverse {K : PySem.W.Frag} {H : Hp} {M : AP} : ∀ {vs : List V} {ds : List D}, IsDs K H M vs ds → IsDs K H M vs.reverse ds.reverse
  | _, _, .nil => by simpa using IsDs.nil
  | _, _, .cons v vs d ds h t => by simpa using (IsDs.reverse t).append (.cons v [] d [] h .nil)

/-! ### the frame's context: what stands at its entry, what is wanted of an exception -/
structure Ct where
  K : PySem.W.Frag
  io : List Nat
  s0 : St
  H0 : Hp
  U0 : AP
  cv : Nat → Value
def plus (M : AP) (p : Addr) : AP := fun a => a = p ∨ M a
def minus (M : AP) (p : Addr) : AP := fun a => M a ∧ a ≠ p
/-- a list that the frame owns -/
def MutAt (K : PySem.W.Frag) (H : Hp) (M : AP) (a : Addr) (d : D) : Prop := ∃ vs ds, d = .lst ds ∧ H a = some (.lst vs) ∧ IsDs K H M vs ds
structure Step (M U : AP) (H : Hp) (M' U' : AP) (H' : Hp) : Prop where
  rd : ∀ a u, ¬ U a → H a = some u → H' a = some u
  new : ∀ a, M' a → M a ∨ H a = none
  own : ∀ a, U' a → U a ∨ H a = none
  kp : ∀ a, M a → ¬ U a → M' a
  al : ∀ a, H' a = none → H a = none
structure Rep (G : Ct) (H : Hp) (M U : AP) (s : St) (r : Env) : Prop where
  len : r.length = s.length
  val : ∀ (i : Nat) d, r[i]? = some (.va d) → ∃ v, s[i]? = some (some v) ∧ IsD G.K H M v d
  mu : ∀ (i : Nat) d, r[i]? = some (.mu d) → ∃ a, s[i]? = some (some (.ref a)) ∧ U a ∧ MutAt G.K H M a d
  inj : ∀ (i j : Nat) d e a, r[i]? = some (.mu d) → r[j]? = some (.mu e) → s[i]? = some (some (.ref a)) → s[j]? = some (some (.ref a)) → i = j
  sub : ∀ a, U a → M a
  all : ∀ a, M a → H a ≠ none
  pin : ∀ j, j ∈ G.io → s[j]? = G.s0[j]?
  pmu : ∀ j, j ∈ G.io → ∃ d, r[j]? = some (.mu d)
  ent : ∀ a, U a → G.U0 a ∨ G.H0 a = none
  old : ∀ a, H a = none → G.H0 a = none
theorem Step.refl (M U : AP) (H : Hp) : Step M U H M U H := ⟨fun _ _ _ h => h, fun _ h => .inl h, fun _ h => .inl h, fun _ h _ => h, fun _ h => h⟩
theorem Step.trans {M U : AP} {H : Hp} {M1 U1 : AP} {H1 : Hp} {M2 U2 : AP} {H2 : Hp} (hm : ∀ a, M a → H a ≠ none) (a : Step M U H M1 U1 H1) (b : Step M1 U1 H1 M2 U2 H2) : Step M U H M2 U2 H2 := by
  have nu : ∀ c, H c ≠ none → ¬ U c → ¬ U1 c := fun c h1 h2 h3 => (a.own c h3).elim h2 h1
  refine ⟨fun c u h1 h2 => ?_, fun c h => ?_, fun c h => ?_, fun c h1 h2 => ?_, fun c h => a.al c (b.al c h)⟩
  · exact b.rd c u (nu c (by rw [h2]; simp) h1) (a.rd c u h1 h2)
  · rcases b.new c h with h | h
    · exact a.new c h
    · exact .inr (a.al c h)
  · rcases b.own c h with h | h
    · exact a.own c h
    · exact .inr (a.al c h)
  · exact b.kp c (a.kp c h1 h2) (nu c (hm c h1) h2)
theorem Step.stay {M U : AP} {H : Hp} {M' U' : AP} {H' : Hp} (s : Step M U H M' U' H') (hs : ∀ a, U a → M a) : Stay M H M' H' := fun a u h1 h2 =>
  ⟨fun h3 => (s.new a h3).elim h1 (fun e => by rw [h2] at e; cases e), s.rd a u (fun h => h1 (hs a h)) h2⟩
theorem stay_mono {M M' : AP} {H : Hp} (h : ∀ a, M' a → M a) : Stay M H M' H := fun a u h1 h2 => ⟨fun h3 => h1 (h a h3), h2⟩
/-- an evaluation's end -/
def Fin {α : Type} (G : Ct) (W : WX) (s : St) (H : Hp) (M U : AP) (x : R α) (k : α → Env → Hp → AP → AP → Prop) : Prop := match x with
  | .ok a r => ∀ H' M' U', Step M U H M' U' H' → Rep G H' M' U' s r → k a r H' M' U'
  | .exc c r => ∀ H' M' U', Step M U H M' U' H' → Rep G H' M' U' s r → W (G.cv c) none s H'
  | .bad => False
section
variable {G : Ct} {W : WX} {s : St} {H H' : Hp} {M U M' U' : AP} {r : Env} {α β : Type}
theorem Fin.step {x : R α} {k : α → Env → Hp → AP → AP → Prop} (hm : ∀ a, M a → H a ≠ none) (h : Fin G W s H M U x k) (st : Step M U H M' U' H') : Fin G W s H' M' U' x k := by
  cases x with
  | ok a r => exact fun H2 M2 U2 st2 rp => h H2 M2 U2 (st.trans hm st2) rp
  | exc c r => exact fun H2 M2 U2 st2 rp => h H2 M2 U2 (st.trans hm st2) rp
  | bad => exact h
theorem Fin.bind {x : R α} {f : α → Env → R β} {k : β → Env → Hp → AP → AP → Prop} (hm : ∀ a, M a → H a ≠ none) (h : Fin G W s H M U (x.bind f) k) :
    Fin G W s H M U x (fun a r H' M' U' => Fin G W s H' M' U' (f a r) k) := by
  cases x with
  | ok a r => exact fun H2 M2 U2 st rp => Fin.step (x := f a r) hm h st
  | exc c r => exact h
  | bad => exact h
theorem Fin.map {x : R α} {f : α → β} {k : β → Env → Hp → AP → AP → Prop} (h : Fin G W s H M U (x.map f) k) : Fin G W s H M U x (fun a r H' M' U' => k (f a) r H' M' U') := by
  cases x <;> exact h
theorem Fin.mono' {x : R α} {k k' : α → Env → Hp → AP → AP → Prop} (h : Fin G W s H M U x k) (m : ∀ a r H' M' U', Step M U H M' U' H' → Rep G H' M' U' s r → k a r H' M' U' → x = .ok a r → k' a r H' M' U') : Fin G W s H M U x k' := by
  cases x with
  | ok a r => exact fun H2 M2 U2 st rp => m a r H2 M2 U2 st rp (h H2 M2 U2 st rp) rfl
  | exc c r => exact h
  | bad => exact h
theorem Fin.mono {x : R α} {k k' : α → Env → Hp → AP → AP → Prop} (h : Fin G W s H M U x k) (m : ∀ a r H' M' U', Step M U H M' U' H' → Rep G H' M' U' s r → k a r H' M' U' → k' a r H' M' U') : Fin G W s H M U x k' := by
  cases x with
  | ok a r => exact fun H2 M2 U2 st rp => m a r H2 M2 U2 st rp (h H2 M2 U2 st rp)
  | exc c r => exact h
  | bad => exact h
end
/-- a value, or a new list that nothing else knows -/
def IsV (G : Ct) (s : St) (r : Env) (H : Hp) (M U : AP) (v : V) (d : D) : Bool → Prop
  | false => IsD G.K H M v d
  | true => ∃ p vs ds, v = .ref p ∧ d = .lst ds ∧ H p = some (.lst vs) ∧ ¬ M p ∧ (G.U0 p ∨ G.H0 p = none) ∧ IsDs G.K H (plus M p) vs ds ∧ Rep G H (plus M p) U s r
theorem IsV.isD {G : Ct} {s : St} {r : Env} {H : Hp} {M U : AP} {v : V} {d : D} {f : Bool} (h : IsV G s r H M U v d f) : IsD G.K H M v d := by
  cases f with
  | false => exact h
  | true =>
    obtain ⟨p, vs, ds, rfl, rfl, h1, h2, _, h3, _⟩ := h
    exact .lst p vs ds (.inl ⟨h2, .inl h1⟩) (h3.stay (stay_mono fun a h => .inr h))
/-! ### readings -/
def tX (G : Ct) (W : WX) (C : Cfg) (e : E) : TE := fun s H Q => ∃ M U r, Rep G H M U s r ∧ Fin G W s H M U (evX C e r) fun x r' H' M' U' => ∀ v, IsV G s r' H' M' U' v x.1 x.2 → Q v H'
def tV (G : Ct) (W : WX) (C : Cfg) (e : E) : TE := fun s H Q => ∃ M U r, Rep G H M U s r ∧ Fin G W s H M U (evX C e r) fun x r' H' M' U' => ∀ v, IsD G.K H' M' v x.1 → Q v H'
def tTe (G : Ct) (W : WX) (C : Cfg) (e : E) : TT := fun s H Q => ∃ M U r, Rep G H M U s r ∧ Fin G W s H M U (evT C e r) fun b r' H' M' U' => Q b H'
/-- an operand's value: of a slot, the slot's own -/
def IsO (G : Ct) (s : St) (H : Hp) (M : AP) (v : V) : Op → Prop
  | .d x => IsD G.K H M v x
  | .m i => s[i]? = some (some v)
def tO (G : Ct) (W : WX) (C : Cfg) (e : E) : TE := fun s H Q => ∃ M U r, Rep G H M U s r ∧ Fin G W s H M U (opOf e r (evX C e r)) fun o r' H' M' U' => ∀ v, IsO G s H' M' v o → Q v H'
theorem pe_mono {X : Cx} {e : Expr} {t t' : TE} (h : PE X e t) (m : ∀ s H Q, t' s H Q → t s H Q) : PE X e t' := ⟨fun pins s σ H Q I q => h.run pins s σ H Q I (m σ H Q q)⟩
theorem pt_mono {X : Cx} {e : Expr} {t t' : TT} (h : PT X e t) (m : ∀ s H Q, t' s H Q → t s H Q) : PT X e t' := ⟨fun pins s σ H Q I q => h.run pins s σ H Q I (m σ H Q q)⟩
theorem pa_mono {X : Cx} {es : List Expr} {t t' : TA} (h : PA X es t) (m : ∀ s H Q, t' s H Q → t s H Q) : PA X es t' := ⟨fun pos pins s σ H Q I q => h.run pos pins s σ H Q I (m σ H Q q)⟩
theorem ps_mono {X : Cx} {st : Stmt} {t t' : TS} (h : PS X st t) (m : ∀ D s H, t' D s H → t D s H) : PS X st t' := ⟨fun pins s σ H D I q => h.run pins s σ H D I (m D σ H q)⟩
theorem pss_mono {X : Cx} {st : List Stmt} {t t' : TS} (h : PSs X st t) (m : ∀ D s H, t' D s H → t D s H) : PSs X st t' := ⟨fun pins s σ H D I q => h.run pins s σ H D I (m D σ H q)⟩
theorem pe_v {X : Cx} {G : Ct} {W : WX} {C : Cfg} {e : E} {ex : Expr} (h : PE X ex (tX G W C e)) : PE X ex (tV G W C e) := pe_mono h fun s H Q ⟨M, U, r, rp, f⟩ => ⟨M, U, r, rp, f.mono fun _ _ _ _ _ _ _ q v hv => q v hv.isD⟩
theorem opOf_ne {e : E} {r : Env} {x : R (D × Bool)} (h : ∀ i, e ≠ .m i) : opOf e r x = x.map fun y => .d y.1 := by
  unfold opOf
  split
  · exact absurd rfl (h _)
  · rfl
theorem pe_o {X : Cx} {G : Ct} {W : WX} {C : Cfg} {e : E} {ex : Expr} (h : PE X ex (tX G W C e)) (hm : ∀ i, e ≠ .m i) : PE X ex (tO G W C e) := pe_mono (pe_v h) fun s H Q ⟨M, U, r, rp, f⟩ => by
  rw [opOf_ne hm] at f
  exact ⟨M, U, r, rp, f.map⟩
/-- what an operand is when it is looked at -/
def IsR (G : Ct) (H : Hp) (M : AP) (v : V) (d : D) : Prop := IsD G.K H M v d ∨ ∃ a vs ds, v = .ref a ∧ d = .lst ds ∧ H a = some (.lst vs) ∧ IsDs G.K H M vs ds
theorem IsO.get {G : Ct} {s : St} {H : Hp} {M U : AP} {v : V} {o : Op} {r : Env} {d : D} (rp : Rep G H M U s r) (h : IsO G s H M v o) (e : o.get r = some d) : IsR G H M v d := by
  cases o with
  | d x =>
    have e : x = d := Option.some.inj e
    subst e
    exact .inl h
  | m i =>
    have e : getM r i = some d := e
    unfold getM at e
    split at e
    · rename_i d' hd
      have e : d' = d := Option.some.inj e
      subst e
      obtain ⟨a, h1, h2, vs, ds, h3, h4, h5⟩ := rp.mu i _ hd
      have h : s[i]? = some (some v) := h
      rw [h1] at h
      cases h
      exact .inr ⟨a, vs, ds, rfl, h3, h4, h5⟩
    · cases e
theorem IsO.step {G : Ct} {s : St} {H H' : Hp} {M U M' U' : AP} {v : V} {o : Op} (h : IsO G s H M v o) (st : Step M U H M' U' H') (hs : ∀ a, U a → M a) : IsO G s H' M' v o := by
  cases o with
  | d x => exact IsD.stay (st.stay hs) h
  | m i => exact h
end Ev

/-! a text, a tuple, a list, so many times -/
namespace Ev
open PySem PyProof.Rows L2
theorem once_tuple (l : Addr) (its : Array Value) (n : Nat) (dd : Option Addr) (sl : Array (Option Value)) (u : Tok) :
    Meets (Builtin.«tuple.__mul__» ⟨[.ref l, .int 1 u], []⟩) (fun _ R s => s.heap.get? l = some { cls := .type "tuple", dict := dd, data := .seq its n, slots := sl } ∧ R (.ok (.ret (.ref l))) s) :=
  .of_wp fun prog w A R s h => by
    obtain ⟨hp, g, d, tk, os⟩ := s
    obtain ⟨hl, h⟩ := h
    have f1 := AutoSeq1.idx_int
    have c0 : (decide ((1 : Int) < -(2 ^ 63)) || decide ((1 : Int) ≥ 2 ^ 63)) = false := by decide
    have c1 : (its.isEmpty || (1 : Int) == 1) = true := by simp
    wp_walk using wpAny_loadPart' hl
    repeat (first
      | (refine wpAny_ite_false (decide_eq_false (by rw [c0]; exact Bool.false_ne_true)) ?_; wp_walk using wpAny_loadPart' hl)
      | (refine wpAny_ite_true (decide_eq_true c1) ?_; wp_walk using wpAny_loadPart' hl))
    exact ⟨_, rfl, h⟩
theorem rmul_list (a : Int) (t : Tok) (l : Addr) (its : Array Value) (n : Nat) (dd : Option Addr) (sl : Array (Option Value)) :
    Meets (Builtin.«int.__rmul__» ⟨[.int a t, .ref l], []⟩) (fun _ R s => s.heap.get? l = some { cls := .type "list", dict := dd, data := .seq its n, slots := sl } ∧ R (.ok (.ret Value.notImplemented)) s) :=
  .of_wp fun prog w A R s h => by
    obtain ⟨hp, g, d, tk, os⟩ := s
    obtain ⟨hl, h⟩ := h
    wp_walk using wpAny_loadPart' hl
    exact ⟨_, rfl, h⟩
theorem times_list (l : Addr) (its : Array Value) (n : Nat) (dd : Option Addr) (sl : Array (Option Value)) (x : Int) (u : Tok) (c0 : ¬(!Builtin.List.listFitsIndex x) = true) (c1 : ¬its.size * x.toNat > (2 ^ 63 - 1) / 8) (c2 : ¬Builtin.List.listTooLong (its.size * x.toNat) = true) :
    Meets (Builtin.«list.__mul__» ⟨[.ref l, .int x u], []⟩) (fun _ R s => s.heap.get? l = some { cls := .type "list", dict := dd, data := .seq its n, slots := sl } ∧
      R (.ok (.ret (Value.ref s.heap.objs.size))) { s with heap := s.heap.push { cls := Value.type "list", data := Data.seq (List.foldl (fun x1 x2 => x1 ++ x2) #[] (List.replicate (if its.isEmpty = true then 0 else x.toNat) its)) }, toks := s.toks }) :=
  .of_wp fun prog w A R s h => by
    obtain ⟨hp, g, d, tk, os⟩ := s
    obtain ⟨hl, h⟩ := h
    have hsz := PySem.AutoListH.joined_fits c2
    wp_walk using wpAny_loadPart' hl
    refine wpAny_ite_false (decide_eq_false (Nat.not_lt.mpr hsz)) ?_
    wp_walk using wpAny_loadPart' hl
    exact ⟨_, rfl, h⟩
section
variable {X : Cx}
theorem op_once : OpR X (binaryOp .Mult) (fun x y H Q => ∃ l xs, x = .ref l ∧ y = .int 1 ∧ SqT X.K H l xs ∧ Q (.ref l) H) := by
  intro pins s σ H x y v u Q I rx ry h
  obtain ⟨l, xs, rfl, rfl, hT, q⟩ := h
  cases rx
  obtain ⟨t, rfl⟩ := ry
  obtain ⟨its, r, ⟨⟨cls, dd, data, sl⟩, ho, hc, n, hd⟩, hs⟩ := I.tuple hT
  simp only at hc hd
  subst hc hd
  exact wpAny_binaryOp_repeat_ref (T := "tuple") (U := "int") (by decide) ⟨_, ho, rfl⟩ (fun s' => typeIs_int s' 1 t) noFill_tuple_mul F.fills_int_mul F.slot_int_rmul repeat_tuple F.slot_int_index.lookup
    (call_meets F.slot_int_rmul (typeIs_int s 1 t) F.entry_int_rmul (F.args_int_rmul_2 _ _) (int_rmul_tuple 1 t l its.toArray n dd sl)
      ⟨ho, rfl, ⟨_, ho, rfl⟩, call_meets F.slot_tuple_mul ⟨_, ho, rfl⟩ F.entry_tuple_mul (F.args_tuple_mul_2 _ _) (once_tuple l its.toArray n dd sl t) ⟨ho, .ref l, H, I, rfl, q⟩⟩)
theorem op_repL : OpR X (binaryOp .Mult) (fun x y H Q => ∃ l k xs, x = .ref l ∧ y = .int k ∧ SqL X.K H l xs ∧ -(2 ^ 62) < k ∧ k < 2 ^ 62 ∧ xs.length * k.toNat ≤ sizeLine ∧ ∀ p, H p = none → Q (.ref p) (upd H p (.lst (List.replicate k.toNat xs).flatten))) := by
  intro pins s σ H x y v u Q I rx ry h
  obtain ⟨l, k, xs, rfl, rfl, hT, k1, k2, hz, q⟩ := h
  cases rx
  obtain ⟨t, rfl⟩ := ry
  obtain ⟨its, r, ⟨⟨cls, dd, data, sl⟩, n, e, g2, g3, g4⟩, _⟩ := I.list hT
  simp only at g2 g3 g4
  subst g2 g3 g4
  have hl := r.length
  have hlen : its.toArray.size * k.toNat ≤ sizeLine := by
    rw [List.size_toArray, ← hl]
    exact hz
  have c1 : ¬ its.toArray.size * k.toNat > (2 ^ 63 - 1) / 8 := by
    have w : (sizeLine : Nat) ≤ (2 ^ 63 - 1) / 8 := by decide
    omega
  have c0 : ¬ (!Builtin.List.listFitsIndex k) = true := by
    rw [fitsIndex_both (by omega) (by omega)]
    exact Bool.false_ne_true
  have c2 : ¬ Builtin.List.listTooLong (its.toArray.size * k.toNat) = true := by
    rw [notLongL hlen]
    exact Bool.false_ne_true
  have hnew : List.foldl (fun x1 x2 => x1 ++ x2) #[] (List.replicate (if its.toArray.isEmpty = true then 0 else k.toNat) its.toArray) = (List.replicate k.toNat its).flatten.toArray := by
    rw [size_rep]
    cases its with
    | nil => simp
    | cons a b => rw [if_neg (by simp)]
  refine wpAny_binaryOp_repeat_ref (T := "list") (U := "int") (by decide) ⟨_, e, rfl⟩ (fun s' => typeIs_int s' k t) noFill_list_mul F.fills_int_mul F.slot_int_rmul repeat_list F.slot_int_index.lookup
    (call_meets F.slot_int_rmul (typeIs_int s k t) F.entry_int_rmul (F.args_int_rmul_2 _ _) (rmul_list k t l its.toArray n none sl)
      ⟨e, rfl, ⟨_, e, rfl⟩, call_meets F.slot_list_mul ⟨_, e, rfl⟩ F.entry_list_mul (F.args_list_mul_2 _ _) (times_list l its.toArray n none sl k t c0 c1 c2) ⟨e, ?_⟩⟩)
  rw [hnew]
  exact ⟨.ref _, _, I.lnew (t' := s.toks) (r.rep k.toNat) (by rw [PyProof.Rows.lm_len_rep_flat, Nat.mul_comm]; exact hz), rfl, q _ I.fresh⟩
theorem op_repS : OpR X (binaryOp .Mult) (fun x y H Q => ∃ z k, x = .str (sv z) ∧ y = .int k ∧ -(2 ^ 62) < k ∧ k < 2 ^ 62 ∧ z.length * k.toNat ≤ sizeLine ∧ Q (.str (sv (List.replicate k.toNat z).flatten)) H) := by
  intro pins s σ H x y v u Q I rx ry h
  obtain ⟨z, k, rfl, rfl, k1, k2, hz, q⟩ := h
  obtain ⟨t, rfl⟩ := rx
  obtain ⟨t', rfl⟩ := ry
  have hl : (sv z).length = z.length := by
    unfold sv Str.length
    simp
  have fold : ∀ (m : Nat) (acc : List Nat), List.foldl (fun x1 x2 => x1 ++ x2) acc.toArray (List.replicate m z.toArray) = (acc ++ (List.replicate m z).flatten).toArray := fun m => by
    induction m with
    | zero => simp
    | succ m ih =>
      intro acc
      rw [List.replicate_succ, List.foldl_cons, List.replicate_succ, List.flatten_cons, ← List.append_assoc, ← ih (acc ++ z)]
      simp
  refine P.mul_str (by rw [decide_eq_false (by omega), decide_eq_false (by omega)]; rfl) (fun h1 h2 h3 => ?_) (fun h1 h2 => ?_) ?_
  · rw [hl] at h3
    have hk : 0 < k := by omega
    have w1 : ((2 : Int) ^ 63 - 1) / k * k ≥ 2 ^ 63 - 1 - k := by
      have w2 := Int.mul_ediv_add_emod (2 ^ 63 - 1) k
      have w3 := Int.emod_lt_of_pos (2 ^ 63 - 1) hk
      rw [Int.mul_comm]
      omega
    have w4 : (z.length : Int) * k > (2 ^ 63 - 1) / k * k := Int.mul_lt_mul_of_pos_right h3 hk
    have w5 : ((z.length * k.toNat : Nat) : Int) = (z.length : Int) * k := by
      rw [Int.natCast_mul, Int.toNat_of_nonneg (by omega)]
    have w6 : (sizeLine : Nat) ≤ 2 ^ 62 - 1 := by decide
    omega
  · rw [hl]
    unfold Builtin.Str.tooLong
    rw [decide_eq_false (by omega)]
  · by_cases h1 : k < 1
    · rw [if_pos h1]
      refine ⟨by decide, .str (sv (List.replicate k.toNat z).flatten), H, ?_, ?_, q⟩
      · exact I.tok (s.toks + 1)
      · have e0 : k.toNat = 0 := by omega
        rw [e0]
        exact ⟨_, rfl⟩
    · rw [if_neg h1]
      by_cases h2 : (k == 1 || (sv z).length == 0) = true
      · rw [if_pos h2]
        have e : (List.replicate k.toNat z).flatten = z := by
          simp only [Bool.or_eq_true, beq_iff_eq] at h2
          rcases h2 with h2 | h2
          · subst h2
            simp
          · rw [hl] at h2
            have e0 := List.eq_nil_of_length_eq_zero h2
            subst e0
            simp
        refine ⟨.str (sv (List.replicate k.toNat z).flatten), H, I, ?_, q⟩
        rw [e]
        exact ⟨_, rfl⟩
      · rw [if_neg h2]
        have e : (List.replicate k.toNat (sv z).cps).foldl (fun x1 x2 => x1 ++ x2) #[] = (sv (List.replicate k.toNat z).flatten).cps := by
          have f := fold k.toNat []
          rw [List.nil_append] at f
          exact f
        rw [e]
        refine ⟨?_, .str (sv (List.replicate k.toNat z).flatten), H, I.tok (s.toks + 1), ⟨_, rfl⟩, q⟩
        rw [show (⟨(sv (List.replicate k.toNat z).flatten).cps⟩ : Str) = sv (List.replicate k.toNat z).flatten from rfl]
        unfold sv Str.length
        simp only [List.size_toArray, List.length_flatten, List.map_replicate, List.sum_replicate_nat]
        rw [Nat.mul_comm]
        exact hz
end
end Ev

/-! the operators over the layer -/
namespace Ev
open PySem L2
theorem cap_line : cap ≤ sizeLine := by decide
/-- what an operation adds to the heap: a value, or a new list -/
def New (K : PySem.W.Frag) (H H' : Hp) (M : AP) (v : V) (d : D) : Bool → Prop
  | false => Same H H' ∧ IsD K H' M v d
  | true => ∃ p vs ds, v = .ref p ∧ d = .lst ds ∧ H p = none ∧ H' = upd H p (.lst vs) ∧ IsDs K H M vs ds
theorem same_upd {H : Hp} {p : Addr} {o : HO} (h : H p = none) : Same H (upd H p o) := fun b x e => (upd_ne (ne_of_none e h)).trans e
theorem same_stay {H H' : Hp} (M : AP) (h : Same H H') : Stay M H M H' := fun a u h1 h2 => ⟨h1, h a u h2⟩
theorem same_step {H H' : Hp} (M U : AP) (h : Same H H') : Step M U H M U H' := ⟨fun a u _ e => h a u e, fun _ h => .inl h, fun _ h => .inl h, fun _ h _ => h, fun a e => Same.free h e⟩
theorem MutAt.same {K : PySem.W.Frag} {H H' : Hp} {M : AP} {a : Addr} {d : D} (h : Same H H') : MutAt K H M a d → MutAt K H' M a d
  | ⟨vs, ds, e, h1, h2⟩ => ⟨vs, ds, e, h _ _ h1, h2.stay (same_stay M h)⟩
theorem Rep.same {G : Ct} {H H' : Hp} {M U : AP} {s : St} {r : Env} (rp : Rep G H M U s r) (h : Same H H') : Rep G H' M U s r where
  len := rp.len
  val := fun i d e => let ⟨v, h1, h2⟩ := rp.val i d e; ⟨v, h1, h2.stay (same_stay M h)⟩
  mu := fun i d e => let ⟨a, h1, h2, h3⟩ := rp.mu i d e; ⟨a, h1, h2, h3.same h⟩
  inj := rp.inj
  sub := rp.sub
  all := fun a hm e => rp.all a hm (Same.free h e)
  pin := rp.pin
  pmu := rp.pmu
  ent := rp.ent
  old := fun a e => rp.old a (Same.free h e)
theorem stay_plus {H : Hp} {M : AP} {p : Addr} {o : HO} (h : H p = none) : Stay M H (plus M p) (upd H p o) := fun a u h1 h2 =>
  ⟨fun h3 => h3.elim (fun e => by subst e; rw [h] at h2; cases h2) h1, same_upd h a u h2⟩
theorem Rep.plus {G : Ct} {H : Hp} {M U : AP} {s : St} {r : Env} {p : Addr} {o : HO} (rp : Rep G H M U s r) (h : H p = none) : Rep G (upd H p o) (Ev.plus M p) U s r where
  len := rp.len
  val := fun i d e => let ⟨v, h1, h2⟩ := rp.val i d e; ⟨v, h1, h2.stay (stay_plus h)⟩
  mu := fun i d e => let ⟨a, h1, h2, vs, ds, h3, h4, h5⟩ := rp.mu i d e; ⟨a, h1, h2, vs, ds, h3, same_upd h _ _ h4, h5.stay (stay_plus h)⟩
  inj := rp.inj
  sub := fun a h => .inr (rp.sub a h)
  all := fun a hm e => by
    have e' := Same.free (same_upd (o := o) h) e
    rcases hm with rfl | hm
    · rw [upd_same] at e
      cases e
    · exact rp.all a hm e'
  pin := rp.pin
  pmu := rp.pmu
  ent := rp.ent
  old := fun a e => rp.old a (Same.free (same_upd h) e)
theorem New.fin {G : Ct} {H H' : Hp} {M U : AP} {s : St} {r : Env} {v : V} {d : D} {f : Bool} (rp : Rep G H M U s r) (h : New G.K H H' M v d f) :
    Step M U H M U H' ∧ Rep G H' M U s r ∧ IsV G s r H' M U v d f := by
  cases f with
  | false => exact ⟨same_step M U h.1, rp.same h.1, h.2⟩
  | true =>
    obtain ⟨p, vs, ds, rfl, rfl, h1, rfl, h2⟩ := h
    have sm : Same H (upd H p (.lst vs)) := same_upd h1
    exact ⟨same_step M U sm, rp.same sm, p, vs, ds, rfl, rfl, upd_same, fun hm => rp.all p hm h1, .inr (rp.old p h1), h2.stay (stay_plus h1), rp.plus h1⟩
/-! ### texts -/
theorem sv_len (s : List Nat) : (sv s).length = s.length := by
  unfold sv Str.length
  simp
theorem sv_app (a b : List Nat) : sv a ++ sv b = sv (a ++ b) := by
  show Str.append _ _ = _
  unfold sv Str.append
  simp
theorem sv_inj {a b : List Nat} (h : sv a = sv b) : a = b := by
  unfold sv at h
  have := congrArg Str.cps h
  simpa using this
theorem good_len {s : List Nat} (h : GoodS s) : (sv s).length ≤ sizeLine := by
  rw [sv_len]
  exact Nat.le_trans h.1 cap_line
theorem good_app {a b : List Nat} (ha : GoodS a) (hb : GoodS b) (h : a.length + b.length ≤ cap) : GoodS (a ++ b) :=
  ⟨by rw [List.length_append]; exact h, fun c hc => (List.mem_append.mp hc).elim (ha.2 c) (hb.2 c)⟩
theorem good_sub {a b : List Nat} (hb : GoodS b) (h : ∀ c ∈ a, c ∈ b) (hl : a.length ≤ b.length) : GoodS a := ⟨Nat.le_trans hl hb.1, fun c hc => hb.2 c (h c hc)⟩
theorem good_one {s : List Nat} {c : Nat} (h : GoodS s) (hc : c ∈ s) : GoodS [c] := ⟨by show 1 ≤ cap; decide, fun x hx => by
  have e : x = c := by simpa using hx
  subst e
  exact h.2 x hc⟩
/-! ### what an operand is -/
section
variable {G : Ct} {H : Hp} {M : AP} {x : V}
theorem IsR.int {i : Int} (h : IsR G H M x (.int i)) : x = .int i := by
  rcases h with h | ⟨_, _, _, _, e, _⟩
  · cases h
    rfl
  · cases e
theorem IsR.bl {i : Bool} (h : IsR G H M x (.bl i)) : x = .bl i := by
  rcases h with h | ⟨_, _, _, _, e, _⟩
  · cases h
    rfl
  · cases e
theorem IsR.str {i : List Nat} (h : IsR G H M x (.str i)) : x = .str (sv i) ∧ GoodS i := by
  rcases h with h | ⟨_, _, _, _, e, _⟩
  · cases h
    exact ⟨rfl, by assumption⟩
  · cases e
theorem IsR.tup {ds : List D} (h : IsR G H M x (.tup ds)) : ∃ a vs, x = .ref a ∧ FzT G.K H M a vs ∧ IsDs G.K H M vs ds := by
  rcases h with h | ⟨_, _, _, _, e, _⟩
  · cases h with
    | tup a vs ds f q => exact ⟨a, vs, rfl, f, q⟩
  · cases e
theorem IsR.lst {ds : List D} (h : IsR G H M x (.lst ds)) : ∃ a vs, x = .ref a ∧ SqL G.K H a vs ∧ IsDs G.K H M vs ds := by
  rcases h with h | ⟨a, vs, ds', rfl, e, h1, h2⟩
  · cases h with
    | lst a vs ds f q => exact ⟨a, vs, rfl, f.sq, q⟩
  · cases e
    exact ⟨a, vs, rfl, SqL.of h1, h2⟩
end
section
variable {X : Cx}
/-- list + list, whatever lists -/
theorem op_catL : OpR X (binaryOp .Add) (fun x y H Q => ∃ a b xs ys, x = .ref a ∧ y = .ref b ∧ SqL X.K H a xs ∧ SqL X.K H b ys ∧ xs.length + ys.length ≤ sizeLine ∧ ∀ p, H p = none → Q (.ref p) (upd H p (.lst (xs ++ ys)))) := by
  intro pins s σ H x y v u Q I rx ry ⟨a, b, xs, ys, e1, e2, ha, hb, hz, q⟩
  subst e1 e2
  cases rx
  cases ry
  obtain ⟨its, r1, ⟨⟨cls, dd, data, sl⟩, n, g1, g2, g3, g4⟩, _⟩ := I.list ha
  obtain ⟨its2, r2, ⟨⟨cls2, dd2, data2, sl2⟩, n2, k1, k2, k3, k4⟩, _⟩ := I.list hb
  simp only at g2 g3 g4 k2 k3 k4
  subst g2 g3 g4 k2 k3 k4
  have l1 := r1.length
  have l2 := r2.length
  have ea : its.toArray ++ its2.toArray = (its ++ its2).toArray := by simp
  refine PySem.concat_meets ⟨_, g1, rfl⟩ ⟨_, k1, rfl⟩ PySem.noFill_list_add PySem.seq_list_add PySem.F.slot_list_add PySem.F.entry_list_add (PySem.F.args_list_add_2 _ _)
    (PyProof.Rows.list_addW a b its.toArray its2.toArray n n2 none none sl sl2 (by simp; omega)) ⟨g1, k1, ?_⟩
  rw [ea]
  exact ⟨.ref _, _, I.lnew (t' := s.toks) (r1.append r2) (by rw [List.length_append]; omega), rfl, q _ I.fresh⟩
/-- either of two readings -/
theorem or_l {f : Value → Value → Sem Value} {r r' : R2} (h : OpR X f r) (m : ∀ x y H Q, r' x y H Q → r x y H Q) : OpR X f r' := fun pins s σ H x y v u Q I rx ry q => h pins s σ H x y v u Q I rx ry (m x y H Q q)
def bopOf : Bop → Operator
  | .add => .Add
  | .sub => .Sub
  | .mul => .Mult
  | .fdiv => .FloorDiv
  | .mod => .Mod
  | .pow => .Pow
/-- an operator upon data -/
def rBin (G : Ct) (o : Bop) : R2 := fun x y H Q => ∃ M a b d, (∀ c, M c → H c ≠ none) ∧ IsR G H M x a ∧ IsR G H M y b ∧ binD o a b = some d ∧ ∀ v H', New G.K H H' M v d (binF o a b) → Q v H'
theorem new_val {K : PySem.W.Frag} {H : Hp} {M : AP} {v : V} {d : D} (h : IsD K H M v d) : New K H H M v d false := ⟨Same.refl H, h⟩
theorem new_tup {K : PySem.W.Frag} {H : Hp} {M : AP} {p : Addr} {vs : List V} {ds : List D} (hm : ∀ c, M c → H c ≠ none) (h : IsDs K H M vs ds) (hp : H p = none) : New K H (upd H p (.tup vs)) M (.ref p) (.tup ds) false :=
  ⟨same_upd hp, .tup p vs ds (.inl ⟨fun q => hm p q hp, .inl upd_same⟩) (h.stay (same_stay M (same_upd hp)))⟩
theorem new_lst {K : PySem.W.Frag} {H : Hp} {M : AP} {p : Addr} {vs : List V} {ds : List D} (h : IsDs K H M vs ds) (hp : H p = none) : New K H (upd H p (.lst vs)) M (.ref p) (.lst ds) true := ⟨p, vs, ds, rfl, rfl, hp, rfl, h⟩
theorem IsDs.nil_iff {K : PySem.W.Frag} {H : Hp} {M : AP} {vs : List V} {ds : List D} (h : IsDs K H M vs ds) : vs = [] ↔ ds = [] := by
  cases h with
  | nil => simp
  | cons => simp
theorem IsDs.times {K : PySem.W.Frag} {H : Hp} {M : AP} {vs : List V} {ds : List D} (h : IsDs K H M vs ds) : ∀ k : Nat, IsDs K H M (List.replicate k vs).flatten (List.replicate k ds).flatten
  | 0 => .nil
  | k + 1 => by
    rw [List.replicate_succ, List.flatten_cons, List.replicate_succ, List.flatten_cons]
    exact h.append (h.times k)
theorem good_times {s : List Nat} (g : GoodS s) {k : Nat} (h : s.length * k ≤ cap) : GoodS (List.replicate k s).flatten := by
  refine ⟨?_, fun c hc => ?_⟩
  · rw [List.length_flatten, List.map_replicate, List.sum_replicate_nat, Nat.mul_comm]
    exact h
  · obtain ⟨l, h1, h2⟩ := List.mem_flatten.mp hc
    rw [(List.mem_replicate.mp h1).2] at h2
    exact g.2 c h2
theorem lit64 : (2 : Int) ^ 64 = M64 := by decide
theorem op_bin (G : Ct) (hK : X.K = G.K) (o : Bop) : OpR X (binaryOp (bopOf o)) (rBin G o) := by
  intro pins s σ H x y v u Q I rx ry ⟨M, a, b, d, hm, ia, ib, e, q⟩
  cases o with
  | add =>
    cases a <;> cases b <;> simp only [binD, reduceCtorEq] at e
    · cases e
      exact op_add pins s σ H x y v u Q I rx ry ⟨_, _, ia.int, ib.int, q _ _ (new_val (.int _))⟩
    · split at e
      · rename_i hz
        cases e
        obtain ⟨e1, g1⟩ := ia.str
        obtain ⟨e2, g2⟩ := ib.str
        refine op_add_str pins s σ H x y v u Q I rx ry ⟨_, _, e1, e2, ?_, ?_⟩
        · rw [sv_len, sv_len]
          exact Nat.le_trans hz cap_line
        · rw [sv_app]
          exact q _ _ (new_val (.str _ (good_app g1 g2 hz)))
      · cases e
    · split at e
      · rename_i hz
        cases e
        obtain ⟨p1, vs1, rfl, f1, h1⟩ := ia.tup
        obtain ⟨p2, vs2, rfl, f2, h2⟩ := ib.tup
        refine op_catA pins s σ H _ _ v u Q I rx ry ⟨p1, p2, vs1, vs2, rfl, rfl, by rw [hK]; exact f1.sq, by rw [hK]; exact f2.sq, ?_, fun z => ?_, fun _ z => ?_, fun _ _ p hp => ?_⟩
        · rw [h1.length, h2.length]
          exact Nat.le_trans hz cap_line
        · have z' := (h1.nil_iff).mp z
          subst z'
          exact q _ _ (new_val (.tup _ _ _ f2 h2))
        · have z' := (h2.nil_iff).mp z
          subst z'
          rw [List.append_nil] at q
          exact q _ _ (new_val (.tup _ _ _ f1 h1))
        · exact q _ _ (new_tup hm (h1.append h2) hp)
      · cases e
    · split at e
      · rename_i hz
        cases e
        obtain ⟨p1, vs1, rfl, f1, h1⟩ := ia.lst
        obtain ⟨p2, vs2, rfl, f2, h2⟩ := ib.lst
        refine op_catL pins s σ H _ _ v u Q I rx ry ⟨p1, p2, vs1, vs2, rfl, rfl, by rw [hK]; exact f1, by rw [hK]; exact f2, ?_, fun p hp => ?_⟩
        · rw [h1.length, h2.length]
          exact Nat.le_trans hz cap_line
        · exact q _ _ (new_lst (h1.append h2) hp)
      · cases e
  | sub =>
    cases a <;> cases b <;> simp only [binD, reduceCtorEq] at e
    · cases e
      exact op_sub pins s σ H x y v u Q I rx ry ⟨_, _, ia.int, ib.int, q _ _ (new_val (.int _))⟩
  | mul =>
    have b0 : big0 = 2 ^ 62 := by decide
    cases a <;> cases b <;> simp only [binD, reduceCtorEq] at e
    · split at e
      · rename_i hz
        cases e
        refine op_mul pins s σ H x y v u Q I rx ry ⟨_, _, ia.int, ib.int, ?_, q _ _ (new_val (.int _))⟩
        unfold CMul
        rw [lit64]
        exact hz
      · cases e
    · split at e
      · rename_i hz
        cases e
        obtain ⟨e1, g1⟩ := ia.str
        rw [b0] at hz
        exact op_repS pins s σ H x y v u Q I rx ry ⟨_, _, e1, ib.int, hz.2.1, hz.2.2, Nat.le_trans hz.1 cap_line, q _ _ (new_val (.str _ (good_times g1 hz.1)))⟩
      · cases e
    · rename_i ds j
      split at e
      · rename_i hz
        cases e
        obtain ⟨p, vs, rfl, f, g⟩ := ia.tup
        by_cases h1 : j = 1
        · subst h1
          have q : ∀ v H', New G.K H H' M v (.tup ds) false → Q v H' := by
            have e0 : (List.replicate (1 : Int).toNat ds).flatten = ds := by simp
            rw [e0] at q
            exact q
          exact op_once pins s σ H _ y v u Q I rx ry ⟨p, vs, rfl, ib.int, by rw [hK]; exact f.sq, q _ _ (new_val (.tup p vs _ f g))⟩
        · have hl := g.length
          refine op_repT pins s σ H _ y v u Q I rx ry ⟨p, j, vs, rfl, ib.int, by rw [hK]; exact f.sq, fun z => ?_, by omega, by omega, by omega, fun l hl => ?_⟩
          · subst z
            exact hz.2.2.2.2 ((g.nil_iff).mp rfl)
          · exact q _ _ (new_tup hm (g.times _) hl)
      · cases e
    · split at e
      · rename_i hz
        cases e
        obtain ⟨p, vs, rfl, f, g⟩ := ia.lst
        rw [b0] at hz
        refine op_repL pins s σ H _ y v u Q I rx ry ⟨p, _, vs, rfl, ib.int, by rw [hK]; exact f, hz.2.1, hz.2.2, ?_, fun l hl => ?_⟩
        · rw [g.length]
          exact Nat.le_trans hz.1 cap_line
        · exact q _ _ (new_lst (g.times _) hl)
      · cases e
  | fdiv =>
    cases a <;> cases b <;> simp only [binD, reduceCtorEq] at e
    · split at e
      · rename_i hz
        cases e
        exact op_fdiv pins s σ H x y v u Q I rx ry ⟨_, _, ia.int, ib.int, hz, q _ _ (new_val (.int _))⟩
      · cases e
  | mod =>
    cases a <;> cases b <;> simp only [binD, reduceCtorEq] at e
    · split at e
      · rename_i hz
        cases e
        exact op_mod pins s σ H x y v u Q I rx ry ⟨_, _, ia.int, ib.int, hz, q _ _ (new_val (.int _))⟩
      · cases e
  | pow =>
    cases a <;> cases b <;> simp only [binD, reduceCtorEq] at e
    · split at e
      · rename_i hz
        cases e
        refine op_pow pins s σ H x y v u Q I rx ry ⟨_, _, ia.int, ib.int, ⟨hz.1, by omega, ?_⟩, q _ _ (new_val (.int _))⟩
        have h64 : M64 = 18446744073709551616 := rfl
        omega
      · cases e
end
/-! ### comparing -/
mutual
def toPy : D → PyData
  | .non => .none
  | .bl b => .bool b
  | .int i => .int i
  | .str s => .str (sv s)
  | .tup xs => .tuple (toPys xs)
  | .lst xs => .list (toPys xs)
  | .dic _ => .none
  | .map _ => .none
  | .fn _ => .none
  | .exn _ => .none
def toPys : List D → List PyData
  | [] => []
  | x :: xs => toPy x :: toPys xs
end
mutual
theorem IsD.dp {K : PySem.W.Frag} {H : Hp} {M : AP} : ∀ {v : V} {d : D} {n : Nat}, IsD K H M v d → D.okd n d = true → Dp K H v (toPy d)
  | _, _, _, .non, _ => .non
  | _, _, _, .bl b, _ => .bl b
  | _, _, _, .int i, _ => .int i
  | _, _, _, .str s _, _ => .str _
  | _, _, 0, .tup a vs ds f h, e => by simp [D.okd] at e
  | _, _, n + 1, .tup a vs ds f h, e => .tup f.sq (IsDs.dp (n := n) h (by simpa [D.okd] using e))
  | _, _, 0, .lst a vs ds f h, e => by simp [D.okd] at e
  | _, _, n + 1, .lst a vs ds f h, e => .lst f.sq (IsDs.dp (n := n) h (by simpa [D.okd] using e))
  | _, _, n, .dic a ts g m q, e => by cases n <;> simp [D.okd] at e
theorem IsDs.dp {K : PySem.W.Frag} {H : Hp} {M : AP} : ∀ {vs : List V} {ds : List D} {n : Nat}, IsDs K H M vs ds → D.okds n ds = true → DpAll K H vs (toPys ds)
  | _, _, _, .nil, _ => .nil
  | _, _, n, .cons v vs d ds h t, e => by
    have e' : D.okd n d = true ∧ D.okds n ds = true := by simpa [D.okds] using e
    exact .cons (IsD.dp h e'.1) (IsDs.dp t e'.2)
end
theorem IsR.dp {G : Ct} {H : Hp} {M : AP} {v : V} {d : D} (h : IsR G H M v d) (e : D.okd dep d = true) : Dp G.K H v (toPy d) := by
  rcases h with h | ⟨a, vs, ds, rfl, rfl, h1, h2⟩
  · exact h.dp e
  · exact .lst (SqL.of h1) (h2.dp (n := 59) (by simpa [D.okd, dep] using e))
theorem sv_ok {s : List Nat} (h : GoodS s) : PySem.PyData.strOk (sv s) = true := by
  unfold PySem.PyData.strOk sv
  rw [List.all_toArray]
  exact List.all_eq_true.mpr fun c hc => decide_eq_true (h.2 c hc)
mutual
theorem IsD.lay {K : PySem.W.Frag} {H : Hp} {M : AP} : ∀ {v : V} {d : D} {n : Nat}, IsD K H M v d → D.okd n d = true → (toPy d).canLay0 = true ∧ (toPy d).depth ≤ n
  | _, _, _, .non, _ => ⟨rfl, Nat.zero_le _⟩
  | _, _, _, .bl b, _ => ⟨rfl, Nat.zero_le _⟩
  | _, _, _, .int i, _ => ⟨rfl, Nat.zero_le _⟩
  | _, _, _, .str s g, _ => ⟨sv_ok g, Nat.zero_le _⟩
  | _, _, 0, .tup a vs ds f h, e => by simp [D.okd] at e
  | _, _, n + 1, .tup a vs ds f h, e => by
    have q := IsDs.lay (n := n) h (by simpa [D.okd] using e)
    exact ⟨q.1, Nat.succ_le_succ q.2⟩
  | _, _, n, .dic a ts g m q, e => by cases n <;> simp [D.okd] at e
  | _, _, 0, .lst a vs ds f h, e => by simp [D.okd] at e
  | _, _, n + 1, .lst a vs ds f h, e => by
    have q := IsDs.lay (n := n) h (by simpa [D.okd] using e)
    exact ⟨q.1, Nat.succ_le_succ q.2⟩
theorem IsDs.lay {K : PySem.W.Frag} {H : Hp} {M : AP} : ∀ {vs : List V} {ds : List D} {n : Nat}, IsDs K H M vs ds → D.okds n ds = true → PySem.PyData.canLayAll0 (toPys ds) = true ∧ PySem.PyData.depthAll (toPys ds) ≤ n
  | _, _, _, .nil, _ => ⟨rfl, Nat.zero_le _⟩
  | _, _, n, .cons v vs d ds h t, e => by
    have e' : D.okd n d = true ∧ D.okds n ds = true := by simpa [D.okds] using e
    have q1 := IsD.lay h e'.1
    have q2 := IsDs.lay t e'.2
    refine ⟨?_, ?_⟩
    · show ((toPy d).canLay0 && PySem.PyData.canLayAll0 (toPys ds)) = true
      rw [q1.1, q2.1]
      rfl
    · exact Nat.max_le.mpr ⟨q1.2, q2.2⟩
end
theorem IsR.shaped {G : Ct} {H : Hp} {M : AP} {v : V} {d : D} (h : IsR G H M v d) (e : D.okd dep d = true) : SeqAt.shaped (toPy d) = true := by
  have q : (toPy d).canLay0 = true ∧ (toPy d).depth ≤ dep := by
    rcases h with h | ⟨a, vs, ds, rfl, rfl, h1, h2⟩
    · exact h.lay e
    · have q := IsDs.lay (n := 59) h2 (by simpa [D.okd, dep] using e)
      exact ⟨q.1, Nat.succ_le_succ q.2⟩
  unfold SeqAt.shaped
  rw [q.1, Bool.true_and]
  exact decide_eq_true (Nat.le_trans q.2 (by decide))
theorem sv_beq (x y : List Nat) : (sv x == sv y) = (x == y) := by
  by_cases h : x = y
  · subst h
    simp
  · have h' : sv x ≠ sv y := fun e => h (sv_inj e)
    rw [beq_eq_false_iff_ne.mpr h, beq_eq_false_iff_ne.mpr h']
mutual
theorem eqv_py : ∀ (a b : D) (n m : Nat), D.okd n a = true → D.okd m b = true → (toPy a).eqv (toPy b) = D.eqv a b
  | .tup xs, .tup ys, n + 1, m + 1, ha, hb => eqvs_py xs ys n m ha hb
  | .lst xs, .lst ys, n + 1, m + 1, ha, hb => eqvs_py xs ys n m ha hb
  | .tup xs, .tup ys, n + 1, 0, ha, hb => absurd hb (by simp [D.okd])
  | .lst xs, .lst ys, n + 1, 0, ha, hb => absurd hb (by simp [D.okd])
  | .tup xs, b, 0, m, ha, hb => absurd ha (by simp [D.okd])
  | .lst xs, b, 0, m, ha, hb => absurd ha (by simp [D.okd])
  | .dic _, b, n, m, ha, hb => absurd ha (by simp [D.okd])
  | .map _, b, n, m, ha, hb => absurd ha (by simp [D.okd])
  | .fn _, b, n, m, ha, hb => absurd ha (by simp [D.okd])
  | .exn _, b, n, m, ha, hb => absurd ha (by simp [D.okd])
  | .tup xs, .non, n + 1, m, ha, hb => rfl
  | .tup xs, .bl _, n + 1, m, ha, hb => rfl
  | .tup xs, .int _, n + 1, m, ha, hb => rfl
  | .tup xs, .str _, n + 1, m, ha, hb => rfl
  | .tup xs, .lst _, n + 1, m, ha, hb => rfl
  | .tup xs, .dic _, n + 1, m, ha, hb => absurd hb (by simp [D.okd])
  | .tup xs, .map _, n + 1, m, ha, hb => absurd hb (by simp [D.okd])
  | .tup xs, .fn _, n + 1, m, ha, hb => absurd hb (by simp [D.okd])
  | .tup xs, .exn _, n + 1, m, ha, hb => absurd hb (by simp [D.okd])
  | .lst xs, .non, n + 1, m, ha, hb => rfl
  | .lst xs, .bl _, n + 1, m, ha, hb => rfl
  | .lst xs, .int _, n + 1, m, ha, hb => rfl
  | .lst xs, .str _, n + 1, m, ha, hb => rfl
  | .lst xs, .tup _, n + 1, m, ha, hb => rfl
  | .lst xs, .dic _, n + 1, m, ha, hb => absurd hb (by simp [D.okd])
  | .lst xs, .map _, n + 1, m, ha, hb => absurd hb (by simp [D.okd])
  | .lst xs, .fn _, n + 1, m, ha, hb => absurd hb (by simp [D.okd])
  | .lst xs, .exn _, n + 1, m, ha, hb => absurd hb (by simp [D.okd])
  | .non, b, n, m, ha, hb => by cases b <;> first | rfl | exact sv_beq _ _ | exact absurd hb (by simp [D.okd])
  | .bl _, b, n, m, ha, hb => by cases b <;> first | rfl | exact sv_beq _ _ | exact absurd hb (by simp [D.okd])
  | .int _, b, n, m, ha, hb => by cases b <;> first | rfl | exact sv_beq _ _ | exact absurd hb (by simp [D.okd])
  | .str _, b, n, m, ha, hb => by cases b <;> first | rfl | exact sv_beq _ _ | exact absurd hb (by simp [D.okd])
theorem eqvs_py : ∀ (a b : List D) (n m : Nat), D.okds n a = true → D.okds m b = true → PySem.PyData.eqvAll (toPys a) (toPys b) = D.eqvs a b
  | [], [], _, _, _, _ => rfl
  | [], _ :: _, _, _, _, _ => rfl
  | _ :: _, [], _, _, _, _ => rfl
  | x :: xs, y :: ys, n, m, ha, hb => by
    have ha' : D.okd n x = true ∧ D.okds n xs = true := by simpa [D.okds] using ha
    have hb' : D.okd m y = true ∧ D.okds m ys = true := by simpa [D.okds] using hb
    show ((toPy x).eqv (toPy y) && PySem.PyData.eqvAll (toPys xs) (toPys ys)) = (D.eqv x y && D.eqvs xs ys)
    rw [eqv_py x y n m ha'.1 hb'.1, eqvs_py xs ys n m ha'.2 hb'.2]
end

def copOf : Cop → CmpOp
  | .eq => .Eq
  | .ne => .NotEq
  | .lt => .Lt
  | .le => .LtE
  | .gt => .Gt
  | .ge => .GtE
  | .is_ => .Is
  | .isnot => .IsNot
  | .in_ => .In
  | .notin => .NotIn
theorem okds_toPys : ∀ (ys : List D) (n : Nat), D.okds n ys = true → ∀ (a : D) (m : Nat), D.okd m a = true → ((toPys ys).any fun z => z.eqv (toPy a)) = inD a ys
  | [], _, _, _, _, _ => rfl
  | y :: ys, n, h, a, m, ha => by
    have h' : D.okd n y = true ∧ D.okds n ys = true := by simpa [D.okds] using h
    show ((toPy y).eqv (toPy a) || (toPys ys).any fun z => z.eqv (toPy a)) = (D.eqv y a || inD a ys)
    rw [eqv_py y a n m h'.1 ha, okds_toPys ys n h'.2 a m ha]
theorem flat_ok {K : PySem.W.Frag} {H : Hp} {M : AP} {v : V} {d : D} (h : IsD K H M v d) (e : D.okd 0 d = true) : flatV v = true := by
  cases h <;> first | rfl | (simp [D.okd] at e)
theorem flat_eq {K : PySem.W.Frag} {H : Hp} {M : AP} {v w : V} {d c : D} (h : IsD K H M v d) (k : IsD K H M w c) (e : D.okd 0 d = true) (f : D.okd 0 c = true) : eqV v w = D.eqv d c := by
  cases h <;> cases k <;> first | rfl | exact sv_beq _ _ | (simp [D.okd] at e) | (simp [D.okd] at f)
/-- a comparison upon data -/
def rCmp (G : Ct) (o : Cop) : R2 := fun x y H Q => ∃ M a b d, IsR G H M x a ∧ IsR G H M y b ∧ cmpD o a b = some d ∧ Q (.bl d) H
theorem IsR.isD_of {G : Ct} {H : Hp} {M : AP} {v : V} {d : D} (h : IsR G H M v d) (n : ∀ ds, d ≠ .lst ds) : IsD G.K H M v d := by
  rcases h with h | ⟨_, _, ds, _, e, _⟩
  · exact h
  · exact absurd e (n ds)
theorem IsR.nonE {G : Ct} {H : Hp} {M : AP} {v : V} {d : D} (h : IsR G H M v d) : decide (v = .non) = isNon d := by
  rcases h with h | ⟨a, vs, ds, rfl, rfl, _⟩
  · cases h <;> rfl
  · rfl
theorem inV_eq {K : PySem.W.Frag} {H : Hp} {M : AP} {w : V} {c : D} (k : IsD K H M w c) (f : D.okd 0 c = true) : ∀ {vs : List V} {ds : List D}, IsDs K H M vs ds → D.okds 0 ds = true → inV w vs = inD c ds ∧ vs.all flatV = true
  | _, _, .nil, _ => ⟨rfl, rfl⟩
  | _, _, .cons v vs d ds h t, e => by
    have e' : D.okd 0 d = true ∧ D.okds 0 ds = true := by simpa [D.okds] using e
    have q := inV_eq k f t e'.2
    refine ⟨?_, ?_⟩
    · show (eqV v w || inV w vs) = (D.eqv d c || inD c ds)
      rw [q.1, flat_eq h k e'.1 f]
    · show (flatV v && vs.all flatV) = true
      rw [q.2, flat_ok h e'.1]
      rfl
theorem sv_one (c : Nat) : sv [c] = ⟨#[c]⟩ := rfl
theorem mem_sv (c : Nat) (y : List Nat) : decide (c ∈ (sv y).cps.toList) = y.contains c := by
  unfold sv
  rw [List.contains_eq_mem]
mutual
theorem py_plain : ∀ (a : D) (n : Nat), D.okd n a = true → (toPy a).plain = true
  | .non, _, _ => rfl
  | .bl _, _, _ => rfl
  | .int _, _, _ => rfl
  | .str _, _, _ => rfl
  | .tup xs, n + 1, h => py_plains xs n h
  | .lst xs, n + 1, h => py_plains xs n h
  | .tup xs, 0, h => absurd h (by simp [D.okd])
  | .lst xs, 0, h => absurd h (by simp [D.okd])
  | .dic _, _, h => absurd h (by simp [D.okd])
  | .map _, _, h => absurd h (by simp [D.okd])
  | .fn _, _, h => absurd h (by simp [D.okd])
  | .exn _, _, h => absurd h (by simp [D.okd])
theorem py_plains : ∀ (a : List D) (n : Nat), D.okds n a = true → PyData.plainAll (toPys a) = true
  | [], _, _ => rfl
  | x :: xs, n, h => by
    have h' : D.okd n x = true ∧ D.okds n xs = true := by simpa [D.okds] using h
    show ((toPy x).plain && PyData.plainAll (toPys xs)) = true
    rw [py_plain x n h'.1, py_plains xs n h'.2]
    rfl
end
mutual
theorem py_depth : ∀ (a : D) (n : Nat), D.okd n a = true → (toPy a).depth ≤ n
  | .non, _, _ => Nat.zero_le _
  | .bl _, _, _ => Nat.zero_le _
  | .int _, _, _ => Nat.zero_le _
  | .str _, _, _ => Nat.zero_le _
  | .tup xs, n + 1, h => Nat.succ_le_succ (py_depths xs n h)
  | .lst xs, n + 1, h => Nat.succ_le_succ (py_depths xs n h)
  | .tup xs, 0, h => absurd h (by simp [D.okd])
  | .lst xs, 0, h => absurd h (by simp [D.okd])
  | .dic _, _, h => absurd h (by simp [D.okd])
  | .map _, _, h => absurd h (by simp [D.okd])
  | .fn _, _, h => absurd h (by simp [D.okd])
  | .exn _, _, h => absurd h (by simp [D.okd])
theorem py_depths : ∀ (a : List D) (n : Nat), D.okds n a = true → PyData.depthAll (toPys a) ≤ n
  | [], _, _ => Nat.zero_le _
  | x :: xs, n, h => by
    have h' : D.okd n x = true ∧ D.okds n xs = true := by simpa [D.okds] using h
    exact Nat.max_le.mpr ⟨py_depth x n h'.1, py_depths xs n h'.2⟩
end
mutual
theorem py_alike : ∀ (a b : D), D.alike a b = true → PySem.W.alike (toPy a) (toPy b) = true
  | .tup xs, .tup ys, h => py_alikes xs ys h
  | .lst xs, .lst ys, h => py_alikes xs ys h
  | .non, b, h => by cases b <;> first | rfl | cases h
  | .bl _, b, h => by cases b <;> first | rfl | cases h
  | .int _, b, h => by cases b <;> first | rfl | cases h
  | .str _, b, h => by cases b <;> first | rfl | cases h
theorem py_alikes : ∀ (a b : List D), D.alikes a b = true → PySem.W.alikeAll (toPys a) (toPys b) = true
  | [], _, _ => by
    show PySem.W.alikeAll [] _ = true
    simp [PySem.W.alikeAll]
  | _ :: _, [], _ => rfl
  | x :: xs, y :: ys, h => by
    have h' : D.alike x y = true ∧ D.alikes xs ys = true := by simpa [D.alikes] using h
    show (PySem.W.alike (toPy x) (toPy y) && PySem.W.alikeAll (toPys xs) (toPys ys)) = true
    rw [py_alike x y h'.1, py_alikes xs ys h'.2]
    rfl
end
mutual
theorem alike_comm : ∀ a b : D, D.alike a b = D.alike b a
  | .tup xs, .tup ys => alikes_comm xs ys
  | .lst xs, .lst ys => alikes_comm xs ys
  | .tup xs, b => by cases b <;> first | exact alikes_comm _ _ | rfl
  | .lst xs, b => by cases b <;> first | exact alikes_comm _ _ | rfl
  | .non, b => by cases b <;> rfl
  | .bl _, b => by cases b <;> rfl
  | .int _, b => by cases b <;> rfl
  | .str _, b => by cases b <;> rfl
  | .dic _, b => by cases b <;> rfl
  | .map _, b => by cases b <;> rfl
  | .fn _, b => by cases b <;> rfl
  | .exn _, b => by cases b <;> rfl
theorem alikes_comm : ∀ a b : List D, D.alikes a b = D.alikes b a
  | [], [] => rfl
  | [], _ :: _ => rfl
  | _ :: _, [] => rfl
  | x :: xs, y :: ys => by
    show (D.alike x y && D.alikes xs ys) = (D.alike y x && D.alikes ys xs)
    rw [alike_comm x y, alikes_comm xs ys]
end
theorem lt_nil : PyProof.Rows.lexLt PyProof.Rows.itemOrd (PySem.W.keyToksAll []) (PySem.W.keyToksAll []) = false := by decide +kernel
mutual
theorem py_lt : ∀ (a b : D) (n m : Nat), D.okd n a = true → D.okd m b = true → D.alike a b = true → PySem.W.dataLt (toPy a) (toPy b) = D.lt a b
  | .tup xs, .tup ys, n + 1, m + 1, ha, hb, h => (PySem.W.dataLt_tuple _ _).trans (py_lts xs ys n m ha hb h)
  | .lst xs, .lst ys, n + 1, m + 1, ha, hb, h => (PySem.W.dataLt_list _ _).trans (py_lts xs ys n m ha hb h)
  | .tup xs, _, 0, _, ha, _, _ => absurd ha (by simp [D.okd])
  | .lst xs, _, 0, _, ha, _, _ => absurd ha (by simp [D.okd])
  | .tup xs, .tup ys, n + 1, 0, ha, hb, h => absurd hb (by simp [D.okd])
  | .lst xs, .lst ys, n + 1, 0, ha, hb, h => absurd hb (by simp [D.okd])
  | .non, b, n, m, ha, hb, h => by cases b <;> first | rfl | cases h
  | .bl _, b, n, m, ha, hb, h => by cases b <;> first | exact PySem.W.dataLt_bool _ _ | cases h
  | .int _, b, n, m, ha, hb, h => by cases b <;> first | exact PySem.W.dataLt_int _ _ | cases h
  | .str _, b, n, m, ha, hb, h => by cases b <;> first | exact PySem.W.dataLt_str _ _ | cases h
theorem py_lts : ∀ (a b : List D) (n m : Nat), D.okds n a = true → D.okds m b = true → D.alikes a b = true → PyProof.Rows.lexLt PyProof.Rows.itemOrd (PySem.W.keyToksAll (toPys a)) (PySem.W.keyToksAll (toPys b)) = D.lts a b
  | [], [], _, _, _, _, _ => lt_nil
  | [], y :: ys, _, _, _, _, _ => by
    show PyProof.Rows.lexLt PyProof.Rows.itemOrd (PySem.W.keyToksAll []) (PySem.W.keyToksAll (toPy y :: toPys ys)) = true
    rw [PySem.W.toks_all_cons, PySem.W.keyToksAll, PyProof.Rows.lex_diff (O := PyProof.Rows.itemOrd) (by simp)]
    rfl
  | x :: xs, [], _, _, _, _, _ => by
    show PyProof.Rows.lexLt PyProof.Rows.itemOrd (PySem.W.keyToksAll (toPy x :: toPys xs)) (PySem.W.keyToksAll []) = false
    rw [PySem.W.toks_all_cons, PySem.W.keyToksAll, PyProof.Rows.lex_diff (O := PyProof.Rows.itemOrd) (by simp)]
    rfl
  | x :: xs, y :: ys, n, m, ha, hb, h => by
    have h' : D.alike x y = true ∧ D.alikes xs ys = true := by simpa [D.alikes] using h
    have ha' : D.okd n x = true ∧ D.okds n xs = true := by simpa [D.okds] using ha
    have hb' : D.okd m y = true ∧ D.okds m ys = true := by simpa [D.okds] using hb
    show PyProof.Rows.lexLt PyProof.Rows.itemOrd (PySem.W.keyToksAll (toPy x :: toPys xs)) (PySem.W.keyToksAll (toPy y :: toPys ys)) = if D.eqv x y then D.lts xs ys else D.lt x y
    rw [PySem.W.dataLt_cons (py_alike x y h'.1), eqv_py x y n m ha'.1 hb'.1, py_lts xs ys n m ha'.2 hb'.2 h'.2, py_lt x y n m ha'.1 hb'.1 h'.1]
end
theorem op_in {X : Cx} (G : Ct) (hK : X.K = G.K) (hu : X.A.units + 65 < cLine) : OpR X (compareOp .In) (fun x y H Q => ∃ M a b d, IsR G H M x a ∧ IsR G H M y b ∧ inOf a b = some d ∧ Q (.bl d) H) := by
  intro pins s σ H x y v u Q I rx ry ⟨M, a, b, d, ia, ib, e, q⟩
  cases b with
  | lst ys =>
    simp only [inOf] at e
    split at e
    · rename_i h
      cases e
      have h' : D.okd dep a = true ∧ D.okd dep (.lst ys) = true := by simpa using h
      refine op_inD hu pins s σ H x y v u Q I rx ry ⟨toPy a, toPys ys, by rw [hK]; exact ia.dp h'.1, by rw [hK]; exact ib.dp h'.2, ia.shaped h'.1, ib.shaped h'.2, ?_⟩
      rw [okds_toPys ys 59 h'.2 a dep h'.1]
      exact q
    · cases e
  | tup ys =>
    simp only [inOf] at e
    split at e
    · rename_i h
      cases e
      have h' : D.okd dep a = true ∧ D.okd dep (.tup ys) = true := by simpa using h
      obtain ⟨as, r1⟩ := Dp.reads I (toPy a) x v (by rw [hK]; exact ia.dp h'.1) rx
      obtain ⟨bs, r2⟩ := Dp.reads I (.tuple (toPys ys)) y u (by rw [hK]; exact ib.dp h'.2) ry
      refine PySem.SeqAt.in_tuple_data r2 r1 (py_plains ys 59 h'.2) (py_plain a dep h'.1) ?_ ⟨.bl _, H, I, rfl, ?_⟩
      · have w := py_depth a dep h'.1
        have w2 := py_depth (.tup ys) dep h'.2
        have w3 : dep = 60 := rfl
        omega
      · rw [okds_toPys ys 59 h'.2 a dep h'.1]
        exact q
    · cases e
  | str z =>
    simp only [inOf] at e
    split at e
    · cases e
      refine op_in_sign pins s σ H x y v u Q I rx ry ⟨_, sv z, ia.str.1, ib.str.1, ?_⟩
      rw [mem_sv]
      exact q
    · cases e
  | _ => simp only [inOf, reduceCtorEq] at e
theorem op_notin {X : Cx} (G : Ct) (hK : X.K = G.K) (hu : X.A.units + 65 < cLine) : OpR X (compareOp .NotIn) (fun x y H Q => ∃ M a b d, IsR G H M x a ∧ IsR G H M y b ∧ inOf a b = some d ∧ Q (.bl (!d)) H) := by
  intro pins s σ H x y v u Q I rx ry ⟨M, a, b, d, ia, ib, e, q⟩
  cases b with
  | lst ys =>
    simp only [inOf] at e
    split at e
    · rename_i h
      cases e
      have h' : D.okd dep a = true ∧ D.okd dep (.lst ys) = true := by simpa using h
      refine op_notInD hu pins s σ H x y v u Q I rx ry ⟨toPy a, toPys ys, by rw [hK]; exact ia.dp h'.1, by rw [hK]; exact ib.dp h'.2, ia.shaped h'.1, ib.shaped h'.2, ?_⟩
      rw [okds_toPys ys 59 h'.2 a dep h'.1]
      exact q
    · cases e
  | tup ys =>
    simp only [inOf] at e
    split at e
    · rename_i h
      cases e
      have h' : D.okd dep a = true ∧ D.okd dep (.tup ys) = true := by simpa using h
      obtain ⟨as, r1⟩ := Dp.reads I (toPy a) x v (by rw [hK]; exact ia.dp h'.1) rx
      obtain ⟨bs, r2⟩ := Dp.reads I (.tuple (toPys ys)) y u (by rw [hK]; exact ib.dp h'.2) ry
      refine PySem.SeqAt.notIn_tuple_data r2 r1 (py_plains ys 59 h'.2) (py_plain a dep h'.1) ?_ ⟨.bl _, H, I, rfl, ?_⟩
      · have w := py_depth a dep h'.1
        have w2 := py_depth (.tup ys) dep h'.2
        have w3 : dep = 60 := rfl
        omega
      · rw [okds_toPys ys 59 h'.2 a dep h'.1]
        exact q
    · cases e
  | str z =>
    simp only [inOf] at e
    split at e
    · cases e
      refine op_notIn_sign pins s σ H x y v u Q I rx ry ⟨_, sv z, ia.str.1, ib.str.1, ?_⟩
      rw [mem_sv]
      exact q
    · cases e
  | _ => simp only [inOf, reduceCtorEq] at e
theorem is_cases {a b : D} {d : Bool} (e : isOf a b = some d) : (b = .non ∧ d = isNon a) ∨ ∃ x y, a = .bl x ∧ b = .bl y ∧ d = (x == y) := by
  cases b <;> simp only [isOf, reduceCtorEq] at e
  · cases e
    exact .inl ⟨rfl, rfl⟩
  · split at e
    · cases e
      exact .inr ⟨_, _, rfl, rfl, rfl⟩
    · cases e
theorem cmpI_some {o : Int → Int → Bool} {g : D → D → Bool} {a b : D} {d : Bool} (e : cmpI o g a b = some d) : (∃ i j, a = .int i ∧ b = .int j ∧ d = o i j) ∨ (cmpOk a b = true ∧ d = g a b) := by
  unfold cmpI at e
  split at e
  · cases e
    exact .inl ⟨_, _, rfl, rfl, rfl⟩
  · split at e
    · cases e
      exact .inr ⟨by assumption, rfl⟩
    · cases e
theorem cmpOk_use {X : Cx} {G : Ct} (hK : X.K = G.K) {pins : List (Addr × Obj)} {s : Shared} {σ : St} {H : Hp} {M : AP} {x y : V} {v u : Value} {a b : D} (I : L2.Inv X pins σ H s) (rx : RelV x v) (ry : RelV y u) (ia : IsR G H M x a) (ib : IsR G H M y b) (hu : X.A.units + 65 < cLine) (h : cmpOk a b = true) :
    (∃ as, Reads s.heap v (toPy a) as) ∧ (∃ bs, Reads s.heap u (toPy b) bs) ∧ PySem.W.alike (toPy a) (toPy b) = true ∧ toPy a ≠ .none ∧ X.A.units + min (toPy a).depth (toPy b).depth < cLine ∧ PySem.W.dataLt (toPy a) (toPy b) = D.lt a b ∧ PySem.W.dataLt (toPy b) (toPy a) = D.lt b a := by
  unfold cmpOk at h
  simp only [Bool.and_eq_true, Bool.not_eq_true'] at h
  obtain ⟨⟨⟨h1, h2⟩, h3⟩, h4⟩ := h
  have w := py_depth a dep h1
  have w3 : dep = 60 := rfl
  refine ⟨Dp.reads I (toPy a) x v (by rw [hK]; exact ia.dp h1) rx, Dp.reads I (toPy b) y u (by rw [hK]; exact ib.dp h2) ry, py_alike a b h3, fun z => ?_, by omega, py_lt a b dep dep h1 h2 h3, ?_⟩
  · cases a <;> first | (simp [isNon] at h4; done) | (simp [toPy] at z; done) | (simp [D.alike] at h3; done)
  · have h5 : D.alike b a = true := (alike_comm b a).trans h3
    exact py_lt b a dep dep h2 h1 h5
theorem op_cmp {X : Cx} (G : Ct) (hK : X.K = G.K) (hu : X.A.units + 65 < cLine) (o : Cop) : OpR X (compareOp (copOf o)) (rCmp G o) := by
  intro pins s σ H x y v u Q I rx ry ⟨M, a, b, d, ia, ib, e, q⟩
  have deepE : (D.okd dep a && D.okd dep b) = true → SeqAt.shaped (toPy a) = true ∧ SeqAt.shaped (toPy b) = true ∧ (toPy a).eqv (toPy b) = D.eqv a b := fun h => by
    have h' : D.okd dep a = true ∧ D.okd dep b = true := by simpa using h
    exact ⟨ia.shaped h'.1, ib.shaped h'.2, eqv_py a b dep dep h'.1 h'.2⟩
  have nonY : b = .non → y = .non := fun z => by
    subst z
    have h := ib.isD_of (fun ds z => by cases z)
    cases h
    rfl
  cases o with
  | eq =>
    simp only [cmpD] at e
    split at e
    · rename_i h
      cases e
      obtain ⟨h1, h2, h3⟩ := deepE h
      refine op_eqD (by omega) pins s σ H x y v u Q I rx ry ⟨toPy a, toPy b, by rw [hK]; exact ia.dp (by simp only [Bool.and_eq_true] at h; exact h.1), by rw [hK]; exact ib.dp (by simp only [Bool.and_eq_true] at h; exact h.2), h1, h2, ?_⟩
      rw [h3]
      exact q
    · cases e
  | ne =>
    simp only [cmpD] at e
    split at e
    · rename_i h
      cases e
      obtain ⟨h1, h2, h3⟩ := deepE h
      refine op_neD (by omega) pins s σ H x y v u Q I rx ry ⟨toPy a, toPy b, by rw [hK]; exact ia.dp (by simp only [Bool.and_eq_true] at h; exact h.1), by rw [hK]; exact ib.dp (by simp only [Bool.and_eq_true] at h; exact h.2), h1, h2, ?_⟩
      rw [h3]
      exact q
    · cases e
  | lt =>
    rcases cmpI_some e with ⟨i, j, rfl, rfl, rfl⟩ | ⟨h, rfl⟩
    · exact op_lt pins s σ H x y v u Q I rx ry ⟨_, _, ia.int, ib.int, q⟩
    · obtain ⟨⟨as, r1⟩, ⟨bs, r2⟩, h1, h2, h3, h4, h5⟩ := cmpOk_use hK I rx ry ia ib hu h
      refine PySem.W.lt_data r1 r2 h1 h2 h3 ⟨.bl _, H, I, rfl, ?_⟩
      first | rw [h4] | rw [h5]
      exact q
  | le =>
    rcases cmpI_some e with ⟨i, j, rfl, rfl, rfl⟩ | ⟨h, rfl⟩
    · exact op_le pins s σ H x y v u Q I rx ry ⟨_, _, ia.int, ib.int, q⟩
    · obtain ⟨⟨as, r1⟩, ⟨bs, r2⟩, h1, h2, h3, h4, h5⟩ := cmpOk_use hK I rx ry ia ib hu h
      refine PySem.W.le_data r1 r2 h1 h2 h3 ⟨.bl _, H, I, rfl, ?_⟩
      first | rw [h4] | rw [h5]
      exact q
  | gt =>
    rcases cmpI_some e with ⟨i, j, rfl, rfl, rfl⟩ | ⟨h, rfl⟩
    · exact op_gt pins s σ H x y v u Q I rx ry ⟨_, _, ia.int, ib.int, q⟩
    · obtain ⟨⟨as, r1⟩, ⟨bs, r2⟩, h1, h2, h3, h4, h5⟩ := cmpOk_use hK I rx ry ia ib hu h
      refine PySem.W.gt_data r1 r2 h1 h2 h3 ⟨.bl _, H, I, rfl, ?_⟩
      first | rw [h4] | rw [h5]
      exact q
  | ge =>
    rcases cmpI_some e with ⟨i, j, rfl, rfl, rfl⟩ | ⟨h, rfl⟩
    · exact op_ge pins s σ H x y v u Q I rx ry ⟨_, _, ia.int, ib.int, q⟩
    · obtain ⟨⟨as, r1⟩, ⟨bs, r2⟩, h1, h2, h3, h4, h5⟩ := cmpOk_use hK I rx ry ia ib hu h
      refine PySem.W.ge_data r1 r2 h1 h2 h3 ⟨.bl _, H, I, rfl, ?_⟩
      first | rw [h4] | rw [h5]
      exact q
  | is_ =>
    rcases is_cases e with ⟨rfl, rfl⟩ | ⟨i, j, rfl, rfl, rfl⟩
    · refine op_isN pins s σ H x y v u Q I rx ry ⟨nonY rfl, ?_⟩
      rw [ia.nonE]
      exact q
    · refine op_is_bl pins s σ H x y v u Q I rx ry ⟨_, _, ia.bl, ib.bl, ?_⟩
      rw [← Bool.beq_eq_decide_eq]
      exact q
  | isnot =>
    obtain ⟨d', e1, e2⟩ := Option.map_eq_some_iff.mp (show (isOf a b).map (!·) = some d from e)
    subst e2
    rcases is_cases e1 with ⟨rfl, rfl⟩ | ⟨i, j, rfl, rfl, rfl⟩
    · refine op_notN pins s σ H x y v u Q I rx ry ⟨nonY rfl, ?_⟩
      rw [ia.nonE]
      exact q
    · refine op_isnot_bl pins s σ H x y v u Q I rx ry ⟨_, _, ia.bl, ib.bl, ?_⟩
      rw [← Bool.beq_eq_decide_eq]
      exact q
  | in_ => exact op_in G hK hu pins s σ H x y v u Q I rx ry ⟨M, a, b, d, ia, ib, e, q⟩
  | notin =>
    obtain ⟨d', e1, e2⟩ := Option.map_eq_some_iff.mp (show (inOf a b).map (!·) = some d from e)
    subst e2
    exact op_notin G hK hu pins s σ H x y v u Q I rx ry ⟨M, a, b, d', ia, ib, e1, q⟩
end Ev

/-! sorted(x) of anything that is gathered; min, max -/
namespace Ev
open PySem PySem.W PyProof.Rows L2
theorem general_lt (x y : Value) : keyLt' general' x y = oneLt' false x y := rfl
section
variable {prog : Program} {w : World} {A : Around} {E : Value → Shared → Prop} {s : Shared}
/-- one thing alone -/
theorem sorts_one {v : Value} {d : PyData} {as : List Addr} (r : Reads s.heap v d as) (h1 : PySem.W.alike d d = true) (h2 : d ≠ .none) (hu : A.units + d.depth < cLine) : SortsAt prog w A s (dataKind s.heap [d]) [v] := by
  have al : AllAlike [d] := fun x hx y hy => by
    rw [List.mem_singleton] at hx hy
    rw [hx, hy]
    exact h1
  refine ⟨fun u hu => ?_, general', fun E x y a b Q ha hb q => ?_, fun h => absurd h (by simp)⟩
  · rw [List.mem_singleton] at hu
    rw [hu]
    exact ⟨_, dataKind_some al (List.mem_singleton.mpr rfl) r⟩
  · obtain ⟨d1, as1, m1, r1, rfl⟩ := dataKind_inv ha
    obtain ⟨d2, as2, m2, r2, rfl⟩ := dataKind_inv hb
    rw [List.mem_singleton] at m1 m2
    subst m1 m2
    rw [general_lt]
    exact oneLt_alike (fun z => by cases z) r1 r2 h1 h2 (by rw [Nat.min_self]; exact hu) q
/-- sorted(x), whatever x is: its items are gathered, then sorted -/
theorem sorted_col {x : Value} {Q : Value → Shared → Prop} {Col : Shared → List Value → Prop} {R : Value → D → Prop}
    (hc : ∀ (Q' : List Value → Shared → Prop) (E' : Value → Shared → Prop), (∀ s1 vs, Col s1 vs → Q' vs s1) → wpAny (model prog w) A.in1 (collect x) Q' E' s)
    (h : ∀ s1 vs, Col s1 vs → ∃ bs : List D, vs.length ≤ sizeLine ∧ EachIs R vs bs ∧ EachIs (fun v b => ∃ as, Reads s1.heap v (toPy b) as) vs bs ∧ AllAlike (bs.map toPy) ∧ (Sortable (bs.map toPy) ∨ ∃ b, bs = [b] ∧ toPy b ≠ .none) ∧
      (∀ b, b ∈ bs → A.units + 2 + (toPy b).depth < cLine) ∧ ∀ s' out c, s' = { s1 with heap := s'.heap } → (∀ b o, s1.heap.get? b = some o → s'.heap.get? b = some o) → s'.heap.get? s1.heap.objs.size = some (seqObj "list" (List.toArray out) c) → out.length = bs.length → EachIs R out (bs.mergeSort (dataLe false toPy)) → Q (.ref s1.heap.objs.size) s') :
    wpAny (model prog w) A (PySem.call (.builtin "sorted") [x]) Q E s := by
  refine Calls.call_function_entry kind_sorted plain_sorted entry_sorted (args_sorted1 _) ?_
  unfold Builtin.«sorted»
  refine wpAny_bind (m := checkCount "sorted" 1 1 _) (wpAny_pure ?_)
  refine wpAny_bind (hc _ _ fun s1 vs col => ?_)
  obtain ⟨bs, hL, e, er, hal, hk, hu, q⟩ := h s1 vs col
  refine wpAny_bind (wpAny_newList ?_ hL)
  have hoL : (s1.heap.push (seqObj "list" vs.toArray 0)).get? s1.heap.objs.size = some (seqObj "list" vs.toArray 0) := Heap.get?_push_size _ rfl
  have keep : ∀ b o, s1.heap.get? b = some o → (sortingHeap (s1.heap.push (seqObj "list" vs.toArray 0)) s1.heap.objs.size vs).get? b = some o := fun b o z =>
    sortingHeap_old (Nat.ne_of_lt (Heap.lt_size z)) (Heap.get?_push_of_some _ z)
  have er' : EachIs (fun v b => ∃ as, Reads (sortingHeap (s1.heap.push (seqObj "list" vs.toArray 0)) s1.heap.objs.size vs) v (toPy b) as) vs bs := er.mono fun _ _ ⟨as, r⟩ => ⟨as, PyProof.Rows.Reads.keeps keep r⟩
  have S : SortsAt prog w A.in1.in1 { s1 with heap := sortingHeap (s1.heap.push (seqObj "list" vs.toArray 0)) s1.heap.objs.size vs } (dataKind (sortingHeap (s1.heap.push (seqObj "list" vs.toArray 0)) s1.heap.objs.size vs) (bs.map toPy)) vs := by
    rcases hk with hk | ⟨b, rfl, hn⟩
    · exact SortsAt.data (s := { s1 with heap := sortingHeap (s1.heap.push (seqObj "list" vs.toArray 0)) s1.heap.objs.size vs }) (each_map (R := fun v d => ∃ as, Reads (sortingHeap (s1.heap.push (seqObj "list" vs.toArray 0)) s1.heap.objs.size vs) v d as) toPy er') hal hk (bound_map hu)
    · cases er' with
      | cons h1 t =>
        cases t
        obtain ⟨as, r⟩ := h1
        exact sorts_one (s := { s1 with heap := sortingHeap _ s1.heap.objs.size _ }) r (hal _ (List.mem_singleton.mpr rfl) _ (List.mem_singleton.mpr rfl)) hn (hu b (List.mem_singleton.mpr rfl))
  refine wpAny_bind (wpAny_holding (wpAny_call_entry slot_list_sort ⟨_, hoL, rfl⟩ entry_list_sort ?body (args_list_sort _)))
  case body =>
    refine list_sort_vals (s := { s1 with heap := s1.heap.push (seqObj "list" vs.toArray 0) }) hoL S hL ⟨_, rfl, wpAny_pure ⟨_, rfl, ?_⟩⟩
    obtain ⟨c, hc⟩ := sortedHeap_at (vs := vs) (out := (sortVals (dataKind (sortingHeap (s1.heap.push (seqObj "list" vs.toArray 0)) s1.heap.objs.size vs) (bs.map toPy)) false vs vs).toArray) hoL
    refine q _ _ c rfl (fun b o z => ?_) hc (by rw [sortVals_length false rfl]; exact e.length) (sortVals_data false e er' hal)
    have hlt := Heap.lt_size z
    show (sortedHeap (s1.heap.push (seqObj "list" vs.toArray 0)) s1.heap.objs.size vs _).get? b = some o
    rw [sortedHeap_old (Nat.ne_of_lt hlt) (by rw [size_push']; exact Nat.lt_succ_of_lt hlt)]
    exact Heap.get?_push_of_some _ z
end
theorem sort_congr {α : Type} {l : List α} {r q : α → α → Bool} (h : ∀ a ∈ l, ∀ b ∈ l, r a b = q a b) : l.mergeSort r = l.mergeSort q := by
  have e := List.map_mergeSort (f := id) (r := r) (s := q) (l := l) h
  simpa using e
theorem okds_mem : ∀ {s : List D} {n : Nat}, D.okds n s = true → ∀ x ∈ s, D.okd n x = true
  | [], _, _, _, h => by cases h
  | y :: s, n, h, x, hx => by
    have h' : D.okd n y = true ∧ D.okds n s = true := by simpa [D.okds] using h
    rcases List.mem_cons.mp hx with rfl | hx
    · exact h'.1
    · exact okds_mem h'.2 x hx
theorem le_py {s : List D} {n : Nat} (h : D.okds n s = true) (ha : ∀ x ∈ s, ∀ y ∈ s, D.alike x y = true) : s.mergeSort (dataLe false toPy) = s.mergeSort D.le := by
  refine sort_congr fun a hx b hy => ?_
  show (!dataLt (toPy b) (toPy a)) = !D.lt b a
  rw [py_lt b a n n (okds_mem h b hy) (okds_mem h a hx) (ha b hy a hx)]
/-- what a value of the machine stands for -/
def Stands (K : PySem.W.Frag) (H : Hp) (M : AP) (v : Value) (d : D) : Prop := ∃ x, RelV x v ∧ IsD K H M x d
theorem stands_each {K : PySem.W.Frag} {H : Hp} {M : AP} : ∀ {vs : List V} {us : List Value} {ds : List D}, Vals vs us → IsDs K H M vs ds → EachIs (Stands K H M) us ds
  | _, _, _, .nil, .nil => .nil
  | _, _, _, .cons r t, .cons _ _ _ _ h q => .cons ⟨_, r, h⟩ (stands_each t q)
theorem stands_back {K : PySem.W.Frag} {H : Hp} {M : AP} : ∀ {us : List Value} {ds : List D}, EachIs (Stands K H M) us ds → ∃ vs, Vals vs us ∧ IsDs K H M vs ds
  | _, _, .nil => ⟨[], .nil, .nil⟩
  | _, _, .cons ⟨x, r, h⟩ t => by
    obtain ⟨vs, h1, h2⟩ := stands_back t
    exact ⟨x :: vs, .cons r h1, .cons _ _ _ _ h h2⟩
theorem stands_reads {X : Cx} {G : Ct} (hK : X.K = G.K) {pins : List (Addr × Obj)} {σ : L2.St} {H : Hp} {M : AP} {s : Shared} (I : L2.Inv X pins σ H s) {n : Nat} : ∀ {us : List Value} {ds : List D}, EachIs (Stands G.K H M) us ds → D.okds n ds = true → EachIs (fun v b => ∃ as, Reads s.heap v (toPy b) as) us ds
  | _, _, .nil, _ => .nil
  | _, _, .cons ⟨x, r, h⟩ t, e => by
    have e' := e
    simp only [D.okds, Bool.and_eq_true] at e'
    exact .cons (Dp.reads I _ x _ (by rw [hK]; exact h.dp e'.1) r) (stands_reads hK I t e'.2)
theorem sortOk_use {s : List D} (h : sortOk s = true) : s.length ≤ cap ∧ D.okds 40 s = true ∧ (∀ x ∈ s, ∀ y ∈ s, D.alike x y = true) ∧ Sortable (s.map toPy) := by
  unfold sortOk at h
  simp only [Bool.and_eq_true, decide_eq_true_eq, List.all_eq_true, Bool.or_eq_true] at h
  obtain ⟨⟨⟨h1, h2⟩, h3⟩, h4⟩ := h
  refine ⟨h1, h2, h3, ?_⟩
  rcases h4 with h4 | h4
  · refine .inl fun d hd => ?_
    obtain ⟨b, hb, rfl⟩ := List.mem_map.mp hd
    have q := h4 b hb
    unfold isTup1 at q
    split at q
    · exact ⟨_, _, rfl⟩
    · cases q
  · refine .inr fun d hd => ?_
    obtain ⟨b, hb, rfl⟩ := List.mem_map.mp hd
    have q := h4 b hb
    have k := okds_mem h2 b hb
    cases b <;> first | (simp [noTup] at q; done) | (simp [D.okd] at k; done) | exact ⟨fun z => by simp [toPy] at z, fun xs z => by simp [toPy] at z⟩
mutual
theorem alike_eq : ∀ (a b : D), D.alike a b = true → D.eqv a b = true → a = b
  | .tup xs, .tup ys, h, e => by rw [alikes_eq xs ys h e]
  | .lst xs, .lst ys, h, e => by rw [alikes_eq xs ys h e]
  | .non, b, h, e => by cases b <;> first | rfl | (simp [D.alike] at h; done)
  | .bl _, b, h, e => by cases b <;> first | (simp [D.alike] at h; done) | (simp [D.eqv] at e; rw [e]; done)
  | .int _, b, h, e => by cases b <;> first | (simp [D.alike] at h; done) | (simp [D.eqv] at e; rw [e]; done)
  | .str _, b, h, e => by cases b <;> first | (simp [D.alike] at h; done) | (simp [D.eqv] at e; rw [e]; done)
theorem alikes_eq : ∀ (a b : List D), D.alikes a b = true → D.eqvs a b = true → a = b
  | [], [], _, _ => rfl
  | [], _ :: _, _, e => by simp [D.eqvs] at e
  | _ :: _, [], _, e => by simp [D.eqvs] at e
  | x :: xs, y :: ys, h, e => by
    have h' : D.alike x y = true ∧ D.alikes xs ys = true := by simpa [D.alikes] using h
    have e' : D.eqv x y = true ∧ D.eqvs xs ys = true := by simpa [D.eqvs] using e
    rw [alike_eq x y h'.1 e'.1, alikes_eq xs ys h'.2 e'.2]
end
/-- neither is less: they are the same -/
theorem anti_py {a b : D} {n m : Nat} (ha : D.okd n a = true) (hb : D.okd m b = true) (h : D.alike a b = true) (h1 : dataLt (toPy a) (toPy b) = false) (h2 : dataLt (toPy b) (toPy a) = false) : a = b := by
  have te : keyToks (toPy a) = keyToks (toPy b) := by
    rcases Classical.em (keyToks (toPy a) = keyToks (toPy b)) with z | z
    · exact z
    · exact absurd ((listOrd itemOrd).total (keyToks (toPy a)) (keyToks (toPy b)) h1 h2) z
  refine alike_eq a b h ?_
  cases e : D.eqv a b with
  | true => rfl
  | false =>
    rw [← eqv_py a b n m ha hb] at e
    have q := (toks_eqv (toPy a) (toPy b) (py_alike a b h)).2 e [] [Sum.inl 0]
    rw [te, lex_pre] at q
    have r : PyProof.Rows.lexLt itemOrd [] [Sum.inl 0] = true := rfl
    rw [r] at q
    rw [lex_irrefl] at q
    cases q
theorem sorted_eq {α : Type} {le : α → α → Prop} : ∀ {l1 l2 : List α}, (∀ a ∈ l1, ∀ b ∈ l1, le a b → le b a → a = b) → l1.Perm l2 → l1.Pairwise le → l2.Pairwise le → l1 = l2
  | [], l2, _, p, _, _ => p.nil_eq
  | x :: l1, [], _, p, _, _ => by simpa using p.length_eq
  | x :: l1, y :: l2, an, p, s1, s2 => by
    have hx : x ∈ y :: l2 := p.mem_iff.mp (List.mem_cons_self ..)
    have hy : y ∈ x :: l1 := p.mem_iff.mpr (List.mem_cons_self ..)
    have e : x = y := by
      rcases List.mem_cons.mp hx with z | z
      · exact z
      · rcases List.mem_cons.mp hy with q | q
        · exact q.symm
        · exact an x (List.mem_cons_self ..) y hy ((List.pairwise_cons.mp s1).1 y q) ((List.pairwise_cons.mp s2).1 x z)
    subst e
    rw [sorted_eq (fun a ha b hb => an a (List.mem_cons_of_mem _ ha) b (List.mem_cons_of_mem _ hb)) p.cons_inv (List.pairwise_cons.mp s1).2 (List.pairwise_cons.mp s2).2]
theorem sort_perm_eq {a b : List D} {n : Nat} (p : a.Perm b) (h : D.okds n b = true) (ha : ∀ x ∈ b, ∀ y ∈ b, D.alike x y = true) : a.mergeSort (dataLe false toPy) = b.mergeSort (dataLe false toPy) := by
  have T := sortLe_total (listOrd itemOrd) false (fun d : D => keyToks (toPy d))
  have ss : ∀ l : List D, (l.mergeSort (dataLe false toPy)).Pairwise (fun x y => dataLe false toPy x y = true) := fun l => sort_pairwise T l
  refine sorted_eq (le := fun x y => dataLe false toPy x y = true) (fun x hx y hy h1 h2 => ?_) (((List.mergeSort_perm a _).trans p).trans (List.mergeSort_perm b _).symm) (ss a) (ss b)
  have mx := p.mem_iff.mp ((List.mergeSort_perm a _).mem_iff.mp hx)
  have my := p.mem_iff.mp ((List.mergeSort_perm a _).mem_iff.mp hy)
  have g1 : (!dataLt (toPy y) (toPy x)) = true := h1
  have g2 : (!dataLt (toPy x) (toPy y)) = true := h2
  exact anti_py (okds_mem h x mx) (okds_mem h y my) (ha x mx y my) (by simpa using g2) (by simpa using g1)
theorem okds_of {n : Nat} : ∀ {l : List D}, (∀ x ∈ l, D.okd n x = true) → D.okds n l = true
  | [], _ => rfl
  | x :: l, h => by
    show (D.okd n x && D.okds n l) = true
    rw [h x (List.mem_cons_self ..), okds_of fun y hy => h y (List.mem_cons_of_mem _ hy)]
    rfl
theorem obj_there {P : Program} {w : World} {H : Hp} {h : Heap} {a : Addr} : ∀ {o : HO}, ObjOk P w H h a o → ∃ u, h.get? a = some u
  | .lst xs, x => by obtain ⟨_, _, _, _, e⟩ := x; exact ⟨_, e⟩
  | .tup xs, x => by obtain ⟨_, _, _, _, e, _⟩ := x; exact ⟨_, e⟩
  | .dK kvs, x => by obtain ⟨_, _, _, _, o, _, _, e, _⟩ := x; exact ⟨_, e⟩
  | .dT kvs, x => by obtain ⟨_, _, _, _, o, _, _, e, _⟩ := x; exact ⟨_, e⟩
  | .set S n, x => by obtain ⟨o, _, _, _, e, _⟩ := x; exact ⟨_, e⟩
  | .ins C dx fs, x => by obtain ⟨_, _, _, e, _⟩ := x; exact ⟨_, e⟩
  | .own y, x => x
  | .xd fs, x => by obtain ⟨_, ⟨_, _, _, e, _⟩, _⟩ := x; exact ⟨_, e⟩
  | .rng lo hi, x => by obtain ⟨_, _, _, e⟩ := x; exact ⟨_, e⟩
  | .frz ob u, x => ⟨_, x.1⟩
  | .tbl ps, x => ⟨_, x⟩
  | .met f y, x => ⟨_, x⟩
  | .ext φ, x => x.2.1
theorem hok_free {P : Program} {w : World} {H : Hp} {h : Heap} {a : Addr} (x : HOk P w H h) (e : h.get? a = none) : H a = none := by
  cases q : H a with
  | none => rfl
  | some u =>
    obtain ⟨v, hv⟩ := obj_there (x a u q)
    rw [e] at hv
    cases hv
/-- an address where nothing stood -/
theorem un_new {fs ex : List Addr} {H : Hp} {h h' : Heap} {a : Addr} {o : HO} (k : ∀ b u, h.get? b = some u → h'.get? b = some u) (hp : h.get? a = none) (hn : H a = none) : Un fs ex H (upd H a o) h h' := by
  have ne : ∀ b u, h.get? b = some u → b ≠ a := fun b u q z => by
    rw [z, hp] at q
    cases q
  refine ⟨fun b u q _ _ _ => k b u q, fun b u q _ _ _ => ⟨u.slots, k b u q⟩, fun b u q n _ => ?_, fun b u q _ => ⟨u, k b u q⟩, fun b xs q => ?_, fun b u xs q => ?_, fun b ps q => ⟨#[], ?_⟩⟩
  · rw [upd_ne (ne b u q)]
    exact n
  · rw [upd_ne (ne_of_none q hn)]
    exact q
  · rw [upd_ne (ne_of_none q hn)]
    exact q
  · rw [upd_ne (ne_of_none q hn), q]
    simp
theorem hok_new {P : Program} {w : World} {H : Hp} {h h' : Heap} {a : Addr} {o : HO} (x : HOk P w H h) (k : ∀ b u, h.get? b = some u → h'.get? b = some u) (hp : h.get? a = none) (new : ObjOk P w (upd H a o) h' a o) : HOk P w (upd H a o) h' := fun b u e => by
  have hn := hok_free x hp
  by_cases hb : b = a
  · rw [hb, upd_same] at e
    cases e
    rw [hb]
    exact new
  · rw [upd_ne hb] at e
    refine (x b u e).stay (fun c v _ q => k c v q) (fun c q => ?_) fun c xs q => ?_
    · rw [upd_ne (ne_of_none q hn)]
      exact q
    · rw [upd_ne (ne_of_none q hn)]
      exact q
theorem get_none {h h' : Heap} (k : ∀ b u, h.get? b = some u → h'.get? b = some u) : h.get? h'.objs.size = none := by
  cases e : h.get? h'.objs.size with
  | none => rfl
  | some u => exact absurd (Heap.lt_size (k _ _ e)) (Nat.lt_irrefl _)
/-- what is asked of the gathered things, and what then stands there -/
theorem sorted_any {X : Cx} {G : Ct} (hK : X.K = G.K) (hu : X.A.units + 65 < cLine) {pins : List (Addr × Obj)} {σ : L2.St} {H : Hp} {M : AP} {s : Shared} {Q : VK} (I : L2.Inv X pins σ H s) {x : Value} {ds ss : List D} (hm : ∀ c, M c → H c ≠ none) (es : sortG ds = some (.lst ss, true))
    (hc : ∀ (Q' : List Value → Shared → Prop) (E' : Value → Shared → Prop), (∀ h' g' dr' tk' vs, (∀ b o, s.heap.get? b = some o → h'.get? b = some o) → g' = s.gens → (∃ ds', ds'.Perm ds ∧ EachIs (Stands G.K H M) vs ds') → Q' vs { s with heap := h', gens := g', drawn := dr', toks := tk' }) → wpAny (model X.prog X.w) X.A.in1 (collect x) Q' E' s)
    (q : ∀ v H', New G.K H H' M v (.lst ss) true → Q v H') : wpAny (model X.prog X.w) X.A (PySem.call (.builtin "sorted") [x]) (EP X pins σ Q) X.xe s := by
  have key : ds.length ≤ cap ∧ D.okds 40 ds = true ∧ (∀ x ∈ ds, ∀ y ∈ ds, D.alike x y = true) ∧ (Sortable (ds.map toPy) ∨ ∃ b, ds = [b] ∧ toPy b ≠ .none) ∧ ss = ds.mergeSort D.le := by
    unfold sortG at es
    split at es
    · rename_i h
      obtain ⟨h1, h2, h3, h4⟩ := sortOk_use h
      exact ⟨h1, h2, h3, .inl h4, by cases es; rfl⟩
    · split at es
      · rename_i b _
        split at es
        · rename_i h
          cases es
          simp only [Bool.and_eq_true, Bool.not_eq_true'] at h
          refine ⟨by show 1 ≤ cap; decide, by simp [D.okds, h.1.1], fun x hx y hy => ?_, .inr ⟨b, rfl, fun z => ?_⟩, by simp⟩
          · rw [List.mem_singleton] at hx hy
            rw [hx, hy]
            exact h.1.2
          · obtain ⟨⟨k1, k2⟩, k3⟩ := h
            cases b <;> first | (simp [isNon] at k3; done) | (simp [toPy] at z; done) | (simp [D.alike] at k2; done)
        · cases es
      · cases es
  obtain ⟨h1, h2, h3, h4, h5⟩ := key
  refine sorted_col (Col := fun s1 vs => ∃ h' g' dr' tk', s1 = { s with heap := h', gens := g', drawn := dr', toks := tk' } ∧ (∀ b o, s.heap.get? b = some o → h'.get? b = some o) ∧ g' = s.gens ∧ ∃ ds', ds'.Perm ds ∧ EachIs (Stands G.K H M) vs ds') (R := Stands G.K H M) (fun Q' E' hq => hc Q' E' fun h' g' dr' tk' vs k1 k3 k4 => hq _ vs ⟨h', g', dr', tk', rfl, k1, k3, k4⟩) fun s1 vs ⟨h', g', dr', tk', e1, k1, k3, ds', pm, k4⟩ => ?_
  subst e1
  have h2' : D.okds 40 ds' = true := okds_of fun x hx => okds_mem h2 x (pm.mem_iff.mp hx)
  have er := (stands_reads hK I k4 h2').mono fun _ _ ⟨as, r⟩ => (⟨as, PyProof.Rows.Reads.keeps k1 r⟩ : ∃ as, Reads h' _ _ as)
  have pl := pm.length_eq
  have h4' : Sortable (ds'.map toPy) ∨ ∃ b, ds' = [b] ∧ toPy b ≠ .none := by
    rcases h4 with (h4 | h4) | ⟨b, rfl, h4⟩
    · exact .inl (.inl fun d hd => h4 d ((pm.map toPy).mem_iff.mp hd))
    · exact .inl (.inr fun d hd => h4 d ((pm.map toPy).mem_iff.mp hd))
    · exact .inr ⟨b, List.perm_singleton.mp pm, h4⟩
  refine ⟨ds', by rw [k4.length, pl]; exact Nat.le_trans h1 cap_line, k4, er, fun a ha b hb => ?_, h4', fun b hb => ?_, fun s' out c es' k5 k6 k7 k8 => ?_⟩
  · obtain ⟨a', ha', rfl⟩ := List.mem_map.mp ha
    obtain ⟨b', hb', rfl⟩ := List.mem_map.mp hb
    exact py_alike a' b' (h3 a' (pm.mem_iff.mp ha') b' (pm.mem_iff.mp hb'))
  · have w := py_depth b 40 (okds_mem h2' b hb)
    omega
  · rw [sort_perm_eq pm h2 h3, le_py h2 h3, ← h5] at k8
    obtain ⟨ws, r1, r2⟩ := stands_back k8
    have k2 := get_none k1
    have hn : H h'.objs.size = none := hok_free I.hok k2
    have hlen : ws.length ≤ sizeLine := by rw [r1.length, k7, pl]; exact Nat.le_trans h1 cap_line
    have kk : ∀ b o, s.heap.get? b = some o → s'.heap.get? b = some o := fun b o z => k5 b o (k1 b o z)
    have J : L2.Inv X pins σ (upd H h'.objs.size (.lst ws)) { s with heap := s'.heap, gens := g', drawn := dr', toks := tk' } :=
      I.call (ch := []) (un_new kk k2 hn) (hok_new I.hok kk k2 ⟨hlen, out, c, r1, k6⟩) (by rw [k3]; exact I.bare) (fun _ z => nomatch z)
    rw [es']
    exact ⟨.ref h'.objs.size, _, J, rfl, q _ _ (new_lst r2 hn)⟩
mutual
theorem py_inj : ∀ (a b : D) (n m : Nat), D.okd n a = true → D.okd m b = true → toPy a = toPy b → a = b
  | .tup xs, .tup ys, n + 1, m + 1, ha, hb, e => by
    rw [pys_inj xs ys n m ha hb (PyData.tuple.inj e)]
  | .lst xs, .lst ys, n + 1, m + 1, ha, hb, e => by
    rw [pys_inj xs ys n m ha hb (PyData.list.inj e)]
  | .tup xs, _, 0, _, ha, _, _ => absurd ha (by simp [D.okd])
  | .lst xs, _, 0, _, ha, _, _ => absurd ha (by simp [D.okd])
  | .tup xs, b, n + 1, 0, ha, hb, e => by cases b <;> first | (simp [D.okd] at hb; done) | (simp [toPy] at e; done)
  | .lst xs, b, n + 1, 0, ha, hb, e => by cases b <;> first | (simp [D.okd] at hb; done) | (simp [toPy] at e; done)
  | .tup xs, .non, n + 1, m + 1, ha, hb, e => by simp [toPy] at e
  | .tup xs, .bl _, n + 1, m + 1, ha, hb, e => by simp [toPy] at e
  | .tup xs, .int _, n + 1, m + 1, ha, hb, e => by simp [toPy] at e
  | .tup xs, .str _, n + 1, m + 1, ha, hb, e => by simp [toPy] at e
  | .tup xs, .lst _, n + 1, m + 1, ha, hb, e => by simp [toPy] at e
  | .lst xs, .non, n + 1, m + 1, ha, hb, e => by simp [toPy] at e
  | .lst xs, .bl _, n + 1, m + 1, ha, hb, e => by simp [toPy] at e
  | .lst xs, .int _, n + 1, m + 1, ha, hb, e => by simp [toPy] at e
  | .lst xs, .str _, n + 1, m + 1, ha, hb, e => by simp [toPy] at e
  | .lst xs, .tup _, n + 1, m + 1, ha, hb, e => by simp [toPy] at e
  | _, .dic _, _, _, _, hb, _ => absurd hb (by simp [D.okd])
  | _, .map _, _, _, _, hb, _ => absurd hb (by simp [D.okd])
  | _, .fn _, _, _, _, hb, _ => absurd hb (by simp [D.okd])
  | _, .exn _, _, _, _, hb, _ => absurd hb (by simp [D.okd])
  | .dic _, _, _, _, ha, _, _ => absurd ha (by simp [D.okd])
  | .map _, _, _, _, ha, _, _ => absurd ha (by simp [D.okd])
  | .fn _, _, _, _, ha, _, _ => absurd ha (by simp [D.okd])
  | .exn _, _, _, _, ha, _, _ => absurd ha (by simp [D.okd])
  | .non, b, n, m, ha, hb, e => by cases b <;> first | rfl | (simp [D.okd] at hb; done) | (simp [toPy] at e; done)
  | .bl _, b, n, m, ha, hb, e => by cases b <;> first | (simp [D.okd] at hb; done) | (simp [toPy] at e; done) | (rw [PyData.bool.inj e])
  | .int _, b, n, m, ha, hb, e => by cases b <;> first | (simp [D.okd] at hb; done) | (rw [PyData.int.inj e]) | (simp [toPy] at e; done)
  | .str _, b, n, m, ha, hb, e => by cases b <;> first | (simp [D.okd] at hb; done) | (rw [sv_inj (PyData.str.inj e)]) | (simp [toPy] at e; done)
theorem pys_inj : ∀ (a b : List D) (n m : Nat), D.okds n a = true → D.okds m b = true → toPys a = toPys b → a = b
  | [], [], _, _, _, _, _ => rfl
  | [], _ :: _, _, _, _, _, e => by cases e
  | _ :: _, [], _, _, _, _, e => by cases e
  | x :: xs, y :: ys, n, m, ha, hb, e => by
    have ha' : D.okd n x = true ∧ D.okds n xs = true := by simpa [D.okds] using ha
    have hb' : D.okd m y = true ∧ D.okds m ys = true := by simpa [D.okds] using hb
    have e1 : toPy x = toPy y ∧ toPys xs = toPys ys := List.cons.inj e
    rw [py_inj x y n m ha'.1 hb'.1 e1.1, pys_inj xs ys n m ha'.2 hb'.2 e1.2]
end
theorem toPys_map : ∀ xs : List D, toPys xs = xs.map toPy
  | [] => rfl
  | x :: xs => by
    show toPy x :: toPys xs = toPy x :: xs.map toPy
    rw [toPys_map xs]
theorem fold_best {f : PyData → PyData → Bool} {g : D → D → Bool} : ∀ (xs : List D) (x : D) (S : List D), (∀ a ∈ S, ∀ b ∈ S, f (toPy a) (toPy b) = g a b) → x ∈ S → (∀ y ∈ xs, y ∈ S) →
    (toPys xs).foldl (fun a y => if f a y then y else a) (toPy x) = toPy (xs.foldl (fun a y => if g a y then y else a) x) ∧ xs.foldl (fun a y => if g a y then y else a) x ∈ S
  | [], x, S, _, hx, _ => ⟨rfl, hx⟩
  | y :: xs, x, S, h, hx, hs => by
    have hy : y ∈ S := hs y (List.mem_cons_self ..)
    have e : (if f (toPy x) (toPy y) then toPy y else toPy x) = toPy (if g x y then y else x) := by
      rw [h x hx y hy]
      split <;> rfl
    show (toPys xs).foldl (fun a y => if f a y then y else a) (if f (toPy x) (toPy y) then toPy y else toPy x) = _ ∧ _
    rw [e]
    exact fold_best xs (if g x y then y else x) S h (by split <;> assumption) fun z hz => hs z (List.mem_cons_of_mem _ hz)
theorem bestOk_use {s : List D} (h : bestOk s = true) : D.okds 40 s = true ∧ (∀ x ∈ s, ∀ y ∈ s, D.alike x y = true) ∧ ∀ x ∈ s, toPy x ≠ .none := by
  unfold bestOk at h
  simp only [Bool.and_eq_true, List.all_eq_true, Bool.not_eq_true'] at h
  obtain ⟨⟨h1, h2⟩, h3⟩ := h
  refine ⟨h1, h2, fun x hx z => ?_⟩
  have k1 := h3 x hx
  have k2 := h2 x hx x hx
  cases x <;> first | (simp [isNon] at k1; done) | (simp [toPy] at z; done) | (simp [D.alike] at k2; done)
theorem each_at {R : Value → D → Prop} : ∀ {us : List Value} {ds : List D} {i : Nat} {v : Value}, EachIs R us ds → us[i]? = some v → ∃ d, ds[i]? = some d ∧ R v d
  | _, _, _, _, .nil, e => by simp at e
  | _, _, 0, _, .cons h t, e => by
    simp at e
    subst e
    exact ⟨_, by simp, h⟩
  | _, _, i + 1, v, .cons h t, e => by
    obtain ⟨d, h1, h2⟩ := each_at (i := i) (v := v) t (by simpa using e)
    exact ⟨d, by simpa using h1, h2⟩
/-- the least (greatest) of gathered data -/
theorem best_use {X : Cx} {G : Ct} (hK : X.K = G.K) (hu : X.A.units + 65 < cLine) {pins : List (Addr × Obj)} {σ : L2.St} {H : Hp} {M : AP} {s : Shared} {Q : VK} (I : L2.Inv X pins σ H s) {us : List Value} {vs : List V} {x : D} {xs : List D} (r : Vals vs us) (hd : IsDs G.K H M vs (x :: xs)) (hb : bestOk (x :: xs) = true)
    {f : PyData → PyData → Bool} {g : D → D → Bool} (hfg : ∀ a ∈ x :: xs, ∀ b ∈ x :: xs, f (toPy a) (toPy b) = g a b) (q : ∀ v, IsD G.K H M v (xs.foldl (fun a y => if g a y then y else a) x) → Q v H) :
    (∃ as, ReadsAll s.heap us (toPy x :: toPys xs) as) ∧ AlikeAll (toPy x :: toPys xs) ∧ X.A.units + 1 + PyData.depthAll (toPy x :: toPys xs) < cLine ∧
    ∀ (i : Nat) v h' tk bs, us[i]? = some v → Reads h' v ((toPys xs).foldl (fun a y => if f a y then y else a) (toPy x)) bs → (∀ b o, s.heap.get? b = some o → h'.get? b = some o) → EP X pins σ Q v { s with heap := h', toks := tk } := by
  obtain ⟨h1, h2, h3⟩ := bestOk_use hb
  obtain ⟨as, ra⟩ := Dp.readsAll I (toPys (x :: xs)) vs us (by rw [hK]; exact hd.dp h1) r
  refine ⟨⟨as, ra⟩, ⟨fun a ha b hb => ?_, fun a ha => ?_⟩, ?_, fun i v h' tk bs hv rd k => ?_⟩
  · have ha' : a ∈ (x :: xs).map toPy := by rw [← toPys_map]; exact ha
    have hb' : b ∈ (x :: xs).map toPy := by rw [← toPys_map]; exact hb
    obtain ⟨a', m1, rfl⟩ := List.mem_map.mp ha'
    obtain ⟨b', m2, rfl⟩ := List.mem_map.mp hb'
    exact py_alike a' b' (h2 a' m1 b' m2)
  · have ha' : a ∈ (x :: xs).map toPy := by rw [← toPys_map]; exact ha
    obtain ⟨a', m1, rfl⟩ := List.mem_map.mp ha'
    exact h3 a' m1
  · have w := py_depths (x :: xs) 40 h1
    have w2 : PyData.depthAll (toPy x :: toPys xs) ≤ 40 := w
    omega
  · obtain ⟨e1, m1⟩ := fold_best xs x (x :: xs) hfg (List.mem_cons_self ..) fun y hy => List.mem_cons_of_mem _ hy
    rw [e1] at rd
    obtain ⟨d, hd1, y, ry, iy⟩ := each_at (stands_each r hd) hv
    have md : d ∈ x :: xs := List.mem_of_getElem? hd1
    obtain ⟨as2, rd2⟩ := Dp.reads I (toPy d) y v (by rw [hK]; exact iy.dp (okds_mem h1 d md)) ry
    have e2 : toPy d = toPy (xs.foldl (fun a y => if g a y then y else a) x) := alike_unique _ _ v as2 bs (py_alike _ _ (h2 d md _ m1)) (PyProof.Rows.Reads.keeps k rd2) rd
    have e3 := py_inj _ _ 40 40 (okds_mem h1 d md) (okds_mem h1 _ m1) e2
    subst e3
    exact ⟨y, H, I.kept k, ry, q y iy⟩
end Ev

/-! built-in calls and methods over the layer -/
namespace Ev
open PySem L2
inductive IsRs (G : Ct) (H : Hp) (M : AP) : List V → List D → Prop
  | nil : IsRs G H M [] []
  | cons (v : V) (vs : List V) (d : D) (ds : List D) : IsR G H M v d → IsRs G H M vs ds → IsRs G H M (v :: vs) (d :: ds)
def rBi (G : Ct) (f : Bi) : List V → Hp → VK → Prop := fun vs H Q => ∃ M ds d fr, (∀ c, M c → H c ≠ none) ∧ IsRs G H M vs ds ∧ biD f ds = some (d, fr) ∧ ∀ v H', New G.K H H' M v d fr → Q v H'
def rMt (G : Ct) (f : Mt) : V → List V → Hp → VK → Prop := fun x vs H Q => ∃ M o ds d fr, (∀ c, M c → H c ≠ none) ∧ IsR G H M x o ∧ IsRs G H M vs ds ∧ mtD f o ds = some (d, fr) ∧ ∀ v H', New G.K H H' M v d fr → Q v H'
section
variable {X : Cx}
theorem IsRs.one {G : Ct} {H : Hp} {M : AP} {vs : List V} {d : D} (h : IsRs G H M vs [d]) : ∃ v, vs = [v] ∧ IsR G H M v d := by
  cases h with
  | cons v vs d ds h t =>
    cases t
    exact ⟨v, rfl, h⟩
/-- one argument -/
theorem one_of {f : D → Option (D × Bool)} {ds : List D} {x : D × Bool} (e : one f ds = some x) : ∃ d, ds = [d] ∧ f d = some x := by
  unfold one at e
  split at e
  · exact ⟨_, rfl, e⟩
  · cases e
theorem ok_len (G : Ct) (hK : X.K = G.K) : CallR X (.builtin "len") (rBi G .len) := by
  intro pins s σ H vs us Q I r ⟨M, ds, d, fr, hm, h, e0, q⟩
  obtain ⟨a, rfl, e⟩ := one_of (f := lenD) e0
  obtain ⟨v, rfl, hv⟩ := h.one
  cases a <;> simp only [lenD, tupleD, listD, allD, intD, absD, reduceCtorEq] at e <;> cases e
  · obtain ⟨rfl, g⟩ := hv.str
    refine call_len_str pins s σ H _ us Q I r ⟨_, rfl, good_len g, ?_⟩
    rw [sv_len]
    exact q _ _ (new_val (.int _))
  · obtain ⟨p, ws, rfl, f, g⟩ := hv.tup
    refine call_len_seq pins s σ H _ us Q I r ⟨p, ws, rfl, .inr (by rw [hK]; exact f.sq), ?_⟩
    rw [g.length]
    exact q _ _ (new_val (.int _))
  · obtain ⟨p, ws, rfl, f, g⟩ := hv.lst
    refine call_len_seq pins s σ H _ us Q I r ⟨p, ws, rfl, .inl (by rw [hK]; exact f), ?_⟩
    rw [g.length]
    exact q _ _ (new_val (.int _))
theorem ok_tuple (G : Ct) (hK : X.K = G.K) : CallR X (.type "tuple") (rBi G .tuple) := by
  intro pins s σ H vs us Q I r ⟨M, ds, d, fr, hm, h, e0, q⟩
  obtain ⟨a, rfl, e⟩ := one_of (f := tupleD) e0
  obtain ⟨v, rfl, hv⟩ := h.one
  cases a <;> simp only [lenD, tupleD, listD, allD, intD, absD, reduceCtorEq] at e <;> cases e
  · obtain ⟨p, ws, rfl, f, g⟩ := hv.tup
    exact call_tuple_of pins s σ H _ us Q I r ⟨p, ws, rfl, .inr ⟨by rw [hK]; exact f.sq, q _ _ (new_val (.tup p ws _ f g))⟩⟩
  · obtain ⟨p, ws, rfl, f, g⟩ := hv.lst
    exact call_tuple_of pins s σ H _ us Q I r ⟨p, ws, rfl, .inl ⟨by rw [hK]; exact f, fun l hl => q _ _ (new_tup hm g hl)⟩⟩
theorem vals_signs : ∀ (n : Nat) (acc : List Value) (x : List Nat), acc.length = x.length → (∀ (j : Nat) (v : Value), acc[j]? = some v → ∃ (c : Nat) (u : Tok), x[j]? = some c ∧ v = Value.str ⟨#[c]⟩ u) → Vals (x.map fun c => V.str (sv [c])) acc
  | _, [], [], _, _ => .nil
  | _, [], _ :: _, h, _ => by simp at h
  | _, _ :: _, [], h, _ => by simp at h
  | n, v :: acc, c :: x, h, k => by
    obtain ⟨c', u, e1, e2⟩ := k 0 v rfl
    have e1 : c = c' := by simpa using e1
    subst e1 e2
    exact .cons ⟨u, rfl⟩ (vals_signs n acc x (by simpa using h) fun j w hw => k (j + 1) w (by simpa using hw))
theorem isDs_signs {K : PySem.W.Frag} {H : Hp} {M : AP} {z : List Nat} (g : GoodS z) : ∀ x : List Nat, (∀ c ∈ x, c ∈ z) → IsDs K H M (x.map fun c => V.str (sv [c])) (x.map fun c => D.str [c])
  | [], _ => .nil
  | c :: x, h => .cons _ _ _ _ (.str [c] (good_one g (h c (by simp)))) (isDs_signs g x fun d hd => h d (by simp [hd]))
theorem ok_list (G : Ct) (hK : X.K = G.K) (hc : X.calm = true) : CallR X (.type "list") (rBi G .list) := by
  intro pins s σ H vs us Q I r ⟨M, ds, d, fr, hm, h, e0, q⟩
  obtain ⟨a, rfl, e⟩ := one_of (f := listD) e0
  obtain ⟨v, rfl, hv⟩ := h.one
  cases a <;> simp only [lenD, tupleD, listD, allD, intD, absD, reduceCtorEq] at e
  · cases e
    · obtain ⟨rfl, g⟩ := hv.str
      obtain ⟨u, rfl, ru⟩ := vals1 r
      obtain ⟨t, rfl⟩ := ru
      rename_i z
      refine PySem.call_list_str (I.ok.hd hc) (sv z) t (fun h' tk acc c' hk hS hacc => ?_) (by rw [← Str.length]; exact good_len g)
      have hz : (sv z).cps.size = z.length := by simp [sv]
      have l1 : acc.toList.length = z.length := by rw [Array.length_toList, hacc.1, hz]
      have rv : Vals (z.map fun c => V.str (sv [c])) acc.toList := vals_signs 0 _ _ l1 fun j v hv => by
        obtain ⟨c, u, h1, h2⟩ := hacc.2 j v (by simpa using hv)
        exact ⟨c, u, by simpa [sv] using h1, h2⟩
      refine ⟨.ref s.heap.objs.size, upd H s.heap.objs.size (.lst (z.map fun c => V.str (sv [c]))), I.laid hk (Nat.le_refl _) ⟨?_, acc.toList, c', rv, by simpa using hS⟩, rfl, q _ _ (new_lst (isDs_signs g z fun _ h => h) I.fresh)⟩
      rw [List.length_map]
      exact Nat.le_trans g.1 cap_line
  · cases e
    obtain ⟨p, ws, rfl, f, g⟩ := hv.tup
    exact call_list_of pins s σ H _ us Q I r ⟨p, ws, rfl, .inr (by rw [hK]; exact f.sq), fun l hl => q _ _ (new_lst g hl)⟩
  · cases e
    obtain ⟨p, ws, rfl, f, g⟩ := hv.lst
    exact call_list_of pins s σ H _ us Q I r ⟨p, ws, rfl, .inl (by rw [hK]; exact f), fun l hl => q _ _ (new_lst g hl)⟩
theorem bools_of {K : PySem.W.Frag} {H : Hp} {M : AP} : ∀ {vs : List V} {ds : List D} {bs : List Bool}, IsDs K H M vs ds → bools ds = some bs → vs = bs.map V.bl
  | _, _, _, .nil, e => by
    cases e
    rfl
  | _, _, bs, .cons v vs d ds h t, e => by
    cases d <;> simp only [bools, reduceCtorEq] at e
    obtain ⟨cs, e1, e2⟩ := Option.map_eq_some_iff.mp e
    subst e2
    cases h
    rw [bools_of t e1]
    rfl
theorem strs_of {K : PySem.W.Frag} {H : Hp} {M : AP} : ∀ {vs : List V} {ds : List D} {bs : List (List Nat)}, IsDs K H M vs ds → strs? ds = some bs → vs = (bs.map sv).map V.str ∧ ∀ b ∈ bs, GoodS b
  | _, _, _, .nil, e => by
    cases e
    exact ⟨rfl, fun _ h => by cases h⟩
  | _, _, bs, .cons v vs d ds h t, e => by
    cases d <;> simp only [strs?, reduceCtorEq] at e
    obtain ⟨cs, e1, e2⟩ := Option.map_eq_some_iff.mp e
    subst e2
    cases h with
    | str s g =>
      have q := strs_of t e1
      rw [q.1]
      exact ⟨rfl, fun b hb => (List.mem_cons.mp hb).elim (fun z => by subst z; exact g) (q.2 b)⟩
theorem ok_all (G : Ct) (hK : X.K = G.K) (hc : X.calm = true) : CallR X (.builtin "all") (rBi G .all) := by
  intro pins s σ H vs us Q I r ⟨M, ds, d, fr, hm, h, e0, q⟩
  obtain ⟨a, rfl, e⟩ := one_of (f := allD fun bs => bs.all id) e0
  obtain ⟨v, rfl, hv⟩ := h.one
  cases a <;> simp only [lenD, tupleD, listD, allD, intD, absD, reduceCtorEq] at e
  obtain ⟨bs, e1, e2⟩ := Option.map_eq_some_iff.mp e
  cases e2
  obtain ⟨p, ws, rfl, f, g⟩ := hv.lst
  have ew := bools_of g e1
  subst ew
  exact cr_all hc pins s σ H _ us Q I r ⟨p, bs, rfl, by rw [hK]; exact f, q _ _ (new_val (.bl _))⟩
theorem ok_any (G : Ct) (hK : X.K = G.K) (hc : X.calm = true) : CallR X (.builtin "any") (rBi G .any) := by
  intro pins s σ H vs us Q I r ⟨M, ds, d, fr, hm, h, e0, q⟩
  obtain ⟨a, rfl, e⟩ := one_of (f := allD fun bs => bs.any id) e0
  obtain ⟨v, rfl, hv⟩ := h.one
  cases a <;> simp only [lenD, tupleD, listD, allD, intD, absD, reduceCtorEq] at e
  obtain ⟨bs, e1, e2⟩ := Option.map_eq_some_iff.mp e
  cases e2
  obtain ⟨p, ws, rfl, f, g⟩ := hv.lst
  have ew := bools_of g e1
  subst ew
  exact cr_any hc pins s σ H _ us Q I r ⟨p, bs, rfl, by rw [hK]; exact f, q _ _ (new_val (.bl _))⟩
theorem ok_int (G : Ct) : CallR X (.type "int") (rBi G .int) := by
  intro pins s σ H vs us Q I r ⟨M, ds, d, fr, hm, h, e0, q⟩
  obtain ⟨a, rfl, e⟩ := one_of (f := intD) e0
  obtain ⟨v, rfl, hv⟩ := h.one
  cases a <;> simp only [lenD, tupleD, listD, allD, intD, absD, reduceCtorEq] at e <;> cases e
  · cases hv.bl
    exact call_int1 pins s σ H _ us Q I r (.inr ⟨_, rfl, q _ _ (new_val (.int _))⟩)
  · cases hv.int
    exact call_int1 pins s σ H _ us Q I r (.inl ⟨_, rfl, q _ _ (new_val (.int _))⟩)
theorem ok_abs (G : Ct) : CallR X (.builtin "abs") (rBi G .abs) := by
  intro pins s σ H vs us Q I r ⟨M, ds, d, fr, hm, h, e0, q⟩
  obtain ⟨a, rfl, e⟩ := one_of (f := absD) e0
  obtain ⟨v, rfl, hv⟩ := h.one
  cases a <;> simp only [lenD, tupleD, listD, allD, intD, absD, reduceCtorEq] at e <;> cases e
  cases hv.int
  exact call_abs pins s σ H _ us Q I r ⟨_, rfl, q _ _ (new_val (.int _))⟩
/-! isinstance -/
def tyOk : D → Bool
  | .dic _ => false
  | .map _ => false
  | .fn _ => false
  | .exn _ => false
  | _ => true
theorem IsR.ty {G : Ct} {H : Hp} {M : AP} {v : V} {d : D} (hK : X.K = G.K) (h : IsR G H M v d) (nd : tyOk d = true) : TyX X.K H v (.type (tyOf d)) := by
  rcases h with h | ⟨a, vs, ds, rfl, rfl, h1, _⟩
  · cases h with
    | non => exact .base .non
    | bl b => exact .base (.bl b)
    | int i => exact .base (.int i)
    | str s g => exact .base (.str _)
    | tup a vs ds f g =>
      rcases f with ⟨_, h | ⟨o, h⟩⟩ | ((h | ⟨o, h⟩) | ⟨o, its, n, h1, h2, _⟩)
      · exact .base (.tup h)
      · exact .fTuple h
      · cases h
      · cases h
      · rw [hK]
        exact .kTuple h1 h2
    | lst a vs ds f g =>
      rcases f with ⟨_, h | ⟨o, h⟩⟩ | ((h | ⟨o, h⟩) | ⟨o, its, n, h1, h2, _⟩)
      · exact .base (.lst h)
      · exact .base (.frz h)
      · cases h
      · cases h
      · rw [hK]
        exact .kList h1 h2
    | dic a ts g m e => cases nd
  · exact .base (.lst h1)
theorem IsRs.two {G : Ct} {H : Hp} {M : AP} {vs : List V} {d c : D} (h : IsRs G H M vs [d, c]) : ∃ v w, vs = [v, w] ∧ IsR G H M v d ∧ IsR G H M w c := by
  cases h with
  | cons v vs d ds h t =>
    obtain ⟨w, rfl, k⟩ := t.one
    exact ⟨v, w, rfl, h, k⟩
def tys : List String := ["int", "bool", "str", "tuple", "list", "dict"]
theorem kit_tab : (["NoneType", "bool", "int", "str", "tuple", "list"].all fun a => tys.all fun t => decide (kitB a t = some (a == t || (a == "bool" && t == "int")))) = true := by decide +kernel
theorem kit_all (d : D) (t : String) (ht : tys.contains t = true) (nd : tyOk d = true) : kitB (tyOf d) t = some (tyOf d == t || (tyOf d == "bool" && t == "int")) := by
  have hd : tyOf d ∈ ["NoneType", "bool", "int", "str", "tuple", "list"] := by
    cases d <;> first | (simp [tyOk] at nd; done) | simp [tyOf]
  have h1 := List.all_eq_true.mp kit_tab _ hd
  have h2 := List.all_eq_true.mp h1 t (by simpa using ht)
  exact of_decide_eq_true h2
/-- isinstance(x, T), T a built-in class -/
theorem ok_isa (G : Ct) (hK : X.K = G.K) (t : String) (ht : tys.contains t = true) : CallR X (.builtin "isinstance") (fun vs H Q => ∃ v, vs = [v, .ty t] ∧ rBi G (.isa t) [v] H Q) := by
  intro pins s σ H vs us Q I r ⟨v, ev, M, ds, d, fr, hm, h, e0, q⟩
  subst ev
  obtain ⟨a, rfl, e⟩ := one_of (f := isTy t) e0
  obtain ⟨v', e1, hv⟩ := h.one
  cases e1
  have nd : tyOk a = true := by cases a <;> first | rfl | cases e
  have e' : some (D.bl (tyOf a == t || (tyOf a == "bool" && t == "int")), false) = some (d, fr) := by
    cases a <;> first | exact e | (simp [tyOk] at nd; done)
  cases e'
  exact call_isi pins s σ H _ us Q I r ⟨v, .ty t, .type (tyOf a), .type t, _, rfl, .ty t, hv.ty hK nd, kit_ty (kit_all a t ht nd), q _ _ (new_val (.bl _))⟩
theorem join_sv (s : List Nat) (ys : List (List Nat)) : PySem.Txt.join (sv s) (ys.map sv) = sv (joinS s ys) := by
  have fold : ∀ (rest : List (List Nat)) (x : List Nat), (rest.map sv).foldl (fun acc p => acc ++ (sv s).cps ++ p.cps) x.toArray = (joinS s (x :: rest)).toArray := by
    intro rest
    induction rest with
    | nil =>
      intro x
      rfl
    | cons y rest ih =>
      intro x
      have ea : x.toArray ++ (sv s).cps ++ (sv y).cps = (x ++ s ++ y).toArray := by simp [sv]
      show (rest.map sv).foldl (fun acc p => acc ++ (sv s).cps ++ p.cps) (x.toArray ++ (sv s).cps ++ (sv y).cps) = _
      rw [ea, ih]
      congr 1
      cases rest with
      | nil => simp [joinS]
      | cons z rest => simp [joinS]
  cases ys with
  | nil => rfl
  | cons y ys =>
    show (⟨((y :: ys).map sv |>.drop 1).foldl (fun acc p => acc ++ (sv s).cps ++ p.cps) (sv y).cps⟩ : Str) = _
    have := fold ys y
    simp only [List.map_cons, List.drop_succ_cons, List.drop_zero]
    unfold sv at this ⊢
    rw [this]
theorem joinS_len (s : List Nat) : ∀ ys : List (List Nat), (joinS s ys).length ≤ (ys.map List.length).sum + ys.length * s.length
  | [] => Nat.zero_le _
  | [x] => by simp [joinS]
  | x :: y :: r => by
    have ih := joinS_len s (y :: r)
    simp only [joinS, List.length_append, List.map_cons, List.sum_cons, List.length_cons] at ih ⊢
    rw [Nat.succ_mul (r.length + 1)]
    omega
theorem joinS_mem (s : List Nat) : ∀ (ys : List (List Nat)) (c : Nat), c ∈ joinS s ys → c ∈ s ∨ ∃ y ∈ ys, c ∈ y
  | [], c, h => by cases h
  | [x], c, h => .inr ⟨x, by simp, h⟩
  | x :: y :: r, c, h => by
    simp only [joinS, List.mem_append] at h
    rcases h with h | h | h
    · exact .inr ⟨x, by simp, h⟩
    · exact .inl h
    · rcases joinS_mem s (y :: r) c h with q | ⟨z, h1, h2⟩
      · exact .inl q
      · exact .inr ⟨z, List.mem_cons_of_mem _ h1, h2⟩
theorem joinD_some {s : List Nat} {xs : List D} {x : D × Bool} (e : joinD s xs = some x) : ∃ ys, strs? xs = some ys ∧ (ys.map List.length).sum + ys.length * s.length ≤ cap ∧ x = (.str (joinS s ys), false) := by
  unfold joinD at e
  split at e
  · split at e
    · cases e
      exact ⟨_, by assumption, by assumption, rfl⟩
    · cases e
  · cases e
theorem join_good {s : List Nat} {ys : List (List Nat)} (gs : GoodS s) (gy : ∀ y ∈ ys, GoodS y) (h : (ys.map List.length).sum + ys.length * s.length ≤ cap) : GoodS (joinS s ys) :=
  ⟨Nat.le_trans (joinS_len s ys) h, fun c hc => (joinS_mem s ys c hc).elim (gs.2 c) fun ⟨y, h1, h2⟩ => (gy y h1).2 c h2⟩
theorem len_sv (ys : List (List Nat)) : ((ys.map sv).map (·.length)) = ys.map List.length := by
  induction ys with
  | nil => rfl
  | cons y ys ih => simp [sv_len, ih]
theorem ok_join (G : Ct) (hK : X.K = G.K) : MtR X "str.join" (rMt G .join) := by
  intro pins s σ H x xs v us Q I rx rs ⟨M, o, ds, d, fr, hm, ho, hs, e, q⟩
  have e : joinOf o ds = some (d, fr) := e
  unfold joinOf at e
  split at e
  · obtain ⟨ys, h1, h2, h3⟩ := joinD_some e
    cases h3
    obtain ⟨w, rfl, hw⟩ := hs.one
    obtain ⟨rfl, gs⟩ := ho.str
    obtain ⟨p, ws, rfl, f, g⟩ := hw.lst
    obtain ⟨rfl, gy⟩ := strs_of g h1
    refine mt_join pins s σ H _ _ v us Q I rx rs ⟨_, p, ys.map sv, rfl, rfl, .inl (by rw [hK]; exact f), ?_, ?_⟩
    · rw [len_sv, sv_len, List.length_map]
      exact Nat.le_trans h2 cap_line
    · rw [join_sv]
      exact q _ _ (new_val (.str _ (join_good gs gy h2)))
  · obtain ⟨ys, h1, h2, h3⟩ := joinD_some e
    cases h3
    obtain ⟨w, rfl, hw⟩ := hs.one
    obtain ⟨rfl, gs⟩ := ho.str
    obtain ⟨p, ws, rfl, f, g⟩ := hw.tup
    obtain ⟨rfl, gy⟩ := strs_of g h1
    refine mt_join pins s σ H _ _ v us Q I rx rs ⟨_, p, ys.map sv, rfl, rfl, .inr (by rw [hK]; exact f.sq), ?_, ?_⟩
    · rw [len_sv, sv_len, List.length_map]
      exact Nat.le_trans h2 cap_line
    · rw [join_sv]
      exact q _ _ (new_val (.str _ (join_good gs gy h2)))
  · cases e
/-! subscripts -/
/-! ### ints in a list -/
theorem ints_of {K : PySem.W.Frag} {H : Hp} {M : AP} : ∀ {vs : List V} {ds : List D} {is : List Int}, IsDs K H M vs ds → ints? ds = some is → vs = is.map V.int
  | _, _, _, .nil, e => by
    cases e
    rfl
  | _, _, _, .cons v vs d ds h t, e => by
    cases h with
    | int i =>
      obtain ⟨l, e1, e2⟩ := Option.map_eq_some_iff.mp (show (ints? ds).map (i :: ·) = some _ from e)
      subst e2
      rw [ints_of t e1]
      rfl
    | _ => cases e
theorem ints_data {K : PySem.W.Frag} {H : Hp} {M : AP} : ∀ is : List Int, IsDs K H M (is.map V.int) (is.map D.int)
  | [] => .nil
  | i :: is => .cons _ _ _ _ (.int i) (ints_data is)
theorem ints_len : ∀ {ds : List D} {is : List Int}, ints? ds = some is → is.length = ds.length
  | [], _, e => by
    cases e
    rfl
  | d :: ds, is, e => by
    cases d with
    | int i =>
      obtain ⟨l, e1, e2⟩ := Option.map_eq_some_iff.mp (show (ints? ds).map (i :: ·) = some _ from e)
      subst e2
      simp [ints_len e1]
    | _ => cases e
theorem minI_mem : ∀ (is : List Int) (m : Int), minI m is ∈ m :: is ∧ ∀ y, y ∈ m :: is → minI m is ≤ y
  | [], m => ⟨by simp [minI], fun y hy => by simp at hy; simp [minI, hy]⟩
  | i :: is, m => by
    obtain ⟨h1, h2⟩ := minI_mem is (if i < m then i else m)
    simp only [minI]
    refine ⟨?_, fun y hy => ?_⟩
    · by_cases h : i < m
      · rw [if_pos h] at h1 ⊢
        exact List.mem_cons_of_mem _ h1
      · rw [if_neg h] at h1 ⊢
        rcases List.mem_cons.mp h1 with z | z
        · rw [z]; simp
        · simp [z]
    · have h3 := h2 (if i < m then i else m) (List.mem_cons_self ..)
      have h4 : (i < m ∧ (if i < m then i else m) = i) ∨ (¬ i < m ∧ (if i < m then i else m) = m) ∨ (m < i ∧ (if i < m then i else m) = i) ∨ (¬ m < i ∧ (if i < m then i else m) = m) := by
        split <;> omega
      rcases List.mem_cons.mp hy with rfl | hy
      · omega
      · rcases List.mem_cons.mp hy with rfl | hy
        · omega
        · exact h2 y (List.mem_cons_of_mem _ hy)
theorem maxI_mem : ∀ (is : List Int) (m : Int), maxI m is ∈ m :: is ∧ ∀ y, y ∈ m :: is → y ≤ maxI m is
  | [], m => ⟨by simp [maxI], fun y hy => by simp at hy; simp [maxI, hy]⟩
  | i :: is, m => by
    obtain ⟨h1, h2⟩ := maxI_mem is (if m < i then i else m)
    simp only [maxI]
    refine ⟨?_, fun y hy => ?_⟩
    · by_cases h : m < i
      · rw [if_pos h] at h1 ⊢
        exact List.mem_cons_of_mem _ h1
      · rw [if_neg h] at h1 ⊢
        rcases List.mem_cons.mp h1 with z | z
        · rw [z]; simp
        · simp [z]
    · have h3 := h2 (if m < i then i else m) (List.mem_cons_self ..)
      have h4 : (i < m ∧ (if m < i then i else m) = i) ∨ (¬ i < m ∧ (if m < i then i else m) = m) ∨ (m < i ∧ (if m < i then i else m) = i) ∨ (¬ m < i ∧ (if m < i then i else m) = m) := by
        split <;> omega
      rcases List.mem_cons.mp hy with rfl | hy
      · omega
      · rcases List.mem_cons.mp hy with rfl | hy
        · omega
        · exact h2 y (List.mem_cons_of_mem _ hy)
theorem min_list (G : Ct) (hK : X.K = G.K) (hc : X.calm = true) (hu : X.A.units + 65 < cLine) {pins : List (Addr × Obj)} {s : Shared} {σ : St} {H : Hp} {M : AP} {Q : VK} (I : L2.Inv X pins σ H s) {a : Addr} {ws : List V} {xs : List D} {d : D} {fr : Bool} (h1 : SqL G.K H a ws) (h2 : IsDs G.K H M ws xs) (e : minG xs = some (d, fr)) (q : ∀ v H', New G.K H H' M v d fr → Q v H') :
    wpAny (model X.prog X.w) X.A (PySem.call (.builtin "min") [.ref a]) (EP X pins σ Q) X.xe s := by
  cases xs with
  | nil => cases e
  | cons x xs =>
    have e : (if bestOk (x :: xs) then some (xs.foldl (fun a y => if D.lt y a then y else a) x, false) else none) = some (d, fr) := e
    split at e
    · rename_i hb
      cases e
      obtain ⟨its, rv, hl, _⟩ := I.list (by rw [hK]; exact h1)
      obtain ⟨k1, k2, k3⟩ := bestOk_use hb
      obtain ⟨⟨as, ra⟩, al, hr, fin⟩ := best_use hK hu I rv h2 hb (f := fun a y => PySem.W.dataLt y a) (g := fun a y => D.lt y a) (fun a ha b hb => (by
        have h1 := k1
        have h2 := k2
        exact py_lt b a 40 40 (okds_mem h1 b hb) (okds_mem h1 a ha) (h2 b hb a ha))) fun v hv => q v H (new_val hv)
      exact PySem.W.min_list_data (I.ok.hd hc) (PlainL.isList hl) (vs := its.toArray) (by simpa using ra) al hr fun i v h' tk bs z1 z2 z3 => fin i v h' tk bs (by simpa using z1) z2 z3
    · cases e
theorem min_tup (G : Ct) (hK : X.K = G.K) (hc : X.calm = true) (hu : X.A.units + 65 < cLine) {pins : List (Addr × Obj)} {s : Shared} {σ : St} {H : Hp} {M : AP} {Q : VK} (I : L2.Inv X pins σ H s) {a : Addr} {ws : List V} {xs : List D} {d : D} {fr : Bool} (h1 : SqT G.K H a ws) (h2 : IsDs G.K H M ws xs) (e : minG xs = some (d, fr)) (q : ∀ v H', New G.K H H' M v d fr → Q v H') :
    wpAny (model X.prog X.w) X.A (PySem.call (.builtin "min") [.ref a]) (EP X pins σ Q) X.xe s := by
  cases xs with
  | nil => cases e
  | cons x xs =>
    have e : (if bestOk (x :: xs) then some (xs.foldl (fun a y => if D.lt y a then y else a) x, false) else none) = some (d, fr) := e
    split at e
    · rename_i hb
      cases e
      obtain ⟨its, rv, hl, _⟩ := I.tuple (by rw [hK]; exact h1)
      obtain ⟨k1, k2, k3⟩ := bestOk_use hb
      obtain ⟨⟨as, ra⟩, al, hr, fin⟩ := best_use hK hu I rv h2 hb (f := fun a y => PySem.W.dataLt y a) (g := fun a y => D.lt y a) (fun a ha b hb => (by
        have h1 := k1
        have h2 := k2
        exact py_lt b a 40 40 (okds_mem h1 b hb) (okds_mem h1 a ha) (h2 b hb a ha))) fun v hv => q v H (new_val hv)
      exact PySem.W.min_tuple_data (I.ok.hd hc) hl (vs := its.toArray) (by simpa using ra) al hr fun i v h' tk bs z1 z2 z3 => fin i v h' tk bs (by simpa using z1) z2 z3
    · cases e
theorem ok_min (G : Ct) (hK : X.K = G.K) (hc : X.calm = true) (hu : X.A.units + 65 < cLine) : CallR X (.builtin "min") (rBi G .min) := by
  intro pins s σ H vs us Q I r ⟨M, ds, d, fr, hm, h, e, q⟩
  have e : minD ds = some (d, fr) := e
  unfold minD at e
  split at e
  · rename_i xs
    obtain ⟨v, rfl, hv⟩ := h.one
    obtain ⟨a, ws, rfl, h1, h2⟩ := hv.lst
    split at e
    · rename_i i is ei
      cases e
      refine cr_min hc pins s σ H _ us Q I r ⟨a, i :: is, rfl, ?_, by simp, fun m m1 m2 => ?_⟩
      · rw [hK, ← ints_of h2 ei]
        exact h1
      · have z := minI_mem is i
        have : m = minI i is := by
          have := m2 _ z.1
          have := z.2 _ m1
          omega
        subst this
        exact q _ _ (new_val (.int _))
    · rw [Vals.ref1 r]
      exact min_list G hK hc hu I h1 h2 e q
  · obtain ⟨v, rfl, hv⟩ := h.one
    obtain ⟨a, ws, rfl, f, h2⟩ := hv.tup
    rw [Vals.ref1 r]
    exact min_tup G hK hc hu I f.sq h2 e q
  · obtain ⟨v, w, rfl, hv, hw⟩ := h.two
    cases e
    exact call_min2 hc pins s σ H _ us Q I r ⟨_, _, by rw [hv.int, hw.int], q _ _ (new_val (.int _))⟩
  · cases e
theorem max_list (G : Ct) (hK : X.K = G.K) (hc : X.calm = true) (hu : X.A.units + 65 < cLine) {pins : List (Addr × Obj)} {s : Shared} {σ : St} {H : Hp} {M : AP} {Q : VK} (I : L2.Inv X pins σ H s) {a : Addr} {ws : List V} {xs : List D} {d : D} {fr : Bool} (h1 : SqL G.K H a ws) (h2 : IsDs G.K H M ws xs) (e : maxG xs = some (d, fr)) (q : ∀ v H', New G.K H H' M v d fr → Q v H') :
    wpAny (model X.prog X.w) X.A (PySem.call (.builtin "max") [.ref a]) (EP X pins σ Q) X.xe s := by
  cases xs with
  | nil => cases e
  | cons x xs =>
    have e : (if bestOk (x :: xs) then some (xs.foldl (fun a y => if D.lt a y then y else a) x, false) else none) = some (d, fr) := e
    split at e
    · rename_i hb
      cases e
      obtain ⟨its, rv, hl, _⟩ := I.list (by rw [hK]; exact h1)
      obtain ⟨k1, k2, k3⟩ := bestOk_use hb
      obtain ⟨⟨as, ra⟩, al, hr, fin⟩ := best_use hK hu I rv h2 hb (f := fun a y => PySem.W.dataLt a y) (g := fun a y => D.lt a y) (fun a ha b hb => (by
        have h1 := k1
        have h2 := k2
        exact py_lt a b 40 40 (okds_mem h1 a ha) (okds_mem h1 b hb) (h2 a ha b hb))) fun v hv => q v H (new_val hv)
      exact PySem.W.max_list_data (I.ok.hd hc) (PlainL.isList hl) (vs := its.toArray) (by simpa using ra) al hr fun i v h' tk bs z1 z2 z3 => fin i v h' tk bs (by simpa using z1) z2 z3
    · cases e
theorem max_tup (G : Ct) (hK : X.K = G.K) (hc : X.calm = true) (hu : X.A.units + 65 < cLine) {pins : List (Addr × Obj)} {s : Shared} {σ : St} {H : Hp} {M : AP} {Q : VK} (I : L2.Inv X pins σ H s) {a : Addr} {ws : List V} {xs : List D} {d : D} {fr : Bool} (h1 : SqT G.K H a ws) (h2 : IsDs G.K H M ws xs) (e : maxG xs = some (d, fr)) (q : ∀ v H', New G.K H H' M v d fr → Q v H') :
    wpAny (model X.prog X.w) X.A (PySem.call (.builtin "max") [.ref a]) (EP X pins σ Q) X.xe s := by
  cases xs with
  | nil => cases e
  | cons x xs =>
    have e : (if bestOk (x :: xs) then some (xs.foldl (fun a y => if D.lt a y then y else a) x, false) else none) = some (d, fr) := e
    split at e
    · rename_i hb
      cases e
      obtain ⟨its, rv, hl, _⟩ := I.tuple (by rw [hK]; exact h1)
      obtain ⟨k1, k2, k3⟩ := bestOk_use hb
      obtain ⟨⟨as, ra⟩, al, hr, fin⟩ := best_use hK hu I rv h2 hb (f := fun a y => PySem.W.dataLt a y) (g := fun a y => D.lt a y) (fun a ha b hb => (by
        have h1 := k1
        have h2 := k2
        exact py_lt a b 40 40 (okds_mem h1 a ha) (okds_mem h1 b hb) (h2 a ha b hb))) fun v hv => q v H (new_val hv)
      exact PySem.W.max_tuple_data (I.ok.hd hc) hl (vs := its.toArray) (by simpa using ra) al hr fun i v h' tk bs z1 z2 z3 => fin i v h' tk bs (by simpa using z1) z2 z3
    · cases e
theorem ok_max (G : Ct) (hK : X.K = G.K) (hc : X.calm = true) (hu : X.A.units + 65 < cLine) : CallR X (.builtin "max") (rBi G .max) := by
  intro pins s σ H vs us Q I r ⟨M, ds, d, fr, hm, h, e, q⟩
  have e : maxD ds = some (d, fr) := e
  unfold maxD at e
  split at e
  · rename_i xs
    obtain ⟨v, rfl, hv⟩ := h.one
    obtain ⟨a, ws, rfl, h1, h2⟩ := hv.lst
    split at e
    · rename_i i is ei
      cases e
      refine cr_max hc pins s σ H _ us Q I r ⟨a, i :: is, rfl, ?_, by simp, fun m m1 m2 => ?_⟩
      · rw [hK, ← ints_of h2 ei]
        exact h1
      · have z := maxI_mem is i
        have : m = maxI i is := by
          have := m2 _ z.1
          have := z.2 _ m1
          omega
        subst this
        exact q _ _ (new_val (.int _))
    · rw [Vals.ref1 r]
      exact max_list G hK hc hu I h1 h2 e q
  · obtain ⟨v, rfl, hv⟩ := h.one
    obtain ⟨a, ws, rfl, f, h2⟩ := hv.tup
    rw [Vals.ref1 r]
    exact max_tup G hK hc hu I f.sq h2 e q
  · obtain ⟨v, w, rfl, hv, hw⟩ := h.two
    cases e
    exact call_max2 hc pins s σ H _ us Q I r ⟨_, _, by rw [hv.int, hw.int], q _ _ (new_val (.int _))⟩
  · cases e
theorem ok_sum (G : Ct) (hK : X.K = G.K) (hc : X.calm = true) : CallR X (.builtin "sum") (rBi G .sum) := by
  intro pins s σ H vs us Q I r ⟨M, ds, d, fr, hm, h, e, q⟩
  obtain ⟨x, rfl, e⟩ := one_of (show one sumD ds = some (d, fr) from e)
  obtain ⟨v, rfl, hv⟩ := h.one
  cases x with
  | lst xs =>
    have e : (match ints? xs with | some is => some (D.int is.sum, false) | none => none) = some (d, fr) := e
    split at e
    · rename_i is ei
      cases e
      obtain ⟨a, ws, rfl, h1, h2⟩ := hv.lst
      refine cr_sum hc pins s σ H _ us Q I r ⟨a, is, rfl, ?_, q _ _ (new_val (.int _))⟩
      rw [hK, ← ints_of h2 ei]
      exact h1
    · cases e
  | _ => cases e
theorem sort_uniq : ∀ {a b : List Int}, a.Perm b → a.Pairwise (· ≤ ·) → b.Pairwise (· ≤ ·) → a = b
  | [], b, p, _, _ => p.nil_eq
  | x :: a, [], p, _, _ => by simpa using p.length_eq
  | x :: a, y :: b, p, ha, hb => by
    have e : x = y := by
      have h1 : x ∈ y :: b := p.mem_iff.mp (List.mem_cons_self ..)
      have h2 : y ∈ x :: a := p.mem_iff.mpr (List.mem_cons_self ..)
      have q1 : y ≤ x := by
        rcases List.mem_cons.mp h1 with z | z
        · omega
        · exact (List.pairwise_cons.mp hb).1 x z
      have q2 : x ≤ y := by
        rcases List.mem_cons.mp h2 with z | z
        · omega
        · exact (List.pairwise_cons.mp ha).1 y z
      omega
    subst e
    rw [sort_uniq p.cons_inv (List.pairwise_cons.mp ha).2 (List.pairwise_cons.mp hb).2]
theorem sort_is (is : List Int) : (is.mergeSort leI).Pairwise (· ≤ ·) := by
  have h := List.pairwise_mergeSort (le := leI) (fun a b c h1 h2 => by simp only [leI, decide_eq_true_eq] at *; omega) (fun a b => by simp only [leI, Bool.or_eq_true, decide_eq_true_eq]; omega) is
  exact h.imp fun h => by simpa [leI] using h
theorem sorted_new {ds : List D} {d : D} {fr : Bool} (e : sortG ds = some (d, fr)) : ∃ ss, d = .lst ss ∧ fr = true := by
  unfold sortG at e
  split at e
  · cases e
    exact ⟨_, rfl, rfl⟩
  · split at e
    · split at e
      · cases e
        exact ⟨_, rfl, rfl⟩
      · cases e
    · cases e
theorem sorted_list (G : Ct) (hK : X.K = G.K) (hu : X.A.units + 65 < cLine) {pins : List (Addr × Obj)} {s : Shared} {σ : St} {H : Hp} {M : AP} {Q : VK} (I : L2.Inv X pins σ H s) (hm : ∀ c, M c → H c ≠ none) {a : Addr} {ws : List V} {xs : List D} {d : D} {fr : Bool} (h1 : SqL G.K H a ws) (h2 : IsDs G.K H M ws xs) (e : sortG xs = some (d, fr)) (q : ∀ v H', New G.K H H' M v d fr → Q v H') :
    wpAny (model X.prog X.w) X.A (PySem.call (.builtin "sorted") [.ref a]) (EP X pins σ Q) X.xe s := by
  obtain ⟨ss, rfl, rfl⟩ := sorted_new e
  obtain ⟨its, rv, ⟨o, n, g1, g2, g3, g4⟩, hlen⟩ := I.list (by rw [hK]; exact h1)
  refine sorted_any hK hu I hm e (fun Q' E' hq => ?_) q
  refine wpAny_collect_seq (T := "list") a (.inl rfl) g1 g2 g4 (fun h' k => ?_) (by rw [List.size_toArray, ← rv.length]; exact hlen)
  exact hq h' s.gens s.drawn s.toks _ k rfl ⟨_, List.Perm.refl _, by simpa using stands_each rv h2⟩
theorem ok_sorted (G : Ct) (hK : X.K = G.K) (hc : X.calm = true) (hu : X.A.units + 65 < cLine) : CallR X (.builtin "sorted") (rBi G .sorted) := by
  intro pins s σ H vs us Q I r ⟨M, ds, d, fr, hm, h, e, q⟩
  obtain ⟨x, rfl, e⟩ := one_of (show one sortedD ds = some (d, fr) from e)
  obtain ⟨v, rfl, hv⟩ := h.one
  cases x with
  | lst xs =>
    obtain ⟨a, ws, rfl, h1, h2⟩ := hv.lst
    have e : (match ints? xs with | some is => if xs.length < 64 then some (D.lst ((is.mergeSort leI).map D.int), true) else sortG xs | none => sortG xs) = some (d, fr) := e
    cases ei : ints? xs with
    | none =>
      rw [ei] at e
      rw [Vals.ref1 r]
      exact sorted_list G hK hu I hm h1 h2 e q
    | some l =>
      rw [ei] at e
      simp only at e
      by_cases hl : xs.length < 64
      · rw [if_pos hl] at e
        cases e
        refine cr_sorted pins s σ H _ us Q I r ⟨a, l, rfl, ?_, by rw [ints_len ei]; exact hl, fun ns p m1 m2 hp => ?_⟩
        · rw [hK, ← ints_of h2 ei]; exact h1
        · have : ns = l.mergeSort leI := sort_uniq (m1.trans (List.mergeSort_perm l leI).symm) m2 (sort_is l)
          subst this
          exact q _ _ (new_lst (ints_data _) hp)
      · rw [if_neg hl] at e
        rw [Vals.ref1 r]
        exact sorted_list G hK hu I hm h1 h2 e q
  | tup xs =>
    have e : sortG xs = some (d, fr) := e
    obtain ⟨a, ws, rfl, f, h2⟩ := hv.tup
    obtain ⟨ss, rfl, rfl⟩ := sorted_new e
    obtain ⟨its, rv, ⟨o, g1, g2, n, g4⟩, hlen⟩ := I.tuple (by rw [hK]; exact f.sq)
    rw [Vals.ref1 r]
    refine sorted_any hK hu I hm e (fun Q' E' hq => ?_) q
    refine wpAny_collect_seq (T := "tuple") a (.inr rfl) g1 g2 g4 (fun h' k => ?_) (by rw [List.size_toArray, ← rv.length]; exact hlen)
    exact hq h' s.gens s.drawn s.toks _ k rfl ⟨_, List.Perm.refl _, by simpa using stands_each rv h2⟩
  | str z =>
    have e : sortG (z.map fun c => .str [c]) = some (d, fr) := e
    obtain ⟨rfl, g⟩ := hv.str
    obtain ⟨ss, rfl, rfl⟩ := sorted_new e
    obtain ⟨u, rfl, ru⟩ := vals1 r
    obtain ⟨t, rfl⟩ := ru
    refine sorted_any hK hu I hm e (fun Q' E' hq => ?_) q
    refine wpAny_collect_str (A := X.A.in1) (I.ok.hd hc) (sv z) t (fun s' acc k k1 k2 k3 hacc => ?_) (by rw [← Str.length]; exact good_len g)
    have hz : (sv z).cps.size = z.length := by simp [sv]
    have l1 : acc.toList.length = z.length := by rw [Array.length_toList, hacc.1, hz]
    have rv : Vals (z.map fun c => V.str (sv [c])) acc.toList := vals_signs 0 _ _ l1 fun j v hv => by
      obtain ⟨c, u, h1, h2⟩ := hacc.2 j v (by simpa using hv)
      exact ⟨c, u, by simpa [sv] using h1, h2⟩
    have e1 : s' = { s with heap := s'.heap, gens := s'.gens, drawn := s'.drawn, toks := s'.toks } := by
      cases s'
      cases s
      cases k3
      rfl
    rw [e1]
    exact hq s'.heap s'.gens s'.drawn s'.toks _ k k1 ⟨_, List.Perm.refl _, stands_each rv (isDs_signs g z fun _ h => h)⟩
  | _ => cases e
theorem at_eq {α : Type} (xs : List α) (i : Int) : at? xs i = atI xs i := rfl
theorem at_of {K : PySem.W.Frag} {H : Hp} {M : AP} {vs : List V} {ds : List D} {i : Int} {d : D} (h : IsDs K H M vs ds) (e : at? ds i = some d) : ∃ v, atI vs i = some v ∧ IsD K H M v d := by
  obtain ⟨j, e1, e2⟩ := Option.bind_eq_some_iff.mp e
  obtain ⟨v, h1, h2⟩ := h.get e2
  refine ⟨v, ?_, h2⟩
  show (ixN vs.length i).bind _ = _
  rw [h.length]
  show (ixOf ds.length i).bind _ = _
  rw [e1]
  exact h1
def rIxD (G : Ct) : R2 := fun x y H Q => ∃ M a b d, IsR G H M x a ∧ IsR G H M y b ∧ ixD a b = some d ∧ ∀ v, IsD G.K H M v d → Q v H
theorem ok_ix (G : Ct) (hK : X.K = G.K) : IxR X (rIxD G) := by
  intro value slice pins s σ H x y v u Q I rx ry ⟨M, a, b, d, ia, ib, e, q⟩ hs
  cases b with
  | int i =>
    cases a with
    | tup ds =>
      obtain ⟨p, vs, rfl, f, g⟩ := ia.tup
      obtain ⟨w, h1, h2⟩ := at_of g e
      exact ix_seq value slice pins s σ H _ y v u Q I rx ry (.inr (.inl ⟨p, vs, i, w, rfl, ib.int, by rw [hK]; exact f.sq, h1, q w h2⟩)) hs
    | lst ds =>
      obtain ⟨p, vs, rfl, f, g⟩ := ia.lst
      obtain ⟨w, h1, h2⟩ := at_of g e
      exact ix_seq value slice pins s σ H _ y v u Q I rx ry (.inl ⟨p, vs, i, w, rfl, ib.int, by rw [hK]; exact f, h1, q w h2⟩) hs
    | str z =>
      obtain ⟨c, e1, e2⟩ := Option.map_eq_some_iff.mp (show (at? z i).map (fun c => D.str [c]) = some d from e)
      subst e2
      obtain ⟨rfl, g⟩ := ia.str
      have hc : c ∈ z := by
        obtain ⟨j, _, e3⟩ := Option.bind_eq_some_iff.mp e1
        exact List.mem_of_getElem? e3
      refine ix_seq value slice pins s σ H _ y v u Q I rx ry (.inr (.inr ⟨sv z, i, c, rfl, ib.int, good_len g, ?_, q _ (.str [c] (good_one g hc))⟩)) hs
      show atI (sv z).cps.toList i = some c
      unfold sv
      exact e1
    | _ => cases e
  | _ => cases a <;> cases e
/-! places and counts -/
theorem find_congr {α : Type} {p r : α → Bool} : ∀ {l : List α}, (∀ x ∈ l, p x = r x) → l.findIdx? p = l.findIdx? r
  | [], _ => rfl
  | x :: l, h => by
    rw [List.findIdx?_cons, List.findIdx?_cons, h x (List.mem_cons_self ..), find_congr fun y hy => h y (List.mem_cons_of_mem _ hy)]
theorem place_py {xs : List D} {d : D} {n m : Nat} (h : D.okds n xs = true) (hd : D.okd m d = true) : SeqAt.dataPlace (toPys xs) (toPy d) = placeD xs d := by
  show (toPys xs).findIdx? (fun y => PyData.eqv y (toPy d)) = xs.findIdx? fun y => D.eqv y d
  rw [toPys_map, List.findIdx?_map]
  refine find_congr fun y hy => ?_
  exact eqv_py y d n m (okds_mem h y hy) hd
theorem count_py {xs : List D} {d : D} {n m : Nat} (h : D.okds n xs = true) (hd : D.okd m d = true) : (toPys xs).countP (fun y => PyData.eqv y (toPy d)) = xs.countP fun y => D.eqv y d := by
  rw [toPys_map, List.countP_map]
  exact List.countP_congr fun y hy => by
    show PyData.eqv (toPy y) (toPy d) = true ↔ _
    rw [eqv_py y d n m (okds_mem h y hy) hd]
theorem ok_index (G : Ct) (hK : X.K = G.K) (hu : X.A.units + 65 < cLine) : MtR X "list.index" (rMt G .index) := by
  intro pins s σ H x xs v us Q I rx rs ⟨M, o, ds, d, fr, hm, ho, hs, e, q⟩
  have e : indexOf o ds = some (d, fr) := e
  unfold indexOf at e
  split at e
  · rename_i ys z _
    split at e
    · rename_i h
      have h' : D.okd dep (.lst ys) = true ∧ D.okd dep z = true := by simpa using h
      obtain ⟨j, e1, e2⟩ := Option.map_eq_some_iff.mp e
      cases e2
      obtain ⟨w, rfl, hw⟩ := hs.one
      obtain ⟨a, ws, rfl, f, g⟩ := ho.lst
      have k := SeqAt.dataPlace
      have e3 : (toPys ys).findIdx? (fun y => PyData.eqv y (toPy z)) = some j := (place_py (n := 59) h'.1 h'.2).trans e1
      obtain ⟨k1, k2, k3⟩ := List.findIdx?_eq_some_iff_getElem.mp e3
      refine mt_indexD hu pins s σ H _ _ v us Q I rx rs ⟨a, w, toPy z, toPys ys, j, (toPys ys)[j], rfl, rfl, ?_, ?_, ?_, ?_, List.getElem?_eq_getElem k1, k2, fun m z' hmj hz' => ?_, q _ _ (new_val (.int _))⟩
      · rw [hK]
        exact ho.dp h'.1
      · rw [hK]
        exact hw.dp h'.2
      · exact ho.shaped h'.1
      · exact hw.shaped h'.2
      · have k4 := k3 m hmj
        obtain ⟨hm1, hm2⟩ := List.getElem?_eq_some_iff.mp hz'
        rw [hm2] at k4
        simpa using k4
    · cases e
  · cases e
theorem ok_count (G : Ct) (hK : X.K = G.K) (hu : X.A.units + 65 < cLine) : MtR X "list.count" (rMt G .count) := by
  intro pins s σ H x xs v us Q I rx rs ⟨M, o, ds, d, fr, hm, ho, hs, e, q⟩
  have e : countOf o ds = some (d, fr) := e
  have room : ∀ {c z : D}, D.okd dep c = true → D.okd dep z = true → ∀ k, X.A.units + 1 + min k (toPy z).depth < cLine := fun {c z} h1 h2 k => by
    have w := py_depth z dep h2
    have w3 : dep = 60 := rfl
    omega
  unfold countOf at e
  split at e
  · rename_i ys z _
    split at e
    · rename_i h
      have h' : D.okd dep (.lst ys) = true ∧ D.okd dep z = true := by simpa using h
      cases e
      obtain ⟨w, rfl, hw⟩ := hs.one
      obtain ⟨a, ws, rfl, f, g⟩ := ho.lst
      cases rx
      obtain ⟨u, rfl, ru⟩ := vals1 rs
      obtain ⟨its, rv, hl, hlen⟩ := I.list (by rw [hK]; exact f)
      obtain ⟨as, ra⟩ := Dp.readsAll I (toPys ys) ws its (by rw [hK]; exact g.dp (n := 59) h'.1) rv
      obtain ⟨bs, rb⟩ := Dp.reads I (toPy z) w u (by rw [hK]; exact hw.dp h'.2) ru
      refine SeqAt.count_list_data (PlainL.isList hl) (vs := its.toArray) (by simpa using ra) rb (py_plains ys 59 h'.1) (py_plain z dep h'.2) (room h'.1 h'.2 _) ⟨.int _, H, I.tok _, ⟨_, rfl⟩, ?_⟩
      rw [count_py (n := 59) h'.1 h'.2]
      exact q _ _ (new_val (.int _))
    · cases e
  · cases e
/-! slices -/
theorem cut_V {K : PySem.W.Frag} {H : Hp} {M : AP} {vs : List V} {ds : List D} (h : IsDs K H M vs ds) (lo hi : Option Int) : IsDs K H M (cutV vs lo hi) (cut ds lo hi) := by
  unfold cutV cut
  rw [h.length]
  exact (h.drop _).take _
theorem cut_all {α : Type} (xs : List α) {lo hi : Option Int} (h1 : sIx xs.length 0 lo = 0) (h2 : sIx xs.length xs.length hi = xs.length) : cut xs lo hi = xs := by
  unfold cut
  rw [h1, h2]
  simp
theorem cut_mem {α : Type} {xs : List α} {lo hi : Option Int} {c : α} (h : c ∈ cut xs lo hi) : c ∈ xs := List.mem_of_mem_drop (List.mem_of_mem_take h)
theorem cut_len {α : Type} (xs : List α) (lo hi : Option Int) : (cut xs lo hi).length ≤ xs.length := by
  unfold cut
  simp
  omega
def rSlD (G : Ct) : V → Option Int → Option Int → Hp → VK → Prop := fun x lo hi H Q => ∃ M a d, (∀ c, M c → H c ≠ none) ∧ IsR G H M x a ∧ slD a lo hi = some d ∧ ∀ v H', New G.K H H' M v d (isLst a) → Q v H'
theorem ok_sl (G : Ct) (hK : X.K = G.K) : SlR X (rSlD G) := by
  intro pins s σ H x v vl vu lo hi sl Q I rx hs pl pu ⟨M, a, d, hm, ia, e, q⟩
  cases a with
  | tup ds =>
    cases e
    obtain ⟨p, vs, rfl, f, g⟩ := ia.tup
    refine sl_tupA pins s σ H _ v vl vu lo hi sl Q I rx hs pl pu ⟨p, vs, rfl, by rw [hK]; exact f.sq, fun ⟨h1, h2⟩ => ?_, fun _ l hl => ?_⟩
    · rw [g.length] at h1 h2
      rw [cut_all ds (lo := lo) (hi := hi) h1 h2] at q
      exact q _ _ (new_val (.tup p vs ds f g))
    · exact q _ _ (new_tup hm (cut_V g lo hi) hl)
  | lst ds =>
    cases e
    obtain ⟨p, vs, rfl, f, g⟩ := ia.lst
    exact sl_list pins s σ H _ v vl vu lo hi sl Q I rx hs pl pu ⟨p, vs, rfl, by rw [hK]; exact f, fun l hl => q _ _ (new_lst (cut_V g lo hi) hl)⟩
  | str z =>
    cases e
    obtain ⟨rfl, g⟩ := ia.str
    refine sl_str pins s σ H _ v vl vu lo hi sl Q I rx hs pl pu ⟨sv z, rfl, good_len g, ?_⟩
    have ec : cutS (sv z) lo hi = sv (cut z lo hi) := by
      unfold cutS
      rw [sv_len]
      rfl
    rw [ec]
    exact q _ _ (new_val (.str _ (good_sub g (fun c hc => cut_mem hc) (cut_len _ _ _))))
  | _ => cases e
end
end Ev

/-! the table of a set: sizes that are powers of two, of any height -/
namespace Ev.Tb
open PySem PyProof.Rows L2
/-! ### 1 + 5 + 25 + .. -/
def sn : Nat → Nat
  | 0 => 0
  | n + 1 => sn n * 5 + 1
theorem sn_add (a : Nat) : ∀ b, sn (a + b) = sn a * 5 ^ b + sn b
  | 0 => by simp [sn]
  | b + 1 => by
    show sn (a + b) * 5 + 1 = sn a * 5 ^ (b + 1) + (sn b * 5 + 1)
    rw [sn_add a b, Nat.pow_succ, Nat.add_mul, Nat.mul_assoc]
    omega
theorem sn_par : ∀ n, sn n % 2 = n % 2
  | 0 => rfl
  | n + 1 => by
    have ih := sn_par n
    show (sn n * 5 + 1) % 2 = (n + 1) % 2
    omega
theorem five4 : ∀ n : Nat, 5 ^ n % 4 = 1
  | 0 => rfl
  | n + 1 => by
    have ih := five4 n
    rw [Nat.pow_succ]
    omega
theorem two_odd {k a b : Nat} (h : 2 ^ k ∣ a * b) (ha : a % 2 = 1) : 2 ^ k ∣ b := by
  have c : Nat.Coprime (2 ^ k) a := by
    refine Nat.Coprime.pow_left k ?_
    show Nat.gcd 2 a = 1
    rw [Nat.gcd_rec, ha]
    rfl
  exact c.dvd_of_dvd_mul_left h
theorem sn_dvd : ∀ k n : Nat, 2 ^ k ∣ sn n → 2 ^ k ∣ n
  | 0, n, _ => by simp
  | k + 1, n, h => by
    have e : n % 2 = 0 := by
      have h2 : 2 ∣ sn n := Nat.dvd_trans (Nat.dvd_of_pow_dvd (Nat.succ_le_succ (Nat.zero_le k)) h) (Nat.dvd_refl _)
      have := sn_par n
      omega
    obtain ⟨m, rfl⟩ : ∃ m, n = m + m := ⟨n / 2, by omega⟩
    have h5 := five4 m
    obtain ⟨q, hq⟩ : ∃ q, 5 ^ m + 1 = 2 * q ∧ q % 2 = 1 := ⟨(5 ^ m + 1) / 2, by omega, by omega⟩
    have e2 : sn (m + m) = 2 * (q * sn m) := by
      have e3 : sn (m + m) = sn m * (5 ^ m + 1) := by rw [sn_add, Nat.mul_add, Nat.mul_one]
      rw [e3, hq.1, Nat.mul_comm, Nat.mul_assoc]
    rw [e2, Nat.pow_succ, Nat.mul_comm (2 ^ k) 2] at h
    have h6 := sn_dvd k m (two_odd (Nat.dvd_of_mul_dvd_mul_left (by decide) h) hq.2)
    obtain ⟨c, hc⟩ := h6
    exact ⟨c, by rw [Nat.pow_succ, Nat.mul_right_comm, ← hc]; omega⟩
theorem lcg_sn (m i : Nat) (hi : i ≤ m) : ∀ k, lcgI m i k = (i * 5 ^ k + sn k) % (m + 1)
  | 0 => by
    show i = (i * 1 + 0) % (m + 1)
    rw [Nat.mul_one, Nat.add_zero, Nat.mod_eq_of_lt (Nat.lt_succ_of_le hi)]
  | k + 1 => by
    show (lcgI m i k * 5 + 1) % (m + 1) = (i * 5 ^ (k + 1) + (sn k * 5 + 1)) % (m + 1)
    rw [lcg_sn m i hi k, Nat.add_mod, Nat.mul_mod, Nat.mod_mod, ← Nat.mul_mod, ← Nat.add_mod, Nat.add_mul, Nat.pow_succ, Nat.mul_assoc, Nat.add_assoc]
/-- from anywhere each slot is met within a round -/
theorem lcg_any {m k : Nat} (hm : m + 1 = 2 ^ k) {i j : Nat} (hi : i ≤ m) (hj : j ≤ m) : ∃ n, n ≤ m ∧ lcgI m i n = j := by
  have hpos : 0 < m + 1 := Nat.succ_pos m
  -- no two of the first m + 1 steps agree
  have inj : ∀ a b, a < b → b ≤ m → lcgI m i a ≠ lcgI m i b := fun a b hab hb e => by
    rw [lcg_sn m i hi, lcg_sn m i hi] at e
    obtain ⟨d, rfl⟩ : ∃ d, b = a + d := ⟨b - a, by omega⟩
    -- the difference
    have e2 : i * 5 ^ (a + d) + sn (a + d) = (i * 5 ^ a + sn a) + 5 ^ a * (sn d * (4 * i + 1)) := by
      have f : 5 ^ d = 4 * sn d + 1 := by
        clear e hab hb
        induction d with
        | zero => rfl
        | succ d ih =>
          rw [Nat.pow_succ, ih]
          show (4 * sn d + 1) * 5 = 4 * (sn d * 5 + 1) + 1
          omega
      rw [Nat.add_comm a d, sn_add d a, Nat.pow_add, f]
      generalize 5 ^ a = x
      generalize sn d = y
      generalize sn a = z
      simp only [Nat.mul_add, Nat.add_mul, Nat.mul_one, Nat.one_mul]
      have w1 : i * (4 * y * x) = x * (y * (4 * i)) := by
        simp only [Nat.mul_comm, Nat.mul_left_comm, Nat.mul_assoc]
      have w2 : y * x = x * y := Nat.mul_comm _ _
      omega
    rw [e2] at e
    have dv : (m + 1) ∣ 5 ^ a * (sn d * (4 * i + 1)) := by
      have z := (Nat.sub_mod_eq_zero_of_mod_eq e.symm)
      rw [Nat.add_sub_cancel_left] at z
      exact Nat.dvd_of_mod_eq_zero z
    rw [hm] at dv
    have d1 := two_odd dv (by have := five4 a; omega)
    rw [Nat.mul_comm] at d1
    have d2 := sn_dvd k d (two_odd d1 (by omega))
    rw [← hm] at d2
    have := Nat.le_of_dvd (by omega) d2
    omega
  rcases Classical.em (∃ n, n ≤ m ∧ lcgI m i n = j) with c | c
  · exact c
  · exfalso
    have le : ∀ n, lcgI m i n ≤ m := fun n => by
      rw [lcg_sn m i hi]
      exact Nat.le_of_lt_succ (Nat.mod_lt _ hpos)
    have nd : ((List.range (m + 1)).map (lcgI m i)).Nodup := by
      refine List.pairwise_map.mpr ?_
      refine List.Pairwise.imp_of_mem (R := (· < ·)) (fun {a b} _ hb h => inj a b h (Nat.le_of_lt_succ (List.mem_range.mp hb))) List.pairwise_lt_range
    have q := nat_nodup_len ((List.range (m + 1)).map (lcgI m i)) ((List.range (m + 1)).erase j) nd fun x hx => by
      obtain ⟨n, hn, rfl⟩ := List.mem_map.mp hx
      have hn' := List.mem_range.mp hn
      exact (List.mem_erase_of_ne fun e => c ⟨n, by omega, e⟩).mpr (List.mem_range.mpr (Nat.lt_succ_of_le (le n)))
    rw [List.length_map, List.length_range, List.length_erase_of_mem (List.mem_range.mpr (Nat.lt_succ_of_le hj)), List.length_range] at q
    omega
/-! ### the way of a search -/
theorem way_in (m : Nat) (h : Int) (k : Nat) : L2.way m h k ≤ m := by
  have b0 : SetTable.bits h % (m + 1) ≤ m := Nat.le_of_lt_succ (Nat.mod_lt _ (Nat.succ_pos _))
  have b1 := runEnd_bd b0
  have b2 := nth_in (m := m) k (runAt m (SetTable.bits h % (m + 1)) (SetTable.bits h)) (by
    show SetTable.bits h % (m + 1) + (SetTable.runEnd m (SetTable.bits h % (m + 1)) - SetTable.bits h % (m + 1)) ≤ m
    have b3 := b1.1
    have b4 := b1.2.1
    omega)
  show (nth m _ k).j ≤ m
  omega
theorem starts {m e : Nat} (hm : m + 1 = 2 ^ e) (h : Int) {j : Nat} (hj : j ≤ m) : ∃ n, n ≤ m + 12 ∧ runI m (SetTable.bits h) n = j := by
  obtain ⟨n, h1, h2⟩ := lcg_any hm (runI_le m (SetTable.bits h) 12) hj
  exact ⟨12 + n, by omega, (runI_tail (bits_lt h) n).trans h2⟩
theorem comes {m e : Nat} (hm : m + 1 = 2 ^ e) (h : Int) {j : Nat} (hj : j ≤ m) : ∃ n, n < 10 * SetTable.turns m ∧ L2.way m h n = j := by
  obtain ⟨n, h1, h2⟩ := starts hm h hj
  obtain ⟨q, h3, h4⟩ := run_nth m (SetTable.bits h) n
  exact ⟨q, by unfold SetTable.turns; omega, (congrArg SetTable.Probe.j h4).trans h2⟩
/-- the slots are found again by their hashes -/
structure TbOk (t : SetTable) (hs : List Int) : Prop where
  up : Ris t.place.toList
  clean : t.dummies = #[]
  many : t.place.size = hs.length
  two : ∃ e, t.mask + 1 = 2 ^ e
  inn : ∀ x, x ∈ t.place.toList → x ≤ t.mask
  found : ∀ (i : Nat) (h : Int) (j : Nat), hs[i]? = some h → t.place.toList[i]? = some j → ∃ k, L2.way t.mask h k = j ∧ ∀ k', k' < k → L2.way t.mask h k' ∈ t.place.toList
section
variable {t : SetTable} {hs : List Int}
theorem TbOk.hole (T : TbOk t hs) (hl : hs.length ≤ t.mask) (h : Int) : ∃ K, K < 10 * SetTable.turns t.mask ∧ L2.way t.mask h K ∉ t.place.toList ∧ ∀ k, k < K → L2.way t.mask h k ∈ t.place.toList := by
  have l0 : t.place.toList.length < t.mask + 1 := by
    have := T.many
    rw [Array.length_toList]
    omega
  obtain ⟨j, j1, j2⟩ := st_missing _ _ l0
  obtain ⟨e, he⟩ := T.two
  obtain ⟨k, k1, k2⟩ := comes he h (Nat.le_of_lt_succ j1)
  obtain ⟨K, q1, q2, q3⟩ := st_least (p := fun k => L2.way t.mask h k ∉ t.place.toList) k (fun z => j2 (by rw [← k2]; exact z))
  exact ⟨K, Nat.lt_of_le_of_lt q1 k1, q2, fun c hc => Classical.byContradiction (q3 c hc)⟩
theorem TbOk.early (T : TbOk t hs) {h : Int} {K i j : Nat} (hK : L2.way t.mask h K ∉ t.place.toList) (hi : hs[i]? = some h) (hj : t.place.toList[i]? = some j) : ∃ k, k < K ∧ L2.way t.mask h k = j := by
  obtain ⟨k, e, b⟩ := T.found i h j hi hj
  refine ⟨k, Classical.byContradiction fun c => ?_, e⟩
  rcases Nat.eq_or_lt_of_le (Nat.le_of_not_lt c) with z | z
  · rw [z, e] at hK
    exact hK (List.mem_of_getElem? hj)
  · exact hK (b K z)
/-- one more comes to the first hole of its way -/
theorem TbOk.more (T : TbOk t hs) {h : Int} {K : Nat} (hK : L2.way t.mask h K ∉ t.place.toList) (hb : ∀ k, k < K → L2.way t.mask h k ∈ t.place.toList) {p : Nat} (hp : p = SetTable.below t.place (L2.way t.mask h K)) {t1 : SetTable} (ht : t1 = (t.put (L2.way t.mask h K)).1) :
    p ≤ hs.length ∧ TbOk t1 (hs.take p ++ h :: hs.drop p) ∧ t1.mask = t.mask ∧ t1.led = t.led ∧ t1.plain = t.plain ∧ t1.fill = hs.length + 1 := by
  subst hp ht
  have jm := way_in t.mask h K
  generalize ej : L2.way t.mask h K = j at hK jm ⊢
  have c1 := (below_cut T.up j).1
  have lp : t.place.toList.length = hs.length := (Array.length_toList ..).trans T.many
  have b1 : SetTable.below t.place j ≤ t.place.toList.length := (Array.length_toList ..).symm ▸ c1
  have b2 : SetTable.below t.place j ≤ hs.length := lp ▸ b1
  have pp := put_place t j
  have dm := put_dm T.clean j
  have size1 : (t.put j).1.place.size = hs.length + 1 := by
    rw [← Array.length_toList, pp, len_ins _ b1, lp]
  have old : ∀ x, x ∈ t.place.toList → x ∈ (t.put j).1.place.toList := fun x hx => by
    rw [pp]
    exact mem_ins.mpr (.inr hx)
  refine ⟨b2, ⟨ris_insert T.up fun e => hK ?_, dm, ?_, T.two, fun x hx => ?_, fun i g y h1 h2 => ?_⟩, rfl, rfl, rfl, ?_⟩
  · exact List.mem_of_getElem? ((Array.getElem?_toList ..).trans e)
  · rw [len_ins _ b2]
    exact size1
  · rw [pp] at hx
    rcases mem_ins.mp hx with rfl | hx
    · exact jm
    · exact T.inn x hx
  · rw [tins_get hs b2] at h1
    rw [pp, tins_get _ b1] at h2
    have keepw : (∃ k, L2.way t.mask g k = y ∧ ∀ k', k' < k → L2.way t.mask g k' ∈ t.place.toList) → ∃ k, L2.way t.mask g k = y ∧ ∀ k', k' < k → L2.way t.mask g k' ∈ (t.put j).1.place.toList := fun ⟨k, e1, e2⟩ => ⟨k, e1, fun c hc => old _ (e2 c hc)⟩
    rcases Nat.lt_trichotomy i (SetTable.below t.place j) with z | z | z
    · rw [if_pos z] at h1 h2
      exact keepw (T.found i g y h1 h2)
    · rw [if_neg (by omega), if_pos z] at h1 h2
      cases h1
      cases h2
      exact ⟨K, ej, fun c hc => old _ (hb c hc)⟩
    · rw [if_neg (by omega), if_neg (by omega)] at h1 h2
      exact keepw (T.found (i - 1) g y h1 h2)
  · show (t.put j).1.place.size + (t.put j).1.dummies.size = _
    rw [size1, dm]
    rfl
end
/-! ### all laid anew -/
theorem hole_free {m e : Nat} (hm : m + 1 = 2 ^ e) (owner : Array (Option Nat)) (h : Int) {j : Nat} (hj : j ≤ m) (hf : oAt owner j = none) :
    ∃ K, SetTable.layClean.free m owner (SetTable.turns m) (SetTable.bits h % (m + 1)) (SetTable.bits h) = some (L2.way m h K) ∧ oAt owner (L2.way m h K) = none ∧ ∀ k, k < K → oAt owner (L2.way m h k) ≠ none := by
  obtain ⟨n, n1, n2⟩ := starts hm h hj
  have there : L2.way m h (off m (SetTable.bits h % (m + 1)) (SetTable.bits h) n) = j := by
    show (nth m _ _).j = j
    rw [nth_off, itL_run]
    exact n2
  obtain ⟨K, q1, q2, q3⟩ := st_least (p := fun k => oAt owner (L2.way m h k) = none) _ ((congrArg (oAt owner) there).trans hf)
  refine ⟨K, free_spec m owner _ n _ _ K (by unfold SetTable.turns; omega) q1 (fun c hc => ?_) (by rw [Option.isNone_iff_eq_none]; exact q2), q2, q3⟩
  have := q3 c hc
  cases z : oAt owner (nth m (runAt m (SetTable.bits h % (m + 1)) (SetTable.bits h)) c).j with
  | none => exact absurd z this
  | some _ => rfl
theorem sit {m e : Nat} (hm : m + 1 = 2 ^ e) {done : List Int} {owner : Array (Option Nat)} (W : Own m done owner) (hl : done.length ≤ m) (h : Int) :
    ∃ j, SetTable.layClean.free m owner (SetTable.turns m) (SetTable.bits h % (m + 1)) (SetTable.bits h) = some j ∧ Own m (done ++ [h]) (owner.setIfInBounds j (some done.length)) := by
  obtain ⟨ps, p1, p2⟩ := W.ps
  obtain ⟨x, x1, x2⟩ := st_missing ps (m + 1) (by omega)
  have xf : oAt owner x = none := Classical.byContradiction fun z => x2 (p2 x (Nat.le_of_lt_succ x1) z)
  obtain ⟨K, f1, f2, f3⟩ := hole_free hm owner h (Nat.le_of_lt_succ x1) xf
  have wm := way_in m h K
  refine ⟨L2.way m h K, f1, ?_⟩
  have me := oAt_set_self (owner := owner) (some done.length) (j := L2.way m h K) (by rw [W.sz]; omega)
  have other : ∀ i, i ≠ L2.way m h K → oAt (owner.setIfInBounds (L2.way m h K) (some done.length)) i = oAt owner i := fun i hi => oAt_set_ne _ hi
  have stay : ∀ i, oAt owner i ≠ none → oAt (owner.setIfInBounds (L2.way m h K) (some done.length)) i ≠ none := fun i hi => by
    rcases Classical.em (i = L2.way m h K) with z | z
    · rw [z, me]
      simp
    · rw [other i z]
      exact hi
  constructor
  · rw [Array.size_setIfInBounds]
    exact W.sz
  · intro j k hj ek
    rcases Classical.em (j = L2.way m h K) with z | z
    · rw [z, me] at ek
      cases ek
      exact ⟨h, K, by simp, z.symm, fun c hc => stay _ (f3 c hc)⟩
    · rw [other j z] at ek
      obtain ⟨g, K', a1, a2, a3⟩ := W.at_ j k hj ek
      exact ⟨g, K', (List.getElem?_append_left (List.getElem?_eq_some_iff.mp a1).1).trans a1, a2, fun c hc => stay _ (a3 c hc)⟩
  · intro k hk
    rcases Nat.lt_or_ge k done.length with z | z
    · obtain ⟨j, j1, j2⟩ := W.all k z
      refine ⟨j, j1, ?_⟩
      rw [other j fun q => by rw [q, f2] at j2; cases j2]
      exact j2
    · have : k = done.length := by
        rw [List.length_append, List.length_singleton] at hk
        omega
      subst this
      exact ⟨_, wm, me⟩
  · refine ⟨L2.way m h K :: ps, by simp [p1], fun j hj ej => ?_⟩
    rcases Classical.em (j = L2.way m h K) with z | z
    · exact z ▸ List.mem_cons_self ..
    · rw [other j z] at ej
      exact List.mem_cons_of_mem _ (p2 j hj ej)
theorem sit_all {m e : Nat} (hm : m + 1 = 2 ^ e) : ∀ (rest done : List Int) (owner : Array (Option Nat)), Own m done owner → done.length + rest.length ≤ m →
    ∃ o', rest.foldl (stepF m) (some (owner, done.length)) = some (o', done.length + rest.length) ∧ Own m (done ++ rest) o'
  | [], done, owner, W, _ => ⟨owner, rfl, (List.append_nil done).symm ▸ W⟩
  | h :: rest, done, owner, W, hl => by
    have hl' : done.length + (rest.length + 1) ≤ m := hl
    obtain ⟨j, e1, W1⟩ := sit hm W (by omega) h
    have ln : (done ++ [h]).length = done.length + 1 := by simp
    obtain ⟨o', f, W2⟩ := sit_all hm rest (done ++ [h]) _ W1 (by rw [ln]; omega)
    rw [ln] at f
    refine ⟨o', ?_, by simpa using W2⟩
    rw [List.foldl_cons, stepF_some e1, f, List.length_cons]
    congr 2
    omega
theorem anew {t : SetTable} {hs : Array Int} {wanted M e : Nat} (hw : SetTable.sizeAbove wanted - 1 = M) (hM : M + 1 = 2 ^ e) (hn : hs.size ≤ M) :
    ∃ t' order, t.relaid hs wanted = some (t', order) ∧ order.toList.Perm (List.range hs.size) ∧ TbOk t' (order.toList.map fun i => hs.getD i 0) ∧ t'.mask = M ∧ t'.led = t.led ∧ t'.plain = t.plain := by
  obtain ⟨owner, f, W⟩ := sit_all hM hs.toList [] _ (Own.init M) (by simpa using hn)
  have f' : SetTable.layClean M hs = some owner := by
    rw [layClean_eq]
    exact congrArg (Option.map (·.1)) f
  have W : Own M hs.toList owner := W
  have ris := ris_live (fun j => owner.getD j none) (List.range (M + 1)) List.pairwise_lt_range
  have nd : ((liveOf M owner).map (·.1)).Nodup := List.Pairwise.imp (fun h => Nat.ne_of_lt h) ris.1
  have lc : (liveOf M owner).length = hs.size := by
    obtain ⟨ps, p1, p2⟩ := W.ps
    have up := nat_nodup_len ((liveOf M owner).map (·.1)) ps nd fun x hx => by
      obtain ⟨⟨y, k⟩, q1, q2⟩ := List.mem_map.mp hx
      cases q2
      obtain ⟨b1, b2⟩ := (mem_live W.sz).mp q1
      exact p2 y b1 (by rw [b2]; simp)
    have down := nat_nodup_len (List.range hs.size) ((liveOf M owner).map (·.2)) List.nodup_range fun k hk => by
      obtain ⟨j, b1, b2⟩ := W.all k (by simpa using hk)
      exact List.mem_map.mpr ⟨(j, k), (mem_live W.sz).mpr ⟨b1, b2⟩, rfl⟩
    simp only [List.length_map, List.length_range, Array.length_toList] at up down p1
    omega
  refine ⟨tabOf t M owner, ((liveOf M owner).map (·.2)).toArray, ?_, ?_, ⟨ris.1, rfl, ?_, ⟨e, hM⟩, fun x hx => ?_, fun i h j h1 h2 => ?_⟩, rfl, rfl, rfl⟩
  · rw [relaid_eq, hw, f']
    rfl
  · refine perm_range hs.size _ (by simpa using lc) fun k hk => ?_
    obtain ⟨j, b1, b2⟩ := W.all k (by simpa using hk)
    exact List.mem_map.mpr ⟨(j, k), (mem_live W.sz).mpr ⟨b1, b2⟩, rfl⟩
  · show ((liveOf M owner).map (·.1)).toArray.size = _
    simp
  · exact Nat.le_of_lt_succ (List.mem_range.mp (ris.2 x hx))
  · have g1 : (((liveOf M owner).map (·.2)).map fun i => hs.getD i 0)[i]? = some h := h1
    have g2 : ((liveOf M owner).map (·.1))[i]? = some j := h2
    rw [List.getElem?_map, List.getElem?_map] at g1
    rw [List.getElem?_map] at g2
    cases hq : (liveOf M owner)[i]? with
    | none =>
      rw [hq] at g2
      cases g2
    | some q =>
      obtain ⟨y, k⟩ := q
      rw [hq] at g1 g2
      cases g2
      obtain ⟨b1, b2⟩ := (mem_live W.sz).mp (List.mem_of_getElem? hq)
      obtain ⟨h0, K, a1, a2, a3⟩ := W.at_ y k b1 b2
      have e0 : h0 = h := by
        have e1 : hs.getD k 0 = h := Option.some.inj g1
        rw [Array.getD_eq_getD_getElem?, ← Array.getElem?_toList, a1] at e1
        exact e1
      subst e0
      refine ⟨K, a2, fun c hc => ?_⟩
      show L2.way M h0 c ∈ (liveOf M owner).map (·.1)
      cases z : oAt owner (L2.way M h0 c) with
      | none => exact absurd z (a3 c hc)
      | some n => exact List.mem_map.mpr ⟨(_, n), (mem_live W.sz).mpr ⟨way_in M h0 c, z⟩, rfl⟩
theorem above_go (n : Nat) : ∀ f e : Nat, ∃ e', SetTable.sizeAbove.go n f (2 ^ e) = 2 ^ e' ∧ e ≤ e' ∧ e' ≤ e + f ∧ (n < 2 ^ (e + f) → n < 2 ^ e') ∧ (e' = e ∨ 2 ^ e' ≤ 2 * n)
  | 0, e => ⟨e, rfl, Nat.le_refl _, Nat.le_refl _, fun h => h, .inl rfl⟩
  | f + 1, e => by
    show ∃ e', (if 2 ^ e ≤ n then SetTable.sizeAbove.go n f (2 ^ e * 2) else 2 ^ e) = 2 ^ e' ∧ _
    by_cases h : 2 ^ e ≤ n
    · rw [if_pos h, ← Nat.pow_succ]
      obtain ⟨e', h1, h2, h3, h4, h5⟩ := above_go n f (e + 1)
      refine ⟨e', h1, by omega, by omega, fun z => h4 ?_, .inr ?_⟩
      · rw [show e + 1 + f = e + (f + 1) by omega]
        exact z
      · rcases h5 with h5 | h5
        · rw [h5, Nat.pow_succ]
          omega
        · exact h5
    · rw [if_neg h]
      exact ⟨e, rfl, Nat.le_refl _, by omega, fun _ => by omega, .inl rfl⟩
theorem above {n : Nat} (h : n < 2 ^ 60) : ∃ e, SetTable.sizeAbove n = 2 ^ e ∧ n < 2 ^ e ∧ (2 ^ e = 8 ∨ 2 ^ e ≤ 2 * n) := by
  obtain ⟨e, h1, _, _, h4, h5⟩ := above_go n 64 3
  refine ⟨e, h1, h4 (Nat.lt_of_lt_of_le h (Nat.pow_le_pow_right (by decide) (by decide))), ?_⟩
  rcases h5 with h5 | h5
  · exact .inl (by rw [h5])
  · exact .inr h5
end Ev.Tb

/-! sets of tuples, nested as they may be -/
namespace Ev.Tb
open PySem PyProof.Rows L2
/-- the tuple at x is the key k -/
def KeyAt (h : Heap) (k : NestedKey) (x : Addr) : Prop := NestedIs h k (.ref x) ∧ k.depth ≤ 8
theorem KeyAt.inj {h : Heap} {k k' : NestedKey} {x : Addr} (a : KeyAt h k x) (b : KeyAt h k' x) : k = k' := NestedIs.inj _ _ _ a.1 b.1
theorem KeyAt.keep {h h' : Heap} {k : NestedKey} {x : Addr} (a : KeyAt h k x) (hk : ∀ c o, h.get? c = some o → h'.get? c = some o) : KeyAt h' k x := ⟨NestedIs.at (fun c o _ _ e _ => hk c o e) _ _ a.1, a.2⟩
theorem KeyAt.but {h h' : Heap} {k : NestedKey} {x a : Addr} {o : Obj} {es : Array (Int × Value)} {ep : Nat} {t : SetTable} (b : KeyAt h k x) (ho : h.get? a = some o) (hd : o.data = .set es ep t) (hs : Heap.SameBut a h h') : KeyAt h' k x := by
  refine ⟨NestedIs.at (fun c u vs n e1 e2 => (hs.2 c fun z => ?_).trans e1) _ _ b.1, b.2⟩
  rw [z, ho] at e1
  cases e1
  rw [hd] at e2
  cases e2
section
variable {P : Program} {w : World} {A : Around} {E : Value → Shared → Prop} {s : Shared}
/-! ### small questions -/
theorem noClass_leaf {n : Nat} {k : NestedKey} {v : Value} {h : Heap} (hk : NestedIs h k v) (nr : ∀ a, v ≠ .ref a) : ofAClassStatement n v = pure false := by
  cases hk <;> first | (cases n <;> rfl) | exact absurd rfl (nr _)
theorem noClass : ∀ (n : Nat) (k : NestedKey) (v : Value) (A : Around) (s : Shared) (Q : Bool → Shared → Prop), NestedIs s.heap k v → k.depth ≤ n → Q false s → wpAny (model P w) A (ofAClassStatement n v) Q E s := by
  intro n
  induction n with
  | zero =>
    intro k v A s Q x hn q
    rw [noClass_leaf x (fun a z => by
      subst z
      cases x
      simp [NestedKey.depth] at hn)]
    exact wpAny_pure q
  | succ n ih =>
    intro k v A s Q x hn q
    cases x with
    | @tup b o its m ks ho hc hd hi =>
      simp only [NestedKey.depth] at hn
      unfold ofAClassStatement
      refine wpAny_bind (wpAny_typeOf (T := "tuple") ⟨o, ho, hc⟩ ?_)
      dsimp only
      have e : (("tuple" : String) == "tuple") = true := by decide
      simp only [e, if_true]
      try refine wpAny_bind (wpAny_pure ?_)
      simp only [Bool.not_true, Bool.false_eq_true, if_false]
      refine wpAny_bind (wpAny_seqItems ho hd ?_)
      dsimp only
      refine wpAny_bind ?_
      show wpAny _ _ (forIn its _ _) _ _ s
      rw [← Array.forIn_toList]
      refine wpAny_forIn_list _ (fun rest r s' => r.1 = none ∧ s' = s ∧ ∃ js, NestedAll s.heap js rest ∧ NestedKey.depthAll js ≤ n) _ ?_ ?_ _ _ ⟨rfl, rfl, ks, hi, by omega⟩
      · rintro v rest r s' ⟨hr, es, js, h1, h2⟩
        subst es
        cases h1 with
        | @cons j _ js' _ g1 g2 =>
          simp only [NestedKey.depthAll] at h2
          refine wpAny_bind (ih j v A s' _ g1 (by omega) ?_)
          simp only [Bool.false_eq_true, if_false]
          exact wpAny_pure ⟨rfl, rfl, js', g2, by omega⟩
      · rintro ⟨r1, r2⟩ s' ⟨hr, es, _⟩
        subst es
        simp only at hr
        subst hr
        exact wpAny_pure q
    | none => exact wpAny_pure q
    | bool e => exact wpAny_pure q
    | int i t => exact wpAny_pure q
    | text i t => exact wpAny_pure q
/-- hash by value: some answer -/
theorem byValue : ∀ (n : Nat) (k : NestedKey) (v : Value) (A : Around) (s : Shared) (Q : Bool → Shared → Prop), NestedIs s.heap k v → k.depth ≤ n → (∀ b, Q b s) → wpAny (model P w) A (hashByValue n v) Q E s := by
  intro n
  induction n with
  | zero =>
    intro k v A s Q x hn q
    cases x <;> first | exact wpAny_pure (q _) | (simp [NestedKey.depth] at hn; done)
  | succ n ih =>
    intro k v A s Q x hn q
    cases x with
    | @tup b o its m ks ho hc hd hi =>
      simp only [NestedKey.depth] at hn
      unfold hashByValue
      refine wpAny_bind (wpAny_specialOf (T := "tuple") ⟨o, ho, hc⟩ F.slot_tuple_hash.lookup ?_)
      show wpAny _ _ (seqItems? (.ref b) >>= _) _ _ s
      refine wpAny_bind (wpAny_seqItems ho hd ?_)
      refine wpAny_bind ?_
      show wpAny _ _ (forIn its _ _) _ _ s
      rw [← Array.forIn_toList]
      refine wpAny_forIn_list _ (fun rest r s' => r.1 = none ∧ s' = s ∧ ∃ js, NestedAll s.heap js rest ∧ NestedKey.depthAll js ≤ n) _ ?_ ?_ _ _ ⟨rfl, rfl, ks, hi, by omega⟩
      · rintro v rest r s' ⟨hr, es, js, h1, h2⟩
        subst es
        cases h1 with
        | @cons j _ js' _ g1 g2 =>
          simp only [NestedKey.depthAll] at h2
          refine wpAny_bind (ih j v A s' _ g1 (by omega) fun b => ?_)
          cases b
          · simp only [Bool.not_false, if_true]
            exact wpAny_pure (wpAny_pure (q _))
          · simp only [Bool.not_true, Bool.false_eq_true, if_false]
            exact wpAny_pure ⟨rfl, rfl, js', g2, by omega⟩
      · rintro ⟨r1, r2⟩ s' ⟨hr, es, _⟩
        subst es
        simp only at hr
        subst hr
        exact wpAny_pure (q _)
    | none => exact wpAny_pure (q _)
    | bool e => exact wpAny_pure (q _)
    | int i t => exact wpAny_pure (q _)
    | text i t => exact wpAny_pure (q _)
/-- a search among tuples shows nothing -/
theorem unseen {k : NestedKey} {x : Addr} {Q : Bool → Shared → Prop} (hk : KeyAt s.heap k x) {ys : List Value} (hy : ∀ y ∈ ys, ∃ k' c, y = Value.ref c ∧ KeyAt s.heap k' c) (q : Q false s) : wpAny (model P w) A (searchCouldBeSeen (.ref x) ys) Q E s := by
  unfold searchCouldBeSeen
  refine wpAny_bind ?_
  refine wpAny_forIn_list _ (fun rest r s' => r.1 = none ∧ s' = s ∧ ∀ y ∈ rest, ∃ k' c, y = Value.ref c ∧ KeyAt s.heap k' c) _ ?_ ?_ _ _ ⟨rfl, rfl, hy⟩
  · rintro v rest r s' ⟨hr, es, all⟩
    subst es
    obtain ⟨k', c, rfl, hc⟩ := all v (List.mem_cons_self ..)
    have more : ∀ y ∈ rest, ∃ k' c, y = Value.ref c ∧ KeyAt s'.heap k' c := fun y hy => all y (List.mem_cons_of_mem _ hy)
    dsimp only
    by_cases hv : (x == c || (carriedByValue (.ref x) && carriedByValue (.ref c))) = true
    · exact wp_if_pos hv (wpAny_pure ⟨rfl, rfl, more⟩)
    · refine wp_if_neg hv ?_
      refine wpAny_bind (quiet_key k _ 8 s' hk.1 hk.2 A E _ ?_)
      simp only [Bool.not_true, Bool.false_eq_true, if_false]
      refine wpAny_bind (quiet_key k' _ 8 s' hc.1 hc.2 A E _ ?_)
      simp only [Bool.not_true, Bool.false_eq_true, if_false]
      refine wpAny_bind (noClass 8 k _ A s' _ hk.1 hk.2 ?_)
      simp only [Bool.false_eq_true, if_false]
      refine wpAny_bind (noClass 8 k' _ A s' _ hc.1 hc.2 ?_)
      simp only [Bool.false_eq_true, if_false]
      exact wpAny_pure ⟨rfl, rfl, more⟩
  · rintro ⟨r1, r2⟩ s' ⟨hr, es, _⟩
    subst es
    simp only at hr
    subst hr
    exact wpAny_pure q
/-! ### the set -/
abbrev Mem := List (Addr × NestedKey)
def rowsN (w : World) (L : Mem) : List (Int × Value) := L.map fun p => (p.2.hash w, Value.ref p.1)
def hsN (w : World) (L : Mem) : List Int := L.map fun p => p.2.hash w
structure SetN (w : World) (h : Heap) (a : Addr) (L : Mem) (es : Array (Int × Value)) (ep : Nat) (t : SetTable) : Prop where
  ob : ∃ o, h.get? a = some o ∧ o.ExactSet ∧ o.data = .set es ep t
  rows : es.toList = rowsN w L
  tab : TbOk t (hsN w L)
  nd : (L.map (·.2)).Nodup
  key : ∀ p, p ∈ L → KeyAt h p.2 p.1
  led : w.params.followText "set-order" = true ∨ t.led = true
  room : L.length * 5 < t.mask * 3
  few : L.length ≤ 1000
  low : t.mask ≤ 8191
variable {a : Addr} {L : Mem} {es : Array (Int × Value)} {ep : Nat} {t : SetTable}
theorem rows_size (h : es.toList = rowsN w L) : es.size = L.length := by
  have e := congrArg List.length h
  simpa [rowsN] using e
theorem SetN.fits (R : SetN w s.heap a L es ep t) : t.fits es.size = true := by
  have h1 := R.tab.many
  have h2 := rows_size R.rows
  have h3 := R.room
  simp only [hsN, List.length_map] at h1
  unfold SetTable.fits SetTable.fill
  rw [R.tab.clean, Bool.and_eq_true, beq_iff_eq, decide_eq_true_eq]
  show t.place.size = es.size ∧ t.place.size + 0 ≤ t.mask
  omega
theorem rows_at (h : es.toList = rowsN w L) {i : Nat} {p : Addr × NestedKey} (hp : L[i]? = some p) : es[i]? = some (p.2.hash w, Value.ref p.1) := by
  rw [← Array.getElem?_toList, h]
  simp [rowsN, hp]
theorem odd_mask {t : SetTable} {hs : List Int} (T : TbOk t hs) (h : 1 ≤ t.mask) : t.mask % 2 = 1 := by
  obtain ⟨e, he⟩ := T.two
  cases e with
  | zero => simp at he; omega
  | succ e =>
    rw [Nat.pow_succ] at he
    omega
theorem SetN.stands (R : SetN w s.heap a L es ep t) : ¬ t.gaveWay = true := by
  unfold SetTable.gaveWay
  rw [odd_mask R.tab (by have := R.room; omega)]
  decide
/-- from the c-th step on -/
theorem seek (R : SetN w s.heap a L es ep t) {x : Addr} {k : NestedKey} (hx : KeyAt s.heap k x) (hu : A.units + 8 < cLine) {K : Nat} (hKf : K < 10 * SetTable.turns t.mask) (hK : L2.way t.mask (k.hash w) K ∉ t.place.toList) (hKb : ∀ c, c < K → L2.way t.mask (k.hash w) c ∈ t.place.toList)
    {Q : SetFound → Shared → Prop} (hin : k ∈ L.map (·.2) → Q (.there none) s) (hout : k ∉ L.map (·.2) → Q (.free (L2.way t.mask (k.hash w) K) false) s)
    {st : SetTable.Probe} (hst : st = t.probeStart (k.hash w)) :
    ∀ (f c : Nat) (stand : Option SetTable.Probe), stand.getD st = nth t.mask st c → c ≤ K → K - c < f →
      (∀ (i : Nat) p, L[i]? = some p → p.2 = k → ∃ c', c ≤ c' ∧ c' < K ∧ t.place.toList[i]? = some (L2.way t.mask (k.hash w) c')) →
      wpAny (model P w) A (setSearchFrom a (.ref x) (k.hash w) true f stand) Q E s := by
  have ej : ∀ q, (nth t.mask st q).j = L2.way t.mask (k.hash w) q := fun q => by rw [hst, start_run]
  have nodum : ∀ (n : Nat) (p : SetTable.Probe), p.dummy = none → (nth t.mask p n).dummy = none := by
    intro n
    induction n with
    | zero => exact fun p h => h
    | succ n ih =>
      intro p h
      refine ih _ ?_
      unfold adv
      split <;> exact h
  obtain ⟨o, ho, hex, hd⟩ := R.ob
  intro f
  induction f with
  | zero => exact fun c stand _ _ h _ => absurd h (Nat.not_lt_zero _)
  | succ f ih =>
    intro c stand hs0 hc hf hre
    rw [setSearchFrom_succ]
    refine wpAny_bind (wpAny_setState_of ho hd R.fits ?_)
    dsimp only
    refine wp_if_neg R.stands ?_
    try refine wpAny_bind (wpAny_pure ?_)
    have shift : ∀ q, nth t.mask (nth t.mask st c) q = nth t.mask st (c + q) := fun q => (nth_add t.mask c st q).symm
    have hashAt : ∀ (i : Nat) p, L[i]? = some p → (es[i]?.map (·.1)).getD 0 = p.2.hash w := fun i p hp => by rw [rows_at R.rows hp]; rfl
    rcases go_spec t R.tab.up R.tab.clean (fun i => (es[i]?.map (·.1)).getD 0) (k.hash w) (10 * SetTable.turns t.mask) (K - c) (nth t.mask st c) (nodum c st (by rw [hst]; rfl)) (by omega)
      (fun q hq => by rw [shift, ej]; exact hKb _ (by omega)) (by rw [shift, ej, show c + (K - c) = K by omega]; exact hK) with ⟨q, i, hq, hi, hh, hno, hpr⟩ | ⟨hno, hpr⟩
    · have hpr : t.probe (fun i => (es[i]?.map (·.1)).getD 0) (k.hash w) (stand.getD (t.probeStart (k.hash w))) = some (.candidate (nth t.mask st (c + q)).j i (nth t.mask st (c + (q + 1)))) := by
        rw [← hst, hs0, ← shift, ← shift]
        exact hpr
      rw [hpr]
      dsimp only
      rw [shift] at hi
      have il : i < L.length := by
        have h1 : i < t.place.toList.length := (List.getElem?_eq_some_iff.mp hi).1
        have h2 := R.tab.many
        simp only [hsN, List.length_map] at h2
        rw [Array.length_toList] at h1
        omega
      obtain ⟨p, hp⟩ : ∃ p, L[i]? = some p := ⟨_, List.getElem?_eq_getElem il⟩
      have pm : p ∈ L := List.mem_of_getElem? hp
      have live : t.slot (nth t.mask st (c + q)).j = .live i := slot_live R.tab.up hi
      have rest : wpAny (model P w) A (searchRest a (.ref x) (k.hash w) true f es t (nth t.mask st (c + q)).j i (nth t.mask st (c + (q + 1)))) Q E s := by
        unfold searchRest
        rw [rows_at R.rows hp]
        dsimp only
        have pk := R.key p pm
        refine wpAny_bind (wpAny_holding (eqAt_key p.2 k A s _ _ pk.1 hx.1 (by have := hx.2; omega) P w E _ ?_))
        refine wpAny_bind (wpAny_setState_of ho hd R.fits ?_)
        dsimp only
        by_cases e : p.2 = k
        · refine wp_if_pos (by rw [e, NestedKey.beq_self]; rfl) (wpAny_pure (hin (List.mem_map.mpr ⟨p, pm, e⟩)))
        · have eb : NestedKey.beq p.2 k = false := by
            rw [← NestedKey.decide_eq]
            exact decide_eq_false e
          rw [eb]
          refine wp_if_neg (by simp) ?_
          try refine wpAny_bind (wpAny_pure ?_)
          rw [L2.sameMem]
          dsimp only
          simp only [if_true, live, rows_at R.rows hp]
          refine wpAny_bind (wpAny_isSame_ref_self (wpAny_bind (wpAny_pure ?_)))
          simp only [if_true]
          refine wp_if_neg (by simp) ?_
          refine ih (c + (q + 1)) _ rfl (by omega) (by omega) fun j p0 h0 hk0 => ?_
          obtain ⟨c', a1, a2, a3⟩ := hre j p0 h0 hk0
          refine ⟨c', ?_, a2, a3⟩
          rcases Nat.lt_trichotomy c' (c + q) with z | z | z
          · exfalso
            refine hno (c' - c) j (by omega) (by rw [shift, ej, show c + (c' - c) = c' by omega]; exact a3) ?_
            exact (hashAt j p0 h0).trans (by rw [hk0])
          · exfalso
            rw [z, ← ej] at a3
            have s0 := slot_live R.tab.up a3
            rw [live] at s0
            cases s0
            rw [hp] at h0
            cases h0
            exact e hk0
          · omega
      by_cases hl : t.led = true
      · refine wp_if_neg (by simp [hl]) ?_
        try refine wpAny_bind (wpAny_pure ?_)
        exact rest
      · refine wp_if_pos (by simp [hl]) ?_
        refine wpAny_bind (unseen hx (fun y hy => ?_) ?_)
        · obtain ⟨e, he, ee⟩ := List.mem_map.mp hy
          have he1 : e ∈ es ∧ e.1 = k.hash w := by simpa using he
          have he2 : e ∈ rowsN w L := by
            rw [← R.rows]
            simpa using he1.1
          obtain ⟨p2, m2, e2⟩ := List.mem_map.mp he2
          exact ⟨p2.2, p2.1, by rw [← ee, ← e2], R.key p2 m2⟩
        · refine wp_if_neg (by decide) ?_
          try refine wpAny_bind (wpAny_pure ?_)
          exact rest
    · have hpr : t.probe (fun i => (es[i]?.map (·.1)).getD 0) (k.hash w) (stand.getD (t.probeStart (k.hash w))) = some (.empty (L2.way t.mask (k.hash w) K) none) := by
        have e2 : L2.way t.mask (k.hash w) K = (nth t.mask (nth t.mask st c) (K - c)).j := by
          rw [shift, ej, show c + (K - c) = K by omega]
        rw [← hst, hs0, e2]
        exact hpr
      rw [hpr]
      dsimp only
      refine wpAny_pure (hout fun hm => ?_)
      obtain ⟨p0, h0, hk0⟩ := List.mem_map.mp hm
      obtain ⟨i0, hi0, e0⟩ := List.getElem_of_mem h0
      have h00 : L[i0]? = some p0 := by rw [List.getElem?_eq_getElem hi0, e0]
      obtain ⟨c', a1, a2, a3⟩ := hre i0 p0 h00 hk0
      exact hno (c' - c) i0 (by omega) (by rw [shift, ej, show c + (c' - c) = c' by omega]; exact a3) ((hashAt i0 p0 h00).trans (by rw [hk0]))
theorem seek_all (R : SetN w s.heap a L es ep t) {x : Addr} {k : NestedKey} (hx : KeyAt s.heap k x) (hu : A.units + 8 < cLine) {Q : SetFound → Shared → Prop} (hin : k ∈ L.map (·.2) → Q (.there none) s)
    (hout : ∀ K, k ∉ L.map (·.2) → L2.way t.mask (k.hash w) K ∉ t.place.toList → (∀ c, c < K → L2.way t.mask (k.hash w) c ∈ t.place.toList) → Q (.free (L2.way t.mask (k.hash w) K) false) s) :
    wpAny (model P w) A (setSearch a (.ref x) (k.hash w) true) Q E s := by
  have r1 := R.room
  have r2 := R.low
  obtain ⟨K, h1, h2, h3⟩ := R.tab.hole (by simp only [hsN, List.length_map]; omega) (k.hash w)
  have kb : K < 100000 := by
    unfold SetTable.turns at h1
    omega
  unfold setSearch
  refine seek R hx hu h1 h2 h3 hin (fun hn => hout K hn h2 h3) rfl 100000 0 none rfl (Nat.zero_le _) (by omega) fun i p hp hk => ?_
  have il : i < t.place.toList.length := by
    have g1 : i < L.length := (List.getElem?_eq_some_iff.mp hp).1
    have g2 := R.tab.many
    simp only [hsN, List.length_map] at g2
    rw [Array.length_toList]
    omega
  have hj := List.getElem?_eq_getElem il
  obtain ⟨c, c1, c2⟩ := R.tab.early h2 (i := i) (by simp [hsN, hp, hk]) hj
  exact ⟨c, Nat.zero_le _, c1, by rw [hj, c2]⟩
/-! ### laid anew -/
theorem pick_rows (hr : es.toList = rowsN w L) {order : Array Nat} (hp : order.toList.Perm (List.range L.length)) :
    ∃ M, (order.filterMap (es[·]?)).toList = rowsN w M ∧ M.Perm L ∧ hsN w M = order.toList.map fun i => (es.map (·.1)).getD i 0 := by
  have hb : ∀ i ∈ order.toList, i < L.length := fun i hi => List.mem_range.mp (hp.mem_iff.mp hi)
  have hz := rows_size hr
  have step : ∀ l : List Nat, (∀ i ∈ l, i < L.length) → l.filterMap (fun i => es[i]?) = rowsN w (l.filterMap fun i => L[i]?) ∧ hsN w (l.filterMap fun i => L[i]?) = l.map fun i => (es.map (·.1)).getD i 0 := by
    intro l
    induction l with
    | nil => exact fun _ => ⟨rfl, rfl⟩
    | cons i l ih =>
      intro h
      have hi := h i (List.mem_cons_self ..)
      obtain ⟨e1, e2⟩ := ih fun j hj => h j (List.mem_cons_of_mem _ hj)
      obtain ⟨p, hp⟩ : ∃ p, L[i]? = some p := ⟨_, List.getElem?_eq_getElem hi⟩
      have he := rows_at hr hp
      have hg : (es.map (·.1)).getD i 0 = p.2.hash w := by simp [Array.getD_eq_getD_getElem?, he]
      rw [List.filterMap_cons_some he, List.filterMap_cons_some hp, List.map_cons, e1, hg, ← e2]
      exact ⟨rfl, rfl⟩
  obtain ⟨e1, e2⟩ := step order.toList hb
  refine ⟨order.toList.filterMap fun i => L[i]?, by rw [Array.toList_filterMap]; exact e1, ?_, e2⟩
  have q := hp.filterMap fun i => L[i]?
  have whole : (List.range L.length).filterMap (fun i => L[i]?) = L := by
    have part : ∀ n, n ≤ L.length → (List.range n).filterMap (fun i => L[i]?) = L.take n := by
      intro n
      induction n with
      | zero => exact fun _ => rfl
      | succ n ih =>
        intro hn
        have ge : L[n]? = some (L[n]'hn) := List.getElem?_eq_getElem hn
        rw [List.range_succ, List.filterMap_append, ih (by omega), List.filterMap_cons_some ge, List.take_succ, ge]
        rfl
    rw [part _ (Nat.le_refl _), List.take_length]
  rw [whole] at q
  exact q
theorem lay_anew {o : Obj} (ho : s.heap.get? a = some o) (hex : o.ExactSet) (hd : o.data = .set es ep t) (hr : es.toList = rowsN w L) (hz : t.place.size = es.size) (hc : t.dummies = #[]) (hfl : es.size ≤ t.mask) (nd : (L.map (·.2)).Nodup) (key : ∀ p, p ∈ L → KeyAt s.heap p.2 p.1)
    (ld : w.params.followText "set-order" = true ∨ t.led = true) (few : L.length ≤ 1000) (pos : 0 < L.length) {Q : Unit → Shared → Prop}
    (q : ∀ h' M es' ep' t', Heap.SameBut a s.heap h' → SetN w h' a M es' ep' t' → M.Perm L → Q () { s with heap := h' }) : wpAny (model P w) A (setRelay a (SetTable.grown L.length)) Q E s := by
  have sz := rows_size hr
  have gr : SetTable.grown L.length = L.length * 4 := by
    unfold SetTable.grown
    rw [if_neg (by omega)]
  obtain ⟨e, e1, e2, e3⟩ := above (n := SetTable.grown L.length) (by rw [gr]; omega)
  rw [gr] at e2 e3
  have fits : t.fits es.size = true := by
    unfold SetTable.fits SetTable.fill
    rw [hc, Bool.and_eq_true, beq_iff_eq, decide_eq_true_eq]
    show t.place.size = es.size ∧ t.place.size + 0 ≤ t.mask
    omega
  have p1 : 2 ^ e - 1 + 1 = 2 ^ e := by omega
  obtain ⟨t', order, f1, f2, f3, f4, f5, f6⟩ := anew (t := t) (hs := es.map (·.1)) (wanted := SetTable.grown L.length) (M := 2 ^ e - 1) (by rw [e1]) p1 (by rw [Array.size_map, sz]; omega)
  rw [Array.size_map, sz] at f2
  obtain ⟨M, g1, g2, g3⟩ := pick_rows hr f2
  rw [← g3] at f3
  have size2 : (order.filterMap (es[·]?)).size = es.size := by rw [rows_size g1, g2.length_eq, sz]
  rw [setRelay_eq]
  refine wpAny_bind (wpAny_setState_of ho hd fits ?_)
  dsimp only
  refine wp_if_neg (by rw [e1, sizeLine_eq]; omega) ?_
  try refine wpAny_bind (wpAny_pure ?_)
  rw [f1]
  dsimp only
  refine wpAny_bind ?_
  refine wp_if_neg (by rw [size2]; simp) ?_
  try refine wpAny_bind (wpAny_pure ?_)
  refine wpAny_pure ?_
  dsimp only
  refine wpAny_storeSet_of ho hd ?_ (by rw [size2, sz, sizeLine_eq]; omega)
  have sb : Heap.SameBut a s.heap (s.heap.update a (Obj.putSet (order.filterMap (es[·]?)) t')) := Heap.SameBut.update ..
  refine q _ M _ (ep + 1) t' sb ⟨⟨_, store_at ho hd, ⟨hex.1, hex.2.1, hex.2.2⟩, rfl⟩, g1, f3, (g2.map (·.2)).nodup_iff.mpr nd, fun p hp => (key p (g2.mem_iff.mp hp)).but ho hd sb, by rw [f5]; exact ld, ?_, by rw [g2.length_eq]; exact few, ?_⟩ g2
  · rw [g2.length_eq, f4]
    omega
  · rw [f4]
    omega
/-- one is added -/
theorem add_one (R : SetN w s.heap a L es ep t) {x : Addr} {k : NestedKey} (hx : KeyAt s.heap k x) (hu : A.units + 8 < cLine) (hfew : L.length < 1000) {Q : Bool → Shared → Prop}
    (q : ∀ b h' M es' ep' t', Heap.SameBut a s.heap h' → SetN w h' a M es' ep' t' → (k ∈ L.map (·.2) → M = L) → (k ∉ L.map (·.2) → M.Perm ((x, k) :: L)) → Q b { s with heap := h' }) :
    wpAny (model P w) A (setAddHashed a (.ref x) (k.hash w)) Q E s := by
  obtain ⟨o, ho, hex, hd⟩ := R.ob
  have sz := rows_size R.rows
  have r1 := R.room
  have r2 := R.low
  unfold setAddHashed
  refine wpAny_holding ?_
  rw [show (100000 : Nat) = 99999 + 1 from rfl, setAddHashedIn_succ]
  refine wpAny_bind (wpAny_setState_of ho hd R.fits ?_)
  dsimp only
  refine wp_if_neg (by simp [byScan, Value.scannable]) ?_
  try refine wpAny_bind (wpAny_pure ?_)
  refine wpAny_bind (seek_all R hx hu (fun hm => ?_) fun K hm hK hb => ?_)
  · dsimp only
    exact wpAny_pure (q false s.heap L es ep t (Heap.SameBut.refl a s.heap) R (fun _ => rfl) fun z => absurd hm z)
  · dsimp only
    refine wpAny_bind (wpAny_setState_of ho hd R.fits ?_)
    dsimp only
    obtain ⟨pl, T1, m1, l1, _, fl1⟩ := R.tab.more hK hb rfl rfl
    have q2 : (t.put (L2.way t.mask (k.hash w) K)).2 = SetTable.below t.place (L2.way t.mask (k.hash w) K) := rfl
    generalize (t.put (L2.way t.mask (k.hash w) K)) = pt at T1 m1 l1 fl1 q2 ⊢
    obtain ⟨t1, p⟩ := pt
    dsimp only at T1 m1 l1 fl1 q2 ⊢
    rw [← q2] at pl T1
    clear q2
    have fin : ∀ (b : Bool), wpAny (model P w) A (do
        let t := if b = true then t1 else { t1 with plain := false }
        storeSet a (SetTable.insertAt es p (k.hash w, Value.ref x)) t
        if (!false && t.tooFull) = true then setRelay a (SetTable.grown (es.size + 1))
        return true) Q E s := by
      intro b
      obtain ⟨t2, et2⟩ : ∃ t2, t2 = (if b = true then t1 else { t1 with plain := false } : SetTable) := ⟨_, rfl⟩
      have T2 : TbOk t2 ((hsN w L).take p ++ k.hash w :: (hsN w L).drop p) ∧ t2.mask = t.mask ∧ t2.led = t.led ∧ t2.fill = L.length + 1 := by
        have fl : t1.fill = L.length + 1 := by rw [fl1]; simp [hsN]
        rw [et2]
        cases b
        · exact ⟨⟨T1.up, T1.clean, T1.many, T1.two, T1.inn, T1.found⟩, m1, l1, fl⟩
        · exact ⟨T1, m1, l1, fl⟩
      obtain ⟨T2, m2, l2, f2⟩ := T2
      simp only [← et2]
      have hin : (SetTable.insertAt es p (k.hash w, Value.ref x)).toList = rowsN w (L.take p ++ (x, k) :: L.drop p) := by
        rw [SetTable.toList_insertAt, R.rows]
        simp [rowsN, List.map_take, List.map_drop]
      have ehs : (hsN w L).take p ++ k.hash w :: (hsN w L).drop p = hsN w (L.take p ++ (x, k) :: L.drop p) := by simp [hsN, List.map_take, List.map_drop]
      rw [ehs] at T2
      have pm : (L.take p ++ (x, k) :: L.drop p).Perm ((x, k) :: L) := put_perm L p (x, k)
      generalize L.take p ++ (x, k) :: L.drop p = L1 at hin T2 pm
      have len1 : L1.length = L.length + 1 := pm.length_eq
      have size1 := rows_size hin
      have nd1 : (L1.map (·.2)).Nodup := (pm.map (·.2)).nodup_iff.mpr (List.nodup_cons.mpr ⟨hm, R.nd⟩)
      generalize SetTable.insertAt es p (k.hash w, Value.ref x) = es1 at hin size1 ⊢
      refine wpAny_bind (wpAny_storeSet_of ho hd ?_ (by rw [size1, len1, sizeLine_eq]; omega))
      have sb : Heap.SameBut a s.heap (s.heap.update a (Obj.putSet es1 t2)) := Heap.SameBut.update ..
      have ho1 := store_at (es' := es1) (t' := t2) ho hd
      generalize s.heap.update a (Obj.putSet es1 t2) = h1 at sb ho1 ⊢
      have key1 : ∀ p, p ∈ L1 → KeyAt h1 p.2 p.1 := fun p hp => by
        rcases List.mem_cons.mp (pm.mem_iff.mp hp) with e | hp
        · rw [e]
          exact hx.but ho hd sb
        · exact (R.key p hp).but ho hd sb
      have led1 : w.params.followText "set-order" = true ∨ t2.led = true := by
        rw [l2]
        exact R.led
      have many1 : t2.place.size = es1.size := by
        have := T2.many
        simp only [hsN, List.length_map] at this
        omega
      by_cases hf : t2.tooFull = true
      · first
          | (refine wpAny_bind ?_; refine wp_if_pos (by simp [hf]) ?_)
          | (refine wp_if_pos (by simp [hf]) ?_; refine wpAny_bind ?_)
        rw [sz, ← len1]
        refine lay_anew (s := { s with heap := h1 }) ho1 ⟨hex.1, hex.2.1, hex.2.2⟩ rfl hin many1 T2.clean (by rw [size1, len1, m2]; omega) nd1 key1 led1 (by omega) (by omega) fun h2 M es2 ep2 t2' sb2 R2 pm2 => ?_
        exact wpAny_pure (q true h2 M es2 ep2 t2' (sb.trans sb2) R2 (fun z => absurd z hm) fun _ => pm2.trans pm)
      · first
          | refine wp_if_neg (by simp [hf]) ?_
          | (refine wpAny_bind ?_; refine wp_if_neg (by simp [hf]) ?_; refine wpAny_pure ?_)
        refine wpAny_pure (q true h1 L1 es1 (ep + 1) t2 sb ⟨⟨_, ho1, ⟨hex.1, hex.2.1, hex.2.2⟩, rfl⟩, hin, T2, nd1, key1, led1, ?_, by omega, by rw [m2]; exact r2⟩ (fun z => absurd z hm) fun _ => pm)
        have h := hf
        unfold SetTable.tooFull at h
        rw [decide_eq_true_eq, f2] at h
        omega
    by_cases hp : t1.plain = true
    · first
        | (refine wpAny_bind ?_; refine wp_if_pos hp ?_; refine byValue 8 k _ A s _ hx.1 hx.2 fun b => ?_)
        | refine wp_if_pos hp (wpAny_bind (byValue 8 k _ A s _ hx.1 hx.2 fun b => ?_))
      exact fin b
    · first
        | (refine wpAny_bind ?_; refine wp_if_neg hp ?_; refine wpAny_pure ?_)
        | refine wp_if_neg hp (wpAny_bind (wpAny_pure ?_))
      exact fin true
/-! ### set(x) -/
/-- what the first i of the given ones have made -/
structure Has (ks : Mem) (i : Nat) (L : Mem) : Prop where
  sub : ∀ p, p ∈ L → p ∈ ks.take i
  all : ∀ p, p ∈ ks.take i → p.2 ∈ L.map (·.2)
theorem Has.next {ks L M : Mem} {i : Nat} {x : Addr × NestedKey} (g : Has ks i L) (h : ks[i]? = some x) (c1 : x.2 ∈ L.map (·.2) → M = L) (c2 : x.2 ∉ L.map (·.2) → M.Perm (x :: L)) : Has ks (i + 1) M := by
  have e : ks.take (i + 1) = ks.take i ++ [x] := by rw [List.take_succ, h]; rfl
  by_cases c : x.2 ∈ L.map (·.2)
  · rw [c1 c]
    refine ⟨fun p hp => by rw [e]; exact List.mem_append_left _ (g.sub p hp), fun p hp => ?_⟩
    rw [e] at hp
    rcases List.mem_append.mp hp with hp | hp
    · exact g.all p hp
    · rw [List.mem_singleton.mp hp]
      exact c
  · have pm := c2 c
    refine ⟨fun p hp => ?_, fun p hp => ?_⟩
    · rw [e]
      rcases List.mem_cons.mp (pm.mem_iff.mp hp) with rfl | hp
      · exact List.mem_append_right _ (List.mem_singleton.mpr rfl)
      · exact List.mem_append_left _ (g.sub p hp)
    · rw [e] at hp
      refine (pm.map (·.2)).mem_iff.mpr ?_
      rcases List.mem_append.mp hp with hp | hp
      · exact List.mem_cons_of_mem _ (g.all p hp)
      · rw [List.mem_singleton.mp hp]
        exact List.mem_cons_self ..
theorem SetN.keep {h h' : Heap} (R : SetN w h a L es ep t) (ha : ∀ o, h.get? a = some o → h'.get? a = some o) (hk : ∀ p, p ∈ L → KeyAt h' p.2 p.1) : SetN w h' a L es ep t := by
  obtain ⟨o, ho, r⟩ := R.ob
  exact ⟨⟨o, ha o ho, r⟩, R.rows, R.tab, R.nd, hk, R.led, R.room, R.few, R.low⟩
abbrev bare (w : World) : Obj := { cls := .type "set", dict := none, data := .set #[] 0 (.fresh 0 0 (!w.params.followText "set-order")) }
theorem setN_fresh {h : Heap} (ho : h.get? a = some (bare w)) : SetN w h a [] #[] 0 (.fresh 0 0 (!w.params.followText "set-order")) := by
  refine ⟨⟨_, ho, ⟨rfl, rfl, rfl⟩, rfl⟩, rfl, ⟨List.Pairwise.nil, rfl, rfl, ⟨3, rfl⟩, fun x hx => (by cases hx), fun i h j hi => (by simp [hsN] at hi)⟩, List.nodup_nil, fun p hp => (by cases hp), ?_, (by show 0 * 5 < 7 * 3; decide), (by show 0 ≤ 1000; decide), (by show 7 ≤ 8191; decide)⟩
  show _ ∨ (!w.params.followText "set-order") = true
  cases w.params.followText "set-order"
  · exact .inr rfl
  · exact .inl rfl
theorem take_in (ks : Mem) {i : Nat} (g : Has ks i L) : L.length ≤ 1000 → ∀ p, p ∈ L → p ∈ ks := fun _ p hp => List.mem_of_mem_take (g.sub p hp)
theorem fill_loop {I : Addr} {fp wr : List Addr} {G : Array GenState → Array GenState → Prop} {n : Nat} {Pv : Nat → Value → Prop} {St : Nat → Shared → Prop} {R : Result → Shared → Prop}
    (W : WalksS P w A.in1 I fp wr G n Pv St) (S : Addr) (hSf : S ∉ fp) (ks : Mem) (hn : n = ks.length) (hfew : ∀ L : Mem, (L.map (·.2)).Nodup → (∀ p, p ∈ L → p ∈ ks) → L.length ≤ 999) (hval : ∀ i v, Pv i v → ∃ p, ks[i]? = some p ∧ v = .ref p.1)
    (h0 : Heap) (hk : ∀ p, p ∈ ks → KeyAt h0 p.2 p.1) (hS0 : h0.get? S = none) (hw0 : ∀ b ∈ wr, h0.get? b = none) (hu : A.in1.units + 8 < cLine) :
    ∀ (d i : Nat) (s : Shared), n - i = d → i ≤ n → St i s → (∀ b o, h0.get? b = some o → s.heap.get? b = some o) → (∃ L es ep t, SetN w s.heap S L es ep t ∧ Has ks i L) →
      (∀ s' L es ep t, Moved (S :: wr) G s s' → SetN w s'.heap S L es ep t → Has ks n L → (∀ b o, h0.get? b = some o → s'.heap.get? b = some o) → R (.ok (.ret .none)) s') →
      codeAny (model P w) A (.builtin "set.update.loop" ⟨[.ref S, .ref I], []⟩) R s := by
  have hSw : S ∉ wr := fun h => hSf (W.sub _ h)
  have wider : ∀ b ∈ wr, b ∈ S :: wr := fun b hb => List.mem_cons_of_mem _ hb
  have still : ∀ {s s' : Shared}, Moved wr G s s' → (∀ b o, h0.get? b = some o → s.heap.get? b = some o) → ∀ b o, h0.get? b = some o → s'.heap.get? b = some o := fun hm hkp b o e =>
    hm.heap b o (fun hb => by rw [hw0 b hb] at e; cases e) (hkp b o e)
  intro d
  induction d with
  | zero =>
    intro i s hd hi hst hkp ⟨L, es, ep, t, hS, g⟩ hR
    obtain rfl : i = n := by omega
    refine codeAny_builtin F.entry_set_update_loop ?_
    rw [Around.under_plainId F.plain_set_update_loop _]
    show wpAny _ A.in1 (pyNext (.ref I) >>= _) _ _ s
    refine wpAny_bind (W.done s _ _ hst fun s' hm => ?_)
    show wpAny _ A.in1 (ret Value.none) _ _ s'
    have hkp' := still hm hkp
    exact wpAny_pure (hR s' L es ep t (hm.mono wider) (hS.keep (fun o e => hm.heap S o hSw e) fun p hp => (hk p (take_in ks g hS.few p hp)).keep hkp') g hkp')
  | succ d ih =>
    intro i s hd hi hst hkp ⟨L, es, ep, t, hS, g⟩ hR
    have hlt : i < n := by omega
    refine codeAny_builtin F.entry_set_update_loop ?_
    rw [Around.under_plainId F.plain_set_update_loop _]
    show wpAny _ A.in1 (pyNext (.ref I) >>= _) _ _ s
    refine wpAny_bind (W.item i s _ _ hlt hst fun v s' hP hst' hm => ?_)
    obtain ⟨p, hp, rfl⟩ := hval i v hP
    have hkp' := still hm hkp
    have sub := take_in ks g hS.few
    have hS' : SetN w s'.heap S L es ep t := hS.keep (fun o e => hm.heap S o hSw e) fun q hq => (hk q (sub q hq)).keep hkp'
    have hx := (hk p (List.mem_of_getElem? hp)).keep hkp'
    show wpAny _ A.in1 (holding [Value.ref p.1] (setAdd S (.ref p.1)) >>= _) _ _ s'
    refine wpAny_bind (wpAny_holding ?_)
    unfold setAdd
    refine wpAny_holding ?_
    refine wpAny_bind (pyHash_key p.2 _ _ s' _ hx.1 (by have := hx.2; omega) ?_)
    refine add_one (s := { s' with toks := s'.toks + p.2.draws }) hS' hx hu (Nat.lt_succ_of_le (hfew L hS.nd sub)) fun b h' M es' ep' t' hsb hS2 c1 c2 => ?_
    have hkp2 : ∀ b o, h0.get? b = some o → h'.get? b = some o := fun b o e => (hsb.2 b (fun z => by rw [z, hS0] at e; cases e)).trans (hkp' b o e)
    refine wpAny_pure ⟨plainId_quiet F.plain_set_update_loop _, ih (i + 1) _ (by omega) hlt (W.frame _ s' _ _ hst' (Nat.le_add_right _ _) fun b hb o e => ?_) hkp2 ⟨M, es', ep', t', hS2, g.next hp c1 c2⟩ fun s'' L2 es2 ep2 t2 hm'' hS'' g'' hkp'' => ?_⟩
    · rw [hsb.2 b (fun h : b = S => hSf (by rw [← h]; exact hb))]
      exact e
    · refine hR s'' L2 es2 ep2 t2 (Moved.trans W.gtrans ((hm.mono wider).then_heap (Nat.le_add_right _ _) fun b o hb e => ?_) hm'') hS'' g'' hkp''
      rw [hsb.2 b (fun h : b = S => hb (by rw [h]; exact List.mem_cons_self ..))]
      exact e
theorem call_setL {l : Addr} {items : Array Value} (ks : Mem) {Q : Value → Shared → Prop} (hh : A.handled = none) (hl : s.heap.IsList l items) (hit : items.toList = ks.map fun p => Value.ref p.1) (hk : ∀ p, p ∈ ks → KeyAt s.heap p.2 p.1)
    (hfew : ∀ L : Mem, (L.map (·.2)).Nodup → (∀ p, p ∈ L → p ∈ ks) → L.length ≤ 999) (hu : A.units + 12 < cLine)
    (h : ∀ (h' : Heap) (tk : Nat) L es ep t, SetN w h' s.heap.objs.size L es ep t → Has ks ks.length L → (∀ b o, s.heap.get? b = some o → h'.get? b = some o) → Q (.ref s.heap.objs.size) { s with heap := h', toks := tk }) :
    wpAny (model P w) A (PySem.call (.type "set") [.ref l]) Q E s := by
  have isz : items.size = ks.length := by
    have e := congrArg List.length hit
    simpa using e
  obtain ⟨c, tl, hmro⟩ := F.called_set.mro
  have hmade := F.called_set.made
  have hsub := F.called_set.sub
  refine wpAny_call (codeAny_of_tree ?_)
  show wpAny _ _ (callAny (.type "set") _) _ _ _
  refine wpAny_pure ⟨Code.quiet_builtin _ (by decide +kernel), codeAny_builtin F.entry_type_call ?_⟩
  rw [Around.under_plain (weight_type_call_type "set" [.ref l] []) rfl]
  have h1 := F.called_set.notType
  have h2 := F.called_set.canCreate
  have hct := F.typeCall_set_1 (.ref l)
  repeat (any_goals (first | assumption | wp_step))
  refine codeAny_mono (code_set_led1 (.ref l) (E := E) (Q₁ := fun obj s₁ => obj = .ref s.heap.objs.size ∧ s₁ = { s with heap := s.heap.push (bare w) }) ⟨rfl, rfl⟩) fun r s₁ hr => ?_
  cases r with
  | error e => exact hr
  | ok fl =>
    cases fl with
    | ret obj =>
      obtain ⟨rfl, rfl⟩ := hr
      have hS : (s.heap.push (bare w)).get? s.heap.objs.size = some (bare w) := Heap.get?_push_size _ rfl
      have hT : Shared.TypeIs { s with heap := s.heap.push (bare w) } (.ref s.heap.objs.size) "set" := ⟨_, hS, rfl⟩
      have hli := F.called_set.init.lookup
      have hbi := F.called_set.init.bind (.ref s.heap.objs.size)
      repeat (any_goals (first | assumption | wp_step))
      refine codeAny_mono (codeAny_call_builtin (R := wants (fun r s₂ => r = .none ∧ ∃ h' tk L es ep t, s₂ = { s with heap := h', toks := tk } ∧ SetN w h' s.heap.objs.size L es ep t ∧ Has ks ks.length L ∧ (∀ b o, s.heap.get? b = some o → h'.get? b = some o)) E) F.called_set.init.plain F.entry_set_init (check_set_init_1 hT ?_)) fun r₂ s₂ hr₂ => ?_
      · obtain ⟨ol, hol, hcl, nl, hdl⟩ := hl
        obtain ⟨ocls, odict, odata, oslots⟩ := ol
        simp only at hcl hdl
        subst hcl hdl
        have hol' : (s.heap.push (bare w)).get? l = some { cls := .type "list", dict := odict, data := .seq items nl, slots := oslots } := Heap.get?_push_of_some _ hol
        have hsls := F.sub_list_set
        have hslf := F.sub_list_frozenset
        have hne : (Value.type "list" == Value.type "dict") = false := by decide
        have hl1 : (s.heap.push (bare w)).IsList l items := ⟨_, hol', rfl, nl, rfl⟩
        unfold Builtin.«set.__init__» noKeywords Builtin.Frozenset.updateFrom
        generalize hPI : pyIter = PI
        wp_walk
        subst hPI
        refine wpAny_pyIter_list hl1 ?_
        refine wpAny_bind (wpAny_runValue ?_)
        have lS : l < s.heap.objs.size := Heap.lt_size hol
        have hh3 : A.in1.in1.in1.handled = none := by simp [hh]
        have nI : l ≠ (s.heap.push (bare w)).objs.size := by
          rw [Heap.size_push]
          exact Nat.ne_of_lt (Nat.lt_succ_of_lt lS)
        have nf : s.heap.objs.size ∉ [(s.heap.push (bare w)).objs.size, l] := by
          rw [Heap.size_push]
          simp only [List.mem_cons, List.not_mem_nil, or_false, not_or]
          exact ⟨Nat.ne_of_lt (Nat.lt_succ_self _), Nat.ne_of_gt lS⟩
        have hval : ∀ (i : Nat) (v : Value), items[i]? = some v → ∃ p, ks[i]? = some p ∧ v = .ref p.1 := fun i v hv => by
          have e : (ks.map fun p => Value.ref p.1)[i]? = some v := by
            rw [← hit, Array.getElem?_toList]
            exact hv
          rw [List.getElem?_map] at e
          obtain ⟨p, e1, e2⟩ := Option.map_eq_some_iff.mp e
          exact ⟨p, e1, e2.symm⟩
        have gone : ∀ b, s.heap.objs.size ≤ b → s.heap.get? b = none := fun b hb => by
          cases e : s.heap.get? b with
          | none => rfl
          | some o => exact absurd (Heap.lt_size e) (Nat.not_lt_of_le hb)
        refine fill_loop ((Walks.list hh3 _ l nI items).toS) s.heap.objs.size nf ks isz hfew hval s.heap hk (gone _ (Nat.le_refl _)) (fun b hb => gone b (by
            rw [List.mem_singleton.mp hb, Heap.size_push]
            exact Nat.le_succ _)) (by simp only [Around.in1]; omega) (items.size - 0) 0 _ (by omega) (Nat.zero_le _)
          ⟨⟨_, Heap.get?_push_size _ rfl, rfl, rfl⟩, (hl1.push _)⟩ (fun b o e => Heap.get?_push_of_some _ (Heap.get?_push_of_some _ e)) ⟨[], #[], 0, _, setN_fresh (Heap.get?_push_of_some _ hS), fun p hp => (by cases hp), fun p hp => (by simp at hp)⟩ ?_
        intro s' L es ep t hm hS' g' hkp
        obtain ⟨h', g2, d', tk', os'⟩ := s'
        have eg : g2 = s.gens := hm.gens
        have ed : d' = s.drawn := hm.drawn
        have eo : os' = s.os := hm.os
        subst eg ed eo
        show wpAny _ _ _ _ _ _
        refine wpAny_pure ?_
        show wpAny _ _ (ret Value.none) _ _ _
        rw [isz] at g'
        exact wpAny_pure ⟨rfl, h', tk', L, es, ep, t, rfl, hS', g', hkp⟩
      · cases r₂ with
        | error e => exact hr₂
        | ok fl₂ =>
          cases fl₂ with
          | ret r =>
            obtain ⟨rfl, h', tk, L, es, ep, t, rfl, hS', g', hk'⟩ := hr₂
            repeat (any_goals (first | assumption | wp_step))
            exact h _ _ _ _ _ _ hS' g' hk'
          | _ => exact hr₂.elim
    | _ => exact hr.elim
theorem call_setT {l : Addr} {items : Array Value} (ks : Mem) {Q : Value → Shared → Prop} (hh : A.handled = none) (hl : s.heap.IsTuple l items) (hit : items.toList = ks.map fun p => Value.ref p.1) (hk : ∀ p, p ∈ ks → KeyAt s.heap p.2 p.1)
    (hfew : ∀ L : Mem, (L.map (·.2)).Nodup → (∀ p, p ∈ L → p ∈ ks) → L.length ≤ 999) (hu : A.units + 12 < cLine)
    (h : ∀ (h' : Heap) (tk : Nat) L es ep t, SetN w h' s.heap.objs.size L es ep t → Has ks ks.length L → (∀ b o, s.heap.get? b = some o → h'.get? b = some o) → Q (.ref s.heap.objs.size) { s with heap := h', toks := tk }) :
    wpAny (model P w) A (PySem.call (.type "set") [.ref l]) Q E s := by
  have isz : items.size = ks.length := by
    have e := congrArg List.length hit
    simpa using e
  obtain ⟨c, tl, hmro⟩ := F.called_set.mro
  have hmade := F.called_set.made
  have hsub := F.called_set.sub
  refine wpAny_call (codeAny_of_tree ?_)
  show wpAny _ _ (callAny (.type "set") _) _ _ _
  refine wpAny_pure ⟨Code.quiet_builtin _ (by decide +kernel), codeAny_builtin F.entry_type_call ?_⟩
  rw [Around.under_plain (weight_type_call_type "set" [.ref l] []) rfl]
  have h1 := F.called_set.notType
  have h2 := F.called_set.canCreate
  have hct := F.typeCall_set_1 (.ref l)
  repeat (any_goals (first | assumption | wp_step))
  refine codeAny_mono (code_set_led1 (.ref l) (E := E) (Q₁ := fun obj s₁ => obj = .ref s.heap.objs.size ∧ s₁ = { s with heap := s.heap.push (bare w) }) ⟨rfl, rfl⟩) fun r s₁ hr => ?_
  cases r with
  | error e => exact hr
  | ok fl =>
    cases fl with
    | ret obj =>
      obtain ⟨rfl, rfl⟩ := hr
      have hS : (s.heap.push (bare w)).get? s.heap.objs.size = some (bare w) := Heap.get?_push_size _ rfl
      have hT : Shared.TypeIs { s with heap := s.heap.push (bare w) } (.ref s.heap.objs.size) "set" := ⟨_, hS, rfl⟩
      have hli := F.called_set.init.lookup
      have hbi := F.called_set.init.bind (.ref s.heap.objs.size)
      repeat (any_goals (first | assumption | wp_step))
      refine codeAny_mono (codeAny_call_builtin (R := wants (fun r s₂ => r = .none ∧ ∃ h' tk L es ep t, s₂ = { s with heap := h', toks := tk } ∧ SetN w h' s.heap.objs.size L es ep t ∧ Has ks ks.length L ∧ (∀ b o, s.heap.get? b = some o → h'.get? b = some o)) E) F.called_set.init.plain F.entry_set_init (check_set_init_1 hT ?_)) fun r₂ s₂ hr₂ => ?_
      · obtain ⟨ol, hol, hcl, nl, hdl⟩ := hl
        obtain ⟨ocls, odict, odata, oslots⟩ := ol
        simp only at hcl hdl
        subst hcl hdl
        have hol' : (s.heap.push (bare w)).get? l = some { cls := .type "tuple", dict := odict, data := .seq items nl, slots := oslots } := Heap.get?_push_of_some _ hol
        have hsls := F.sub_tuple_set
        have hslf := F.sub_tuple_frozenset
        have hne : (Value.type "tuple" == Value.type "dict") = false := by decide
        have hl1 : (s.heap.push (bare w)).IsTuple l items := ⟨_, hol', rfl, nl, rfl⟩
        unfold Builtin.«set.__init__» noKeywords Builtin.Frozenset.updateFrom
        generalize hPI : pyIter = PI
        wp_walk
        subst hPI
        refine wpAny_pyIter_tuple hl1 ?_
        refine wpAny_bind (wpAny_runValue ?_)
        have lS : l < s.heap.objs.size := Heap.lt_size hol
        have hh3 : A.in1.in1.in1.handled = none := by simp [hh]
        have nI : l ≠ (s.heap.push (bare w)).objs.size := by
          rw [Heap.size_push]
          exact Nat.ne_of_lt (Nat.lt_succ_of_lt lS)
        have nf : s.heap.objs.size ∉ [(s.heap.push (bare w)).objs.size, l] := by
          rw [Heap.size_push]
          simp only [List.mem_cons, List.not_mem_nil, or_false, not_or]
          exact ⟨Nat.ne_of_lt (Nat.lt_succ_self _), Nat.ne_of_gt lS⟩
        have hval : ∀ (i : Nat) (v : Value), items[i]? = some v → ∃ p, ks[i]? = some p ∧ v = .ref p.1 := fun i v hv => by
          have e : (ks.map fun p => Value.ref p.1)[i]? = some v := by
            rw [← hit, Array.getElem?_toList]
            exact hv
          rw [List.getElem?_map] at e
          obtain ⟨p, e1, e2⟩ := Option.map_eq_some_iff.mp e
          exact ⟨p, e1, e2.symm⟩
        have gone : ∀ b, s.heap.objs.size ≤ b → s.heap.get? b = none := fun b hb => by
          cases e : s.heap.get? b with
          | none => rfl
          | some o => exact absurd (Heap.lt_size e) (Nat.not_lt_of_le hb)
        refine fill_loop ((Walks.tuple hh3 _ l nI items).toS) s.heap.objs.size nf ks isz hfew hval s.heap hk (gone _ (Nat.le_refl _)) (fun b hb => gone b (by
            rw [List.mem_singleton.mp hb, Heap.size_push]
            exact Nat.le_succ _)) (by simp only [Around.in1]; omega) (items.size - 0) 0 _ (by omega) (Nat.zero_le _)
          ⟨⟨_, Heap.get?_push_size _ rfl, rfl, rfl⟩, (hl1.push _)⟩ (fun b o e => Heap.get?_push_of_some _ (Heap.get?_push_of_some _ e)) ⟨[], #[], 0, _, setN_fresh (Heap.get?_push_of_some _ hS), fun p hp => (by cases hp), fun p hp => (by simp at hp)⟩ ?_
        intro s' L es ep t hm hS' g' hkp
        obtain ⟨h', g2, d', tk', os'⟩ := s'
        have eg : g2 = s.gens := hm.gens
        have ed : d' = s.drawn := hm.drawn
        have eo : os' = s.os := hm.os
        subst eg ed eo
        show wpAny _ _ _ _ _ _
        refine wpAny_pure ?_
        show wpAny _ _ (ret Value.none) _ _ _
        rw [isz] at g'
        exact wpAny_pure ⟨rfl, h', tk', L, es, ep, t, rfl, hS', g', hkp⟩
      · cases r₂ with
        | error e => exact hr₂
        | ok fl₂ =>
          cases fl₂ with
          | ret r =>
            obtain ⟨rfl, h', tk, L, es, ep, t, rfl, hS', g', hk'⟩ := hr₂
            repeat (any_goals (first | assumption | wp_step))
            exact h _ _ _ _ _ _ hS' g' hk'
          | _ => exact hr₂.elim
    | _ => exact hr.elim
end
end Ev.Tb

/-! sorted(set(x)), len(set(x)) over the layer -/
namespace Ev
open PySem L2
open Tb (Mem KeyAt SetN rowsN hsN TbOk Has)
mutual
def nk : D → NestedKey
  | .int i => .num i
  | .str s => .text (sv s)
  | .tup xs => .tup (nks xs)
  | _ => .none
def nks : List D → List NestedKey
  | [] => []
  | x :: xs => nk x :: nks xs
end
mutual
theorem nk_depth : ∀ (n : Nat) (d : D), D.hok n d = true → (nk d).depth ≤ n
  | _, .non, _ => Nat.zero_le _
  | _, .int _, _ => Nat.zero_le _
  | _, .str _, _ => Nat.zero_le _
  | n + 1, .tup xs, h => Nat.succ_le_succ (nks_depth n xs h)
  | 0, .tup xs, h => absurd h (by simp [D.hok])
  | _, .bl _, h => absurd h (by simp [D.hok])
  | _, .lst _, h => absurd h (by simp [D.hok])
  | _, .dic _, h => absurd h (by simp [D.hok])
  | _, .map _, h => absurd h (by simp [D.hok])
  | _, .fn _, h => absurd h (by simp [D.hok])
  | _, .exn _, h => absurd h (by simp [D.hok])
theorem nks_depth : ∀ (n : Nat) (ds : List D), D.hoks n ds = true → NestedKey.depthAll (nks ds) ≤ n
  | _, [], _ => Nat.zero_le _
  | n, x :: xs, h => by
    have h' : D.hok n x = true ∧ D.hoks n xs = true := by simpa [D.hoks] using h
    exact Nat.max_le.mpr ⟨nk_depth n x h'.1, nks_depth n xs h'.2⟩
end
mutual
theorem nk_inj : ∀ (n m : Nat) (a b : D), D.hok n a = true → D.hok m b = true → nk a = nk b → a = b
  | n, m, .non, b, _, hb, e => by cases b <;> first | rfl | (simp [nk] at e; done) | (simp [D.hok] at hb; done)
  | n, m, .int i, b, _, hb, e => by cases b <;> first | (simp [nk] at e; rw [e]; done) | (simp [nk] at e; done) | (simp [D.hok] at hb; done)
  | n, m, .str i, b, _, hb, e => by
    cases b <;> first | (simp [nk] at e; done) | (simp [D.hok] at hb; done) | skip
    rw [sv_inj (NestedKey.text.inj e)]
  | n + 1, m + 1, .tup xs, .tup ys, ha, hb, e => by rw [nks_inj n m xs ys ha hb (NestedKey.tup.inj e)]
  | n + 1, 0, .tup xs, .tup ys, ha, hb, e => absurd hb (by simp [D.hok])
  | n + 1, _, .tup xs, .non, ha, hb, e => by simp [nk] at e
  | n + 1, _, .tup xs, .int _, ha, hb, e => by simp [nk] at e
  | n + 1, _, .tup xs, .str _, ha, hb, e => by simp [nk] at e
  | _, _, _, .bl _, _, h, _ => absurd h (by simp [D.hok])
  | _, _, _, .lst _, _, h, _ => absurd h (by simp [D.hok])
  | _, _, _, .dic _, _, h, _ => absurd h (by simp [D.hok])
  | _, _, _, .map _, _, h, _ => absurd h (by simp [D.hok])
  | _, _, _, .fn _, _, h, _ => absurd h (by simp [D.hok])
  | _, _, _, .exn _, _, h, _ => absurd h (by simp [D.hok])
  | 0, _, .tup xs, _, h, _, _ => absurd h (by simp [D.hok])
  | _, _, .bl _, _, h, _, _ => absurd h (by simp [D.hok])
  | _, _, .lst _, _, h, _, _ => absurd h (by simp [D.hok])
  | _, _, .dic _, _, h, _, _ => absurd h (by simp [D.hok])
  | _, _, .map _, _, h, _, _ => absurd h (by simp [D.hok])
  | _, _, .fn _, _, h, _, _ => absurd h (by simp [D.hok])
  | _, _, .exn _, _, h, _, _ => absurd h (by simp [D.hok])
theorem nks_inj : ∀ (n m : Nat) (a b : List D), D.hoks n a = true → D.hoks m b = true → nks a = nks b → a = b
  | _, _, [], [], _, _, _ => rfl
  | _, _, [], _ :: _, _, _, e => by cases e
  | _, _, _ :: _, [], _, _, e => by cases e
  | n, m, x :: xs, y :: ys, ha, hb, e => by
    have ha' : D.hok n x = true ∧ D.hoks n xs = true := by simpa [D.hoks] using ha
    have hb' : D.hok m y = true ∧ D.hoks m ys = true := by simpa [D.hoks] using hb
    have e' : nk x = nk y ∧ nks xs = nks ys := List.cons.inj e
    rw [nk_inj n m x y ha'.1 hb'.1 e'.1, nks_inj n m xs ys ha'.2 hb'.2 e'.2]
end
mutual
theorem eqv_self : ∀ (n : Nat) (a : D), D.hok n a = true → D.eqv a a = true
  | _, .non, _ => rfl
  | _, .int _, _ => by simp [D.eqv]
  | _, .str _, _ => by simp [D.eqv]
  | n + 1, .tup xs, h => by
    show D.eqvs xs xs = true
    exact eqvs_self n xs h
  | 0, .tup xs, h => absurd h (by simp [D.hok])
  | _, .bl _, h => absurd h (by simp [D.hok])
  | _, .lst _, h => absurd h (by simp [D.hok])
  | _, .dic _, h => absurd h (by simp [D.hok])
  | _, .map _, h => absurd h (by simp [D.hok])
  | _, .fn _, h => absurd h (by simp [D.hok])
  | _, .exn _, h => absurd h (by simp [D.hok])
theorem eqvs_self : ∀ (n : Nat) (a : List D), D.hoks n a = true → D.eqvs a a = true
  | _, [], _ => rfl
  | n, x :: xs, h => by
    have h' : D.hok n x = true ∧ D.hoks n xs = true := by simpa [D.hoks] using h
    show (D.eqv x x && D.eqvs xs xs) = true
    rw [eqv_self n x h'.1, eqvs_self n xs h'.2]
    rfl
end
mutual
theorem eqv_eq : ∀ (n m : Nat) (a b : D), D.hok n a = true → D.hok m b = true → D.eqv a b = true → a = b
  | n, m, .non, b, _, hb, e => by cases b <;> first | rfl | (simp [D.eqv] at e; done)
  | n, m, .int i, b, _, hb, e => by cases b <;> first | (simp [D.hok] at hb; done) | (simp [D.eqv] at e; rw [e]; done) | (simp [D.eqv] at e; done)
  | n, m, .str i, b, _, hb, e => by cases b <;> first | (simp [D.eqv] at e; rw [e]; done) | (simp [D.eqv] at e; done)
  | n + 1, m + 1, .tup xs, .tup ys, ha, hb, e => by rw [eqvs_eq n m xs ys ha hb e]
  | n + 1, 0, .tup xs, .tup ys, ha, hb, e => absurd hb (by simp [D.hok])
  | n + 1, _, .tup xs, .non, ha, hb, e => by simp [D.eqv] at e
  | n + 1, _, .tup xs, .int _, ha, hb, e => by simp [D.eqv] at e
  | n + 1, _, .tup xs, .str _, ha, hb, e => by simp [D.eqv] at e
  | _, _, _, .bl _, _, h, _ => absurd h (by simp [D.hok])
  | _, _, _, .lst _, _, h, _ => absurd h (by simp [D.hok])
  | _, _, _, .dic _, _, h, _ => absurd h (by simp [D.hok])
  | _, _, _, .map _, _, h, _ => absurd h (by simp [D.hok])
  | _, _, _, .fn _, _, h, _ => absurd h (by simp [D.hok])
  | _, _, _, .exn _, _, h, _ => absurd h (by simp [D.hok])
  | 0, _, .tup xs, _, h, _, _ => absurd h (by simp [D.hok])
  | _, _, .bl _, _, h, _, _ => absurd h (by simp [D.hok])
  | _, _, .lst _, _, h, _, _ => absurd h (by simp [D.hok])
  | _, _, .dic _, _, h, _, _ => absurd h (by simp [D.hok])
  | _, _, .map _, _, h, _, _ => absurd h (by simp [D.hok])
  | _, _, .fn _, _, h, _, _ => absurd h (by simp [D.hok])
  | _, _, .exn _, _, h, _, _ => absurd h (by simp [D.hok])
theorem eqvs_eq : ∀ (n m : Nat) (a b : List D), D.hoks n a = true → D.hoks m b = true → D.eqvs a b = true → a = b
  | _, _, [], [], _, _, _ => rfl
  | _, _, [], _ :: _, _, _, e => by simp [D.eqvs] at e
  | _, _, _ :: _, [], _, _, e => by simp [D.eqvs] at e
  | n, m, x :: xs, y :: ys, ha, hb, e => by
    have ha' : D.hok n x = true ∧ D.hoks n xs = true := by simpa [D.hoks] using ha
    have hb' : D.hok m y = true ∧ D.hoks m ys = true := by simpa [D.hoks] using hb
    have e' : D.eqv x y = true ∧ D.eqvs xs ys = true := by simpa [D.eqvs] using e
    rw [eqv_eq n m x y ha'.1 hb'.1 e'.1, eqvs_eq n m xs ys ha'.2 hb'.2 e'.2]
end
/-- each once -/
theorem dedup_mem {n : Nat} : ∀ {xs : List D}, (∀ x ∈ xs, D.hok n x = true) → (∀ d, d ∈ dedupD xs ↔ d ∈ xs) ∧ (dedupD xs).Nodup
  | [], _ => ⟨fun _ => Iff.rfl, List.nodup_nil⟩
  | x :: xs, h => by
    obtain ⟨h1, h2⟩ := dedup_mem (xs := xs) fun y hy => h y (List.mem_cons_of_mem _ hy)
    have hx := h x (List.mem_cons_self ..)
    have ne : ∀ y ∈ dedupD xs, (!D.eqv y x) = true ↔ y ≠ x := fun y hy => by
      have hy' := h y (List.mem_cons_of_mem _ ((h1 y).mp hy))
      constructor
      · intro e z
        subst z
        rw [eqv_self n y hy'] at e
        cases e
      · intro e
        cases q : D.eqv y x with
        | false => rfl
        | true => exact absurd (eqv_eq n n y x hy' hx q) e
    refine ⟨fun d => ?_, List.nodup_cons.mpr ⟨fun hm => ?_, h2.filter _⟩⟩
    · show d ∈ x :: (dedupD xs).filter _ ↔ _
      rw [List.mem_cons, List.mem_cons, List.mem_filter]
      constructor
      · rintro (z | ⟨z, _⟩)
        · exact .inl z
        · exact .inr ((h1 d).mp z)
      · rintro (z | z)
        · exact .inl z
        · by_cases e : d = x
          · exact .inl e
          · have z' := (h1 d).mpr z
            exact .inr ⟨z', (ne d z').mpr e⟩
    · obtain ⟨m1, m2⟩ := List.mem_filter.mp hm
      exact ((ne x m1).mp m2) rfl
section
variable {X : Cx}
mutual
theorem isD_key {G : Ct} (hK : X.K = G.K) {pins : List (Addr × Obj)} {σ : L2.St} {H : Hp} {M : AP} {s : Shared} (I : L2.Inv X pins σ H s) : ∀ {v : V} {d : D} {u : Value} {n : Nat}, IsD G.K H M v d → D.hok n d = true → RelV v u → NestedIs s.heap (nk d) u
  | _, _, _, _, .non, _, r => by
    cases r
    exact .none
  | _, _, _, _, .int i, _, r => by
    obtain ⟨t, rfl⟩ := r
    exact .int i t
  | _, _, _, _, .str z _, _, r => by
    obtain ⟨t, rfl⟩ := r
    exact .text _ t
  | _, _, _, n + 1, .tup a vs ds f q, h, r => by
    cases r
    obtain ⟨its, rv, ⟨o, g1, g2, m, g3⟩, _⟩ := I.tuple (by rw [hK]; exact f.sq)
    exact .tup g1 g2 g3 (isDs_keys hK I q h (by simpa using rv))
  | _, _, _, 0, .tup a vs ds f q, h, r => absurd h (by simp [D.hok])
  | _, _, _, _, .bl _, h, _ => absurd h (by simp [D.hok])
  | _, _, _, _, .lst _ _ _ _ _, h, _ => absurd h (by simp [D.hok])
  | _, _, _, _, .dic _ _ _ _ _, h, _ => absurd h (by simp [D.hok])
theorem isDs_keys {G : Ct} (hK : X.K = G.K) {pins : List (Addr × Obj)} {σ : L2.St} {H : Hp} {M : AP} {s : Shared} (I : L2.Inv X pins σ H s) : ∀ {vs : List V} {ds : List D} {us : List Value} {n : Nat}, IsDs G.K H M vs ds → D.hoks n ds = true → Vals vs us → NestedAll s.heap (nks ds) us
  | _, _, _, _, .nil, _, r => by
    cases r
    exact .nil
  | _, _, _, n, .cons v vs d ds h t, e, r => by
    cases r with
    | cons r1 r2 =>
      have e' : D.hok n d = true ∧ D.hoks n ds = true := by simpa [D.hoks] using e
      exact .cons (isD_key hK I h e'.1 r1) (isDs_keys hK I t e'.2 r2)
end
/-- the set as it stands in the layer's heap -/
structure Set0 (w : World) (h : Heap) (a : Addr) (L : Mem) : Prop where
  ex : ∃ (es : Array (Int × Value)) (ep : Nat) (t : SetTable), (∃ o, h.get? a = some o ∧ o.ExactSet ∧ o.data = .set es ep t) ∧ es.toList = rowsN w L ∧ TbOk t (hsN w L) ∧ (L.map (·.2)).Nodup ∧
    (w.params.followText "set-order" = true ∨ t.led = true) ∧ L.length * 5 < t.mask * 3 ∧ L.length ≤ 1000 ∧ t.mask ≤ 8191
def SetH (w : World) (a : Addr) (L : Mem) : HO := .ext fun h => Set0 w h a L
theorem set0_of {w : World} {h : Heap} {a : Addr} {L : Mem} {es : Array (Int × Value)} {ep : Nat} {t : SetTable} (R : SetN w h a L es ep t) : Set0 w h a L := ⟨es, ep, t, R.ob, R.rows, R.tab, R.nd, R.led, R.room, R.few, R.low⟩
theorem setH_new {P : Program} {w : World} {H : Hp} {h : Heap} {a : Addr} {L : Mem} (R : Set0 w h a L) : ObjOk P w H h a (SetH w a L) := by
  obtain ⟨es, ep, t, ⟨o, ho, r⟩, q⟩ := id R.ex
  refine ⟨R, ⟨o, ho⟩, fun h1 h2 p k => ?_⟩
  obtain ⟨es', ep', t', ⟨o', ho', r'⟩, q'⟩ := p.ex
  exact ⟨es', ep', t', ⟨o', k o' ho', r'⟩, q'⟩
/-- given values and their data -/
inductive Pairs (K : PySem.W.Frag) (H : Hp) (M : AP) : Mem → List D → Prop
  | nil : Pairs K H M [] []
  | cons (a : Addr) (ks : Mem) (d : D) (ds : List D) : IsD K H M (.ref a) d → Pairs K H M ks ds → Pairs K H M ((a, nk d) :: ks) (d :: ds)
theorem pairs_of {K : PySem.W.Frag} {H : Hp} {M : AP} : ∀ {vs : List V} {ds : List D}, IsDs K H M vs ds → (∀ d ∈ ds, isTup d = true) → ∃ ks : Mem, vs = ks.map (fun p => V.ref p.1) ∧ Pairs K H M ks ds
  | _, _, .nil, _ => ⟨[], rfl, .nil⟩
  | _, _, .cons v vs d ds h t, e => by
    obtain ⟨ks, h1, h2⟩ := pairs_of t fun x hx => e x (List.mem_cons_of_mem _ hx)
    have ed := e d (List.mem_cons_self ..)
    cases h with
    | tup a ws es f q => exact ⟨(a, nk (.tup es)) :: ks, by rw [h1]; rfl, .cons a ks _ ds (.tup a ws es f q) h2⟩
    | _ => cases ed
theorem Pairs.mem {K : PySem.W.Frag} {H : Hp} {M : AP} : ∀ {ks : Mem} {ds : List D}, Pairs K H M ks ds → (∀ p, p ∈ ks → ∃ d, d ∈ ds ∧ IsD K H M (.ref p.1) d ∧ p.2 = nk d) ∧ ∀ d, d ∈ ds → ∃ p, p ∈ ks ∧ p.2 = nk d
  | _, _, .nil => ⟨fun _ h => (by cases h), fun _ h => (by cases h)⟩
  | _, _, .cons a ks d ds h t => by
    obtain ⟨h1, h2⟩ := t.mem
    refine ⟨fun p hp => ?_, fun e he => ?_⟩
    · rcases List.mem_cons.mp hp with rfl | hp
      · exact ⟨d, List.mem_cons_self .., h, rfl⟩
      · obtain ⟨e, m, r⟩ := h1 p hp
        exact ⟨e, List.mem_cons_of_mem _ m, r⟩
    · rcases List.mem_cons.mp he with rfl | he
      · exact ⟨_, List.mem_cons_self .., rfl⟩
      · obtain ⟨p, m, r⟩ := h2 e he
        exact ⟨p, List.mem_cons_of_mem _ m, r⟩
theorem setOk_use {xs : List D} (h : setOk xs = true) : (∀ d ∈ xs, isTup d = true) ∧ (∀ d ∈ xs, D.hok 8 d = true) ∧ (dedupD xs).length ≤ 999 := by
  unfold setOk at h
  simp only [Bool.and_eq_true, List.all_eq_true, decide_eq_true_eq] at h
  exact ⟨fun d hd => (h.1 d hd).1, fun d hd => (h.1 d hd).2, h.2⟩
/-- keys that are all among the given ones are few -/
theorem keys_few {K : PySem.W.Frag} {H : Hp} {M : AP} {ks L : Mem} {xs : List D} (h : Pairs K H M ks xs) (ho : setOk xs = true) (nd : (L.map (·.2)).Nodup) (sub : ∀ p, p ∈ L → p ∈ ks) : L.length ≤ 999 := by
  obtain ⟨_, h2, h3⟩ := setOk_use ho
  obtain ⟨m1, m2⟩ := dedup_mem h2
  have key : ∀ (l D : List NestedKey), l.Nodup → (∀ x ∈ l, x ∈ D) → l.length ≤ D.length := by
    intro l
    induction l with
    | nil => exact fun _ _ _ => Nat.zero_le _
    | cons x l ih =>
      intro D hn hs
      obtain ⟨n1, n2⟩ := List.nodup_cons.mp hn
      have hx := hs x (List.mem_cons_self ..)
      have q := ih (D.erase x) n2 fun y hy => (List.mem_erase_of_ne fun e => n1 (by rw [← e]; exact hy)).mpr (hs y (List.mem_cons_of_mem _ hy))
      rw [List.length_erase_of_mem hx] at q
      have := List.length_pos_of_mem hx
      simp only [List.length_cons]
      omega
  have q := key (L.map (·.2)) ((dedupD xs).map nk) nd fun x hx => by
    obtain ⟨p, hp, rfl⟩ := List.mem_map.mp hx
    obtain ⟨d, hd, _, e⟩ := h.mem.1 p (sub p hp)
    exact List.mem_map.mpr ⟨d, (m1 d).mpr hd, e.symm⟩
  simp only [List.length_map] at q
  omega
/-- set(x): a set of the keys of x -/
def rSetN (G : Ct) (w : World) : List V → Hp → VK → Prop := fun vs H Q => ∃ M x xs, (∀ c, M c → H c ≠ none) ∧ IsRs G H M vs [x] ∧ seqOf x = some xs ∧ setOk xs = true ∧
  ∀ p L ks, H p = none → Pairs G.K H M ks xs → (L.map (·.2)).Nodup → (∀ q, q ∈ L → q ∈ ks) → (∀ q, q ∈ ks → q.2 ∈ L.map (·.2)) → Q (.ref p) (upd H p (SetH w p L))
theorem ok_set (G : Ct) (hK : X.K = G.K) (hc : X.calm = true) (hu : X.A.units + 65 < cLine) : CallR X (.type "set") (rSetN G X.w) := by
  intro pins s σ H vs us Q I r ⟨M, x, xs, hm, h, e, ho, q⟩
  obtain ⟨v, rfl, hv⟩ := h.one
  obtain ⟨o1, o2, o3⟩ := setOk_use ho
  have hn : H s.heap.objs.size = none := I.hok.fresh (Nat.le_refl _)
  have fin : ∀ {a : Addr} {ws : List V} {its : List Value}, IsDs G.K H M ws xs → Vals ws its → ∃ ks : Mem, its.toArray.toList = ks.map (fun p => Value.ref p.1) ∧ (∀ p, p ∈ ks → KeyAt s.heap p.2 p.1) ∧ Pairs G.K H M ks xs := fun {a ws its} g rv => by
    obtain ⟨ks, k1, k2⟩ := pairs_of g o1
    refine ⟨ks, ?_, fun p hp => ?_, k2⟩
    · subst k1
      have : ∀ (ks : Mem) (us : List Value), Vals (ks.map fun p => V.ref p.1) us → us = ks.map fun p => Value.ref p.1 := by
        intro ks
        induction ks with
        | nil =>
          intro us r
          cases r
          rfl
        | cons p ks ih =>
          intro us r
          cases r with
          | cons r1 r2 =>
            cases r1
            rw [ih _ r2]
            rfl
      simpa using this ks its rv
    · obtain ⟨d, hd, id, e⟩ := k2.mem.1 p hp
      rw [e]
      have := isD_key hK I id (o2 d hd) (u := .ref p.1) rfl
      exact ⟨this, nk_depth 8 d (o2 d hd)⟩
  have last : ∀ (ks : Mem), Pairs G.K H M ks xs → ∀ (h' : Heap) (tk : Nat) L es ep t, SetN X.w h' s.heap.objs.size L es ep t → Has ks ks.length L → (∀ b o, s.heap.get? b = some o → h'.get? b = some o) → EP X pins σ Q (.ref s.heap.objs.size) { s with heap := h', toks := tk } := fun ks kp h' tk L es ep t R g k =>
    ⟨.ref s.heap.objs.size, upd H s.heap.objs.size (SetH X.w s.heap.objs.size L), I.laid (t' := tk) k (Nat.le_refl _) (setH_new (set0_of R)), rfl, q _ L ks hn kp R.nd (fun p hp => List.mem_of_mem_take (g.sub p hp)) fun p hp => g.all p (by rw [List.take_length]; exact hp)⟩
  cases x with
  | lst ds =>
    cases e
    obtain ⟨a, ws, rfl, f, g⟩ := hv.lst
    rw [Vals.ref1 r]
    obtain ⟨its, rv, hl, _⟩ := I.list (by rw [hK]; exact f)
    obtain ⟨ks, k1, k2, k3⟩ := fin (a := a) g rv
    exact Tb.call_setL ks (I.ok.hd hc) (PlainL.isList hl) k1 k2 (fun L nd sub => keys_few k3 ho nd sub) (by omega) (last ks k3)
  | tup ds =>
    cases e
    obtain ⟨a, ws, rfl, f, g⟩ := hv.tup
    rw [Vals.ref1 r]
    obtain ⟨its, rv, hl, _⟩ := I.tuple (by rw [hK]; exact f.sq)
    obtain ⟨ks, k1, k2, k3⟩ := fin (a := a) g rv
    exact Tb.call_setT ks (I.ok.hd hc) hl k1 k2 (fun L nd sub => keys_few k3 ho nd sub) (by omega) (last ks k3)
  | _ => cases e
/-- what a set of these keys is -/
structure IsSet (G : Ct) (w : World) (H : Hp) (M : AP) (v : V) (xs : List D) : Prop where
  ok : setOk xs = true
  at_ : ∃ p L ks, v = .ref p ∧ H p = some (SetH w p L) ∧ Pairs G.K H M ks xs ∧ (L.map (·.2)).Nodup ∧ (∀ q, q ∈ L → q ∈ ks) ∧ ∀ q, q ∈ ks → q.2 ∈ L.map (·.2)
/-- a list of data, one for each member -/
theorem members {K : PySem.W.Frag} {H : Hp} {M : AP} {xs : List D} {ks : Mem} (kp : Pairs K H M ks xs) (h8 : ∀ d ∈ xs, D.hok 8 d = true) : ∀ {L : Mem}, (L.map (·.2)).Nodup → (∀ q, q ∈ L → q ∈ ks) → (∀ q, q ∈ ks → q.2 ∈ L.map (·.2)) → ∃ bs : List D, bs.Perm (dedupD xs) ∧ bs.length = L.length ∧ ∀ (i : Nat) p, L[i]? = some p → ∃ d, bs[i]? = some d ∧ IsD K H M (.ref p.1) d ∧ p.2 = nk d := by
  intro L nd sub all
  have ex : ∀ L : Mem, (∀ q, q ∈ L → q ∈ ks) → ∃ bs : List D, bs.map nk = L.map (·.2) ∧ (∀ d ∈ bs, d ∈ xs) ∧ bs.length = L.length ∧ ∀ (i : Nat) p, L[i]? = some p → ∃ d, bs[i]? = some d ∧ IsD K H M (.ref p.1) d ∧ p.2 = nk d := by
    intro L
    induction L with
    | nil => exact fun _ => ⟨[], rfl, fun _ h => (by cases h), rfl, fun i p h => (by simp at h)⟩
    | cons q L ih =>
      intro sub
      obtain ⟨bs, b1, b2, b3, b4⟩ := ih fun r hr => sub r (List.mem_cons_of_mem _ hr)
      obtain ⟨d, d1, d2, d3⟩ := kp.mem.1 q (sub q (List.mem_cons_self ..))
      refine ⟨d :: bs, by simp [b1, d3], fun e he => ?_, by simp [b3], fun i p hp => ?_⟩
      · rcases List.mem_cons.mp he with rfl | he
        · exact d1
        · exact b2 e he
      · cases i with
        | zero =>
          simp at hp
          subst hp
          exact ⟨d, by simp, d2, d3⟩
        | succ i =>
          obtain ⟨e, e1, e2⟩ := b4 i p (by simpa using hp)
          exact ⟨e, by simpa using e1, e2⟩
  obtain ⟨bs, b1, b2, b3, b4⟩ := ex L sub
  obtain ⟨m1, m2⟩ := dedup_mem h8
  refine ⟨bs, ?_, b3, b4⟩
  have bn : bs.Nodup := by
    rw [← b1] at nd
    exact nodup_of_map nd
  refine (List.perm_ext_iff_of_nodup bn m2).mpr fun d => ⟨fun hd => (m1 d).mpr (b2 d hd), fun hd => ?_⟩
  have hx := (m1 d).mp hd
  obtain ⟨p, hp, ep⟩ := kp.mem.2 d hx
  have := all p hp
  rw [← b1] at this
  obtain ⟨e, he, ee⟩ := List.mem_map.mp this
  rw [ep] at ee
  rw [← nk_inj 8 8 e d (h8 e (b2 e he)) (h8 d hx) ee]
  exact he
theorem ok_sortedSet (G : Ct) (hK : X.K = G.K) (hc : X.calm = true) (hu : X.A.units + 65 < cLine) : CallR X (.builtin "sorted") (fun vs H Q => ∃ M v xs d fr, vs = [v] ∧ (∀ c, M c → H c ≠ none) ∧ IsSet G X.w H M v xs ∧ sortG (dedupD xs) = some (d, fr) ∧ ∀ v H', New G.K H H' M v d fr → Q v H') := by
  intro pins s σ H vs us Q I r ⟨M, v, xs, d, fr, ev, hm, st, es, q⟩
  subst ev
  obtain ⟨ok, p, L, ks, rfl, hp, kp, nd, sub, all⟩ := st
  obtain ⟨ss, rfl, rfl⟩ := sorted_new es
  obtain ⟨o1, o2, o3⟩ := setOk_use ok
  obtain ⟨⟨ees, ep, t, ⟨o, g1, g2, g3⟩, rows, tab, _, led, room, few, low⟩⟩ := (show Set0 X.w s.heap p L from (I.hok p _ hp).1)
  have fits : t.fits ees.size = true := by
    have h1 := tab.many
    have h2 := Tb.rows_size rows
    simp only [hsN, List.length_map] at h1
    unfold SetTable.fits SetTable.fill
    rw [tab.clean, Bool.and_eq_true, beq_iff_eq, decide_eq_true_eq]
    show t.place.size = ees.size ∧ t.place.size + 0 ≤ t.mask
    omega
  obtain ⟨bs, b1, b2, b3⟩ := members kp o2 nd sub all
  rw [Vals.ref1 r]
  refine sorted_any hK hu I hm es (fun Q' E' hq => ?_) q
  refine collect_set (A := X.A.in1) (I.ok.hd hc) ⟨o, g1, g2.1, g3⟩ fits (by have := Tb.rows_size rows; unfold scanBound; omega) tab.up led fun s' out k1 _ k2 k3 pm => ?_
  have e1 : s' = { s with heap := s'.heap, gens := s'.gens, drawn := s'.drawn, toks := s'.toks } := by
    cases s'
    cases s
    cases k3
    rfl
  rw [e1]
  refine hq s'.heap s'.gens s'.drawn s'.toks out k1 k2 ?_
  -- the data that the gathered values stand for
  have stands : PySem.W.EachIs (Stands G.K H M) (L.map fun p => Value.ref p.1) bs := by
    clear b1 nd sub all rows tab room few q hq pm
    have : ∀ (L : Mem) (bs : List D), bs.length = L.length → (∀ (i : Nat) p, L[i]? = some p → ∃ d, bs[i]? = some d ∧ IsD G.K H M (.ref p.1) d ∧ p.2 = nk d) → PySem.W.EachIs (Stands G.K H M) (L.map fun p => Value.ref p.1) bs := by
      intro L
      induction L with
      | nil =>
        intro bs h1 _
        cases bs with
        | nil => exact .nil
        | cons => cases h1
      | cons p L ih =>
        intro bs h1 h2
        cases bs with
        | nil => cases h1
        | cons b bs =>
          obtain ⟨d, d1, d2, _⟩ := h2 0 p rfl
          cases d1
          exact .cons ⟨.ref p.1, rfl, d2⟩ (ih bs (by simpa using h1) fun i q hq => by
            obtain ⟨d, e1, e2⟩ := h2 (i + 1) q (by simpa using hq)
            exact ⟨d, by simpa using e1, e2⟩)
    exact this L bs b2 b3
  have eo : ees.toList.map (·.2) = L.map fun p => Value.ref p.1 := by
    rw [rows]
    simp [rowsN]
  rw [eo] at pm
  -- another order of the same
  have move : ∀ {us vs : List Value}, us.Perm vs → ∀ {ds : List D}, PySem.W.EachIs (Stands G.K H M) vs ds → ∃ ds', ds'.Perm ds ∧ PySem.W.EachIs (Stands G.K H M) us ds' := by
    intro us vs pm
    induction pm with
    | nil => exact fun {ds} e => ⟨ds, List.Perm.refl _, e⟩
    | cons x p ih =>
      intro ds e
      cases e with
      | cons h t =>
        obtain ⟨ds', p1, p2⟩ := ih t
        exact ⟨_ :: ds', p1.cons _, .cons h p2⟩
    | swap x y l =>
      intro ds e
      cases e with
      | cons h t =>
        cases t with
        | cons h' t' => exact ⟨_, List.Perm.swap .., .cons h' (.cons h t')⟩
    | trans p1 p2 ih1 ih2 =>
      intro ds e
      obtain ⟨ds1, a1, a2⟩ := ih2 e
      obtain ⟨ds2, c1, c2⟩ := ih1 a2
      exact ⟨ds2, c1.trans a1, c2⟩
  obtain ⟨ds', a1, a2⟩ := move pm stands
  exact ⟨ds', a1.trans b1, a2⟩
theorem ok_lenSet (G : Ct) (hK : X.K = G.K) : CallR X (.builtin "len") (fun vs H Q => ∃ M v xs, vs = [v] ∧ IsSet G X.w H M v xs ∧ Q (.int (dedupD xs).length) H) := by
  intro pins s σ H vs us Q I r ⟨M, v, xs, ev, st, q⟩
  subst ev
  obtain ⟨ok, p, L, ks, rfl, hp, kp, nd, sub, all⟩ := st
  obtain ⟨o1, o2, o3⟩ := setOk_use ok
  obtain ⟨⟨ees, ep, t, ⟨o, g1, g2, g3⟩, rows, tab, _, led, room, few, low⟩⟩ := (show Set0 X.w s.heap p L from (I.hok p _ hp).1)
  have sz := Tb.rows_size rows
  have fits : t.fits ees.size = true := by
    have h1 := tab.many
    simp only [hsN, List.length_map] at h1
    unfold SetTable.fits SetTable.fill
    rw [tab.clean, Bool.and_eq_true, beq_iff_eq, decide_eq_true_eq]
    show t.place.size = ees.size ∧ t.place.size + 0 ≤ t.mask
    omega
  obtain ⟨bs, b1, b2, b3⟩ := members kp o2 nd sub all
  rw [Vals.ref1 r]
  refine call_len_set g1 g2 g3 fits (by omega) ⟨.int (dedupD xs).length, H, I.tok _, ⟨s.toks + 1, ?_⟩, q⟩
  rw [sz, ← b2, b1.length_eq]
end
end Ev

/-! that a text of the small language is the given Python -/
namespace Ev
open PySem L2
structure Sc where
  N : List Str
  sc : Scope
  fn : Str → Bool
structure Nm where
  fnm : Nat → Option Str
  cnm : Nat → Option Str
  gnm : Str → Bool
  dnm : Str → Bool
def visB (c : Sc) (x : Str) : Bool := c.sc.names.lookup x == some .local || c.sc.names.lookup x == some .cell || c.sc.names.lookup x == some .free
def glB (c : Sc) (x : Str) : Bool := c.sc.names.lookup x == some .globalImplicit && !(x == ("__debug__" : Str)) && !(x == ("__name__" : Str))
def nameB (c : Sc) (i : Nat) (x : Str) : Bool := c.N[i]? == some x && visB c x && !(x == ("__debug__" : Str)) && !(x == ("__classdict__" : Str))
def locB (c : Sc) (i : Nat) (x : Str) : Bool := c.N[i]? == some x && (c.sc.names.lookup x == some .local || (c.sc.names.lookup x == some .cell && c.fn x))
def plainE : Expr → Bool
  | .Starred .. => false
  | .Set .. => false
  | .Slice .. => false
  | _ => true
def goodB (s : List Nat) : Bool := decide (s.length ≤ cap) && s.all (· < 1114112)
def chkC : D → Const → Bool
  | .non, .none => true
  | .bl b, .bool c => b == c
  | .int i, .int j => i == j
  | .str s, .str t => t.cps.toList == s && goodB s
  | _, _ => false
def biNm : Bi → Option Str
  | .len => some "len"
  | .tuple => some "tuple"
  | .list => some "list"
  | .all => some "all"
  | .any => some "any"
  | .int => some "int"
  | .abs => some "abs"
  | .sorted => some "sorted"
  | .min => some "min"
  | .max => some "max"
  | .sum => some "sum"
  | .isa _ => none
def locE (c : Sc) (i : Nat) : Expr → Bool
  | .Name x _ => locB c i x
  | _ => false
def locEs (c : Sc) : List Nat → List Expr → Bool
  | [], [] => true
  | i :: is, e :: es => locE c i e && locEs c is es
  | _, _ => false
def chkT (c : Sc) : Tg → Expr → Bool
  | .n i, .Name x _ => locB c i x
  | .t is, .Tuple es _ _ => locEs c is es
  | _, _ => false
/-- the scope of a comprehension's block -/
def Sc.blk (c : Sc) (scope : Scope) : Sc := ⟨c.N, relS scope c.sc, fun x => scope.names.lookup x == some .cell⟩
def ownNames (c : Sc) (own : List Nat) : List (Str × Nat) := own.filterMap fun i => (c.N[i]?).map (·, i)
def blkB (c : Sc) (scope : Scope) (own : List Nat) : Bool :=
  scope.kind == .function && scope.names.all (fun y => scope.names.lookup y.1 == some y.2) && own.all (fun i => decide (i < c.N.length))
  && scope.names.all (fun y => !(y.2 == .free) || (c.sc.names.lookup y.1 == some .cell || c.sc.names.lookup y.1 == some .free))
  && scope.names.all (fun y => !(y.2 == .local || y.2 == .cell) || ((ownNames c own).any (fun p => p.1 == y.1) || !c.N.contains y.1))
def tgIn (own : List Nat) : Tg → Bool
  | .n i => own.contains i
  | .t is => is.all own.contains
def mtNm : Mt → Str
  | .join => "join"
  | .index => "index"
  | .count => "count"
def noCall : Expr → Bool
  | .Call .. => false
  | _ => true
def biTy : Bi → Option String
  | .isa t => some t
  | _ => none
def isaTail (c : Sc) (t : String) : List Expr → Bool
  | [_, .Name ty _] => ty == (t : Str) && glB c ty
  | _ => false
def keysB : List Int → List (Option Expr) → Bool
  | [], [] => true
  | k :: ks, some (.Constant (.int i) _ _) :: xs => k == i && keysB ks xs
  | _, _ => false
def keysT : List (List Nat × List Nat) → List (Option Expr) → Bool
  | [], [] => true
  | p :: ts, some (.Constant (.str z) _ _) :: xs => z.cps.toList == p.1 && keysT ts xs
  | _, _ => false
def valsT : List (List Nat × List Nat) → List Expr → Bool
  | [], [] => true
  | p :: ts, .Constant (.str z) _ _ :: xs => z.cps.toList == p.2 && goodB p.2 && valsT ts xs
  | _, _ => false
def isTupE : Expr → Bool
  | .Tuple .. => true
  | _ => false
mutual
def chkE (T : Nm) (c : Sc) : E → Expr → Bool
  | .dead, _ => true
  | .c d, .Constant k _ _ => chkC d k
  | .v i, .Name x _ => nameB c i x
  | .m i, .Name x _ => nameB c i x
  | .mv i, .Name x _ => nameB c i x
  | .g n, .Name x _ => x == n && glB c x && T.gnm x
  | .tup es, .Tuple xs _ _ => chkEs T c es xs
  | .lst es, .List xs _ => chkEs T c es xs
  | .bin o a b, .BinOp x op y _ => op == bopOf o && chkE T c a x && chkE T c b y
  | .neg a, .UnaryOp .USub x _ => chkE T c a x
  | .cmp o a b, .Compare x [op] [y] _ => op == copOf o && chkE T c a x && chkE T c b y && !behindInMarks op y
  | .chain o o' a b d, .Compare x [op, op'] [y, z] _ => op == copOf o && op' == copOf o' && chkE T c a x && chkE T c b y && chkE T c d z && !lastMarks [op, op'] [y, z]
  | .and a b, .BoolOp .And (x :: y :: rest) p => chkE T c a x && (match rest with | [] => chkE T c b y | _ :: _ => chkE T c b (.BoolOp .And (y :: rest) p))
  | .or a b, .BoolOp .Or (x :: y :: rest) p => chkE T c a x && (match rest with | [] => chkE T c b y | _ :: _ => chkE T c b (.BoolOp .Or (y :: rest) p))
  | .not a, .UnaryOp .Not x _ => chkE T c a x
  | .ifx t a b, .IfExp x y z _ => chkE T c t x && chkE T c a y && chkE T c b z
  | .ix a b, .Subscript x y _ => chkE T c a x && chkE T c b y && plainE y
  | .sl a lo hi, .Subscript x (.Slice l h none _) _ => chkE T c a x && chkO T c lo l && chkO T c hi h
  | .bi f as, .Call (.Name x _) xs [] _ => match biTy f with
    | some t => x == ("isinstance" : Str) && glB c x && chkEs T c as (xs.take 1) && isaTail c t xs && tys.contains t
    | none => biNm f == some x && glB c x && chkEs T c as xs && xs.all plainE && !xs.isEmpty
  | .mt f o as, .Call (.Attribute x n ap) xs [] p => n == mtNm f && chkE T c o x && chkEs T c as xs && xs.all plainE && xs.length == 1 && (ap.endLine == p.line) && noCall x
  | .call f as, .Call (.Name x _) xs [] _ => T.fnm f == some x && glB c x && chkEs T c as xs && xs.all plainE && !xs.isEmpty
  | .comp own elt t it ifs, .ListComp e [⟨tg, iter, cs, 0⟩] scope _ => blkB c scope own && chkIt T c it tg iter && chkT (c.blk scope) t tg && tgIn own t && chkE T (c.blk scope) elt e && plainE iter
      && (match ifs, cs with
        | none, [] => true
        | some q, [x] => chkE T (c.blk scope) q x
        | _, _ => false)
  | .comp2 own own1 elt t it t1 it1 ifs, .ListComp e [⟨tg, iter, [], 0⟩, ⟨tg1, iter1, cs, 0⟩] scope _ => blkB c scope own && chkIt T c it tg iter && chkT (c.blk scope) t tg && tgIn own t && chkIt T (c.blk scope) it1 tg1 iter1 && chkT (c.blk scope) t1 tg1 && tgIn own1 t1 && own1.all own.contains && chkE T (c.blk scope) elt e && plainE iter && plainE iter1
      && (match ifs, cs with
        | none, [] => true
        | some q, [x] => chkE T (c.blk scope) q x
        | _, _ => false)
  | .lrg a, .Call (.Name f _) [.Call (.Name g _) [x] [] _] [] _ => f == ("list" : Str) && glB c f && g == ("range" : Str) && glB c g && chkE T c a x && plainE x
  | .dsp ks vs a, .Subscript (.Dict keys vals _) y _ => keysB ks keys && chkEs T c vs vals && ks.length == vals.length && decide (ks.length ≤ 15) && !ks.isEmpty && decide ks.Nodup && chkE T c a y && plainE y
  | .sset a, .Call (.Name f _) [.Call (.Name g _) [x] [] _] [] _ => f == ("sorted" : Str) && glB c f && g == ("set" : Str) && glB c g && chkE T c a x && plainE x
  | .lset a, .Call (.Name f _) [.Call (.Name g _) [x] [] _] [] _ => f == ("len" : Str) && glB c f && g == ("set" : Str) && glB c g && chkE T c a x && plainE x
  | .tdp ts, .Dict keys vals _ => keysT ts keys && valsT ts vals && decide (ts.length ≤ 15) && !ts.isEmpty && decide (ts.map (·.1)).Nodup
  | .tix a b, .Subscript x y _ => chkE T c a x && chkE T c b y && plainE y
  | .rev a, .Subscript x (.Slice none none (some (.UnaryOp .USub (.Constant (.int 1) _ _) _)) _) _ => chkE T c a x
  | .popAt i e, .Call (.Attribute (.Name x _) n ap) [y] [] p => n == ("pop" : Str) && nameB c i x && chkE T c e y && plainE y && (ap.endLine == p.line)
  | .gd n a, .Subscript (.Name x _) y _ => x == n && glB c x && T.dnm x && chkE T c a y && plainE y
  | .gc n a, .Compare y [op] [.Name x _] _ => op == .In && x == n && glB c x && T.dnm x && chkE T c a y
  | _, _ => false
def chkO (T : Nm) (c : Sc) : Option E → Option Expr → Bool
  | none, none => true
  | some a, some x => chkE T c a x
  | _, _ => false
def chkEs (T : Nm) (c : Sc) : List E → List Expr → Bool
  | [], [] => true
  | a :: as, x :: xs => chkE T c a x && plainE x && chkEs T c as xs
  | _, _ => false
def chkIt (T : Nm) (c : Sc) : It → Expr → Expr → Bool
  | .e a, _, x => chkE T c a x
  | .r1 a, _, .Call (.Name f _) [x] [] _ => f == ("range" : Str) && glB c f && chkE T c a x && plainE x
  | .r2 a b, _, .Call (.Name f _) [x, y] [] _ => f == ("range" : Str) && glB c f && chkE T c a x && plainE x && chkE T c b y && plainE y
  | .r3 a b d, _, .Call (.Name f _) [x, y, z] [] _ => f == ("range" : Str) && glB c f && chkE T c a x && plainE x && chkE T c b y && plainE y && chkE T c d z && plainE z
  | .en a, tg, .Call (.Name f _) [x] [] _ => f == ("enumerate" : Str) && glB c f && chkE T c a x && plainE x && isTupE tg
  | .zp a b, tg, .Call (.Name f _) [x, y] [] _ => f == ("zip" : Str) && glB c f && chkE T c a x && plainE x && chkE T c b y && plainE y && isTupE tg
  | _, _, _ => false
end
end Ev

/-! the evaluator's answers are the layer's: expressions -/
namespace Ev
open PySem L2
/-! ### a def by its evaluation -/
def ArgsOk (K : PySem.W.Frag) (H : Hp) (M : AP) (io : List Nat) (vs : List V) (ds : List D) : Prop :=
  vs.length = ds.length ∧ (∀ (j : Nat) d, ds[j]? = some d → j ∉ io → ∃ v, vs[j]? = some v ∧ IsD K H M v d) ∧
  (∀ (j : Nat) d, ds[j]? = some d → j ∈ io → ∃ a, vs[j]? = some (.ref a) ∧ M a ∧ MutAt K H M a d) ∧
  (∀ j k a, j ∈ io → k ∈ io → vs[j]? = some (.ref a) → vs[k]? = some (.ref a) → j = k) ∧ (∀ j, j ∈ io → j < ds.length)
def UOf (io : List Nat) (vs : List V) : AP := fun a => ∃ j, j ∈ io ∧ vs[j]? = some (.ref a)
def OutsOk (K : PySem.W.Frag) (H : Hp) (M : AP) (io : List Nat) (vs : List V) (outs : List D) : Prop :=
  outs.length = io.length ∧ ∀ (k : Nat) j, io[k]? = some j → ∃ a d, vs[j]? = some (.ref a) ∧ outs[k]? = some d ∧ M a ∧ MutAt K H M a d
def RetV (K : PySem.W.Frag) (H0 H : Hp) (M : AP) (v : V) (d : D) : Bool → Prop
  | false => IsD K H M v d
  | true => ∃ p ws ds, v = .ref p ∧ d = .lst ds ∧ H0 p = none ∧ H p = some (.lst ws) ∧ M p ∧ IsDs K H M ws ds
def spF (K : PySem.W.Frag) (cv : Nat → Value) (io : List Nat) (sem : List D → Out) : Sp := fun vs H Q E => ∃ (M : AP) (ds : List D),
  (∀ a, M a → H a ≠ none) ∧ ArgsOk K H M io vs ds ∧ (match sem ds with
    | .ret d fr outs => ∀ v H' M' U', Step M (UOf io vs) H M' U' H' → OutsOk K H' M' io vs outs → RetV K H H' M' v d fr → Q v H'
    | .exc c outs => ∀ H' M' U', Step M (UOf io vs) H M' U' H' → OutsOk K H' M' io vs outs → E (cv c) none H'
    | .bad => False)
def FnFact (X : Cx) (G : Ct) (nm : Str) (io : List Nat) (sem : List D → Out) : Prop := ∃ (k : Nat) (fa : Addr) (fd : FuncData) (ps : List Str),
  FnOk X.prog X.w X.K X.mg X.base (L2.CX X.prog X.w) k fa fd ps (spF G.K G.cv io sem) ∧ Room k X.A ∧ X.mg nm = some (.ref fa) ∧ PySem.W.keepIn X.K (.ref fa) = true ∧ Binds X.K fd ps []
def blts : List Str := ["len", "tuple", "list", "all", "any", "int", "abs", "isinstance", "range", "bool", "str", "dict", "sorted", "min", "max", "sum", "enumerate", "zip", "set"]
/-- what a table of texts says stands there -/
def TabOk (K : PySem.W.Frag) (a : Addr) (kvs : List (D × D)) : Prop := ∀ z o, lookC kvs z = some o → match o with
  | none => PySem.W.nsIn K a (sv z) = some none
  | some d => ∃ u v, PySem.W.nsIn K a (sv z) = some (some u) ∧ RelV v u ∧ ∀ H M, IsD K H M v d
structure Ok (X : Cx) (c : Sc) (G : Ct) (W : WX) (C : Cfg) (T : Nm) : Prop where
  hN : X.N = c.N
  hs : X.env.scope = c.sc
  hf : X.fn = c.fn
  calm : X.calm = true
  nd : X.N.Nodup
  hK : X.K = G.K
  hio : C.io = G.io
  kd : c.sc.kind = .function
  un : X.A.units + 65 < cLine
  blt : ∀ x, x ∈ blts → X.mg x = none
  tk : Takes X W
  fns : ∀ f io sem nm, C.fn f = some (io, sem) → T.fnm f = some nm → FnFact X G nm io sem
  glb : ∀ n d, T.gnm n = true → C.glb n = some d → ∃ v u, X.mg n = some u ∧ RelV v u ∧ ∀ H M, IsD G.K H M v d
  dct : ∀ n, T.dnm n = true → ∃ kvs a es m, C.glb n = some (.dic kvs) ∧ X.mg n = some (.ref a) ∧ KDict X.K X.w a es m ∧ TabOk X.K a kvs
/-! ### small facts -/
theorem star_plain {e : Expr} (h : plainE e = true) (es : List Expr) (env : PySem.Env) : starEach (e :: es) env = (false, eval e env) :: starEach es env := by
  cases e <;> first | rfl | cases h
theorem star_any : ∀ (es : List Expr), es.all plainE = true → ∀ (pos : Pos) (env : PySem.Env), (backTo pos (starEach es env)).any (·.1) = false
  | [], _, _, _ => rfl
  | e :: es, h, pos, env => by
    have h' : plainE e = true ∧ es.all plainE = true := by simpa using h
    rw [star_plain h'.1]
    show (false || (backTo pos (starEach es env)).any (·.1)) = false
    rw [star_any es h'.2 pos env]
    rfl
section
variable {X : Cx} {c : Sc} {G : Ct} {W : WX} {C : Cfg} {T : Nm}
theorem Ok.vis (o : Ok X c G W C T) {i : Nat} {x : Str} (h : nameB c i x = true) : X.N[i]? = some x ∧ Vis X.env.scope x ∧ (x == ("__debug__" : Str)) = false ∧ (x == ("__classdict__" : Str)) = false := by
  unfold nameB at h
  simp only [Bool.and_eq_true, Bool.not_eq_true', beq_iff_eq] at h
  obtain ⟨⟨⟨h1, h2⟩, h3⟩, h4⟩ := h
  refine ⟨by rw [o.hN]; exact h1, ?_, h3, h4⟩
  rw [o.hs]
  unfold visB at h2
  simp only [Bool.or_eq_true, beq_iff_eq] at h2
  rcases h2 with (h2 | h2) | h2
  · exact .inl h2
  · exact .inr (.inl h2)
  · exact .inr (.inr h2)
theorem Ok.gl (o : Ok X c G W C T) {x : Str} (h : glB c x = true) : Gl X x ∧ (x == ("__debug__" : Str)) = false ∧ x ≠ "__name__" := by
  unfold glB at h
  simp only [Bool.and_eq_true, Bool.not_eq_true', beq_iff_eq] at h
  refine ⟨?_, h.1.2, fun e => ?_⟩
  · show X.env.scope.names.lookup x = some .globalImplicit
    rw [o.hs]
    exact h.1.1
  · subst e
    simp at h
theorem fin_new {s : St} {H H' : Hp} {M U : AP} {r : Env} {d : D} {fr : Bool} {v : V} {Q : VK} (rp : Rep G H M U s r)
    (f : Fin G W s H M U (.ok (d, fr) r) fun x r' H' M' U' => ∀ v, IsV G s r' H' M' U' v x.1 x.2 → Q v H') (n : New G.K H H' M v d fr) : Q v H' := by
  obtain ⟨h1, h2, h3⟩ := n.fin rp
  exact f H' M U h1 h2 v h3
theorem fin_here {α : Type} {s : St} {H : Hp} {M U : AP} {r : Env} {a : α} {k : α → Env → Hp → AP → AP → Prop} (rp : Rep G H M U s r) (f : Fin G W s H M U (.ok a r) k) : k a r H M U := f H M U (Step.refl M U H) rp
/-! ### names, constants -/
theorem getV_some {r : Env} {i : Nat} {d : D} (h : getV r i = some d) : r[i]? = some (.va d) := by
  unfold getV at h
  split at h
  · cases h
    assumption
  · cases h
theorem getM_some {r : Env} {i : Nat} {d : D} (h : getM r i = some d) : r[i]? = some (.mu d) := by
  unfold getM at h
  split at h
  · cases h
    assumption
  · cases h
theorem snd_v (o : Ok X c G W C T) {i : Nat} {x : Str} {p : Pos} (h : nameB c i x = true) : PE X (.Name x p) (tX G W C (.v i)) := by
  obtain ⟨h1, h2, h3, h4⟩ := o.vis h
  refine pe_mono (pe_var h1 h2 h3 h4) fun s H Q ⟨M, U, r, rp, f⟩ => ?_
  have f : Fin G W s H M U (lift ((getV r i).map (·, false)) r) _ := f
  cases e : getV r i with
  | none =>
    rw [e] at f
    exact f.elim
  | some d =>
    rw [e] at f
    obtain ⟨v, e1, e2⟩ := rp.val i d (getV_some e)
    exact ⟨v, e1, fin_here rp f v e2⟩
theorem snd_m (o : Ok X c G W C T) {i : Nat} {x : Str} {p : Pos} (h : nameB c i x = true) : PE X (.Name x p) (tO G W C (.m i)) := by
  obtain ⟨h1, h2, h3, h4⟩ := o.vis h
  refine pe_mono (pe_var h1 h2 h3 h4) fun s H Q ⟨M, U, r, rp, f⟩ => ?_
  have f : Fin G W s H M U (match getM r i with | some _ => R.ok (Op.m i) r | none => .bad) _ := f
  cases e : getM r i with
  | none =>
    rw [e] at f
    exact f.elim
  | some d =>
    rw [e] at f
    obtain ⟨a, e1, _⟩ := rp.mu i d (getM_some e)
    exact ⟨_, e1, fin_here rp f (.ref a) e1⟩
theorem Rep.mv {s : St} {H : Hp} {M U M' U' : AP} {r : Env} {i : Nat} {d : D} {a : Addr} (rp : Rep G H M U s r) (hi : r[i]? = some (.mu d)) (hio : i ∉ G.io) (ha : s[i]? = some (some (.ref a)))
    (h1 : ∀ b, M' b → M b) (h2 : ∀ b, U' b → M' b) (h3 : ∀ b, U b → b ≠ a → U' b) (h4 : ∀ b, U' b → U b) : Rep G H M' U' s (r.set i .un) where
  len := by rw [List.length_set]; exact rp.len
  val := fun j e he => by
    by_cases hj : i = j
    · subst hj
      rw [List.getElem?_set_self (by exact (List.getElem?_eq_some_iff.mp hi).1)] at he
      cases he
    · rw [List.getElem?_set_ne hj] at he
      obtain ⟨v, q1, q2⟩ := rp.val j e he
      exact ⟨v, q1, q2.stay (stay_mono h1)⟩
  mu := fun j e he => by
    by_cases hj : i = j
    · subst hj
      rw [List.getElem?_set_self (by exact (List.getElem?_eq_some_iff.mp hi).1)] at he
      cases he
    · rw [List.getElem?_set_ne hj] at he
      obtain ⟨b, q1, q2, vs, ds, q3, q4, q5⟩ := rp.mu j e he
      refine ⟨b, q1, h3 b q2 fun z => ?_, vs, ds, q3, q4, q5.stay (stay_mono h1)⟩
      subst z
      exact hj (rp.inj i j d e b hi he ha q1)
  inj := fun j k e g b h5 h6 h7 h8 => by
    have nj : ∀ {j : Nat} {e : D}, (r.set i .un)[j]? = some (.mu e) → r[j]? = some (.mu e) := fun {j e} h => by
      by_cases hj : i = j
      · subst hj
        rw [List.getElem?_set_self (by exact (List.getElem?_eq_some_iff.mp hi).1)] at h
        cases h
      · rw [List.getElem?_set_ne hj] at h
        exact h
    exact rp.inj j k e g b (nj h5) (nj h6) h7 h8
  sub := h2
  all := fun b h => rp.all b (h1 b h)
  pin := rp.pin
  pmu := fun j hj => by
    obtain ⟨e, he⟩ := rp.pmu j hj
    refine ⟨e, ?_⟩
    rw [List.getElem?_set_ne (fun z => hio (by rw [z]; exact hj))]
    exact he
  ent := fun b h => rp.ent b (h4 b h)
  old := rp.old
theorem mem_io (o : Ok X c G W C T) {i : Nat} (h : C.io.contains i = false) : i ∉ G.io := fun hm => by
  rw [o.hio] at h
  have : G.io.contains i = true := by simpa using hm
  rw [this] at h
  cases h
theorem snd_mv (o : Ok X c G W C T) {i : Nat} {x : Str} {p : Pos} (h : nameB c i x = true) : PE X (.Name x p) (tX G W C (.mv i)) := by
  obtain ⟨h1, h2, h3, h4⟩ := o.vis h
  refine pe_mono (pe_var h1 h2 h3 h4) fun s H Q ⟨M, U, r, rp, f⟩ => ?_
  have f : Fin G W s H M U (match getM r i with | some d => if C.io.contains i then R.bad else .ok (d, isLst d) (r.set i .un) | none => .bad) _ := f
  cases e : getM r i with
  | none =>
    rw [e] at f
    exact f.elim
  | some d =>
    rw [e] at f
    have hi := getM_some e
    cases hc : C.io.contains i with
    | true =>
      simp only [hc, if_true] at f
      exact f.elim
    | false =>
      simp only [hc] at f
      have hio := mem_io o hc
      obtain ⟨a, e1, e2, vs, ds, e3, e4, e5⟩ := rp.mu i d hi
      subst e3
      refine ⟨.ref a, e1, ?_⟩
      have st : Step M U H (minus M a) (minus U a) H := ⟨fun _ _ _ h => h, fun b h => .inl h.1, fun b h => .inl h.1, fun b h1 h2 => ⟨h1, fun z => by subst z; exact h2 e2⟩, fun _ h => h⟩
      have rp' : Rep G H (minus M a) (minus U a) s (r.set i .un) := rp.mv hi hio e1 (fun _ h => h.1) (fun b h => ⟨rp.sub b h.1, h.2⟩) (fun b h1 h2 => ⟨h1, h2⟩) fun _ h => h.1
      have sb : ∀ b, plus (minus M a) a b → M b := fun b h => h.elim (fun z => by subst z; exact rp.sub _ e2) fun h => h.1
      refine f H (minus M a) (minus U a) st rp' (.ref a) ⟨a, vs, ds, rfl, rfl, e4, fun h => h.2 rfl, rp.ent a e2, e5.stay (stay_mono sb), ?_⟩
      exact rp.mv hi hio e1 sb (fun b h => .inr ⟨rp.sub b h.1, h.2⟩) (fun b h1 h2 => ⟨h1, h2⟩) fun _ h => h.1
theorem snd_c {d : D} {k : Const} {j : Nat} {p : Pos} (h : chkC d k = true) : PE X (.Constant k j p) (tX G W C (.c d)) := by
  have use : ∀ {v : V} (s : St) (H : Hp) (Q : VK), (∀ H M, IsD G.K H M v d) → tX G W C (.c d) s H Q → Q v H := fun s H Q hd ⟨M, U, r, rp, f⟩ => fin_here rp f _ (hd H M)
  cases d <;> cases k <;> simp only [chkC, Bool.false_eq_true] at h
  · exact pe_mono pe_non fun s H Q q => use s H Q (fun _ _ => .non) q
  · have h := eq_of_beq h
    subst h
    exact pe_mono pe_bl fun s H Q q => use s H Q (fun _ _ => .bl _) q
  · have h := eq_of_beq h
    subst h
    exact pe_mono pe_int fun s H Q q => use s H Q (fun _ _ => .int _) q
  · rename_i z t
    simp only [Bool.and_eq_true, beq_iff_eq] at h
    have et : t = sv z := by
      rw [← h.1]
      unfold sv
      simp
    subst et
    have g : GoodS z := by
      have h2 := h.2
      unfold goodB at h2
      simp only [Bool.and_eq_true, decide_eq_true_eq, List.all_eq_true] at h2
      exact ⟨h2.1, fun c hc => by simpa using h2.2 c hc⟩
    exact pe_mono pe_str fun s H Q q => use s H Q (fun _ _ => .str _ g) q
theorem snd_g (o : Ok X c G W C T) {n x : Str} {p : Pos} (h : (x == n && glB c x && T.gnm x) = true) : PE X (.Name x p) (tX G W C (.g n)) := by
  simp only [Bool.and_eq_true, beq_iff_eq] at h
  obtain ⟨⟨rfl, h⟩, hgn⟩ := h
  obtain ⟨h1, h2, h3⟩ := o.gl h
  cases e : C.glb x with
  | none =>
    refine ⟨fun pins s σ H Q I ⟨M, U, r, rp, f⟩ => ?_⟩
    have f : Fin G W σ H M U (lift ((C.glb x).map (·, false)) r) _ := f
    rw [e] at f
    exact f.elim
  | some d =>
    obtain ⟨v, u, h4, h5, h6⟩ := o.glb x d hgn e
    refine pe_mono (pe_glob h1 h4 h5 h2) fun s H Q ⟨M, U, r, rp, f⟩ => ?_
    have f : Fin G W s H M U (lift ((C.glb x).map (·, false)) r) _ := f
    rw [e] at f
    exact fin_here rp f v (h6 H M)
/-! ### lists of expressions -/
def tEs (G : Ct) (W : WX) (C : Cfg) (es : List E) : TA := fun s H Q => ∃ M U r, Rep G H M U s r ∧ Fin G W s H M U (evEs C es r) fun ds r' H' M' U' => ∀ vs, IsDs G.K H' M' vs ds → Q vs H'
inductive IsOs (G : Ct) (s : St) (H : Hp) (M : AP) : List V → List Op → Prop
  | nil : IsOs G s H M [] []
  | cons (v : V) (vs : List V) (o : Op) (os : List Op) : IsO G s H M v o → IsOs G s H M vs os → IsOs G s H M (v :: vs) (o :: os)
def tOs (G : Ct) (W : WX) (C : Cfg) (es : List E) : TA := fun s H Q => ∃ M U r, Rep G H M U s r ∧ Fin G W s H M U (evOs C es r) fun os r' H' M' U' => ∀ vs, IsOs G s H' M' vs os → Q vs H'
theorem es_nil : PA X [] (tEs G W C []) := pa_mono pa_nil fun s H Q ⟨M, U, r, rp, f⟩ => fin_here rp f [] .nil
theorem os_nil : PA X [] (tOs G W C []) := pa_mono pa_nil fun s H Q ⟨M, U, r, rp, f⟩ => fin_here rp f [] .nil
theorem es_cons {a : E} {as : List E} {x : Expr} {xs : List Expr} (hp : plainE x = true) (ha : PE X x (tX G W C a)) (hs : PA X xs (tEs G W C as)) : PA X (x :: xs) (tEs G W C (a :: as)) := by
  refine pa_mono (pa_cons (pe_v ha) hs (star_plain hp _ _)) fun s H Q ⟨M, U, r, rp, f⟩ => ?_
  have f : Fin G W s H M U ((evX C a r).bind fun d r => (evEs C as r).map (d.1 :: ·)) _ := f
  refine ⟨M, U, r, rp, (f.bind rp.all).mono fun d r1 H1 M1 U1 st1 rp1 f1 v hv => ⟨M1, U1, r1, rp1, f1.map.mono fun ds r2 H2 M2 U2 st2 rp2 f2 vs hvs => ?_⟩⟩
  exact f2 (v :: vs) (.cons v vs d.1 ds (hv.stay (st2.stay rp1.sub)) hvs)
theorem os_cons {a : E} {as : List E} {x : Expr} {xs : List Expr} (hp : plainE x = true) (ha : PE X x (tO G W C a)) (hs : PA X xs (tOs G W C as)) : PA X (x :: xs) (tOs G W C (a :: as)) := by
  refine pa_mono (pa_cons ha hs (star_plain hp _ _)) fun s H Q ⟨M, U, r, rp, f⟩ => ?_
  have f : Fin G W s H M U ((opOf a r (evX C a r)).bind fun d r => (evOs C as r).map (d :: ·)) _ := f
  refine ⟨M, U, r, rp, (f.bind rp.all).mono fun d r1 H1 M1 U1 st1 rp1 f1 v hv => ⟨M1, U1, r1, rp1, f1.map.mono fun ds r2 H2 M2 U2 st2 rp2 f2 vs hvs => ?_⟩⟩
  exact f2 (v :: vs) (.cons v vs d ds (hv.step st2 rp1.sub) hvs)
theorem IsOs.gets {s : St} {H : Hp} {M U : AP} {r : Env} (rp : Rep G H M U s r) : ∀ {vs : List V} {os : List Op} {ds : List D}, IsOs G s H M vs os → gets r os = some ds → IsRs G H M vs ds
  | _, _, ds, .nil, e => by
    cases e
    exact .nil
  | _, _, ds, .cons v vs o os h t, e => by
    unfold Ev.gets at e
    cases e1 : o.get r with
    | none =>
      simp only [e1] at e
      cases e
    | some d =>
      cases e2 : Ev.gets r os with
      | none =>
        simp only [e1, e2] at e
        cases e
      | some es =>
        simp only [e1, e2] at e
        cases e
        exact .cons v vs d es (h.get rp e1) (IsOs.gets rp t e2)
/-! ### displays, operators -/
theorem snd_tup {es : List E} {xs : List Expr} {k : Nat} {p : Pos} (h : PA X xs (tEs G W C es)) : PE X (.Tuple xs k p) (tX G W C (.tup es)) := by
  refine pe_mono (pe_tup h) fun s H Q ⟨M, U, r, rp, f⟩ => ?_
  have f : Fin G W s H M U ((evEs C es r).bind fun ds r => if ds.length ≤ cap then R.ok (D.tup ds, false) r else .bad) _ := f
  refine ⟨M, U, r, rp, (f.bind rp.all).mono fun ds r1 H1 M1 U1 st1 rp1 f1 vs hvs => ?_⟩
  by_cases hl : ds.length ≤ cap
  · rw [if_pos hl] at f1
    exact ⟨by rw [hvs.length]; exact Nat.le_trans hl cap_line, fun q hq => fin_new rp1 f1 (new_tup rp1.all hvs hq)⟩
  · rw [if_neg hl] at f1
    exact f1.elim
theorem snd_lst {es : List E} {xs : List Expr} {p : Pos} (h : PA X xs (tEs G W C es)) : PE X (.List xs p) (tX G W C (.lst es)) := by
  refine pe_mono (pe_lst h) fun s H Q ⟨M, U, r, rp, f⟩ => ?_
  have f : Fin G W s H M U ((evEs C es r).bind fun ds r => if ds.length ≤ cap then R.ok (D.lst ds, true) r else .bad) _ := f
  refine ⟨M, U, r, rp, (f.bind rp.all).mono fun ds r1 H1 M1 U1 st1 rp1 f1 vs hvs => ?_⟩
  by_cases hl : ds.length ≤ cap
  · rw [if_pos hl] at f1
    exact ⟨by rw [hvs.length]; exact Nat.le_trans hl cap_line, fun q hq => fin_new rp1 f1 (new_lst hvs hq)⟩
  · rw [if_neg hl] at f1
    exact f1.elim
/-- two operands, both told at the end -/
theorem two_ops {β : Type} {a b : E} {s : St} {H : Hp} {M U : AP} {r : Env} {g : D → D → Env → R β} {k : β → Env → Hp → AP → AP → Prop} {R : V → V → Hp → Prop} (rp : Rep G H M U s r)
    (f : Fin G W s H M U ((opOf a r (evX C a r)).bind fun x r => (opOf b r (evX C b r)).bind fun y r => match x.get r, y.get r with
      | some x, some y => g x y r
      | _, _ => .bad) k)
    (h : ∀ x y r2 H2 M2 U2 v1 v2, Rep G H2 M2 U2 s r2 → IsR G H2 M2 v1 x → IsR G H2 M2 v2 y → Fin G W s H2 M2 U2 (g x y r2) k → R v1 v2 H2) :
    tO G W C a s H fun v1 H1 => tO G W C b s H1 fun v2 H2 => R v1 v2 H2 := by
  refine ⟨M, U, r, rp, (f.bind rp.all).mono fun o1 r1 H1 M1 U1 st1 rp1 f1 v1 i1 => ⟨M1, U1, r1, rp1, (f1.bind rp1.all).mono fun o2 r2 H2 M2 U2 st2 rp2 f2 v2 i2 => ?_⟩⟩
  cases e1 : o1.get r2 with
  | none =>
    simp only [e1] at f2
    exact f2.elim
  | some x =>
    cases e2 : o2.get r2 with
    | none =>
      simp only [e1, e2] at f2
      exact f2.elim
    | some y =>
      simp only [e1, e2] at f2
      exact h x y r2 H2 M2 U2 v1 v2 rp2 ((i1.step st2 rp1.sub).get rp2 e1) (i2.get rp2 e2) f2
theorem fin_lift {α : Type} {s : St} {H : Hp} {M U : AP} {r : Env} {o : Option α} {k : α → Env → Hp → AP → AP → Prop} (f : Fin G W s H M U (lift o r) k) : ∃ a, o = some a ∧ Fin G W s H M U (.ok a r) k := by
  cases o with
  | none => exact f.elim
  | some a => exact ⟨a, rfl, f⟩
theorem snd_bin (o : Ok X c G W C T) {b : Bop} {a₁ a₂ : E} {x y : Expr} {p : Pos} (h1 : PE X x (tO G W C a₁)) (h2 : PE X y (tO G W C a₂)) : PE X (.BinOp x (bopOf b) y p) (tX G W C (.bin b a₁ a₂)) := by
  refine pe_mono (pe_op (op_bin G o.hK b) h1 h2) fun s H Q ⟨M, U, r, rp, f⟩ => ?_
  refine two_ops (g := fun x y r => lift ((binD b x y).map (·, binF b x y)) r) rp f fun x y r2 H2 M2 U2 v1 v2 rp2 i1 i2 f2 => ?_
  obtain ⟨z, e, f2⟩ := fin_lift f2
  obtain ⟨d, e1, e2⟩ := Option.map_eq_some_iff.mp e
  subst e2
  exact ⟨M2, x, y, d, rp2.all, i1, i2, e1, fun v H' n => fin_new rp2 f2 n⟩
theorem snd_cmp (o : Ok X c G W C T) {b : Cop} {a₁ a₂ : E} {x y : Expr} {p : Pos} (h1 : PE X x (tO G W C a₁)) (h2 : PE X y (tO G W C a₂)) (hm : behindInMarks (copOf b) y = false) : PE X (.Compare x [copOf b] [y] p) (tX G W C (.cmp b a₁ a₂)) := by
  refine pe_mono (pe_cmpR (op_cmp G o.hK o.un b) h1 h2 hm) fun s H Q ⟨M, U, r, rp, f⟩ => ?_
  refine two_ops (g := fun x y r => lift ((cmpD b x y).map (D.bl ·, false)) r) rp f fun x y r2 H2 M2 U2 v1 v2 rp2 i1 i2 f2 => ?_
  obtain ⟨z, e, f2⟩ := fin_lift f2
  obtain ⟨d, e1, e2⟩ := Option.map_eq_some_iff.mp e
  subst e2
  exact ⟨M2, x, y, d, i1, i2, e1, fin_new rp2 f2 (new_val (.bl d))⟩
theorem snt_cmp (o : Ok X c G W C T) {b : Cop} {a₁ a₂ : E} {x y : Expr} {p : Pos} (h1 : PE X x (tO G W C a₁)) (h2 : PE X y (tO G W C a₂)) (hm : behindInMarks (copOf b) y = false) : PT X (.Compare x [copOf b] [y] p) (tTe G W C (.cmp b a₁ a₂)) := by
  refine pt_mono (pt_cmpR (op_cmp G o.hK o.un b) h1 h2 hm) fun s H Q ⟨M, U, r, rp, f⟩ => ?_
  refine two_ops (g := fun x y r => lift (cmpD b x y) r) rp f fun x y r2 H2 M2 U2 v1 v2 rp2 i1 i2 f2 => ?_
  obtain ⟨d, e, f2⟩ := fin_lift f2
  exact ⟨M2, x, y, d, i1, i2, e, d, rfl, fin_here rp2 f2⟩
theorem snd_neg {a : E} {x : Expr} {p : Pos} (h : PE X x (tX G W C a)) : PE X (.UnaryOp .USub x p) (tX G W C (.neg a)) := by
  refine pe_mono (pe_un un_neg (pe_v h)) fun s H Q ⟨M, U, r, rp, f⟩ => ?_
  have f : Fin G W s H M U ((evX C a r).bind fun x r => match x.1 with | .int i => R.ok (D.int (-i), false) r | _ => .bad) _ := f
  refine ⟨M, U, r, rp, (f.bind rp.all).mono fun d r1 H1 M1 U1 st1 rp1 f1 v hv => ?_⟩
  obtain ⟨d, fr⟩ := d
  cases hv with
  | int i => exact ⟨i, rfl, fin_new rp1 f1 (new_val (.int _))⟩
  | _ => exact f1.elim
/-- three, compared in a row -/
theorem chain_ops {a₁ a₂ a₃ : E} {b b' : Cop} {s : St} {H : Hp} {M U : AP} {r : Env} {β : Type} {g : Bool → β} {k : β → Env → Hp → AP → AP → Prop} {Q : VK} (rp : Rep G H M U s r)
    (f : Fin G W s H M U ((evX C a₁ r).bind fun x r => (evX C a₂ r).bind fun y r => match cmpD b x.1 y.1 with
      | some true => (evX C a₃ r).bind fun z r => lift ((cmpD b' y.1 z.1).map g) r
      | some false => .ok (g false) r
      | none => .bad) k) (hk : ∀ q r2 H2 M2 U2, Rep G H2 M2 U2 s r2 → Fin G W s H2 M2 U2 (.ok (g q) r2) k → Q (.bl q) H2) :
    tChain (rCmp G b) (rCmp G b') (tV G W C a₁) (tV G W C a₂) (tV G W C a₃) s H Q := by
  refine ⟨M, U, r, rp, (f.bind rp.all).mono fun x r1 H1 M1 U1 st1 rp1 f1 v1 i1 => ⟨M1, U1, r1, rp1, (f1.bind rp1.all).mono fun y r2 H2 M2 U2 st2 rp2 f2 v2 i2 => ?_⟩⟩
  have i1 := i1.stay (st2.stay rp1.sub)
  cases e : cmpD b x.1 y.1 with
  | none =>
    simp only [e] at f2
    exact f2.elim
  | some q =>
    refine ⟨M2, x.1, y.1, q, .inl i1, .inl i2, e, q, rfl, ?_⟩
    cases q with
    | false =>
      simp only [e] at f2
      rw [if_neg Bool.false_ne_true]
      exact hk false r2 H2 M2 U2 rp2 f2
    | true =>
      simp only [e] at f2
      rw [if_pos rfl]
      refine ⟨M2, U2, r2, rp2, (f2.bind rp2.all).mono fun z r3 H3 M3 U3 st3 rp3 f3 v3 i3 => ?_⟩
      obtain ⟨w, e1, f3⟩ := fin_lift f3
      obtain ⟨q, e2, e3⟩ := Option.map_eq_some_iff.mp e1
      subst e3
      exact ⟨M3, y.1, z.1, q, .inl (i2.stay (st3.stay rp2.sub)), .inl i3, e2, hk q r3 H3 M3 U3 rp3 f3⟩
theorem snd_chain (o : Ok X c G W C T) {b b' : Cop} {a₁ a₂ a₃ : E} {x y z : Expr} {p : Pos} (h1 : PE X x (tX G W C a₁)) (h2 : PE X y (tX G W C a₂)) (h3 : PE X z (tX G W C a₃)) (hm : lastMarks [copOf b, copOf b'] [y, z] = false) :
    PE X (.Compare x [copOf b, copOf b'] [y, z] p) (tX G W C (.chain b b' a₁ a₂ a₃)) := by
  refine pe_mono (pe_chain (op_cmp G o.hK o.un b) (op_cmp G o.hK o.un b') (pe_v h1) (pe_v h2) (pe_v h3) hm) fun s H Q ⟨M, U, r, rp, f⟩ => ?_
  exact chain_ops (g := fun q => (D.bl q, false)) rp f fun q r2 H2 M2 U2 rp2 f2 => fin_new rp2 f2 (new_val (.bl q))
theorem snt_chain (o : Ok X c G W C T) {b b' : Cop} {a₁ a₂ a₃ : E} {x y z : Expr} {p : Pos} (h1 : PE X x (tX G W C a₁)) (h2 : PE X y (tX G W C a₂)) (h3 : PE X z (tX G W C a₃)) (hm : lastMarks [copOf b, copOf b'] [y, z] = false) :
    PT X (.Compare x [copOf b, copOf b'] [y, z] p) (tTe G W C (.chain b b' a₁ a₂ a₃)) := by
  refine pt_mono (pt_chain (op_cmp G o.hK o.un b) (op_cmp G o.hK o.un b') (pe_v h1) (pe_v h2) (pe_v h3) hm) fun s H Q ⟨M, U, r, rp, f⟩ => ?_
  have f : Fin G W s H M U ((evX C a₁ r).bind fun x r => (evX C a₂ r).bind fun y r => match cmpD b x.1 y.1 with
      | some true => (evX C a₃ r).bind fun z r => lift (cmpD b' y.1 z.1) r
      | some false => .ok false r
      | none => .bad) _ := f
  refine chain_ops (g := fun q => q) rp (b := b) (b' := b') ?_ fun q r2 H2 M2 U2 rp2 f2 => ⟨q, rfl, fin_here rp2 f2⟩
  simpa using f
/-! ### and, or, not, if -/
theorem bl_of {d : D} {v : V} {s : St} {H : Hp} {M U : AP} {r : Env} {β : Type} {g : Bool → R β} {k : β → Env → Hp → AP → AP → Prop} (hv : IsD G.K H M v d) (f : Fin G W s H M U (match d with | .bl b => g b | _ => .bad) k) : ∃ b, v = .bl b ∧ d = .bl b ∧ Fin G W s H M U (g b) k := by
  cases hv with
  | bl b => exact ⟨b, rfl, rfl, f⟩
  | _ => exact f.elim
theorem not_m {T : Nm} {a : E} {x : Expr} : True := trivial
theorem snd_and {a b : E} {x y : Expr} {rest : List Expr} {p : Pos} (h1 : PE X x (tX G W C a)) (h2 : PE X (.BoolOp .And (y :: rest) p) (tX G W C b)) : PE X (.BoolOp .And (x :: y :: rest) p) (tX G W C (.and a b)) := by
  refine pe_mono (pe_and (pe_v h1) (pe_v h2)) fun s H Q ⟨M, U, r, rp, f⟩ => ?_
  have f : Fin G W s H M U ((evX C a r).bind fun x r => match x.1 with
    | .bl true => (evX C b r).map fun y => (y.1, false)
    | .bl false => R.ok (D.bl false, false) r
    | _ => .bad) _ := f
  refine ⟨M, U, r, rp, (f.bind rp.all).mono fun d r1 H1 M1 U1 st1 rp1 f1 v hv => ?_⟩
  obtain ⟨d, fr⟩ := d
  cases hv with
  | bl q =>
    refine ⟨q, rfl, ?_⟩
    cases q with
    | true => exact iteT ⟨M1, U1, r1, rp1, f1.map.mono fun _ _ _ _ _ _ _ q v hv => q v hv⟩
    | false => exact iteF (fin_new rp1 f1 (new_val (.bl _)))
  | _ => exact f1.elim
theorem snd_or {a b : E} {x y : Expr} {rest : List Expr} {p : Pos} (h1 : PE X x (tX G W C a)) (h2 : PE X (.BoolOp .Or (y :: rest) p) (tX G W C b)) : PE X (.BoolOp .Or (x :: y :: rest) p) (tX G W C (.or a b)) := by
  refine pe_mono (pe_or (pe_v h1) (pe_v h2)) fun s H Q ⟨M, U, r, rp, f⟩ => ?_
  have f : Fin G W s H M U ((evX C a r).bind fun x r => match x.1 with
    | .bl true => R.ok (D.bl true, false) r
    | .bl false => (evX C b r).map fun y => (y.1, false)
    | _ => .bad) _ := f
  refine ⟨M, U, r, rp, (f.bind rp.all).mono fun d r1 H1 M1 U1 st1 rp1 f1 v hv => ?_⟩
  obtain ⟨d, fr⟩ := d
  cases hv with
  | bl q =>
    refine ⟨q, rfl, ?_⟩
    cases q with
    | false => exact iteF ⟨M1, U1, r1, rp1, f1.map.mono fun _ _ _ _ _ _ _ q v hv => q v hv⟩
    | true => exact iteT (fin_new rp1 f1 (new_val (.bl _)))
  | _ => exact f1.elim
theorem snd_not {a : E} {x : Expr} {p : Pos} (h1 : PE X x (tX G W C a)) : PE X (.UnaryOp .Not x p) (tX G W C (.not a)) := by
  refine pe_mono (pe_not (pe_v h1)) fun s H Q ⟨M, U, r, rp, f⟩ => ?_
  have f : Fin G W s H M U ((evX C a r).bind fun x r => match x.1 with
    | .bl b => R.ok (D.bl (!b), false) r
    | _ => .bad) _ := f
  refine ⟨M, U, r, rp, (f.bind rp.all).mono fun d r1 H1 M1 U1 st1 rp1 f1 v hv => ?_⟩
  obtain ⟨d, fr⟩ := d
  cases hv with
  | bl q => exact ⟨q, rfl, fin_new rp1 f1 (new_val (.bl _))⟩
  | _ => exact f1.elim
theorem snd_ifx {t a b : E} {x y z : Expr} {p : Pos} (h0 : PT X x (tTe G W C t)) (h1 : PE X y (tX G W C a)) (h2 : PE X z (tX G W C b)) : PE X (.IfExp x y z p) (tX G W C (.ifx t a b)) := by
  refine pe_mono (pe_ifExp h0 (pe_v h1) (pe_v h2)) fun s H Q ⟨M, U, r, rp, f⟩ => ?_
  have f : Fin G W s H M U ((evT C t r).bind fun c r => if c then (evX C a r).map (fun y => (y.1, false)) else (evX C b r).map fun y => (y.1, false)) _ := f
  refine ⟨M, U, r, rp, (f.bind rp.all).mono fun d r1 H1 M1 U1 st1 rp1 f1 => ?_⟩
  cases d with
  | true => exact iteT ⟨M1, U1, r1, rp1, f1.map.mono fun _ _ _ _ _ _ _ q v hv => q v hv⟩
  | false => exact iteF ⟨M1, U1, r1, rp1, f1.map.mono fun _ _ _ _ _ _ _ q v hv => q v hv⟩
/-! tests -/
theorem snt_not {a : E} {x : Expr} {p : Pos} (h : PT X x (tTe G W C a)) : PT X (.UnaryOp .Not x p) (tTe G W C (.not a)) := by
  refine pt_mono (pt_not h) fun s H Q ⟨M, U, r, rp, f⟩ => ?_
  have f : Fin G W s H M U ((evT C a r).map (!·)) _ := f
  exact ⟨M, U, r, rp, f.map.mono fun _ _ _ _ _ _ _ q => q⟩
theorem snw_and {a b : E} {x y : Expr} {rest : List Expr} {p : Pos} (h1 : PT X x (tTe G W C a)) (h2 : PW X (.BoolOp .And (y :: rest) p) (tTe G W C b)) : PW X (.BoolOp .And (x :: y :: rest) p) (tTe G W C (.and a b)) := by
  have q := pw_and h1 h2
  refine ⟨fun wh pins s σ H Q I ⟨M, U, r, rp, f⟩ => q.run wh pins s σ H Q I ?_⟩
  have f : Fin G W σ H M U ((evT C a r).bind fun x r => if x then evT C b r else .ok false r) _ := f
  refine ⟨M, U, r, rp, (f.bind rp.all).mono fun d r1 H1 M1 U1 st1 rp1 f1 => ?_⟩
  cases d with
  | true => exact iteT ⟨M1, U1, r1, rp1, f1⟩
  | false => exact iteF (fin_here rp1 f1)
theorem snw_or {a b : E} {x y : Expr} {rest : List Expr} {p : Pos} (h1 : PT X x (tTe G W C a)) (h2 : PW X (.BoolOp .Or (y :: rest) p) (tTe G W C b)) : PW X (.BoolOp .Or (x :: y :: rest) p) (tTe G W C (.or a b)) := by
  have q := pw_or h1 h2
  refine ⟨fun wh pins s σ H Q I ⟨M, U, r, rp, f⟩ => q.run wh pins s σ H Q I ?_⟩
  have f : Fin G W σ H M U ((evT C a r).bind fun x r => if x then .ok true r else evT C b r) _ := f
  refine ⟨M, U, r, rp, (f.bind rp.all).mono fun d r1 H1 M1 U1 st1 rp1 f1 => ?_⟩
  cases d with
  | false => exact iteF ⟨M1, U1, r1, rp1, f1⟩
  | true => exact iteT (fin_here rp1 f1)
/-- a test that is the truth of a bool -/
theorem snt_val {a : E} {x : Expr} (h : PE X x (tX G W C a)) (he : ∀ whole, isTrue x X.env whole = (do let v ← whole; standAt x.pos; holding [v] (truthy v)))
    (ev : ∀ r, evT C a r = (evX C a r).bind fun y r => match y.1 with | .bl b => .ok b r | _ => .bad) : PT X x (tTe G W C a) := by
  refine pt_mono (pt_val (pe_v h) he) fun s H Q ⟨M, U, r, rp, f⟩ => ?_
  rw [ev] at f
  refine ⟨M, U, r, rp, (f.bind rp.all).mono fun d r1 H1 M1 U1 st1 rp1 f1 v hv => ?_⟩
  obtain ⟨d, fr⟩ := d
  cases hv with
  | bl q => exact ⟨q, rfl, fin_here rp1 f1⟩
  | _ => exact f1.elim
/-! ### subscripts, slices -/
theorem snd_ix (o : Ok X c G W C T) {a b : E} {x y : Expr} {p : Pos} (h1 : PE X x (tO G W C a)) (h2 : PE X y (tX G W C b)) (hp : plainE y = true) : PE X (.Subscript x y p) (tX G W C (.ix a b)) := by
  have pl : PlainIx y := fun v w => by cases y <;> first | rfl | cases hp
  refine pe_mono (pe_ix (ok_ix G o.hK) h1 (pe_v h2) pl) fun s H Q ⟨M, U, r, rp, f⟩ => ?_
  have f : Fin G W s H M U ((opOf a r (evX C a r)).bind fun x r => (evX C b r).bind fun y r => match x.get r with
    | some x => lift ((ixD x y.1).map (·, false)) r
    | none => .bad) _ := f
  refine ⟨M, U, r, rp, (f.bind rp.all).mono fun o1 r1 H1 M1 U1 st1 rp1 f1 v1 i1 => ⟨M1, U1, r1, rp1, (f1.bind rp1.all).mono fun y r2 H2 M2 U2 st2 rp2 f2 v2 i2 => ?_⟩⟩
  cases e1 : o1.get r2 with
  | none =>
    simp only [e1] at f2
    exact f2.elim
  | some x =>
    simp only [e1] at f2
    obtain ⟨z, e, f2⟩ := fin_lift f2
    obtain ⟨d, e2, e3⟩ := Option.map_eq_some_iff.mp e
    subst e3
    exact ⟨M2, x, y.1, d, (i1.step st2 rp1.sub).get rp2 e1, .inl i2, e2, fun v hv => fin_here rp2 f2 v hv⟩
def tI (G : Ct) (W : WX) (C : Cfg) (e : Option E) : TO := fun s H Q => ∃ M U r, Rep G H M U s r ∧ Fin G W s H M U (evI C e r) fun i r' H' M' U' => Q i H'
theorem snd_i0 : PO X none (tI G W C none) := ⟨fun pins s σ H Q I ⟨M, U, r, rp, f⟩ => po_none.run pins s σ H Q I (fin_here rp f)⟩
theorem snd_i1 {a : E} {x : Expr} (h : PE X x (tX G W C a)) : PO X (some x) (tI G W C (some a)) := ⟨fun pins s σ H Q I ⟨M, U, r, rp, f⟩ => (po_some (pe_v h)).run pins s σ H Q I (by
  have f : Fin G W σ H M U ((evX C a r).bind fun x r => match x.1 with | .int i => R.ok (some i) r | _ => .bad) _ := f
  refine ⟨M, U, r, rp, (f.bind rp.all).mono fun d r1 H1 M1 U1 st1 rp1 f1 v hv => ?_⟩
  obtain ⟨d, fr⟩ := d
  cases hv with
  | int i => exact ⟨i, rfl, fin_here rp1 f1⟩
  | _ => exact f1.elim)⟩
theorem snd_sl (o : Ok X c G W C T) {a : E} {lo hi : Option E} {x : Expr} {l h : Option Expr} {p p2 : Pos} (h1 : PE X x (tO G W C a)) (h2 : PO X l (tI G W C lo)) (h3 : PO X h (tI G W C hi)) : PE X (.Subscript x (.Slice l h none p2) p) (tX G W C (.sl a lo hi)) := by
  refine pe_mono (pe_slice (ok_sl G o.hK) h1 h2 h3) fun s H Q ⟨M, U, r, rp, f⟩ => ?_
  have f : Fin G W s H M U ((opOf a r (evX C a r)).bind fun x r => (evI C lo r).bind fun l r => (evI C hi r).bind fun h r => match x.get r with
    | some x => lift ((slD x l h).map (·, isLst x)) r
    | none => .bad) _ := f
  refine ⟨M, U, r, rp, (f.bind rp.all).mono fun o1 r1 H1 M1 U1 st1 rp1 f1 v1 i1 => ⟨M1, U1, r1, rp1, (f1.bind rp1.all).mono fun l r2 H2 M2 U2 st2 rp2 f2 => ⟨M2, U2, r2, rp2, (f2.bind rp2.all).mono fun h r3 H3 M3 U3 st3 rp3 f3 => ?_⟩⟩⟩
  cases e1 : o1.get r3 with
  | none =>
    simp only [e1] at f3
    exact f3.elim
  | some x =>
    simp only [e1] at f3
    obtain ⟨z, e, f3⟩ := fin_lift f3
    obtain ⟨d, e2, e3⟩ := Option.map_eq_some_iff.mp e
    subst e3
    exact ⟨M3, x, d, rp3.all, ((i1.step st2 rp1.sub).step st3 rp2.sub).get rp3 e1, e2, fun v H' n => fin_new rp3 f3 n⟩
end
end Ev

/-! calls -/
namespace Ev
open PySem L2
section
variable {X : Cx} {c : Sc} {G : Ct} {W : WX} {C : Cfg} {T : Nm}
theorem Ok.bt (o : Ok X c G W C T) {x : Str} (h : blts.contains x = true) : X.mg x = none := o.blt x (by simpa using h)
theorem bi_rule (o : Ok X c G W C T) {f : Bi} {x : Str} (h : biNm f = some x) : X.mg x = none ∧ ((∃ id, bootBuiltins x = some (.builtin id) ∧ CallR X (.builtin id) (rBi G f)) ∨ ∃ t, bootBuiltins x = some (.type t) ∧ CallR X (.type t) (rBi G f)) := by
  cases f with
  | len => cases h; exact ⟨o.bt (by decide +kernel), .inl ⟨"len", by decide +kernel, ok_len G o.hK⟩⟩
  | tuple => cases h; exact ⟨o.bt (by decide +kernel), .inr ⟨"tuple", by decide +kernel, ok_tuple G o.hK⟩⟩
  | list => cases h; exact ⟨o.bt (by decide +kernel), .inr ⟨"list", by decide +kernel, ok_list G o.hK o.calm⟩⟩
  | all => cases h; exact ⟨o.bt (by decide +kernel), .inl ⟨"all", by decide +kernel, ok_all G o.hK o.calm⟩⟩
  | any => cases h; exact ⟨o.bt (by decide +kernel), .inl ⟨"any", by decide +kernel, ok_any G o.hK o.calm⟩⟩
  | int => cases h; exact ⟨o.bt (by decide +kernel), .inr ⟨"int", by decide +kernel, ok_int G⟩⟩
  | abs => cases h; exact ⟨o.bt (by decide +kernel), .inl ⟨"abs", by decide +kernel, ok_abs G⟩⟩
  | sorted => cases h; exact ⟨o.bt (by decide +kernel), .inl ⟨"sorted", by decide +kernel, ok_sorted G o.hK o.calm o.un⟩⟩
  | min => cases h; exact ⟨o.bt (by decide +kernel), .inl ⟨"min", by decide +kernel, ok_min G o.hK o.calm o.un⟩⟩
  | max => cases h; exact ⟨o.bt (by decide +kernel), .inl ⟨"max", by decide +kernel, ok_max G o.hK o.calm o.un⟩⟩
  | sum => cases h; exact ⟨o.bt (by decide +kernel), .inl ⟨"sum", by decide +kernel, ok_sum G o.hK o.calm⟩⟩
  | isa t => cases h
theorem bi_use {f : Bi} {as : List E} {s : St} {H : Hp} {Q : VK} (h : tX G W C (.bi f as) s H Q) : tCB (rBi G f) (tOs G W C as) s H Q := by
  obtain ⟨M, U, r, rp, h⟩ := h
  have h : Fin G W s H M U ((evOs C as r).bind fun os r => match gets r os with | some ds => lift (biD f ds) r | none => .bad) _ := h
  refine ⟨M, U, r, rp, (h.bind rp.all).mono fun os r1 H1 M1 U1 st1 rp1 f1 vs hvs => ?_⟩
  cases e : gets r1 os with
  | none =>
    simp only [e] at f1
    exact f1.elim
  | some ds =>
    simp only [e] at f1
    obtain ⟨⟨d, fr⟩, e2, f1⟩ := fin_lift f1
    exact ⟨M1, ds, d, fr, rp1.all, hvs.gets rp1 e, e2, fun v H' n => fin_new rp1 f1 n⟩
theorem snd_bi (o : Ok X c G W C T) {f : Bi} {as : List E} {x : Str} {e : Expr} {es : List Expr} {p p2 : Pos} (h : biNm f = some x) (hg : glB c x = true) (ha : PA X (e :: es) (tOs G W C as)) (hp : (e :: es).all plainE = true) : PE X (.Call (.Name x p2) (e :: es) [] p) (tX G W C (.bi f as)) := by
  obtain ⟨g1, g2, g3⟩ := o.gl hg
  obtain ⟨m1, m2⟩ := bi_rule o h
  have hp' : plainE e = true ∧ es.all plainE = true := by simpa using hp
  rcases m2 with ⟨id, b1, b2⟩ | ⟨t, b1, b2⟩
  · exact pe_mono (pe_callB b2 g1 m1 b1 ha g3 g2 (star_plain hp'.1 _ _) (star_any es hp'.2 _ _)) fun s H Q q => bi_use q
  · exact pe_mono (pe_callTy b2 g1 m1 b1 ha g3 g2 (star_plain hp'.1 _ _) (star_any es hp'.2 _ _)) fun s H Q q => bi_use q
theorem ty_tab : tys.all (fun t => bootBuiltins (t : Str) == some (.type t) && blts.contains (t : Str)) = true := by decide +kernel
theorem snd_isa (o : Ok X c G W C T) {t : String} {a : E} {f ty : Str} {e : Expr} {p p2 p3 : Pos} (h : (f == ("isinstance" : Str)) = true) (hg : glB c f = true) (ha : PE X e (tO G W C a)) (hp : plainE e = true) (ht : (ty == (t : Str)) = true) (hg2 : glB c ty = true) (hm : tys.contains t = true) :
    PE X (.Call (.Name f p2) [e, .Name ty p3] [] p) (tX G W C (.bi (.isa t) [a])) := by
  have ef := eq_of_beq h
  have et := eq_of_beq ht
  subst ef et
  obtain ⟨g1, g2, g3⟩ := o.gl hg
  obtain ⟨k1, k2, k3⟩ := o.gl hg2
  have tt := List.all_eq_true.mp ty_tab t (by simpa using hm)
  simp only [Bool.and_eq_true, beq_iff_eq] at tt
  have pa : PA X [e, .Name (t : Str) p3] (tCons (tO G W C a) (tCons (tC (.ty t)) tNil)) := pa_cons ha (pa_cons (pe_bltn k1 (o.bt tt.2) tt.1 rfl k3 k2) pa_nil) (star_plain hp _ _)
  refine pe_mono (pe_callB (ok_isa G o.hK t hm) g1 (o.bt (by decide +kernel)) (by decide +kernel) pa g3 g2 (star_plain hp _ _) rfl) fun s H Q ⟨M, U, r, rp, q⟩ => ?_
  have q : Fin G W s H M U (((opOf a r (evX C a r)).bind fun d r => (R.ok [] r : R (List Op)).map (d :: ·)).bind fun os r => match gets r os with | some ds => lift (biD (.isa t) ds) r | none => .bad) _ := q
  refine ⟨M, U, r, rp, ((q.bind rp.all).bind rp.all).mono fun o1 r1 H1 M1 U1 st1 rp1 f1 v hv => ?_⟩
  have f1 := fin_here rp1 f1
  cases e : gets r1 [o1] with
  | none =>
    simp only [e] at f1
    exact f1.elim
  | some ds =>
    simp only [e] at f1
    obtain ⟨⟨d, fr⟩, e2, f1⟩ := fin_lift f1
    have is : IsOs G s H1 M1 [v] [o1] := .cons v [] o1 [] hv .nil
    exact ⟨v, rfl, M1, ds, d, fr, rp1.all, is.gets rp1 e, e2, fun v H' n => fin_new rp1 f1 n⟩
theorem attr_plain {x : Expr} (h : noCall x = true) (n : Str) (env : PySem.Env) : attributeBase x n env (eval x env) = eval x env := by
  cases x <;> first | rfl | cases h
/-- the method of each -/
theorem mt_rule (o : Ok X c G W C T) (f : Mt) : ∃ (ty : String) (id : String), PlainAttrs ty ∧ Slot ty (mtNm f) id ∧ typeOf (.builtin id) = pure (.type "method_descriptor") ∧ MtR X id (rMt G f) ∧
    ∀ x d H M, IsR G H M x d → recvOk f d = true → tyV X.K ty x H := by
  cases f with
  | join =>
    refine ⟨"str", _, PySem.F.plainAttrs_str, PySem.F.slot_str_join, PySem.F.type_str_join, ok_join G o.hK, fun x d H M hx hd => ?_⟩
    cases d <;> first | (simp [recvOk] at hd; done) | skip
    rw [hx.str.1]
    rfl
  | index =>
    refine ⟨"list", _, PySem.F.plainAttrs_list, PySem.F.slot_list_index, PySem.F.type_list_index, ok_index G o.hK o.un, fun x d H M hx hd => ?_⟩
    cases d <;> first | (simp [recvOk] at hd; done) | skip
    obtain ⟨a, ws, rfl, f, _⟩ := hx.lst
    exact .inl ⟨rfl, ws, by rw [o.hK]; exact f⟩
  | count =>
    refine ⟨"list", _, PySem.F.plainAttrs_list, PySem.F.slot_list_count, PySem.F.type_list_count, ok_count G o.hK o.un, fun x d H M hx hd => ?_⟩
    cases d <;> first | (simp [recvOk] at hd; done) | skip
    obtain ⟨a, ws, rfl, f, _⟩ := hx.lst
    exact .inl ⟨rfl, ws, by rw [o.hK]; exact f⟩
theorem snd_mt (o : Ok X c G W C T) {f : Mt} {a b : E} {x e : Expr} {ap p : Pos} (ha : PE X x (tO G W C a)) (hb : PE X e (tO G W C b)) (hp : plainE e = true) (hc : noCall x = true) (hl : (ap.endLine == p.line) = true) :
    PE X (.Call (.Attribute x (mtNm f) ap) [e] [] p) (tX G W C (.mt f a [b])) := by
  obtain ⟨ty, id, pa, sl, ht, hr, hy⟩ := mt_rule o f
  have st := star_plain hp [] X.env
  refine pe_mono (pe_bm pa sl ht hr ha (pa_cons hb pa_nil st) (attr_plain hc _ _) (by rw [st]; rfl) hl st rfl) fun s H Q ⟨M, U, r, rp, g⟩ => ?_
  have g : Fin G W s H M U ((opOf a r (evX C a r)).bind fun x r => match x.get r with
    | none => .bad
    | some x0 => if recvOk f x0 then ((opOf b r (evX C b r)).bind fun d r => (R.ok [] r : R (List Op)).map (d :: ·)).bind fun os r => match x.get r, gets r os with
        | some x1, some ds => lift (mtD f x1 ds) r
        | _, _ => .bad
      else .bad) _ := g
  refine ⟨M, U, r, rp, (g.bind rp.all).mono fun o1 r1 H1 M1 U1 st1 rp1 f1 v hv => ?_⟩
  cases e0 : o1.get r1 with
  | none =>
    rw [e0] at f1
    exact f1.elim
  | some x0 =>
    simp only [e0] at f1
    by_cases hro : recvOk f x0 = true
    · rw [if_pos hro] at f1
      refine ⟨hy v x0 H1 M1 (hv.get rp1 e0) hro, M1, U1, r1, rp1, ((Fin.bind rp1.all f1).bind rp1.all).mono fun o2 r2 H2 M2 U2 st2 rp2 f2 w hw => ?_⟩
      have f2 := fin_here rp2 f2
      cases e1 : o1.get r2 with
      | none =>
        simp only [e1] at f2
        exact f2.elim
      | some x1 =>
        cases e2 : gets r2 [o2] with
        | none =>
          simp only [e1, e2] at f2
          exact f2.elim
        | some ds =>
          simp only [e1, e2] at f2
          obtain ⟨⟨d2, fr2⟩, e3, f2⟩ := fin_lift f2
          have is : IsOs G s H2 M2 [w] [o2] := .cons w [] o2 [] hw .nil
          exact ⟨M2, x1, ds, d2, fr2, rp2.all, (hv.step st2 rp1.sub).get rp2 e1, is.gets rp2 e2, e3, fun v H' n => fin_new rp2 f2 n⟩
    · rw [if_neg hro] at f1
      exact f1.elim
/-! ### a call of a def -/
theorem refs_mem : ∀ (os : List Op) (k : Nat) (j i : Nat), (j, i) ∈ refsAt k os ↔ ∃ n, j = k + n ∧ os[n]? = some (.m i)
  | [], k, j, i => by simp [refsAt]
  | .d x :: os, k, j, i => by
    simp only [refsAt, refs_mem os (k + 1)]
    constructor
    · rintro ⟨n, h1, h2⟩
      exact ⟨n + 1, by omega, by simpa using h2⟩
    · rintro ⟨n, h1, h2⟩
      cases n with
      | zero => simp at h2
      | succ n => exact ⟨n, by omega, by simpa using h2⟩
  | .m x :: os, k, j, i => by
    simp only [refsAt, List.mem_cons, refs_mem os (k + 1), Prod.mk.injEq]
    constructor
    · rintro (⟨h1, h2⟩ | ⟨n, h1, h2⟩)
      · exact ⟨0, by omega, by simp [h2]⟩
      · exact ⟨n + 1, by omega, by simpa using h2⟩
    · rintro ⟨n, h1, h2⟩
      cases n with
      | zero =>
        simp at h2
        exact .inl ⟨by omega, h2.symm⟩
      | succ n => exact .inr ⟨n, by omega, by simpa using h2⟩
theorem IsOs.get {s : St} {H : Hp} {M : AP} : ∀ {vs : List V} {os : List Op} {n : Nat} {o : Op}, IsOs G s H M vs os → os[n]? = some o → ∃ v, vs[n]? = some v ∧ IsO G s H M v o
  | _, _, _, _, .nil, e => by simp at e
  | _, _, 0, _, .cons v vs o os h t, e => by
    simp at e
    subst e
    exact ⟨v, by simp, h⟩
  | _, _, n + 1, o', .cons v vs o os h t, e => by
    obtain ⟨w, h1, h2⟩ := IsOs.get (n := n) (o := o') t (by simpa using e)
    exact ⟨w, by simpa using h1, h2⟩
theorem IsOs.len {s : St} {H : Hp} {M : AP} : ∀ {vs : List V} {os : List Op}, IsOs G s H M vs os → vs.length = os.length
  | _, _, .nil => rfl
  | _, _, .cons _ _ _ _ _ t => by simp [IsOs.len t]
theorem gets_len {r : Env} : ∀ {os : List Op} {ds : List D}, gets r os = some ds → ds.length = os.length
  | [], ds, e => by
    cases e
    rfl
  | o :: os, ds, e => by
    unfold gets at e
    cases e1 : o.get r with
    | none => simp [e1] at e
    | some d =>
      cases e2 : gets r os with
      | none => simp [e1, e2] at e
      | some es =>
        simp only [e1, e2, Option.some.injEq] at e
        subst e
        simp [gets_len e2]
theorem gets_get {r : Env} : ∀ {os : List Op} {ds : List D} {n : Nat} {d : D}, gets r os = some ds → ds[n]? = some d → ∃ o, os[n]? = some o ∧ o.get r = some d
  | [], ds, n, d, e, h => by
    cases e
    simp at h
  | o :: os, ds, n, d, e, h => by
    unfold gets at e
    cases e1 : o.get r with
    | none => simp [e1] at e
    | some d' =>
      cases e2 : gets r os with
      | none => simp [e1, e2] at e
      | some es =>
        simp only [e1, e2, Option.some.injEq] at e
        subst e
        cases n with
        | zero =>
          simp at h
          subst h
          exact ⟨o, rfl, e1⟩
        | succ n =>
          obtain ⟨o', q1, q2⟩ := gets_get (n := n) (d := d) e2 (by simpa using h)
          exact ⟨o', by simpa using q1, q2⟩
theorem putMs_other : ∀ (is : List Nat) (ds : List D) (r : Env) (i : Nat), i ∉ is → (putMs is ds r)[i]? = r[i]?
  | [], _, _, _, _ => by simp [putMs]
  | _ :: _, [], _, _, _ => by simp [putMs]
  | j :: is, d :: ds, r, i, h => by
    simp only [List.mem_cons, not_or] at h
    simp only [putMs]
    rw [putMs_other is ds _ i h.2, List.getElem?_set_ne (Ne.symm h.1)]
theorem putMs_len : ∀ (is : List Nat) (ds : List D) (r : Env), (putMs is ds r).length = r.length
  | [], _, _ => by simp [putMs]
  | _ :: _, [], _ => by simp [putMs]
  | j :: is, d :: ds, r => by simp [putMs, putMs_len is ds]
theorem putMs_at : ∀ (is : List Nat) (ds : List D) (r : Env) (k i : Nat) (d : D), is.Nodup → is[k]? = some i → ds[k]? = some d → i < r.length → (putMs is ds r)[i]? = some (.mu d)
  | [], _, _, _, _, _, _, h, _, _ => by simp at h
  | _ :: _, [], _, _, _, _, _, _, h, _ => by simp at h
  | j :: is, e :: ds, r, 0, i, d, nd, h1, h2, hl => by
    simp at h1 h2
    subst h1 h2
    simp only [putMs]
    rw [putMs_other is ds _ j (List.nodup_cons.mp nd).1, List.getElem?_set_self hl]
  | j :: is, e :: ds, r, k + 1, i, d, nd, h1, h2, hl => by
    simp only [putMs]
    exact putMs_at is ds _ k i d (List.nodup_cons.mp nd).2 (by simpa using h1) (by simpa using h2) (by simpa using hl)
/-- behind a call: the caller's frame -/
theorem Rep.after {s : St} {H H' : Hp} {M U M' U' N : AP} {r : Env} {is io : List Nat} {vs : List V} {outs : List D} (rp : Rep G H M U s r) (nd : is.Nodup)
    (hlen : is.length = io.length) (hi : ∀ (k : Nat) i j, is[k]? = some i → io[k]? = some j → ∃ a d, r[i]? = some (.mu d) ∧ s[i]? = some (some (.ref a)) ∧ vs[j]? = some (.ref a)) (hu : ∀ a, UOf io vs a → ∃ i, i ∈ is ∧ s[i]? = some (some (.ref a)))
    (st : Step M (UOf io vs) H M' U' H') (ho : OutsOk G.K H' M' io vs outs) (hN : ∀ a, N a → M' a) (hN2 : ∀ a, N a → M a ∨ (H a = none ∧ H' a ≠ none)) (hN3 : ∀ a, M a → N a) : Rep G H' N U s (putMs is outs r) := by
  have memM : ∀ (i : Nat) e, r[i]? = some (.mu e) → i < r.length := fun i e h => (List.getElem?_eq_some_iff.mp h).1
  have uU : ∀ a, UOf io vs a → U a := fun a h => by
    obtain ⟨i, h1, h2⟩ := hu a h
    obtain ⟨k, hk⟩ := List.getElem?_of_mem h1
    obtain ⟨j, hj⟩ : ∃ j, io[k]? = some j := by
      have : k < io.length := by rw [← hlen]; exact (List.getElem?_eq_some_iff.mp hk).1
      exact ⟨_, List.getElem?_eq_getElem this⟩
    obtain ⟨b, d, q1, q2, q3⟩ := hi k i j hk hj
    rw [h2] at q2
    cases q2
    obtain ⟨b', p1, p2, _⟩ := rp.mu i d q1
    rw [h2] at p1
    cases p1
    exact p2
  have stay : Stay M H N H' := fun a u h1 h2 => ⟨fun h => (hN2 a h).elim h1 (fun e => by rw [h2] at e; cases e.1), st.rd a u (fun h => h1 (rp.sub a (uU a h))) h2⟩
  have mu_in : ∀ (k i : Nat), is[k]? = some i → ∃ a d, (putMs is outs r)[i]? = some (.mu d) ∧ outs[k]? = some d ∧ s[i]? = some (some (.ref a)) ∧ U a ∧ MutAt G.K H' N a d := fun k i hk => by
    obtain ⟨j, hj⟩ : ∃ j, io[k]? = some j := by
      have : k < io.length := by rw [← hlen]; exact (List.getElem?_eq_some_iff.mp hk).1
      exact ⟨_, List.getElem?_eq_getElem this⟩
    obtain ⟨a, d, q1, q2, q3⟩ := hi k i j hk hj
    obtain ⟨a', d', p1, p2, p3, ws, ds, p4, p5, p6⟩ := ho.2 k j hj
    rw [q3] at p1
    cases p1
    refine ⟨a, d', putMs_at is outs r k i d' nd hk p2 (memM i d q1), p2, q2, uU a ⟨j, List.mem_of_getElem? hj, q3⟩, ws, ds, p4, p5, p6.stay (stay_mono hN)⟩
  have cases_i : ∀ i : Nat, i ∈ is ∨ i ∉ is := fun i => Classical.em _
  refine ⟨by rw [putMs_len]; exact rp.len, fun i d h => ?_, fun i d h => ?_, fun i j d e a h1 h2 h3 h4 => ?_, fun a h => hN3 a (rp.sub a h), fun a h e => ?_, rp.pin, fun j hj => ?_, rp.ent, fun a e => rp.old a (st.al a e)⟩
  · rcases cases_i i with hi' | hi'
    · obtain ⟨k, hk⟩ := List.getElem?_of_mem hi'
      obtain ⟨a, d', q1, _⟩ := mu_in k i hk
      rw [q1] at h
      cases h
    · rw [putMs_other is outs r i hi'] at h
      obtain ⟨v, q1, q2⟩ := rp.val i d h
      exact ⟨v, q1, q2.stay stay⟩
  · rcases cases_i i with hi' | hi'
    · obtain ⟨k, hk⟩ := List.getElem?_of_mem hi'
      obtain ⟨a, d', q1, q2, q3, q4, q5⟩ := mu_in k i hk
      rw [q1] at h
      cases h
      exact ⟨a, q3, q4, q5⟩
    · rw [putMs_other is outs r i hi'] at h
      obtain ⟨a, q1, q2, ws, ds, q3, q4, q5⟩ := rp.mu i d h
      refine ⟨a, q1, q2, ws, ds, q3, st.rd a _ (fun hu' => ?_) q4, q5.stay stay⟩
      obtain ⟨i', h1, h2⟩ := hu a hu'
      obtain ⟨k, hk⟩ := List.getElem?_of_mem h1
      obtain ⟨j, hj⟩ : ∃ j, io[k]? = some j := by
        have : k < io.length := by rw [← hlen]; exact (List.getElem?_eq_some_iff.mp hk).1
        exact ⟨_, List.getElem?_eq_getElem this⟩
      obtain ⟨b, e, p1, p2, p3⟩ := hi k i' j hk hj
      have := rp.inj i i' d e a h p1 q1 h2
      subst this
      exact hi' h1
  · have back : ∀ (i : Nat) d, (putMs is outs r)[i]? = some (.mu d) → ∃ e, r[i]? = some (.mu e) := fun i d h => by
      rcases cases_i i with hi' | hi'
      · obtain ⟨k, hk⟩ := List.getElem?_of_mem hi'
        obtain ⟨j, hj⟩ : ∃ j, io[k]? = some j := by
          have : k < io.length := by rw [← hlen]; exact (List.getElem?_eq_some_iff.mp hk).1
          exact ⟨_, List.getElem?_eq_getElem this⟩
        obtain ⟨b, e, p1, p2, p3⟩ := hi k i j hk hj
        exact ⟨e, p1⟩
      · rw [putMs_other is outs r i hi'] at h
        exact ⟨d, h⟩
    obtain ⟨d', h1'⟩ := back i d h1
    obtain ⟨e', h2'⟩ := back j e h2
    exact rp.inj i j d' e' a h1' h2' h3 h4
  · have e' := st.al a e
    rcases hN2 a h with q | q
    · exact rp.all a q e'
    · exact q.2 e
  · rcases cases_i j with hi' | hi'
    · obtain ⟨k, hk⟩ := List.getElem?_of_mem hi'
      obtain ⟨a, d', q1, _⟩ := mu_in k j hk
      exact ⟨d', q1⟩
    · rw [putMs_other is outs r j hi']
      exact rp.pmu j hj
theorem nodup_at {α : Type} : ∀ {l : List α} {i j : Nat} {x : α}, l.Nodup → l[i]? = some x → l[j]? = some x → i = j
  | [], _, _, _, _, h, _ => by simp at h
  | y :: l, 0, 0, _, _, _, _ => rfl
  | y :: l, 0, j + 1, x, nd, h1, h2 => by
    simp at h1 h2
    subst h1
    exact absurd (List.mem_of_getElem? h2) (List.nodup_cons.mp nd).1
  | y :: l, i + 1, 0, x, nd, h1, h2 => by
    simp at h1 h2
    subst h2
    exact absurd (List.mem_of_getElem? h1) (List.nodup_cons.mp nd).1
  | y :: l, i + 1, j + 1, x, nd, h1, h2 => by
    have q := nodup_at (i := i) (j := j) (x := x) (List.nodup_cons.mp nd).2 (by simpa using h1) (by simpa using h2)
    rw [q]
theorem refs_get {os : List Op} {k j i : Nat} (h : (refsAt 0 os)[k]? = some (j, i)) : os[j]? = some (.m i) := by
  obtain ⟨n, h1, h2⟩ := (refs_mem os 0 j i).mp (List.mem_of_getElem? h)
  have : j = n := by omega
  subst this
  exact h2
theorem args_of {s : St} {H : Hp} {M U : AP} {r : Env} {vs : List V} {os : List Op} {ds : List D} (rp : Rep G H M U s r) (h : IsOs G s H M vs os) (e : gets r os = some ds) (nd : ((refsAt 0 os).map (·.2)).Nodup) : ArgsOk G.K H M ((refsAt 0 os).map (·.1)) vs ds := by
  have inIo : ∀ j, j ∈ (refsAt 0 os).map (·.1) ↔ ∃ i, os[j]? = some (.m i) := fun j => by
    constructor
    · intro hj
      obtain ⟨⟨j', i⟩, h1, h2⟩ := List.mem_map.mp hj
      have h2 : j' = j := h2
      subst h2
      obtain ⟨n, h3, h4⟩ := (refs_mem os 0 j' i).mp h1
      have : j' = n := by omega
      subst this
      exact ⟨i, h4⟩
    · rintro ⟨i, hi⟩
      exact List.mem_map.mpr ⟨(j, i), (refs_mem os 0 j i).mpr ⟨j, by omega, hi⟩, rfl⟩
  have len1 := h.len
  have len2 := gets_len e
  refine ⟨by omega, fun j d hd hj => ?_, fun j d hd hj => ?_, fun j k a hj hk h1 h2 => ?_, fun j hj => ?_⟩
  · obtain ⟨o, q1, q2⟩ := gets_get e hd
    obtain ⟨v, q3, q4⟩ := h.get q1
    cases o with
    | d x =>
      have q2 : x = d := Option.some.inj q2
      subst q2
      exact ⟨v, q3, q4⟩
    | m i => exact absurd ((inIo j).mpr ⟨i, q1⟩) hj
  · obtain ⟨i, hi⟩ := (inIo j).mp hj
    obtain ⟨o, q1, q2⟩ := gets_get e hd
    rw [hi] at q1
    cases q1
    obtain ⟨v, q3, q4⟩ := h.get hi
    have q2 : getM r i = some d := q2
    obtain ⟨a, p1, p2, p3⟩ := rp.mu i d (getM_some q2)
    have q4 : s[i]? = some (some v) := q4
    rw [p1] at q4
    cases q4
    exact ⟨a, q3, rp.sub a p2, p3⟩
  · obtain ⟨i, hi⟩ := (inIo j).mp hj
    obtain ⟨i', hi'⟩ := (inIo k).mp hk
    obtain ⟨v, q3, q4⟩ := h.get hi
    obtain ⟨v', q3', q4'⟩ := h.get hi'
    rw [h1] at q3
    rw [h2] at q3'
    cases q3
    cases q3'
    obtain ⟨d1, e1⟩ : ∃ d, ds[j]? = some d := ⟨_, List.getElem?_eq_getElem (by rw [len2]; exact (List.getElem?_eq_some_iff.mp hi).1)⟩
    obtain ⟨d2, e2⟩ : ∃ d, ds[k]? = some d := ⟨_, List.getElem?_eq_getElem (by rw [len2]; exact (List.getElem?_eq_some_iff.mp hi').1)⟩
    obtain ⟨o1, f1, f2⟩ := gets_get e e1
    obtain ⟨o2, f3, f4⟩ := gets_get e e2
    rw [hi] at f1
    rw [hi'] at f3
    cases f1
    cases f3
    have ii := rp.inj i i' d1 d2 a (getM_some f2) (getM_some f4) q4 q4'
    subst ii
    have m1 : (j, i) ∈ refsAt 0 os := (refs_mem os 0 j i).mpr ⟨j, by omega, hi⟩
    have m2 : (k, i) ∈ refsAt 0 os := (refs_mem os 0 k i).mpr ⟨k, by omega, hi'⟩
    obtain ⟨n1, g1⟩ := List.getElem?_of_mem m1
    obtain ⟨n2, g2⟩ := List.getElem?_of_mem m2
    have g1' : ((refsAt 0 os).map (·.2))[n1]? = some i := by rw [List.getElem?_map, g1]; rfl
    have g2' : ((refsAt 0 os).map (·.2))[n2]? = some i := by rw [List.getElem?_map, g2]; rfl
    have nn := nodup_at nd g1' g2'
    subst nn
    rw [g1] at g2
    cases g2
    rfl
  · obtain ⟨i, hi⟩ := (inIo j).mp hj
    rw [len2]
    exact (List.getElem?_eq_some_iff.mp hi).1
theorem snd_call (o : Ok X c G W C T) {f : Nat} {as : List E} {x : Str} {e : Expr} {es : List Expr} {p p2 : Pos} (h : T.fnm f = some x) (hg : glB c x = true) (ha : PA X (e :: es) (tOs G W C as)) (hp : (e :: es).all plainE = true) :
    PE X (.Call (.Name x p2) (e :: es) [] p) (tX G W C (.call f as)) := by
  obtain ⟨g1, g2, g3⟩ := o.gl hg
  have hp' : plainE e = true ∧ es.all plainE = true := by simpa using hp
  cases ef : C.fn f with
  | none =>
    refine ⟨fun pins s σ H Q I ⟨M, U, r, rp, q⟩ => ?_⟩
    have q : Fin G W σ H M U (match C.fn f with | none => .bad | some _ => (evOs C as r).bind fun os r => callE C f os r) _ := q
    rw [ef] at q
    exact q.elim
  | some v =>
    obtain ⟨io, sem⟩ := v
    obtain ⟨k, fa, fd, ps, F, hr, hm, hk, hb⟩ := o.fns f io sem x ef h
    refine pe_mono (pe_callS F hr g1 hm hk hb (fun σ => passAt o.tk σ) ha g2 (star_plain hp'.1 _ _) (star_any es hp'.2 _ _)) fun s H Q ⟨M, U, r, rp, q⟩ => ?_
    have q : Fin G W s H M U (match C.fn f with | none => .bad | some _ => (evOs C as r).bind fun os r => callE C f os r) _ := q
    rw [ef] at q
    refine ⟨M, U, r, rp, (q.bind rp.all).mono fun os r1 H1 M1 U1 st1 rp1 f1 vs hvs => ?_⟩
    unfold callE at f1
    simp only [ef] at f1
    cases eg : gets r1 os with
    | none =>
      simp only [eg] at f1
      exact f1.elim
    | some ds =>
      simp only [eg] at f1
      by_cases hc : (refsAt 0 os).map (·.1) = io ∧ ((refsAt 0 os).map (·.2)).Nodup
      · rw [if_pos hc] at f1
        obtain ⟨hc1, nd⟩ := hc
        have ao := args_of rp1 hvs eg nd
        rw [hc1] at ao
        have hlen : ((refsAt 0 os).map (·.2)).length = io.length := by rw [← hc1, List.length_map, List.length_map]
        have hi : ∀ (k : Nat) i j, ((refsAt 0 os).map (·.2))[k]? = some i → io[k]? = some j → ∃ a d, r1[i]? = some (.mu d) ∧ s[i]? = some (some (.ref a)) ∧ vs[j]? = some (.ref a) := fun k i j h1 h2 => by
          rw [← hc1] at h2
          rw [List.getElem?_map] at h1 h2
          cases e3 : (refsAt 0 os)[k]? with
          | none =>
            rw [e3] at h1
            cases h1
          | some ji =>
            obtain ⟨j', i'⟩ := ji
            rw [e3] at h1 h2
            have h1 : i' = i := Option.some.inj h1
            have h2 : j' = j := Option.some.inj h2
            rw [h1, h2] at e3
            have oj := refs_get e3
            obtain ⟨v, q3, q4⟩ := hvs.get oj
            obtain ⟨d1, e1⟩ : ∃ d, ds[j]? = some d := ⟨_, List.getElem?_eq_getElem (by rw [gets_len eg]; exact (List.getElem?_eq_some_iff.mp oj).1)⟩
            obtain ⟨o1, f1, f2⟩ := gets_get eg e1
            rw [oj] at f1
            cases f1
            obtain ⟨a, p1, p2, p3⟩ := rp1.mu i d1 (getM_some f2)
            have q4 : s[i]? = some (some v) := q4
            rw [p1] at q4
            cases q4
            exact ⟨a, d1, getM_some f2, p1, q3⟩
        have hu : ∀ a, UOf io vs a → ∃ i, i ∈ (refsAt 0 os).map (·.2) ∧ s[i]? = some (some (.ref a)) := fun a ⟨j, h1, h2⟩ => by
          rw [← hc1] at h1
          obtain ⟨⟨j', i⟩, m1, m2⟩ := List.mem_map.mp h1
          have m2 : j' = j := m2
          subst m2
          obtain ⟨n, n1, n2⟩ := (refs_mem os 0 j' i).mp m1
          have : j' = n := by omega
          subst this
          obtain ⟨v, q3, q4⟩ := hvs.get n2
          rw [h2] at q3
          cases q3
          exact ⟨i, List.mem_map.mpr ⟨(j', i), m1, rfl⟩, q4⟩
        have uU : ∀ a, UOf io vs a → U1 a := fun a ha => by
          obtain ⟨i, h1, h2⟩ := hu a ha
          obtain ⟨k, hk⟩ := List.getElem?_of_mem h1
          obtain ⟨j, hj⟩ : ∃ j, io[k]? = some j := ⟨_, List.getElem?_eq_getElem (by rw [← hlen]; exact (List.getElem?_eq_some_iff.mp hk).1)⟩
          obtain ⟨b, d, q1, q2, q3⟩ := hi k i j hk hj
          rw [h2] at q2
          cases q2
          obtain ⟨b', p1, p2, _⟩ := rp1.mu i d q1
          rw [h2] at p1
          cases p1
          exact p2
        have sub : ∀ {H' : Hp} {M' U' : AP} {outs : List D}, Step M1 (UOf io vs) H1 M' U' H' → OutsOk G.K H' M' io vs outs → ∀ a, M1 a → M' a := fun {H' M' U' outs} st ho a ha => by
          by_cases hua : UOf io vs a
          · obtain ⟨j, j1, j2⟩ := hua
            obtain ⟨k, hk⟩ := List.getElem?_of_mem j1
            obtain ⟨a', d', p1, p2, p3, _⟩ := ho.2 k j hk
            rw [j2] at p1
            cases p1
            exact p3
          · exact st.kp a ha hua
        have stepC : ∀ {H' : Hp} {M' U' : AP}, Step M1 (UOf io vs) H1 M' U' H' → Step M1 U1 H1 M1 U1 H' := fun {H' M' U'} st =>
          ⟨fun a u h1 h2 => st.rd a u (fun z => h1 (uU a z)) h2, fun _ h => .inl h, fun _ h => .inl h, fun _ h _ => h, st.al⟩
        refine ⟨M1, ds, rp1.all, ao, ?_⟩
        cases es : sem ds with
        | bad =>
          rw [es] at f1
          exact f1.elim
        | exc cc outs =>
          rw [es] at f1
          simp only [after] at f1
          intro H' M' U' st ho
          have hl : outs.length = ((refsAt 0 os).map (·.2)).length := by rw [ho.1, hlen]
          rw [if_pos hl] at f1
          exact f1 H' M1 U1 (stepC st) (rp1.after nd hlen hi hu st ho (sub st ho) (fun _ h => .inl h) fun _ h => h)
        | ret d fr outs =>
          rw [es] at f1
          simp only [after] at f1
          intro v H' M' U' st ho rv
          have hl : outs.length = ((refsAt 0 os).map (·.2)).length := by rw [ho.1, hlen]
          rw [if_pos hl] at f1
          refine f1 H' M1 U1 (stepC st) (rp1.after nd hlen hi hu st ho (sub st ho) (fun _ h => .inl h) fun _ h => h) v ?_
          cases fr with
          | false => exact IsD.stay (stay_mono (sub st ho)) rv
          | true =>
            obtain ⟨q, ws, ds', rfl, rfl, r1, r2, r3, r4⟩ := rv
            have nM : ¬ M1 q := fun z => rp1.all q z r1
            have sub2 : ∀ a, plus M1 q a → M' a := fun a h => h.elim (fun z => by subst z; exact r3) (sub st ho a)
            refine ⟨q, ws, ds', rfl, rfl, r2, nM, .inr (rp1.old q r1), r4.stay (stay_mono sub2), ?_⟩
            exact rp1.after nd hlen hi hu st ho sub2 (fun a h => h.elim (fun z => .inr (by subst z; exact ⟨r1, by rw [r2]; simp⟩)) .inl) fun _ h => .inr h
      · rw [if_neg hc] at f1
        exact f1.elim
end
end Ev

/-! targets, what is walked, comprehensions -/
namespace Ev
open PySem L2
section
variable {X : Cx} {c : Sc} {G : Ct} {W : WX} {C : Cfg} {T : Nm}
/-! ### a slot is given a value -/
theorem setV_some {io : List Nat} {i : Nat} {d : D} {r r' : Env} (h : setV io i d r = some r') : i ∉ io ∧ i < r.length ∧ r' = r.set i (.va d) := by
  unfold setV at h
  split at h
  · cases h
  · rename_i hc
    cases h
    simp only [Bool.or_eq_true, decide_eq_true_eq, not_or] at hc
    exact ⟨by simpa using hc.1, by omega, rfl⟩
theorem Rep.setV {s : St} {H : Hp} {M U : AP} {r r' : Env} {i : Nat} {d : D} {v : V} (rp : Rep G H M U s r) (hv : IsD G.K H M v d) (h : Ev.setV G.io i d r = some r') : Rep G H M U (s.set i (some v)) r' := by
  obtain ⟨h1, h2, rfl⟩ := setV_some h
  have hs : i < s.length := by rw [← rp.len]; exact h2
  refine ⟨by rw [List.length_set, List.length_set]; exact rp.len, fun j e he => ?_, fun j e he => ?_, fun j k e g a q1 q2 q3 q4 => ?_, rp.sub, rp.all, fun j hj => ?_, fun j hj => ?_, rp.ent, rp.old⟩
  · by_cases hj : i = j
    · subst hj
      rw [List.getElem?_set_self h2] at he
      cases he
      exact ⟨v, by rw [List.getElem?_set_self hs], hv⟩
    · rw [List.getElem?_set_ne hj] at he ⊢
      exact rp.val j e he
  · by_cases hj : i = j
    · subst hj
      rw [List.getElem?_set_self h2] at he
      cases he
    · rw [List.getElem?_set_ne hj] at he ⊢
      exact rp.mu j e he
  · have ne : ∀ {j : Nat} {e : D}, (r.set i (.va d))[j]? = some (.mu e) → i ≠ j := fun {j e} h z => by
      subst z
      rw [List.getElem?_set_self h2] at h
      cases h
    have n1 := ne q1
    have n2 := ne q2
    rw [List.getElem?_set_ne n1] at q1 q3
    rw [List.getElem?_set_ne n2] at q2 q4
    exact rp.inj j k e g a q1 q2 q3 q4
  · rw [List.getElem?_set_ne (fun z => h1 (by rw [z]; exact hj))]
    exact rp.pin j hj
  · rw [List.getElem?_set_ne (fun z => h1 (by rw [z]; exact hj))]
    exact rp.pmu j hj
/-- two rows of slots that agree but at some -/
def Eqo (is : List Nat) (s s' : St) : Prop := s'.length = s.length ∧ ∀ j, j ∉ is → s'[j]? = s[j]?
def slotsOf : Tg → List Nat
  | .n i => [i]
  | .t is => is
def gNs : List Nat → TGs
  | [] => gNil
  | i :: is => gCons (gName i) (gNs is)
theorem gNs_ok {H : Hp} {M U : AP} : ∀ {is : List Nat} {ds : List D} {vs : List V} {s : St} {r r' : Env} {Q : St → Hp → Prop}, Rep G H M U s r → IsDs G.K H M vs ds → setVs G.io is ds r = some r' →
    (∀ s', Rep G H M U s' r' → Eqo is s s' → Q s' H) → gNs is vs s H Q
  | [], [], _, s, r, r', Q, rp, .nil, e, q => by
    cases e
    exact ⟨rfl, q s rp ⟨rfl, fun _ _ => rfl⟩⟩
  | [], _ :: _, _, _, _, _, _, _, _, e, _ => by cases e
  | _ :: _, [], _, _, _, _, _, _, _, e, _ => by cases e
  | i :: is, d :: ds, _, s, r, r', Q, rp, .cons v vs _ _ h t, e, q => by
    obtain ⟨r1, e1, e2⟩ := Option.bind_eq_some_iff.mp (show (Ev.setV G.io i d r).bind (setVs G.io is ds) = some r' from e)
    refine ⟨v, vs, rfl, ?_⟩
    refine gNs_ok (rp.setV h e1) t e2 fun s' rp' eq => q s' rp' ⟨by rw [eq.1, List.length_set], fun j hj => ?_⟩
    simp only [List.mem_cons, not_or] at hj
    rw [eq.2 j hj.2, List.getElem?_set_ne (Ne.symm hj.1)]
theorem Ok.loc (o : Ok X c G W C T) {i : Nat} {x : Str} (h : locB c i x = true) : X.N[i]? = some x ∧ Loc X.env.scope x ∧ (X.fn x = true ∨ X.env.scope.names.lookup x = some .local) := by
  unfold locB at h
  simp only [Bool.and_eq_true, Bool.or_eq_true, beq_iff_eq] at h
  rw [o.hN, o.hs, o.hf]
  refine ⟨h.1, ?_, ?_⟩
  · rcases h.2 with q | q
    · exact .inl q
    · exact .inr q.1
  · rcases h.2 with q | q
    · exact .inr q
    · exact .inl q.2
theorem pgs_ok (o : Ok X c G W C T) : ∀ {is : List Nat} {es : List Expr}, locEs c is es = true → PGs X es (gNs is) ∧ (assignEach es X.env).length = is.length ∧ (assignEach es X.env).findIdx? (·.1) = none
  | [], [], _ => ⟨pgs_nil, rfl, rfl⟩
  | [], _ :: _, h => by cases h
  | _ :: _, [], h => by cases h
  | i :: is, e :: es, h => by
    have h' : locE c i e = true ∧ locEs c is es = true := by simpa only [locEs, Bool.and_eq_true] using h
    cases e with
    | Name x p =>
      obtain ⟨h1, h2, h3⟩ := o.loc (show locB c i x = true from h'.1)
      obtain ⟨q1, q2, q3⟩ := pgs_ok o h'.2
      refine ⟨pgs_cons (pg_name o.nd h1 h2 h3) q1, ?_, ?_⟩
      · show (assignEach es X.env).length + 1 = is.length + 1
        rw [q2]
      · show List.findIdx? (·.1) ((false, assign (.Name x p) X.env) :: assignEach es X.env) = none
        rw [List.findIdx?_cons, q3]
        rfl
    | _ => cases h'.1
/-- target = a value -/
def tT (G : Ct) (t : Tg) : TG := fun x s H Q => ∃ M U r d r', Rep G H M U s r ∧ IsD G.K H M x d ∧ setT G.io t d r = some r' ∧ ∀ s', Rep G H M U s' r' → Eqo (slotsOf t) s s' → Q s' H
theorem pg_mono {tg : Expr} {g g' : TG} (h : PG X tg g) (m : ∀ x s H Q, g' x s H Q → g x s H Q) : PG X tg g' := ⟨fun pins s σ H v u Q I r q => h.run pins s σ H v u Q I r (m v σ H Q q)⟩
theorem snd_T (o : Ok X c G W C T) {t : Tg} {tg : Expr} (h : chkT c t tg = true) : PG X tg (tT G t) := by
  cases t with
  | n i =>
    cases tg with
    | Name x p =>
      obtain ⟨h1, h2, h3⟩ := o.loc h
      refine pg_mono (pg_name o.nd h1 h2 h3) fun v s H Q ⟨M, U, r, d, r', rp, hv, e, q⟩ => ?_
      refine q _ (rp.setV hv e) ⟨List.length_set .., fun j hj => ?_⟩
      simp only [slotsOf, List.mem_singleton] at hj
      exact List.getElem?_set_ne (Ne.symm hj)
    | _ => cases h
  | t is =>
    cases tg with
    | Tuple es k p =>
      obtain ⟨q1, q2, q3⟩ := pgs_ok o (show locEs c is es = true from h)
      refine pg_mono (pg_tup o.calm q1 q2 q3) fun v s H Q ⟨M, U, r, d, r', rp, hv, e, q⟩ => ?_
      cases hv with
      | tup a vs ds f g =>
        have e : setVs G.io is ds r = some r' := e
        refine ⟨a, vs, rfl, by rw [o.hK]; exact f.sq, ?_, gNs_ok rp g e q⟩
        have ln : ∀ {is : List Nat} {ds : List D} {r r' : Env}, setVs G.io is ds r = some r' → ds.length = is.length := by
          intro is
          induction is with
          | nil =>
            intro ds r r' e
            cases ds with
            | nil => rfl
            | cons => cases e
          | cons i is ih =>
            intro ds r r' e
            cases ds with
            | nil => cases e
            | cons d ds =>
              obtain ⟨r1, _, e2⟩ := Option.bind_eq_some_iff.mp (show (Ev.setV G.io i d r).bind (setVs G.io is ds) = some r' from e)
              simp [ih e2]
        rw [g.length, ln e]
      | _ => cases e
    | _ => cases h
/-! ### what is walked -/
/-- J gives the data xs, one after the other, as long as what stood at (M, H) stands -/
def Wk (K : PySem.W.Frag) (J : L2.It) (M : AP) (H : Hp) (xs : List D) : Prop := ∃ (Gd : Hp → Prop) (Y : Nat → Hp → V → Hp → Prop), Walk J xs.length Gd Y ∧ (∀ M' H', Stay M H M' H' → Gd H') ∧
  ∀ i Hc x H' M', i < xs.length → Y i Hc x H' → Stay M H M' Hc → (∀ a, M' a → Hc a ≠ none) → Same Hc H' ∧ ∃ d, xs[i]? = some d ∧ IsD K H' M' x d
def tW (G : Ct) (W : WX) (C : Cfg) (it : Ev.It) : TI := fun s H R => ∃ M U r, Rep G H M U s r ∧ Fin G W s H M U (evIt C it r) fun xs r' H' M' U' => ∀ J, Wk G.K J M' H' xs → R J H'
theorem pi_mono {tg e : Expr} {w w' : TI} (h : PI X tg e w) (m : ∀ s H R, w' s H R → w s H R) : PI X tg e w' := ⟨fun pins s σ H R I q => h.run pins s σ H R I (m σ H R q)⟩
theorem wk_list {K : PySem.W.Frag} {H : Hp} {M : AP} {a : Addr} {vs : List V} {ds : List D} (f : FzL K H M a vs) (g : IsDs K H M vs ds) : Wk K (Itl K a) M H ds := by
  refine ⟨fun H => SqL K H a vs, YAt vs, by rw [← g.length]; exact walk_list, fun M' H' st => (f.stay st).sq, fun i Hc x H' M' hi y st _ => ?_⟩
  obtain ⟨rfl, e⟩ := y
  obtain ⟨d, e1, e2⟩ := (g.stay st).getV e
  exact ⟨Same.refl _, d, e1, e2⟩
theorem wk_tup {K : PySem.W.Frag} {H : Hp} {M : AP} {a : Addr} {vs : List V} {ds : List D} (f : FzT K H M a vs) (g : IsDs K H M vs ds) : Wk K (Itt K a) M H ds := by
  refine ⟨fun H => SqT K H a vs, YAt vs, by rw [← g.length]; exact walk_tup, fun M' H' st => (f.stay st).sq, fun i Hc x H' M' hi y st _ => ?_⟩
  obtain ⟨rfl, e⟩ := y
  obtain ⟨d, e1, e2⟩ := (g.stay st).getV e
  exact ⟨Same.refl _, d, e1, e2⟩
theorem wk_str {K : PySem.W.Frag} {H : Hp} {M : AP} {z : List Nat} (g : GoodS z) : Wk K (Its (sv z)) M H (z.map fun c => .str [c]) := by
  have hz : (sv z).cps.size = (z.map fun c => D.str [c]).length := by simp [sv]
  refine ⟨fun _ => True, fun i H v H' => H' = H ∧ ∃ c, (sv z).cps[i]? = some c ∧ v = .str ⟨#[c]⟩, by rw [← hz]; exact walk_str, fun _ _ _ => trivial, fun i Hc x H' M' hi y st _ => ?_⟩
  obtain ⟨rfl, cc, e, rfl⟩ := y
  have e' : z[i]? = some cc := by simpa [sv] using e
  exact ⟨Same.refl _, .str [cc], by rw [List.getElem?_map, e']; rfl, .str [cc] (good_one g (List.mem_of_getElem? e'))⟩
theorem wk_range {K : PySem.W.Frag} {H : Hp} {M : AP} (lo hi : Int) : Wk K (Itr lo (hi - lo).toNat) M H (rangeD lo hi) := by
  have hl : (rangeD lo hi).length = (hi - lo).toNat := by simp [rangeD]
  refine ⟨fun _ => True, YFn fun i => .int (lo + i), by rw [hl]; exact walk_range, fun _ _ _ => trivial, fun i Hc x H' M' hi' y st _ => ?_⟩
  obtain ⟨rfl, rfl⟩ := y
  rw [hl] at hi'
  refine ⟨Same.refl _, .int (lo + i), ?_, .int _⟩
  unfold rangeD
  rw [List.getElem?_map, List.getElem?_range hi']
  rfl
/-- a list, a tuple, a text: whichever it is -/
theorem pi_any {tg l : Expr} {tl : TE} (hl : PE X l tl) : PI X tg l (fun s H R => tl s H fun x H1 => (∃ a, x = .ref a ∧ (∃ xs, SqL X.K H1 a xs) ∧ R (Itl X.K a) H1) ∨ (∃ a, x = .ref a ∧ (∃ xs, SqT X.K H1 a xs) ∧ R (Itt X.K a) H1) ∨ ∃ z, x = .str z ∧ R (Its z) H1) := by
  refine ⟨fun pins s σ H R I h => thn (hl.run pins s σ H _ I h) fun v s1 ⟨x, H1, I1, r1, q1⟩ => ?_⟩
  rcases q1 with ⟨a, rfl, ⟨xs, hq⟩, q⟩ | ⟨a, rfl, ⟨xs, hq⟩, q⟩ | ⟨z, rfl, q⟩
  · cases r1
    obtain ⟨its, rv, p, hz⟩ := I1.list hq
    refine wpAny_pyIter_list p.isList ⟨s1.heap.objs.size, [s1.heap.objs.size], _, _, H1, rfl, I1.kept (t' := s1.toks) (fun b o e => Heap.get?_push_of_some _ e), turn_list a _, ⟨_, Heap.get?_push_size _ rfl, rfl, rfl⟩, fun b hb => ?_, q⟩
    cases List.mem_singleton.mp hb
    exact I1.fpOk (Nat.le_refl _) (I1.hok.fresh (Nat.le_refl _))
  · cases r1
    obtain ⟨its, rv, p, hz⟩ := I1.tuple hq
    refine wpAny_pyIter_tuple (show s1.heap.IsTuple a its.toArray from p) ⟨s1.heap.objs.size, [s1.heap.objs.size], _, _, H1, rfl, I1.kept (t' := s1.toks) (fun b o e => Heap.get?_push_of_some _ e), turn_tuple a _, ⟨_, Heap.get?_push_size _ rfl, rfl, rfl⟩, fun b hb => ?_, q⟩
    cases List.mem_singleton.mp hb
    exact I1.fpOk (Nat.le_refl _) (I1.hok.fresh (Nat.le_refl _))
  · obtain ⟨t, rfl⟩ := r1
    cases ha : z.cps.all (· < 128) with
    | false => exact wpAny_pyIter_wide ha (pi_one (tk := s1.toks) I1 _ (turn_str _ z t "str_iterator" (.inr rfl)) ⟨_, Heap.get?_push_size _ rfl, rfl, rfl⟩ q)
    | true => exact wpAny_pyIter_ascii ha (pi_one (tk := s1.toks) I1 _ (turn_str _ z t "str_ascii_iterator" (.inl rfl)) ⟨_, Heap.get?_push_size _ rfl, rfl, rfl⟩ q)
theorem snd_ite (o : Ok X c G W C T) {a : E} {x tg : Expr} (h : PE X x (tX G W C a)) : PI X tg x (tW G W C (.e a)) := by
  refine pi_mono (pi_any (pe_v h)) fun s H Rr ⟨M, U, r, rp, f⟩ => ?_
  have f : Fin G W s H M U ((evX C a r).bind fun x r => lift (itemsOf x.1) r) _ := f
  refine ⟨M, U, r, rp, (f.bind rp.all).mono fun d r1 H1 M1 U1 st1 rp1 f1 v hv => ?_⟩
  obtain ⟨d, fr⟩ := d
  cases hv with
  | tup a vs ds g k => exact .inr (.inl ⟨a, rfl, ⟨vs, by rw [o.hK]; exact g.sq⟩, by rw [o.hK]; exact fin_here rp1 f1 _ (wk_tup g k)⟩)
  | lst a vs ds g k => exact .inl ⟨a, rfl, ⟨vs, by rw [o.hK]; exact g.sq⟩, by rw [o.hK]; exact fin_here rp1 f1 _ (wk_list g k)⟩
  | str z g => exact .inr (.inr ⟨_, rfl, fin_here rp1 f1 _ (wk_str g)⟩)
  | _ => exact f1.elim
theorem big_eq : (2 : Int) ^ 62 = big := by decide
theorem snd_r1 (o : Ok X c G W C T) {a : E} {f : Str} {x tg : Expr} {p p2 : Pos} (hf : (f == ("range" : Str)) = true) (hg : glB c f = true) (h : PE X x (tX G W C a)) (hp : plainE x = true) : PI X tg (.Call (.Name f p2) [x] [] p) (tW G W C (.r1 a)) := by
  have ef := eq_of_beq hf
  subst ef
  refine pi_mono (pi_range1 (o.gl hg).1 (o.bt (by decide +kernel)) (pa_cons (pe_v h) pa_nil (star_plain hp _ _)) (star_plain hp _ _)) fun s H Rr ⟨M, U, r, rp, q⟩ => ?_
  have q : Fin G W s H M U ((evX C a r).bind fun x r => match x.1 with | .int i => if -big ≤ i ∧ i < big then Ev.R.ok (rangeD 0 i) r else .bad | _ => .bad) _ := q
  refine ⟨M, U, r, rp, (q.bind rp.all).mono fun d r1 H1 M1 U1 st1 rp1 f1 v hv => ?_⟩
  obtain ⟨d, fr⟩ := d
  cases hv with
  | int i =>
    by_cases hb : -big ≤ i ∧ i < big
    · simp only [if_pos hb] at f1
      have w := wk_range (K := G.K) (H := H1) (M := M1) 0 i
      rw [Int.sub_zero] at w
      rw [← big_eq] at hb
      exact ⟨i, rfl, hb.1, hb.2, fin_here rp1 f1 _ w⟩
    · simp only [if_neg hb] at f1
      exact f1.elim
  | _ => exact f1.elim
theorem snd_r2 (o : Ok X c G W C T) {a b : E} {f : Str} {x y tg : Expr} {p p2 : Pos} (hf : (f == ("range" : Str)) = true) (hg : glB c f = true) (h : PE X x (tX G W C a)) (hp : plainE x = true) (h2 : PE X y (tX G W C b)) (hp2 : plainE y = true) : PI X tg (.Call (.Name f p2) [x, y] [] p) (tW G W C (.r2 a b)) := by
  have ef := eq_of_beq hf
  subst ef
  refine pi_mono (pi_range2 (o.gl hg).1 (o.bt (by decide +kernel)) (pa_cons (pe_v h) (pa_cons (pe_v h2) pa_nil (star_plain hp2 _ _)) (star_plain hp _ _)) (by rw [star_plain hp, star_plain hp2]; rfl) (by rw [star_plain hp2]; rfl)) fun s H Rr ⟨M, U, r, rp, q⟩ => ?_
  have q : Fin G W s H M U ((evX C a r).bind fun x r => (evX C b r).bind fun y r => match x.1, y.1 with
    | .int i, .int j => if -big ≤ i ∧ i < big ∧ -big ≤ j ∧ j < big then Ev.R.ok (rangeD i j) r else .bad
    | _, _ => .bad) _ := q
  refine ⟨M, U, r, rp, (q.bind rp.all).mono fun d r1 H1 M1 U1 st1 rp1 f1 v hv => ⟨M1, U1, r1, rp1, (f1.bind rp1.all).mono fun e r2 H2 M2 U2 st2 rp2 f2 w hw => ?_⟩⟩
  obtain ⟨d, fr⟩ := d
  obtain ⟨e, fr2⟩ := e
  cases hv with
  | int i =>
    cases hw with
    | int j =>
      by_cases hb : -big ≤ i ∧ i < big ∧ -big ≤ j ∧ j < big
      · simp only [if_pos hb] at f2
        rw [← big_eq] at hb
        exact ⟨i, j, rfl, hb, fin_here rp2 f2 _ (wk_range i j)⟩
      · simp only [if_neg hb] at f2
        exact f2.elim
    | _ => exact f2.elim
  | _ =>
    cases hw <;> exact f2.elim
/-! ### comprehensions -/
theorem wipe_get {s : St} {i : Nat} : ∀ {vs : List Nat}, i ∉ vs → (wipe s vs)[i]? = s[i]?
  | [], _ => rfl
  | v :: vs, h => by
    simp only [List.mem_cons, not_or] at h
    unfold wipe
    rw [List.getElem?_set_ne (Ne.symm h.1)]
    exact wipe_get h.2
theorem wipe_in {s : St} {i : Nat} : ∀ {vs : List Nat}, i ∈ vs → i < s.length → (wipe s vs)[i]? = some none
  | v :: vs, h, hl => by
    unfold wipe
    by_cases e : v = i
    · subst e
      rw [List.getElem?_set_self (by rw [wipe_length]; exact hl)]
    · rw [List.getElem?_set_ne e]
      exact wipe_in ((List.mem_cons.mp h).resolve_left (Ne.symm e)) hl
theorem wipe_eq {s s' : St} {is own : List Nat} (h : Eqo is s s') (hi : ∀ i ∈ is, i ∈ own) : wipe s' own = wipe s own := by
  apply List.ext_getElem?
  intro j
  by_cases hj : j ∈ own
  · by_cases hl : j < s.length
    · rw [wipe_in hj hl, wipe_in hj (by rw [h.1]; exact hl)]
    · rw [List.getElem?_eq_none (by rw [wipe_length, h.1]; omega), List.getElem?_eq_none (by rw [wipe_length]; omega)]
  · rw [wipe_get hj, wipe_get hj, h.2 j fun z => hj (hi j z)]
theorem wipe_wipe (s : St) (own : List Nat) : wipe (wipe s own) own = wipe s own := by
  apply List.ext_getElem?
  intro j
  by_cases hj : j ∈ own
  · by_cases hl : j < s.length
    · rw [wipe_in hj (by rw [wipe_length]; exact hl), wipe_in hj hl]
    · rw [List.getElem?_eq_none (by rw [wipe_length, wipe_length]; omega), List.getElem?_eq_none (by rw [wipe_length]; omega)]
  · rw [wipe_get hj]
theorem hide_len : ∀ (own : List Nat) (r : Env), (hide own r).length = r.length
  | [], _ => rfl
  | i :: own, r => by simp [hide, hide_len own]
theorem hide_get {r : Env} {i : Nat} : ∀ {own : List Nat}, i ∉ own → (hide own r)[i]? = r[i]?
  | [], _ => rfl
  | v :: own, h => by
    simp only [List.mem_cons, not_or] at h
    unfold hide
    rw [List.getElem?_set_ne (Ne.symm h.1)]
    exact hide_get h.2
theorem hide_in {r : Env} {i : Nat} : ∀ {own : List Nat}, i ∈ own → (hide own r)[i]? = some .un ∨ (hide own r)[i]? = none
  | v :: own, h => by
    unfold hide
    by_cases e : v = i
    · subst e
      by_cases hl : v < (hide own r).length
      · exact .inl (List.getElem?_set_self hl)
      · exact .inr (List.getElem?_eq_none (by rw [List.length_set]; omega))
    · rw [List.getElem?_set_ne e]
      exact hide_in ((List.mem_cons.mp h).resolve_left (Ne.symm e))
theorem back_len (old : Env) : ∀ (own : List Nat) (r : Env), (back old own r).length = r.length
  | [], _ => rfl
  | i :: own, r => by simp [back, back_len old own]
theorem back_get {old r : Env} {i : Nat} : ∀ {own : List Nat}, i ∉ own → (back old own r)[i]? = r[i]?
  | [], _ => rfl
  | v :: own, h => by
    simp only [List.mem_cons, not_or] at h
    unfold back
    rw [List.getElem?_set_ne (Ne.symm h.1)]
    exact back_get h.2
theorem back_in {old r : Env} {i : Nat} (hl : i < r.length) : ∀ {own : List Nat}, i ∈ own → (back old own r)[i]? = some (old[i]?.getD .un)
  | v :: own, h => by
    unfold back
    by_cases e : v = i
    · subst e
      exact List.getElem?_set_self (by rw [back_len]; exact hl)
    · rw [List.getElem?_set_ne e]
      exact back_in hl ((List.mem_cons.mp h).resolve_left (Ne.symm e))
theorem hidable {io : List Nat} {r : Env} {own : List Nat} (h : canHide io r own = true) : ∀ i ∈ own, i < r.length ∧ i ∉ io ∧ ∀ d, r[i]? ≠ some (.mu d) := fun i hi => by
  have q := List.all_eq_true.mp h i hi
  simp only [Bool.and_eq_true, decide_eq_true_eq, Bool.not_eq_true'] at q
  refine ⟨q.1.1, by simpa using q.1.2, fun d e => ?_⟩
  rw [e] at q
  cases q.2
theorem Rep.hide {s : St} {H : Hp} {M U : AP} {r : Env} {own : List Nat} (rp : Rep G H M U s r) (hio : ∀ i ∈ own, i ∉ G.io) : Rep G H M U (wipe s own) (Ev.hide own r) := by
  have ni : ∀ {i : Nat} {x : Sl}, (Ev.hide own r)[i]? = some x → x ≠ .un → i ∉ own := fun {i x} h hx hi => by
    rcases hide_in (r := r) hi with e | e
    · rw [e] at h
      cases h
      exact hx rfl
    · rw [e] at h
      cases h
  refine ⟨by rw [hide_len, wipe_length]; exact rp.len, fun i d h => ?_, fun i d h => ?_, fun i j d e a h1 h2 h3 h4 => ?_, rp.sub, rp.all, fun j hj => ?_, fun j hj => ?_, rp.ent, rp.old⟩
  · have n := ni h (fun z => by cases z)
    rw [hide_get n] at h
    rw [wipe_get n]
    exact rp.val i d h
  · have n := ni h (fun z => by cases z)
    rw [hide_get n] at h
    rw [wipe_get n]
    exact rp.mu i d h
  · have n1 := ni h1 (fun z => by cases z)
    have n2 := ni h2 (fun z => by cases z)
    rw [hide_get n1] at h1
    rw [hide_get n2] at h2
    rw [wipe_get n1] at h3
    rw [wipe_get n2] at h4
    exact rp.inj i j d e a h1 h2 h3 h4
  · rw [wipe_get fun z => hio j z hj]
    exact rp.pin j hj
  · rw [hide_get fun z => hio j z hj]
    exact rp.pmu j hj
/-- the slots of the block are put away again -/
theorem Rep.hideW {s s2 : St} {H : Hp} {M U : AP} {r : Env} {own : List Nat} (rp : Rep G H M U s2 r) (e : wipe s2 own = wipe s own) (hio : ∀ i ∈ own, i ∉ G.io) : Rep G H M U (wipe s own) (Ev.hide own r) := by
  rw [← e]
  exact rp.hide hio
/-- back in the frame -/
theorem Rep.back {s : St} {H0 H : Hp} {M0 U0' M U : AP} {r0 r : Env} {own : List Nat} (rp0 : Rep G H0 M0 U0' s r0) (hc : canHide G.io r0 own = true) (st : Stay M0 H0 M H) (rp : Rep G H M U (wipe s own) r) : Rep G H M U s (Ev.back r0 own r) := by
  have hh := hidable hc
  have lenr : r.length = s.length := by rw [rp.len, wipe_length]
  have kind : ∀ {i : Nat} {x : Sl}, (Ev.back r0 own r)[i]? = some x → (i ∉ own ∧ r[i]? = some x) ∨ (i ∈ own ∧ (r0[i]? = some x ∨ x = .un)) := fun {i x} h => by
    by_cases hi : i ∈ own
    · have hl : i < r.length := by rw [lenr, ← rp0.len]; exact (hh i hi).1
      rw [back_in hl hi] at h
      cases e : r0[i]? with
      | none =>
        rw [e] at h
        cases h
        exact .inr ⟨hi, .inr rfl⟩
      | some y =>
        rw [e] at h
        cases h
        exact .inr ⟨hi, .inl rfl⟩
    · rw [back_get hi] at h
      exact .inl ⟨hi, h⟩
  refine ⟨by rw [back_len]; exact lenr, fun i d h => ?_, fun i d h => ?_, fun i j d e a h1 h2 h3 h4 => ?_, rp.sub, rp.all, fun j hj => ?_, fun j hj => ?_, rp.ent, rp.old⟩
  · rcases kind h with ⟨n, q⟩ | ⟨n, q | q⟩
    · obtain ⟨v, q1, q2⟩ := rp.val i d q
      exact ⟨v, (wipe_some q1).1, q2⟩
    · obtain ⟨v, q1, q2⟩ := rp0.val i d q
      exact ⟨v, q1, q2.stay st⟩
    · cases q
  · rcases kind h with ⟨n, q⟩ | ⟨n, q | q⟩
    · obtain ⟨a, q1, q2⟩ := rp.mu i d q
      exact ⟨a, (wipe_some q1).1, q2⟩
    · exact absurd q ((hh i n).2.2 d)
    · cases q
  · rcases kind h1 with ⟨n, q⟩ | ⟨n, q | q⟩
    · rcases kind h2 with ⟨n', q'⟩ | ⟨n', q' | q'⟩
      · rw [← wipe_get n] at h3
        rw [← wipe_get n'] at h4
        exact rp.inj i j d e a q q' h3 h4
      · exact absurd q' ((hh j n').2.2 e)
      · cases q'
    · exact absurd q ((hh i n).2.2 d)
    · cases q
  · have n : j ∉ own := fun z => (hh j z).2.1 hj
    rw [← rp.pin j hj, wipe_get n]
  · have n : j ∉ own := fun z => (hh j z).2.1 hj
    rw [back_get n]
    exact rp.pmu j hj
/-- the list that is being made is written -/
theorem Rep.grow {s : St} {H : Hp} {M U : AP} {r : Env} {p : Addr} {o : HO} (rp : Rep G H M U s r) (hm : M p) (hu : ¬ U p) (hp : H p ≠ none) : Rep G (upd H p o) M U s r := by
  have st : Stay M H M (upd H p o) := fun a u h1 h2 => ⟨h1, by rw [upd_ne (fun z => h1 (by rw [z]; exact hm))]; exact h2⟩
  have al : ∀ a, upd H p o a = none → H a = none := fun a e => by
    by_cases ha : a = p
    · subst ha
      rw [upd_same] at e
      cases e
    · rw [upd_ne ha] at e
      exact e
  refine ⟨rp.len, fun i d h => ?_, fun i d h => ?_, rp.inj, rp.sub, fun a h e => rp.all a h (al a e), rp.pin, rp.pmu, rp.ent, fun a e => rp.old a (al a e)⟩
  · obtain ⟨v, q1, q2⟩ := rp.val i d h
    exact ⟨v, q1, q2.stay st⟩
  · obtain ⟨a, q1, q2, vs, ds, q3, q4, q5⟩ := rp.mu i d h
    exact ⟨a, q1, q2, vs, ds, q3, by rw [upd_ne (fun z => hu (by rw [← z]; exact q2))]; exact q4, q5.stay st⟩
theorem Ok.blk (o : Ok X c G W C T) {scope : Scope} (hkd : scope.kind = .function) {s : Shared} {H : Hp} {A : Addr} {cl : List (Str × Addr)} {fp : List Addr} : Ok (X.blk s H scope (compEnvC scope cl A X.env) fp) (c.blk scope) G (fun _ _ _ _ => False) C T where
  hN := o.hN
  hs := by
    show relS scope X.env.scope = relS scope c.sc
    rw [o.hs]
  hf := rfl
  calm := o.calm
  nd := o.nd
  hK := o.hK
  hio := o.hio
  kd := hkd
  un := o.un
  blt := o.blt
  tk := takes0
  fns := fun f io sem nm h1 h2 => o.fns f io sem nm h1 h2
  glb := o.glb
  dct := o.dct
theorem own_map {c : Sc} : ∀ {own : List Nat}, (∀ i ∈ own, i < c.N.length) → (ownNames c own).map (·.2) = own
  | [], _ => rfl
  | i :: own, h => by
    have hi : i < c.N.length := h i (by simp)
    have ih := own_map (c := c) (own := own) fun j hj => h j (by simp [hj])
    unfold ownNames at ih ⊢
    rw [List.filterMap_cons, List.getElem?_eq_getElem hi]
    simp only [Option.map_some, List.map_cons]
    rw [ih]
theorem blk_ok (o : Ok X c G W C T) {scope : Scope} {own : List Nat} (h : blkB c scope own = true) : BlkOk X.N X.env.scope scope (ownNames c own) ∧ (ownNames c own).map (·.2) = own := by
  unfold blkB at h
  simp only [Bool.and_eq_true, List.all_eq_true, beq_iff_eq, decide_eq_true_eq, Bool.or_eq_true, Bool.not_eq_true', List.any_eq_true] at h
  obtain ⟨⟨⟨⟨h1, h2⟩, h3⟩, h4⟩, h5⟩ := h
  have hmap := own_map (c := c) (own := own) h3
  rw [o.hN, o.hs]
  refine ⟨⟨h1, fun y hy => h2 y hy, fun p hp => ?_, fun y hy e => ?_, fun y hy e => ?_⟩, hmap⟩
  · unfold ownNames at hp
    obtain ⟨i, _, e⟩ := List.mem_filterMap.mp hp
    obtain ⟨x, e1, e2⟩ := Option.map_eq_some_iff.mp e
    subst e2
    exact e1
  · rcases h4 y hy with q | q
    · rw [e] at q
      cases q
    · exact q
  · rcases h5 y hy with q | ⟨p, q1, q2⟩ | q
    · rcases e with e | e <;> rw [e] at q <;> cases q
    · exact .inl (List.mem_map.mpr ⟨p, q1, q2⟩)
    · exact .inr (by simpa using q)
theorem Rep.shrink {s : St} {H : Hp} {M M' U : AP} {r : Env} (rp : Rep G H M U s r) (h1 : ∀ a, M' a → M a) (h2 : ∀ a, U a → M' a) : Rep G H M' U s r := by
  refine ⟨rp.len, fun i d h => ?_, fun i d h => ?_, rp.inj, h2, fun a h => rp.all a (h1 a h), rp.pin, rp.pmu, rp.ent, rp.old⟩
  · obtain ⟨v, q1, q2⟩ := rp.val i d h
    exact ⟨v, q1, q2.stay (stay_mono h1)⟩
  · obtain ⟨a, q1, q2, vs, ds, q3, q4, q5⟩ := rp.mu i d h
    exact ⟨a, q1, q2, vs, ds, q3, q4, q5.stay (stay_mono h1)⟩
abbrev noW : WX := fun _ _ _ _ => False
def tIfs (G : Ct) (C : Cfg) : Option E → TT
  | none => tYes
  | some q => tTe G noW C q
/-- one turn of a comprehension -/
def turnC (C : Cfg) (own : List Nat) (elt : E) (t : Tg) (ifs : Option E) (x : D) (r : Env) : R (Option D) := match setT C.io t x r with
  | none => .bad
  | some r => match ifs with
    | none => (evX C elt r).bind fun y r1 => .ok (some y.1) (hide own r1)
    | some c => (evT C c r).bind fun b r => if b then (evX C elt r).bind fun y r1 => .ok (some y.1) (hide own r1) else .ok none (hide own r)
theorem evX_comp {own : List Nat} {elt : E} {t : Tg} {it : Ev.It} {ifs : Option E} {r : Env} : evX C (.comp own elt t it ifs) r = (evIt C it r).bind fun xs r0 => if canHide C.io r0 own then (quiet (compLoop (turnC C own elt t ifs) xs [] (Ev.hide own r0))).bind fun ds r1 => Ev.R.ok (D.lst ds, true) (Ev.back r0 own r1) else .bad := by
  cases ifs with
  | none => rfl
  | some q => rfl
theorem tg_in {own : List Nat} {t : Tg} (h : tgIn own t = true) : ∀ i ∈ slotsOf t, i ∈ own := by
  cases t with
  | n i =>
    intro j hj
    have : j = i := by simpa [slotsOf] using hj
    subst this
    simpa [tgIn] using h
  | t is =>
    intro j hj
    have h' : ∀ x ∈ is, own.contains x = true := by simpa [tgIn] using h
    simpa using h' j hj
theorem comp_use (o : Ok X c G W C T) {own : List Nat} {elt : E} {t : Tg} {it : Ev.It} {ifs : Option E} {s : St} {H : Hp} {Q : VK} (ht : tgIn own t = true) (q0 : tX G W C (.comp own elt t it ifs) s H Q) :
    tLc (tW G W C it) (tT G t) (tIfs G C ifs) (tV G noW C elt) own s H Q := by
  obtain ⟨M, U, r, rp, f⟩ := q0
  rw [evX_comp] at f
  refine ⟨M, U, r, rp, (f.bind rp.all).mono fun xs r0 H1 M1 U1 st1 rp1 f1 J wk Dn hD => ?_⟩
  cases hh : canHide C.io r0 own with
  | false =>
    rw [hh] at f1
    exact f1.elim
  | true =>
  simp only [hh, if_true] at f1
  rw [o.hio] at hh
  have hio : ∀ i ∈ own, i ∉ G.io := fun i h => (hidable hh i h).2.1
  cases er : compLoop (turnC C own elt t ifs) xs [] (Ev.hide own r0) with
  | bad =>
    rw [er] at f1
    exact f1.elim
  | exc cc rr =>
    rw [er] at f1
    exact f1.elim
  | ok dF rF =>
  rw [er] at f1
  have f1 : Fin G W s H1 M1 U1 (Ev.R.ok (D.lst dF, true) (Ev.back r0 own rF)) _ := f1
  obtain ⟨Gd, Y, walk, hG, hY⟩ := wk
  refine lc_it walk (fun i H' => ∃ Mi Ui ri acc vs, Rep G H' Mi Ui (wipe s own) ri ∧ Mi Dn ∧ ¬ Ui Dn ∧ H' Dn = some (.lst vs) ∧ IsDs G.K H' Mi vs acc ∧ Step M1 U1 H1 Mi Ui H' ∧ compLoop (turnC C own elt t ifs) (xs.drop i) acc ri = .ok dF rF) ?_ ?_ ?_ ?_
  · refine ⟨plus M1 Dn, U1, Ev.hide own r0, [], [], (rp1.plus hD).hide hio, .inl rfl, fun h => rp1.all Dn (rp1.sub Dn h) hD, upd_same, .nil, ?_, by simpa using er⟩
    exact ⟨fun a u _ h => same_upd hD a u h, fun a h => h.elim (fun z => .inr (by rw [z]; exact hD)) .inl, fun _ h => .inl h, fun _ h _ => .inr h, fun a h => Same.free (same_upd hD) h⟩
  · rintro i H' hi' ⟨Mi, Ui, ri, acc, vs, q1, q2, q3, q4, q5, q6, q7⟩
    exact hG Mi H' (q6.stay rp1.sub)
  · rintro i x Hc H' hi' ⟨Mi, Ui, ri, acc, vs, q1, q2, q3, q4, q5, q6, q7⟩ y
    obtain ⟨sm, d, ed, hd⟩ := hY i Hc x H' Mi hi' y (q6.stay rp1.sub) q1.all
    have q1' := q1.same sm
    have q4' := sm _ _ q4
    have q5' := q5.stay (same_stay Mi sm)
    have q6' : Step M1 U1 H1 Mi Ui H' := q6.trans rp1.all (same_step Mi Ui sm)
    rw [List.drop_eq_getElem_cons hi', show xs[i] = d from by rw [List.getElem?_eq_getElem hi'] at ed; exact Option.some.inj ed] at q7
    simp only [compLoop] at q7
    cases es : setT C.io t d ri with
    | none =>
      simp only [turnC, es] at q7
      cases q7
    | some r' =>
    simp only [turnC, es] at q7
    rw [o.hio] at es
    refine ⟨Mi, Ui, ri, d, r', q1', hd, es, fun s' rps eqo => ⟨by rw [wipe_eq eqo (tg_in ht), wipe_wipe], ?_⟩⟩
    have ew : wipe s' own = wipe s own := by rw [wipe_eq eqo (tg_in ht), wipe_wipe]
    -- the element, and the list grown
    have elem : ∀ (r2 : Env) (H2 : Hp) (M2 U2 : AP) (vs2 : List V), Rep G H2 M2 U2 s' r2 → M2 Dn → ¬ U2 Dn → H2 Dn = some (.lst vs2) → IsDs G.K H2 M2 vs2 acc → Step M1 U1 H1 M2 U2 H2 →
        (((evX C elt r2).bind fun y r1 => Ev.R.ok (some y.1) (Ev.hide own r1)).bind fun o r1 => match o with
          | some y => if acc.length < cap then compLoop (turnC C own elt t ifs) (xs.drop (i + 1)) (acc ++ [y]) r1 else .bad
          | none => compLoop (turnC C own elt t ifs) (xs.drop (i + 1)) acc r1) = .ok dF rF →
        tV G noW C elt s' H2 fun y H4 => ∃ acc, H4 Dn = some (.lst acc) ∧ acc.length < sizeLine ∧ ∃ Mi Ui ri acc' vs, Rep G (upd H4 Dn (.lst (acc ++ [y]))) Mi Ui (wipe s own) ri ∧ Mi Dn ∧ ¬ Ui Dn ∧ (upd H4 Dn (.lst (acc ++ [y]))) Dn = some (.lst vs) ∧ IsDs G.K (upd H4 Dn (.lst (acc ++ [y]))) Mi vs acc' ∧ Step M1 U1 H1 Mi Ui (upd H4 Dn (.lst (acc ++ [y]))) ∧ compLoop (turnC C own elt t ifs) (xs.drop (i + 1)) acc' ri = .ok dF rF := by
      intro r2 H2 M2 U2 vs2 b1 b2 b3 b4 b5 b6 b7
      refine ⟨M2, U2, r2, b1, ?_⟩
      cases ee : evX C elt r2 with
      | bad =>
        rw [ee] at b7
        cases b7
      | exc cc rr =>
        rw [ee] at b7
        cases b7
      | ok y r1 =>
        rw [ee] at b7
        simp only [R.bind] at b7
        intro H4 M4 U4 st4 rp4 v hv
        have h4 : H4 Dn = some (.lst vs2) := st4.rd Dn _ b3 b4
        have m4 : M4 Dn := st4.kp Dn b2 b3
        have u4 : ¬ U4 Dn := fun h => (st4.own Dn h).elim b3 (fun z => by rw [b4] at z; cases z)
        by_cases hz : acc.length < cap
        · rw [if_pos hz] at b7
          have sty : Stay M4 H4 M4 (upd H4 Dn (.lst (vs2 ++ [v]))) := fun a u h1 h2 => ⟨h1, by rw [upd_ne (fun z => h1 (by rw [z]; exact m4))]; exact h2⟩
          refine ⟨vs2, h4, by rw [b5.length]; exact Nat.lt_of_lt_of_le hz cap_line, M4, U4, Ev.hide own r1, acc ++ [y.1], vs2 ++ [v], (rp4.hideW ew hio).grow m4 u4 (by rw [h4]; simp), m4, u4, upd_same, ?_, ?_, b7⟩
          · exact ((b5.stay (st4.stay b1.sub)).append (.cons v [] y.1 [] hv .nil)).stay sty
          · have st' := b6.trans rp1.all st4
            refine ⟨fun a u h1 h2 => ?_, st'.new, st'.own, st'.kp, fun a h => ?_⟩
            · rw [upd_ne (fun z => by rw [z, hD] at h2; cases h2)]
              exact st'.rd a u h1 h2
            · by_cases z : a = Dn
              · rw [z]
                exact hD
              · rw [upd_ne z] at h
                exact st'.al a h
        · rw [if_neg hz] at b7
          cases b7
    cases ifs with
    | none =>
      simp only [tIfs, tYes, if_true]
      exact elem r' H' Mi Ui vs rps q2 q3 q4' q5' q6' q7
    | some q =>
      refine ⟨Mi, Ui, r', rps, ?_⟩
      cases et : evT C q r' with
      | bad =>
        simp only [et] at q7
        cases q7
      | exc cc rr =>
        simp only [et] at q7
        cases q7
      | ok b r2 =>
        simp only [et, R.bind] at q7
        intro H3 M3 U3 st3 rp3
        have h3 : H3 Dn = some (.lst vs) := st3.rd Dn _ q3 q4'
        have m3 : M3 Dn := st3.kp Dn q2 q3
        have u3 : ¬ U3 Dn := fun h => (st3.own Dn h).elim q3 (fun z => by rw [q4'] at z; cases z)
        have k3 := q5'.stay (st3.stay q1'.sub)
        have s3 := q6'.trans rp1.all st3
        cases b with
        | true =>
          simp only [if_true]
          exact elem r2 H3 M3 U3 vs rp3 m3 u3 h3 k3 s3 q7
        | false =>
          simp only [Bool.false_eq_true, if_false]
          exact ⟨M3, U3, Ev.hide own r2, acc, vs, rp3.hideW ew hio, m3, u3, h3, k3, s3, q7⟩
  · rintro H' ⟨Mi, Ui, ri, acc, vs, q1, q2, q3, q4, q5, q6, q7⟩
    rw [List.drop_length] at q7
    simp only [compLoop, R.ok.injEq] at q7
    obtain ⟨rfl, rfl⟩ := q7
    have rb : Rep G H' Mi Ui s (Ev.back r0 own ri) := rp1.back hh (q6.stay rp1.sub) q1
    have sb : ∀ b, plus (minus Mi Dn) Dn b → Mi b := fun b h => h.elim (fun z => by rw [z]; exact q2) fun h => h.1
    have um : ∀ b, Ui b → minus Mi Dn b := fun b h => ⟨rb.sub b h, fun z => q3 (by rw [← z]; exact h)⟩
    refine f1 H' (minus Mi Dn) Ui ⟨q6.rd, fun a h => q6.new a h.1, q6.own, fun a h1 h2 => ⟨q6.kp a h1 h2, fun z => rp1.all a h1 (by rw [z]; exact hD)⟩, q6.al⟩ (rb.shrink (fun _ h => h.1) um) (.ref Dn) ?_
    exact ⟨Dn, vs, acc, rfl, rfl, q4, fun h => h.2 rfl, .inr (rp1.old Dn hD), q5.stay (stay_mono sb), rb.shrink sb fun b h => .inr (um b h)⟩
theorem snd_comp (o : Ok X c G W C T) {own : List Nat} {elt : E} {t : Tg} {it : Ev.It} {ifs : Option E} {e tg iter : Expr} {cs : List Expr} {scope : Scope} {p : Pos} (hb : blkB c scope own = true) (hi : PI X tg iter (tW G W C it)) (ht : tgIn own t = true)
    (hg : ∀ (s : Shared) (H : Hp) (A : Addr) (cl : List (Str × Addr)) (fp : List Addr), PG (X.blk s H scope (compEnvC scope cl A X.env) fp) tg (tT G t))
    (hc : ∀ (s : Shared) (H : Hp) (A : Addr) (cl : List (Str × Addr)) (fp : List Addr), PTs (X.blk s H scope (compEnvC scope cl A X.env) fp) cs (tIfs G C ifs))
    (he : ∀ (s : Shared) (H : Hp) (A : Addr) (cl : List (Str × Addr)) (fp : List Addr), PE (X.blk s H scope (compEnvC scope cl A X.env) fp) e (tX G noW C elt)) (hp : plainE iter = true) :
    PE X (.ListComp e [⟨tg, iter, cs, 0⟩] scope p) (tX G W C (.comp own elt t it ifs)) ∧
      ∀ {i : Nat} {y : Str} {py sp : Pos}, locB c i y = true → PS X (.Assign [.Name y py] (.ListComp e [⟨tg, iter, cs, 0⟩] scope p) sp) (tAsg (tX G W C (.comp own elt t it ifs)) (gName i)) := by
  obtain ⟨bk, hmap⟩ := blk_ok o hb
  have hs : ∀ x, foldedSetIterable iter X.env x = pure x := fun x => by cases iter <;> first | rfl | cases hp
  have pe : PE X (.ListComp e [⟨tg, iter, cs, 0⟩] scope p) (tX G W C (.comp own elt t it ifs)) := by
    refine pe_mono (pe_lc o.calm o.nd hi bk hg hc (fun s H A cl fp => pe_v (he s H A cl fp)) hs) fun s H Q q => ?_
    rw [hmap]
    exact comp_use o ht q
  refine ⟨pe, fun {i y py sp} hy => ?_⟩
  obtain ⟨h1, h2, h3⟩ := o.loc hy
  cases hw : (X.env.scope.names.lookup y == some .local && py.line == p.line && !(scope.names.any fun (n, k) => n == y && (k == .local || k == .cell))) with
  | true =>
    simp only [Bool.and_eq_true, beq_iff_eq, Bool.not_eq_true'] at hw
    have sw := sw_true (elt := e) (gs := [⟨tg, iter, cs, 0⟩]) (scope := scope) (pos := p) (py := py) (y := y) (l := sp.line) (env := X.env) (by rw [o.hs]; exact o.kd) hw.1.1 (by rw [hw.1.2]; simp) hw.2
    refine ps_mono (ps_setLc o.calm o.nd h1 hw.1.1 sw hi bk hg hc (fun s H A cl fp => pe_v (he s H A cl fp)) hs) fun D s H q => ?_
    show tLc _ _ _ _ _ s H _
    rw [hmap]
    exact comp_use o ht q
  | false =>
    have sw : swapsWith (.ListComp e [⟨tg, iter, cs, 0⟩] scope p) (some (.Name y py)) sp.line X.env = pure false := by
      have hb' : X.env.blockKind = .function := by
        unfold Env.blockKind
        rw [show X.env.scope.kind = .function from by rw [o.hs]; exact o.kd]
        rfl
      unfold swapsWith
      have hw' : (X.env.kindOf y == some .local && py.line == p.line && !(scope.names.any fun (n, k) => n == y && (k == .local || k == .cell))) = false := hw
      simp only [hb', Expr.pos, beq_self_eq_true, Bool.true_and, hw']
    exact ps_set o.nd h1 h2 pe sw h3
/-! ### two fors -/
def inC (C : Cfg) (own1 : List Nat) (elt : E) (t1 : Tg) (ifs : Option E) (y : D) (acc : List D) (r : Env) : R (List D) := match setT C.io t1 y r with
  | none => .bad
  | some r => match ifs with
    | none => (evX C elt r).bind fun z r1 => if acc.length < cap then .ok (acc ++ [z.1]) (hide own1 r1) else .bad
    | some c => (evT C c r).bind fun b r => if b then (evX C elt r).bind fun z r1 => if acc.length < cap then .ok (acc ++ [z.1]) (hide own1 r1) else .bad else .ok acc (hide own1 r)
def outC (C : Cfg) (own own1 : List Nat) (elt : E) (t : Tg) (t1 : Tg) (it1 : Ev.It) (ifs : Option E) (x : D) (acc : List D) (r : Env) : R (List D) := match setT C.io t x r with
  | none => .bad
  | some r => (evIt C it1 r).bind fun ys r => (loopAcc (inC C own1 elt t1 ifs) ys acc (hide own1 r)).bind fun acc r => .ok acc (hide own r)
theorem evX_comp2 {own own1 : List Nat} {elt : E} {t t1 : Tg} {it it1 : Ev.It} {ifs : Option E} {r : Env} : evX C (.comp2 own own1 elt t it t1 it1 ifs) r = (evIt C it r).bind fun xs r0 => if canHide C.io r0 own then (quiet (loopAcc (outC C own own1 elt t t1 it1 ifs) xs [] (Ev.hide own r0))).bind fun ds r1 => Ev.R.ok (D.lst ds, true) (Ev.back r0 own r1) else .bad := by
  cases ifs with
  | none => rfl
  | some q => rfl
theorem Stay.trans {M1 M2 M3 : AP} {H1 H2 H3 : Hp} (a : Stay M1 H1 M2 H2) (b : Stay M2 H2 M3 H3) : Stay M1 H1 M3 H3 := fun x u h1 h2 => b x u (a x u h1 h2).1 (a x u h1 h2).2
theorem wipe_sub (s : St) {own1 own : List Nat} (h : ∀ i ∈ own1, i ∈ own) : wipe (wipe s own1) own = wipe s own := by
  apply List.ext_getElem?
  intro j
  by_cases hj : j ∈ own
  · by_cases hl : j < s.length
    · rw [wipe_in hj (by rw [wipe_length]; exact hl), wipe_in hj hl]
    · rw [List.getElem?_eq_none (by rw [wipe_length, wipe_length]; omega), List.getElem?_eq_none (by rw [wipe_length]; omega)]
  · rw [wipe_get hj, wipe_get hj, wipe_get fun z => hj (h j z)]
/-- the state within a comprehension: the list at Dn holds acc -/
structure CSt (G : Ct) (s : St) (Dn : Addr) (M1 U1 : AP) (H1 : Hp) (H : Hp) (M U : AP) (r : Env) (acc : List D) (vs : List V) : Prop where
  rp : Rep G H M U s r
  mD : M Dn
  nU : ¬ U Dn
  hD : H Dn = some (.lst vs)
  is : IsDs G.K H M vs acc
  st : Step M1 U1 H1 M U H
theorem CSt.step {s : St} {Dn : Addr} {M1 U1 : AP} {H1 H H' : Hp} {M U M' U' : AP} {r r' : Env} {acc : List D} {vs : List V} (hm : ∀ a, M1 a → H1 a ≠ none) (q : CSt G s Dn M1 U1 H1 H M U r acc vs) (st : Step M U H M' U' H') (rp : Rep G H' M' U' s r') : CSt G s Dn M1 U1 H1 H' M' U' r' acc vs :=
  ⟨rp, st.kp Dn q.mD q.nU, fun h => (st.own Dn h).elim q.nU (fun z => by rw [q.hD] at z; cases z), st.rd Dn _ q.nU q.hD, q.is.stay (st.stay q.rp.sub), q.st.trans hm st⟩
theorem CSt.grow {s : St} {Dn : Addr} {M1 U1 : AP} {H1 H : Hp} {M U : AP} {r : Env} {acc : List D} {vs : List V} {v : V} {d : D} (hn : H1 Dn = none) (q : CSt G s Dn M1 U1 H1 H M U r acc vs) (hv : IsD G.K H M v d) : CSt G s Dn M1 U1 H1 (upd H Dn (.lst (vs ++ [v]))) M U r (acc ++ [d]) (vs ++ [v]) ∧ Stay M H M (upd H Dn (.lst (vs ++ [v]))) := by
  have sty : Stay M H M (upd H Dn (.lst (vs ++ [v]))) := fun a u h1 h2 => ⟨h1, by rw [upd_ne (fun z => h1 (by rw [z]; exact q.mD))]; exact h2⟩
  refine ⟨⟨q.rp.grow q.mD q.nU (by rw [q.hD]; simp), q.mD, q.nU, upd_same, (q.is.append (.cons v [] d [] hv .nil)).stay sty, ⟨fun a u h1 h2 => ?_, q.st.new, q.st.own, q.st.kp, fun a h => ?_⟩⟩, sty⟩
  · rw [upd_ne (fun z => by rw [z, hn] at h2; cases h2)]
    exact q.st.rd a u h1 h2
  · by_cases z : a = Dn
    · rw [z]
      exact hn
    · rw [upd_ne z] at h
      exact q.st.al a h
theorem CSt.hideW {s s2 : St} {Dn : Addr} {M1 U1 : AP} {H1 H : Hp} {M U : AP} {r : Env} {acc : List D} {vs : List V} {own : List Nat} (q : CSt G s2 Dn M1 U1 H1 H M U r acc vs) (e : wipe s2 own = wipe s own) (hio : ∀ i ∈ own, i ∉ G.io) : CSt G (wipe s own) Dn M1 U1 H1 H M U (Ev.hide own r) acc vs :=
  ⟨q.rp.hideW e hio, q.mD, q.nU, q.hD, q.is, q.st⟩
theorem CSt.same {s : St} {Dn : Addr} {M1 U1 : AP} {H1 H H' : Hp} {M U : AP} {r : Env} {acc : List D} {vs : List V} (hm : ∀ a, M1 a → H1 a ≠ none) (q : CSt G s Dn M1 U1 H1 H M U r acc vs) (sm : Same H H') : CSt G s Dn M1 U1 H1 H' M U r acc vs := q.step hm (same_step M U sm) (q.rp.same sm)
theorem comp2_use (o : Ok X c G W C T) {own own1 : List Nat} {elt : E} {t t1 : Tg} {it it1 : Ev.It} {ifs : Option E} {s : St} {H : Hp} {Q : VK} (ht : tgIn own t = true) (ht1 : tgIn own1 t1 = true) (hsub : ∀ i ∈ own1, i ∈ own) (q0 : tX G W C (.comp2 own own1 elt t it t1 it1 ifs) s H Q) :
    tLc2 (tW G W C it) (tT G t) tYes (tW G noW C it1) (tT G t1) (tIfs G C ifs) (tV G noW C elt) own own1 s H Q := by
  obtain ⟨M, U, r, rp, f⟩ := q0
  rw [evX_comp2] at f
  refine ⟨M, U, r, rp, (f.bind rp.all).mono fun xs r0 H1 M1 U1 st1 rp1 f1 J wk Dn hD => ?_⟩
  cases hh : canHide C.io r0 own with
  | false =>
    rw [hh] at f1
    exact f1.elim
  | true =>
  simp only [hh, if_true] at f1
  rw [o.hio] at hh
  have hio : ∀ i ∈ own, i ∉ G.io := fun i h => (hidable hh i h).2.1
  cases er : loopAcc (outC C own own1 elt t t1 it1 ifs) xs [] (Ev.hide own r0) with
  | bad =>
    rw [er] at f1
    exact f1.elim
  | exc cc rr =>
    rw [er] at f1
    exact f1.elim
  | ok dF rF =>
  rw [er] at f1
  have f1 : Fin G W s H1 M1 U1 (Ev.R.ok (D.lst dF, true) (Ev.back r0 own rF)) _ := f1
  obtain ⟨Gd, Y, walk, hG, hY⟩ := wk
  let Pv : Nat → Hp → Prop := fun i H' => ∃ Mi Ui ri acc vs, CSt G (wipe s own) Dn M1 U1 H1 H' Mi Ui ri acc vs ∧ loopAcc (outC C own own1 elt t t1 it1 ifs) (xs.drop i) acc ri = .ok dF rF
  refine ⟨fun i m H => m = xs.length - i ∧ i ≤ xs.length ∧ Pv i H, ⟨xs.length, by simp, Nat.zero_le _, ?_⟩, ?_⟩
  · refine ⟨plus M1 Dn, U1, Ev.hide own r0, [], [], ⟨(rp1.plus hD).hide hio, .inl rfl, fun h => rp1.all Dn (rp1.sub Dn h) hD, upd_same, .nil, ?_⟩, by simpa using er⟩
    exact ⟨fun a u _ h => same_upd hD a u h, fun a h => h.elim (fun z => .inr (by rw [z]; exact hD)) .inl, fun _ h => .inl h, fun _ h _ => .inr h, fun a h => Same.free (same_upd hD) h⟩
  rintro i m Hc ⟨rfl, hi, Mi, Ui, ri, acc, vs, q1, q7⟩
  have hGc := hG Mi Hc (q1.st.stay rp1.sub)
  by_cases hi' : i < xs.length
  · refine .inr ⟨walk.goes i Hc hi' hGc, Pv (i + 1), fun H' p => ⟨xs.length - (i + 1), by omega, rfl, hi', p⟩, fun x H' y => ?_⟩
    obtain ⟨sm, d, ed, hd⟩ := hY i Hc x H' Mi hi' (walk.yields i Hc x H' hi' hGc y) (q1.st.stay rp1.sub) q1.rp.all
    have q1' := q1.same rp1.all sm
    rw [List.drop_eq_getElem_cons hi', show xs[i] = d from by rw [List.getElem?_eq_getElem hi'] at ed; exact Option.some.inj ed] at q7
    simp only [loopAcc] at q7
    cases es : setT C.io t d ri with
    | none =>
      simp only [outC, es] at q7
      cases q7
    | some r' =>
    simp only [outC, es] at q7
    rw [o.hio] at es
    refine ⟨Mi, Ui, ri, d, r', q1'.rp, hd, es, fun s' rps eqo => ⟨by rw [wipe_eq eqo (tg_in ht), wipe_wipe], ?_⟩⟩
    have ew : wipe s' own = wipe s own := by rw [wipe_eq eqo (tg_in ht), wipe_wipe]
    simp only [tYes, if_true]
    have q2 : CSt G s' Dn M1 U1 H1 H' Mi Ui r' acc vs := ⟨rps, q1'.mD, q1'.nU, q1'.hD, q1'.is, q1'.st⟩
    refine ⟨Mi, Ui, r', rps, ?_⟩
    cases ei : evIt C it1 r' with
    | bad =>
      rw [ei] at q7
      cases q7
    | exc cc rr =>
      rw [ei] at q7
      cases q7
    | ok ys r2 =>
    rw [ei] at q7
    simp only [R.bind] at q7
    intro H4 M4 U4 st4 rp4 J1 wk1
    have q4 := q2.step rp1.all st4 rp4
    cases el : loopAcc (inC C own1 elt t1 ifs) ys acc (Ev.hide own1 r2) with
    | bad =>
      rw [el] at q7
      cases q7
    | exc cc rr =>
      rw [el] at q7
      cases q7
    | ok aF r3 =>
    rw [el] at q7
    simp only at q7
    obtain ⟨Gd1, Y1, walk1, hG1, hY1⟩ := wk1
    have hio1 : ∀ i ∈ own1, i ∉ G.io := fun i h => hio i (hsub i h)
    let P1 : Nat → Hp → Prop := fun j H' => ∃ Mj Uj rj ac us, CSt G (wipe s' own1) Dn M1 U1 H1 H' Mj Uj rj ac us ∧ Stay M4 H4 Mj H' ∧ loopAcc (inC C own1 elt t1 ifs) (ys.drop j) ac rj = .ok aF r3
    refine ⟨fun j k H => k = ys.length - j ∧ j ≤ ys.length ∧ P1 j H, ⟨ys.length, by simp, Nat.zero_le _, M4, U4, Ev.hide own1 r2, acc, vs, q4.hideW rfl hio1, stay_mono fun _ h => h, by simpa using el⟩, ?_⟩
    rintro j k Hj ⟨rfl, hj, Mj, Uj, rj, ac, us, w1, w2, w3⟩
    have hGj := hG1 Mj Hj w2
    by_cases hj' : j < ys.length
    · refine .inr ⟨walk1.goes j Hj hj' hGj, P1 (j + 1), fun H' p => ⟨ys.length - (j + 1), by omega, rfl, hj', p⟩, fun x H' y => ?_⟩
      obtain ⟨sm1, d1, ed1, hd1⟩ := hY1 j Hj x H' Mj hj' (walk1.yields j Hj x H' hj' hGj y) w2 w1.rp.all
      have w1' := w1.same rp1.all sm1
      have w2' : Stay M4 H4 Mj H' := w2.trans (same_stay Mj sm1)
      rw [List.drop_eq_getElem_cons hj', show ys[j] = d1 from by rw [List.getElem?_eq_getElem hj'] at ed1; exact Option.some.inj ed1] at w3
      simp only [loopAcc] at w3
      cases es1 : setT C.io t1 d1 rj with
      | none =>
        simp only [inC, es1] at w3
        cases w3
      | some rj' =>
      simp only [inC, es1] at w3
      rw [o.hio] at es1
      refine ⟨Mj, Uj, rj, d1, rj', w1'.rp, hd1, es1, fun s3 rp3 eqo1 => ⟨by rw [wipe_eq eqo1 (tg_in ht1), wipe_wipe], ?_⟩⟩
      have ew1 : wipe s3 own1 = wipe s' own1 := by rw [wipe_eq eqo1 (tg_in ht1), wipe_wipe]
      have w4 : CSt G s3 Dn M1 U1 H1 H' Mj Uj rj' ac us := ⟨rp3, w1'.mD, w1'.nU, w1'.hD, w1'.is, w1'.st⟩
      have elem : ∀ (r5 : Env) (H5 : Hp) (M5 U5 : AP) (us5 : List V), CSt G s3 Dn M1 U1 H1 H5 M5 U5 r5 ac us5 → Stay M4 H4 M5 H5 →
          (((evX C elt r5).bind fun z r1 => if ac.length < cap then Ev.R.ok (ac ++ [z.1]) (Ev.hide own1 r1) else .bad).bind fun acc r => loopAcc (inC C own1 elt t1 ifs) (ys.drop (j + 1)) acc r) = .ok aF r3 →
          tV G noW C elt s3 H5 fun y H7 => ∃ acc, H7 Dn = some (.lst acc) ∧ acc.length < sizeLine ∧ P1 (j + 1) (upd H7 Dn (.lst (acc ++ [y]))) := by
        intro r5 H5 M5 U5 us5 b1 b2 b3
        refine ⟨M5, U5, r5, b1.rp, ?_⟩
        cases ee : evX C elt r5 with
        | bad =>
          rw [ee] at b3
          cases b3
        | exc cc rr =>
          rw [ee] at b3
          cases b3
        | ok z r6 =>
          rw [ee] at b3
          simp only [R.bind] at b3
          intro H7 M7 U7 st7 rp7 v hv
          have b4 := b1.step rp1.all st7 rp7
          by_cases hz : ac.length < cap
          · rw [if_pos hz] at b3
            simp only at b3
            obtain ⟨g1, g2⟩ := b4.grow hD hv
            refine ⟨us5, b4.hD, by rw [b4.is.length]; exact Nat.lt_of_lt_of_le hz cap_line, M7, U7, Ev.hide own1 r6, ac ++ [z.1], us5 ++ [v], g1.hideW ew1 hio1, (b2.trans (st7.stay b1.rp.sub)).trans g2, b3⟩
          · rw [if_neg hz] at b3
            cases b3
      cases ifs with
      | none =>
        simp only [tIfs, tYes, if_true]
        exact elem rj' H' Mj Uj us w4 w2' w3
      | some q =>
        refine ⟨Mj, Uj, rj', rp3, ?_⟩
        cases et : evT C q rj' with
        | bad =>
          simp only [et] at w3
          cases w3
        | exc cc rr =>
          simp only [et] at w3
          cases w3
        | ok b r5 =>
          simp only [et, R.bind] at w3
          intro H6 M6 U6 st6 rp6
          have w5 := w4.step rp1.all st6 rp6
          have w6 := w2'.trans (st6.stay w4.rp.sub)
          cases b with
          | true =>
            simp only [if_true] at w3 ⊢
            exact elem r5 H6 M6 U6 us w5 w6 w3
          | false =>
            simp only [Bool.false_eq_true, if_false] at w3 ⊢
            exact ⟨M6, U6, Ev.hide own1 r5, ac, us, w5.hideW ew1 hio1, w6, w3⟩
    · have ej : j = ys.length := by omega
      subst ej
      rw [List.drop_length] at w3
      simp only [loopAcc, R.ok.injEq] at w3
      obtain ⟨rfl, rfl⟩ := w3
      exact .inl ⟨walk1.stops Hj hGj, Mj, Uj, Ev.hide own rj, ac, us, w1.hideW (by rw [wipe_sub s' hsub, ew]) hio, q7⟩
  · have e : i = xs.length := by omega
    subst e
    rw [List.drop_length] at q7
    simp only [loopAcc, R.ok.injEq] at q7
    obtain ⟨rfl, rfl⟩ := q7
    refine .inl ⟨walk.stops Hc hGc, ?_⟩
    have rb : Rep G Hc Mi Ui s (Ev.back r0 own ri) := rp1.back hh (q1.st.stay rp1.sub) q1.rp
    have sb : ∀ b, plus (minus Mi Dn) Dn b → Mi b := fun b h => h.elim (fun z => by rw [z]; exact q1.mD) fun h => h.1
    have um : ∀ b, Ui b → minus Mi Dn b := fun b h => ⟨rb.sub b h, fun z => q1.nU (by rw [← z]; exact h)⟩
    refine f1 Hc (minus Mi Dn) Ui ⟨q1.st.rd, fun a h => q1.st.new a h.1, q1.st.own, fun a h1 h2 => ⟨q1.st.kp a h1 h2, fun z => rp1.all a h1 (by rw [z]; exact hD)⟩, q1.st.al⟩ (rb.shrink (fun _ h => h.1) um) (.ref Dn) ?_
    exact ⟨Dn, vs, acc, rfl, rfl, q1.hD, fun h => h.2 rfl, .inr (rp1.old Dn hD), q1.is.stay (stay_mono sb), rb.shrink sb fun b h => .inr (um b h)⟩
end
end Ev

/-! two fors, list(range), a display that is looked up at once -/
namespace Ev
open PySem L2
section
variable {X : Cx} {c : Sc} {G : Ct} {W : WX} {C : Cfg} {T : Nm}
theorem snd_comp2 (o : Ok X c G W C T) {own own1 : List Nat} {elt : E} {t t1 : Tg} {it it1 : Ev.It} {ifs : Option E} {e tg iter tg1 iter1 : Expr} {cs : List Expr} {scope : Scope} {p : Pos} (hb : blkB c scope own = true) (hi : PI X tg iter (tW G W C it)) (ht : tgIn own t = true)
    (hg : ∀ (s : Shared) (H : Hp) (A : Addr) (cl : List (Str × Addr)) (fp : List Addr), PG (X.blk s H scope (compEnvC scope cl A X.env) fp) tg (tT G t))
    (hi1 : ∀ (s : Shared) (H : Hp) (A : Addr) (cl : List (Str × Addr)) (fp : List Addr), PI (X.blk s H scope (compEnvC scope cl A X.env) fp) tg1 iter1 (tW G noW C it1))
    (ht1 : tgIn own1 t1 = true) (hsub : ∀ i ∈ own1, i ∈ own)
    (hg1 : ∀ (s : Shared) (H : Hp) (A : Addr) (cl : List (Str × Addr)) (fp : List Addr), PG (X.blk s H scope (compEnvC scope cl A X.env) fp) tg1 (tT G t1))
    (hc : ∀ (s : Shared) (H : Hp) (A : Addr) (cl : List (Str × Addr)) (fp : List Addr), PTs (X.blk s H scope (compEnvC scope cl A X.env) fp) cs (tIfs G C ifs))
    (he : ∀ (s : Shared) (H : Hp) (A : Addr) (cl : List (Str × Addr)) (fp : List Addr), PE (X.blk s H scope (compEnvC scope cl A X.env) fp) e (tX G noW C elt)) (hp : plainE iter = true) (hp1 : plainE iter1 = true) :
    PE X (.ListComp e [⟨tg, iter, [], 0⟩, ⟨tg1, iter1, cs, 0⟩] scope p) (tX G W C (.comp2 own own1 elt t it t1 it1 ifs)) ∧
      ∀ {i : Nat} {y : Str} {py sp : Pos}, locB c i y = true → PS X (.Assign [.Name y py] (.ListComp e [⟨tg, iter, [], 0⟩, ⟨tg1, iter1, cs, 0⟩] scope p) sp) (tAsg (tX G W C (.comp2 own own1 elt t it t1 it1 ifs)) (gName i)) := by
  obtain ⟨bk, hmap⟩ := blk_ok o hb
  have hs : ∀ x, foldedSetIterable iter X.env x = pure x := fun x => by cases iter <;> first | rfl | cases hp
  have hs1 : ∀ env x, foldedSetIterable iter1 env x = pure x := fun env x => by cases iter1 <;> first | rfl | cases hp1
  have hv : ∀ i ∈ own1, i ∈ (ownNames c own).map (·.2) := by rw [hmap]; exact hsub
  have pe : PE X (.ListComp e [⟨tg, iter, [], 0⟩, ⟨tg1, iter1, cs, 0⟩] scope p) (tX G W C (.comp2 own own1 elt t it t1 it1 ifs)) := by
    refine pe_mono (pe_lc2 o.calm o.nd hi bk hv hg (fun s H A cl fp => pts_nil) hi1 hg1 hc (fun s H A cl fp => pe_v (he s H A cl fp)) hs hs1) fun s H Q q => ?_
    rw [hmap]
    exact comp2_use o ht ht1 hsub q
  refine ⟨pe, fun {i y py sp} hy => ?_⟩
  obtain ⟨h1, h2, h3⟩ := o.loc hy
  cases hw : (X.env.scope.names.lookup y == some .local && py.line == p.line && !(scope.names.any fun (n, k) => n == y && (k == .local || k == .cell))) with
  | true =>
    simp only [Bool.and_eq_true, beq_iff_eq, Bool.not_eq_true'] at hw
    have sw := sw_true (elt := e) (gs := [⟨tg, iter, [], 0⟩, ⟨tg1, iter1, cs, 0⟩]) (scope := scope) (pos := p) (py := py) (y := y) (l := sp.line) (env := X.env) (by rw [o.hs]; exact o.kd) hw.1.1 (by rw [hw.1.2]; simp) hw.2
    refine ps_mono (ps_setLc2 o.calm o.nd h1 hw.1.1 sw hi bk hv hg (fun s H A cl fp => pts_nil) hi1 hg1 hc (fun s H A cl fp => pe_v (he s H A cl fp)) hs hs1) fun D s H q => ?_
    show tLc2 _ _ _ _ _ _ _ _ _ s H _
    rw [hmap]
    exact comp2_use o ht ht1 hsub q
  | false =>
    have sw : swapsWith (.ListComp e [⟨tg, iter, [], 0⟩, ⟨tg1, iter1, cs, 0⟩] scope p) (some (.Name y py)) sp.line X.env = pure false := by
      have hb' : X.env.blockKind = .function := by
        unfold Env.blockKind
        rw [show X.env.scope.kind = .function from by rw [o.hs]; exact o.kd]
        rfl
      unfold swapsWith
      have hw' : (X.env.kindOf y == some .local && py.line == p.line && !(scope.names.any fun (n, k) => n == y && (k == .local || k == .cell))) = false := hw
      simp only [hb', Expr.pos, beq_self_eq_true, Bool.true_and, hw']
    exact ps_set o.nd h1 h2 pe sw h3
/-! ### list(range(n)) -/
theorem rg_data {K : PySem.W.Frag} {H : Hp} {M : AP} {a b : Int} : IsDs K H M (rgV a b) (rangeD a b) := by
  unfold rgV rangeD
  generalize List.range (b - a).toNat = ks
  induction ks with
  | nil => exact .nil
  | cons k ks ih => exact .cons _ _ _ _ (.int _) ih
theorem snd_lrg (o : Ok X c G W C T) {a : E} {f g : Str} {x : Expr} {p p2 p3 p4 : Pos} (hf : (f == ("list" : Str)) = true) (hgf : glB c f = true) (hg : (g == ("range" : Str)) = true) (hgg : glB c g = true) (h : PE X x (tX G W C a)) (hp : plainE x = true) :
    PE X (.Call (.Name f p) [.Call (.Name g p2) [x] [] p3] [] p4) (tX G W C (.lrg a)) := by
  have ef := eq_of_beq hf
  have eg := eq_of_beq hg
  subst ef eg
  refine pe_mono (pe_listRg o.calm (o.gl hgf).1 (o.bt (by decide +kernel)) (prg_1 (o.gl hgg).1 (o.bt (by decide +kernel)) (pe_v h) (star_plain hp _ _))) fun s H Q ⟨M, U, r, rp, f⟩ => ?_
  have f : Fin G W s H M U ((evX C a r).bind fun x r => match x.1 with | .int i => if -big ≤ i ∧ i ≤ 65536 then Ev.R.ok (D.lst (rangeD 0 i), true) r else .bad | _ => .bad) _ := f
  refine ⟨M, U, r, rp, (f.bind rp.all).mono fun d r1 H1 M1 U1 st1 rp1 f1 v hv => ?_⟩
  obtain ⟨d, fr⟩ := d
  cases hv with
  | int i =>
    by_cases hb : -big ≤ i ∧ i ≤ 65536
    · simp only [if_pos hb] at f1
      refine ⟨i, rfl, ⟨by decide, by decide, ?_, ?_, ?_⟩, fun q hq => fin_new rp1 f1 (new_lst rg_data hq)⟩
      · have := hb.1
        unfold big at this
        omega
      · omega
      · omega
    · simp only [if_neg hb] at f1
      exact f1.elim
  | _ => exact f1.elim
/-! ### sorted(set(x)), len(set(x)) -/
theorem Pairs.stay {K : PySem.W.Frag} {H H' : Hp} {M M' : AP} (st : Stay M H M' H') : ∀ {ks : Tb.Mem} {ds : List D}, Pairs K H M ks ds → Pairs K H' M' ks ds
  | _, _, .nil => .nil
  | _, _, .cons a ks d ds h t => .cons a ks d ds (h.stay st) (t.stay st)
theorem set_use (o : Ok X c G W C T) {a : E} {s : St} {H : Hp} {M U : AP} {r : Env} {g : D → Option (D × Bool)} {Q : VK} {F : List D → Option (D × Bool)} (hg : ∀ x y, g x = some y → ∃ xs, seqOf x = some xs ∧ setOk xs = true ∧ F xs = some y) (rp : Rep G H M U s r)
    (f : Fin G W s H M U ((opOf a r (evX C a r)).bind fun x r => match x.get r with
      | some x => lift (g x) r
      | none => .bad) fun x r' H' M' U' => ∀ v, IsV G s r' H' M' U' v x.1 x.2 → Q v H') {R : List V → Hp → Prop}
    (hR : ∀ v H1 M1 U1 r1 xs d fr, Rep G H1 M1 U1 s r1 → IsSet G X.w H1 M1 v xs → F xs = some (d, fr) → (∀ v H', New G.K H1 H' M1 v d fr → Q v H') → R [v] H1) :
    tCB (rSetN G X.w) (tCons (tO G W C a) tNil) s H fun v H1 => R [v] H1 := by
  refine ⟨M, U, r, rp, (f.bind rp.all).mono fun o1 r1 H1 M1 U1 st1 rp1 f1 v hv => ?_⟩
  cases e0 : o1.get r1 with
  | none =>
    simp only [e0] at f1
    exact f1.elim
  | some x =>
    simp only [e0] at f1
    obtain ⟨⟨d, fr⟩, e1, f1⟩ := fin_lift f1
    obtain ⟨xs, e2, e3, e4⟩ := hg x _ e1
    refine ⟨M1, x, xs, rp1.all, .cons v [] x [] (hv.get rp1 e0) .nil, e2, e3, fun p L ks hp kp nd sub all => ?_⟩
    have sm : Same H1 (upd H1 p (SetH X.w p L)) := same_upd hp
    refine hR (.ref p) _ M1 U1 r1 xs d fr (rp1.same sm) ⟨e3, p, L, ks, rfl, upd_same, kp.stay (same_stay M1 sm), nd, sub, all⟩ e4 fun v H' n => ?_
    exact fin_new (rp1.same sm) (Fin.step (x := .ok (d, fr) r1) rp1.all f1 (same_step M1 U1 sm)) n
theorem snd_sset (o : Ok X c G W C T) {a : E} {f g : Str} {x : Expr} {p p2 p3 p4 : Pos} (hf : (f == ("sorted" : Str)) = true) (hgf : glB c f = true) (hg : (g == ("set" : Str)) = true) (hgg : glB c g = true) (h : PE X x (tO G W C a)) (hp : plainE x = true) :
    PE X (.Call (.Name f p) [.Call (.Name g p2) [x] [] p3] [] p4) (tX G W C (.sset a)) := by
  have ef := eq_of_beq hf
  have eg := eq_of_beq hg
  subst ef eg
  obtain ⟨g1, g2, g3⟩ := o.gl hgf
  obtain ⟨k1, k2, k3⟩ := o.gl hgg
  have inner := pe_callTy (p := p2) (pos := p3) (ok_set G o.hK o.calm o.un) k1 (o.bt (by decide +kernel)) (by decide +kernel) (pa_cons h pa_nil (star_plain hp _ _)) k3 k2 (star_plain hp _ _) rfl
  refine pe_mono (pe_callB (ok_sortedSet G o.hK o.calm o.un) g1 (o.bt (by decide +kernel)) (by decide +kernel) (pa_cons inner pa_nil rfl) g3 g2 rfl rfl) fun s H Q ⟨M, U, r, rp, q⟩ => ?_
  refine set_use o (g := ssetD) (F := fun xs => sortG (dedupD xs)) (R := fun vs H => ∃ M v xs d fr, vs = [v] ∧ (∀ c, M c → H c ≠ none) ∧ IsSet G X.w H M v xs ∧ sortG (dedupD xs) = some (d, fr) ∧ ∀ v H', New G.K H H' M v d fr → Q v H') (fun x y e => ?_) rp q fun v H1 M1 U1 r1 xs d fr rp1 st e n => ⟨M1, v, xs, d, fr, rfl, rp1.all, st, e, n⟩
  unfold ssetD at e
  split at e
  · rename_i xs ex
    split at e
    · exact ⟨xs, ex, by assumption, e⟩
    · cases e
  · cases e
theorem snd_lset (o : Ok X c G W C T) {a : E} {f g : Str} {x : Expr} {p p2 p3 p4 : Pos} (hf : (f == ("len" : Str)) = true) (hgf : glB c f = true) (hg : (g == ("set" : Str)) = true) (hgg : glB c g = true) (h : PE X x (tO G W C a)) (hp : plainE x = true) :
    PE X (.Call (.Name f p) [.Call (.Name g p2) [x] [] p3] [] p4) (tX G W C (.lset a)) := by
  have ef := eq_of_beq hf
  have eg := eq_of_beq hg
  subst ef eg
  obtain ⟨g1, g2, g3⟩ := o.gl hgf
  obtain ⟨k1, k2, k3⟩ := o.gl hgg
  have inner := pe_callTy (p := p2) (pos := p3) (ok_set G o.hK o.calm o.un) k1 (o.bt (by decide +kernel)) (by decide +kernel) (pa_cons h pa_nil (star_plain hp _ _)) k3 k2 (star_plain hp _ _) rfl
  refine pe_mono (pe_callB (ok_lenSet G o.hK) g1 (o.bt (by decide +kernel)) (by decide +kernel) (pa_cons inner pa_nil rfl) g3 g2 rfl rfl) fun s H Q ⟨M, U, r, rp, q⟩ => ?_
  refine set_use o (g := lsetD) (F := fun xs => some (.int (dedupD xs).length, false)) (R := fun vs H => ∃ M v xs, vs = [v] ∧ IsSet G X.w H M v xs ∧ Q (.int (dedupD xs).length) H) (fun x y e => ?_) rp q fun v H1 M1 U1 r1 xs d fr rp1 st e n => ?_
  · unfold lsetD at e
    split at e
    · rename_i xs ex
      split at e
      · exact ⟨xs, ex, by assumption, e⟩
      · cases e
    · cases e
  · cases e
    exact ⟨M1, v, xs, rfl, st, n _ _ (new_val (.int _))⟩
/-! ### {1: a, 2: b}[x] -/
def tDps (G : Ct) (W : WX) (C : Cfg) : List Int → List E → List (TE × TE)
  | k :: ks, v :: vs => (tC (.int k), tX G W C v) :: tDps G W C ks vs
  | _, _ => []
def pairV : List Int → List V → List (Key × V)
  | k :: ks, v :: vs => (.inl k, v) :: pairV ks vs
  | _, _ => []
theorem pairs_use {p : Addr} {o : HO} : ∀ {ks : List Int} {vs : List E} {s : St} {H : Hp} {M U : AP} {r : Env} {k : List D → Env → Hp → AP → AP → Prop} {Q : List (V × V) → Hp → Prop}, ks.length = vs.length → Rep G H M U s r → M p → ¬ U p → H p = some o → Fin G W s H M U (evEs C vs r) k →
    (∀ us ds r' H' M' U', Rep G H' M' U' s r' → M' p → ¬ U' p → H' p = some o → IsDs G.K H' M' us ds → k ds r' H' M' U' → ks.length = us.length → Q ((pairV ks us).map fun kv => (kV kv.1, kv.2)) H') → tPairs (tDps G W C ks vs) s H Q
  | [], [], s, H, M, U, r, k, Q, _, rp, mp, up, hp, f, q => q [] [] r H M U rp mp up hp .nil (fin_here rp f) rfl
  | [], _ :: _, _, _, _, _, _, _, _, e, _, _, _, _, _, _ => by cases e
  | _ :: _, [], _, _, _, _, _, _, _, e, _, _, _, _, _, _ => by cases e
  | i :: ks, v :: vs, s, H, M, U, r, k, Q, e, rp, mp, up, hp, f, q => by
    have f : Fin G W s H M U ((evX C v r).bind fun d r => (evEs C vs r).map (d.1 :: ·)) k := f
    refine ⟨M, U, r, rp, (f.bind rp.all).mono fun d r1 H1 M1 U1 st1 rp1 f1 u hu => ?_⟩
    have up1 : ¬ U1 p := fun z => (st1.own p z).elim up fun z => by rw [hp] at z; cases z
    have f2 : Fin G W s H1 M1 U1 (evEs C vs r1) fun ds r2 H2 M2 U2 => IsD G.K H2 M2 u d.1 ∧ k (d.1 :: ds) r2 H2 M2 U2 := (Fin.map f1).mono fun ds r2 H2 M2 U2 st2 rp2 z => ⟨hu.isD.stay (st2.stay rp1.sub), z⟩
    refine pairs_use (by simpa using e) rp1 (st1.kp p mp up) up1 (st1.rd p _ up hp) f2 fun us ds r2 H2 M2 U2 rp2 mp2 up2 hp2 is z el => ?_
    · obtain ⟨z1, z2⟩ := z
      exact q (u :: us) (d.1 :: ds) r2 H2 M2 U2 rp2 mp2 up2 hp2 (.cons _ _ _ _ z1 is) z2 (by simp [el])
theorem keys_pairV : ∀ (ks : List Int) (vs : List V), ks.length = vs.length → (pairV ks vs).map (·.1) = ks.map Sum.inl
  | [], [], _ => rfl
  | [], _ :: _, e => by cases e
  | _ :: _, [], e => by cases e
  | k :: ks, v :: vs, e => by
    simp only [pairV, List.map_cons, keys_pairV ks vs (by simpa using e)]
theorem valV_none {kvs : List (Key × V)} {k : Key} (h : k ∉ kvs.map (·.1)) : valV kvs k = none := by
  induction kvs with
  | nil => rfl
  | cons p r ih =>
    simp only [List.map_cons, List.mem_cons, not_or] at h
    rw [valV_neg (fun z => h.1 z.symm), ih h.2]
theorem merge_new : ∀ (more kvs : List (Key × V)), (kvs.map (·.1) ++ more.map (·.1)).Nodup → mergeK kvs more = kvs ++ more
  | [], kvs, _ => by simp [mergeK]
  | p :: more, kvs, h => by
    have hn : p.1 ∉ kvs.map (·.1) := by
      intro z
      rw [List.nodup_append] at h
      exact h.2.2 p.1 z p.1 (by simp) rfl
    show mergeK (putK kvs p.1 p.2) more = _
    rw [putK_new _ (valV_none hn), merge_new more (kvs ++ [(p.1, p.2)]) (by simpa using h)]
    simp
theorem look_val {K : PySem.W.Frag} {H : Hp} {M : AP} {i : Int} {d : D} : ∀ {ks : List Int} {us : List V} {ds : List D}, IsDs K H M us ds → lookI ks ds i = some d → ∃ v, valV (pairV ks us) (.inl i) = some v ∧ IsD K H M v d
  | [], _, _, _, e => by
    unfold lookI at e
    cases e
  | k :: ks, _, _, .nil, e => by
    unfold lookI at e
    cases e
  | k :: ks, _, _, .cons u us x ds h t, e => by
    simp only [lookI] at e
    by_cases hk : k = i
    · rw [if_pos hk] at e
      cases e
      exact ⟨u, valV_pos (by show Sum.inl k = _; rw [hk]), h⟩
    · rw [if_neg hk] at e
      obtain ⟨v, h1, h2⟩ := look_val t e
      exact ⟨v, by rw [pairV, valV_neg (fun z => hk (Sum.inl.inj z))]; exact h1, h2⟩
theorem length_pairV : ∀ (ks : List Int) (vs : List V), (pairV ks vs).length ≤ ks.length
  | [], _ => Nat.le_refl _
  | _ :: _, [] => Nat.zero_le _
  | _ :: ks, _ :: vs => Nat.succ_le_succ (length_pairV ks vs)
theorem nd_inl : ∀ {ks : List Int}, ks.Nodup → (ks.map (Sum.inl : Int → Key)).Nodup
  | [], _ => List.nodup_nil
  | k :: ks, h => by
    rw [List.nodup_cons] at h
    rw [List.map_cons, List.nodup_cons]
    refine ⟨fun z => ?_, nd_inl h.2⟩
    obtain ⟨j, h1, h2⟩ := List.mem_map.mp z
    cases h2
    exact h.1 h1
theorem Fin.bindB {α β : Type} {s : St} {H : Hp} {M U : AP} {x : R α} {f : α → Env → R β} {k : β → Env → Hp → AP → AP → Prop} (h : Fin G W s H M U (x.bind f) k) : Fin G W s H M U x (fun a r _ _ _ => Fin G W s H M U (f a r) k) := by
  cases x with
  | ok a r => exact fun H2 M2 U2 st rp => h
  | exc c r => exact h
  | bad => exact h
theorem snd_dsp (o : Ok X c G W C T) {ks : List Int} {vs : List E} {a : E} {keys : List (Option Expr)} {vals : List Expr} {y : Expr} {p p2 : Pos} (hk : PPs X p keys vals (tDps G W C ks vs)) (hall : keys.all (·.isSome) = true) (hl : keys.length = vals.length) (h0 : keys ≠ []) (h15 : keys.length ≤ 15) (hkl : keys.length = ks.length) (hvl : ks.length = vs.length) (nd : ks.Nodup)
    (h : PE X y (tX G W C a)) (hp : plainE y = true) : PE X (.Subscript (.Dict keys vals p) y p2) (tX G W C (.dsp ks vs a)) := by
  have ns : NoSl y := fun ov iv => by cases y <;> first | rfl | cases hp
  refine pe_mono (pe_dget (by have := o.un; omega) (pe_disp hk hall hl h0 h15) (pe_v h) ns) fun s H Q ⟨M, U, r, rp, f⟩ q hq => ?_
  have f : Fin G W s H M U ((evEs C vs r).bind fun ds r => (evX C a r).bind fun x r => match x.1 with | .int i => lift ((lookI ks ds i).map (·, false)) r | _ => .bad) _ := f
  have st0 : Step M U H (plus M q) U (upd H q (.dK [])) := ⟨fun a u _ h => same_upd hq a u h, fun a h => h.elim (fun z => .inr (by rw [z]; exact hq)) .inl, fun _ h => .inl h, fun _ h _ => .inr h, fun a h => Same.free (same_upd hq) h⟩
  have rp0 := rp.plus (o := .dK []) hq
  refine pairs_use hvl rp0 (.inl rfl) (fun z => rp.all q (rp.sub q z) hq) upd_same ((f.bindB.mono fun ds r1 H1 M1 U1 st1 rp1 z => (⟨st1, z⟩ : Step M U H M1 U1 H1 ∧ Fin G W s H M U _ _)).step rp.all st0) fun us ds r1 H1 M1 U1 rp1 m1 u1 e1 is f1 el => ⟨e1, pairV ks us, rfl, ?_, ?_⟩
  · have := length_pairV ks us
    omega
  have em : mergeK [] (pairV ks us) = pairV ks us := by
    rw [merge_new _ _ (by rw [List.map_nil, List.nil_append, keys_pairV ks us el]; exact nd_inl nd)]
    rfl
  rw [em]
  have sty : Stay M1 H1 M1 (upd H1 q (.dK (pairV ks us))) := fun a u h1 h2 => ⟨h1, by rw [upd_ne (fun z => h1 (by rw [z]; exact m1))]; exact h2⟩
  have rp2 : Rep G (upd H1 q (.dK (pairV ks us))) M1 U1 s r1 := rp1.grow m1 u1 (by rw [e1]; simp)
  obtain ⟨st1, f1⟩ := f1
  have st2 : Step M U H M1 U1 (upd H1 q (.dK (pairV ks us))) := ⟨fun a u h1 h2 => by rw [upd_ne (fun z => by rw [z, hq] at h2; cases h2)]; exact st1.rd a u h1 h2, st1.new, st1.own, st1.kp, fun a h => by
    by_cases z : a = q
    · rw [z]
      exact hq
    · rw [upd_ne z] at h
      exact st1.al a h⟩
  refine ⟨M1, U1, r1, rp2, ((f1.step rp.all st2).bind rp2.all).mono fun x r3 H3 M3 U3 st3 rp3 f3 v hv => ?_⟩
  obtain ⟨x, fr⟩ := x
  cases hv with
  | int i =>
    obtain ⟨z, e, f3⟩ := fin_lift f3
    obtain ⟨d, e2, rfl⟩ := Option.map_eq_some_iff.mp e
    obtain ⟨v, e3, hv⟩ := look_val is e2
    have hd : DGet H3 q (kV (.inl i)) (valV (pairV ks us) (.inl i)) := DGet.k (st3.rd q _ u1 upd_same)
    rw [e3] at hd
    exact ⟨q, v, rfl, hd, fin_new rp3 f3 (new_val ((hv.stay sty).stay (st3.stay rp2.sub)))⟩
  | _ => exact f3.elim
section
variable {s : St} {H H' : Hp} {M U M' U' : AP} {r : Env} {α : Type}
/-- a slot's list is written -/
theorem Rep.wr {i : Nat} {xs ys : List D} {a : Addr} {ws : List V} (rp : Rep G H M U s r) (hi : r[i]? = some (.mu (.lst xs))) (ha : s[i]? = some (some (.ref a))) (hw : IsDs G.K H M ws ys) :
    Rep G (upd H a (.lst ws)) M U s (r.set i (.mu (.lst ys))) ∧ Step M U H M U (upd H a (.lst ws)) := by
  obtain ⟨b, q1, q2, vs, ds, q3, q4, q5⟩ := rp.mu i _ hi
  rw [ha] at q1
  cases q1
  have hm := rp.sub a q2
  have sty : Stay M H M (upd H a (.lst ws)) := fun b u h1 h2 => ⟨h1, by rw [upd_ne (fun z => h1 (by rw [z]; exact hm))]; exact h2⟩
  have al : ∀ b, upd H a (.lst ws) b = none → H b = none := fun b e => by
    by_cases hb : b = a
    · rw [hb, upd_same] at e
      cases e
    · rw [upd_ne hb] at e
      exact e
  have hl := (List.getElem?_eq_some_iff.mp hi).1
  refine ⟨⟨by rw [List.length_set]; exact rp.len, fun j e he => ?_, fun j e he => ?_, fun j k e g b z1 z2 z3 z4 => ?_, rp.sub, fun b h e => rp.all b h (al b e), rp.pin, fun j hj => ?_, rp.ent, fun b e => rp.old b (al b e)⟩, ⟨fun b u h1 h2 => ?_, fun _ h => .inl h, fun _ h => .inl h, fun _ h _ => h, al⟩⟩
  · by_cases hj : i = j
    · subst hj
      rw [List.getElem?_set_self hl] at he
      cases he
    · rw [List.getElem?_set_ne hj] at he
      obtain ⟨v, w1, w2⟩ := rp.val j e he
      exact ⟨v, w1, w2.stay sty⟩
  · by_cases hj : i = j
    · subst hj
      rw [List.getElem?_set_self hl] at he
      cases he
      exact ⟨a, ha, q2, ws, ys, rfl, upd_same, hw.stay sty⟩
    · rw [List.getElem?_set_ne hj] at he
      obtain ⟨b, w1, w2, us, fs, w3, w4, w5⟩ := rp.mu j e he
      refine ⟨b, w1, w2, us, fs, w3, ?_, w5.stay sty⟩
      rw [upd_ne (fun z => by subst z; exact hj (rp.inj i j _ e b hi he ha w1))]
      exact w4
  · have back : ∀ {j : Nat} {e : D}, (r.set i (.mu (.lst ys)))[j]? = some (.mu e) → ∃ e', r[j]? = some (.mu e') := fun {j e} h => by
      by_cases hj : i = j
      · subst hj
        exact ⟨_, hi⟩
      · rw [List.getElem?_set_ne hj] at h
        exact ⟨e, h⟩
    obtain ⟨e1, y1⟩ := back z1
    obtain ⟨e2, y2⟩ := back z2
    exact rp.inj j k e1 e2 b y1 y2 z3 z4
  · obtain ⟨e, he⟩ := rp.pmu j hj
    by_cases hij : i = j
    · subst hij
      exact ⟨_, List.getElem?_set_self hl⟩
    · exact ⟨e, by rw [List.getElem?_set_ne hij]; exact he⟩
  · rw [upd_ne (fun z => h1 (by rw [z]; exact q2))]
    exact h2
theorem mu_at {i : Nat} {d : D} (rp : Rep G H M U s r) (hi : getM r i = some d) : ∃ a vs ds, s[i]? = some (some (.ref a)) ∧ d = .lst ds ∧ H a = some (.lst vs) ∧ IsDs G.K H M vs ds := by
  obtain ⟨a, q1, q2, vs, ds, q3, q4, q5⟩ := rp.mu i d (getM_some hi)
  exact ⟨a, vs, ds, q1, q3, q4, q5⟩
end
/-! ### a table of the module, its keys texts -/
theorem tabI_some {o : Option D} {x : D} {z : D × Bool} (h : tabI o x = some z) {kvs : List (D × D)} (ho : o = some (.dic kvs)) : ∃ s d, x = .str s ∧ lookC kvs s = some (some d) ∧ z = (d, false) := by
  subst ho
  cases x with
  | str s =>
    have h : (match lookC kvs s with | some (some d) => some (d, false) | _ => none) = some z := h
    cases e : lookC kvs s with
    | none => rw [e] at h; cases h
    | some q =>
      cases q with
      | none => rw [e] at h; cases h
      | some d =>
        rw [e] at h
        cases h
        exact ⟨s, d, rfl, e, rfl⟩
  | _ => cases h
theorem tabC_some {o : Option D} {x : D} {z : Bool} (h : tabC o x = some z) {kvs : List (D × D)} (ho : o = some (.dic kvs)) : ∃ s q, x = .str s ∧ lookC kvs s = some q ∧ z = q.isSome := by
  subst ho
  cases x with
  | str s =>
    obtain ⟨q, e1, e2⟩ := Option.map_eq_some_iff.mp (show (lookC kvs s).map Option.isSome = some z from h)
    exact ⟨s, q, rfl, e1, e2.symm⟩
  | _ => cases h
theorem isD_str {K : PySem.W.Frag} {H : Hp} {M : AP} {v : V} {s : List Nat} (h : IsD K H M v (.str s)) : v = .str (sv s) := by
  cases h
  rfl
theorem snd_gd (o : Ok X c G W C T) {n x : Str} {a : E} {y : Expr} {p p2 : Pos} (h : (x == n && glB c x && T.dnm x) = true) (h2 : PE X y (tX G W C a)) (hp : plainE y = true) : PE X (.Subscript (.Name x p) y p2) (tX G W C (.gd n a)) := by
  simp only [Bool.and_eq_true, beq_iff_eq] at h
  obtain ⟨⟨rfl, h⟩, hgn⟩ := h
  obtain ⟨g1, g2, g3⟩ := o.gl h
  have pl : PlainIx y := fun v w => by cases y <;> first | rfl | cases hp
  obtain ⟨kvs, q, es, m, e1, e2, KD, tb⟩ := o.dct x hgn
  refine pe_mono (pe_ix ix_kdict (pe_glob (v := .ref q) g1 e2 rfl g2) (pe_v h2) pl) fun s H Q ⟨M, U, r, rp, f⟩ => ?_
  have f : Fin G W s H M U ((evX C a r).bind fun y r => lift (tabI (C.glb x) y.1) r) _ := f
  refine ⟨M, U, r, rp, (f.bind rp.all).mono fun d r1 H1 M1 U1 st1 rp1 f1 v hv => ?_⟩
  obtain ⟨z, e, f2⟩ := fin_lift f1
  obtain ⟨k, d1, k1, k2, k3⟩ := tabI_some e e1
  subst k3
  rw [k1] at hv
  obtain rfl := isD_str hv
  obtain ⟨u, v1, w1, w2, w3⟩ := tb k _ k2
  exact ⟨q, sv k, v1, rfl, rfl, ⟨es, m, u, KD.at_, KD.lit, w1, w2⟩, fin_new rp1 f2 (new_val (by rw [← o.hK]; exact w3 _ _))⟩
theorem snd_gc (o : Ok X c G W C T) {n x : Str} {a : E} {y : Expr} {p p2 : Pos} (h : (x == n && glB c x && T.dnm x) = true) (h2 : PE X y (tX G W C a)) : PE X (.Compare y [.In] [.Name x p] p2) (tX G W C (.gc n a)) := by
  simp only [Bool.and_eq_true, beq_iff_eq] at h
  obtain ⟨⟨rfl, h⟩, hgn⟩ := h
  obtain ⟨g1, g2, g3⟩ := o.gl h
  obtain ⟨kvs, q, es, m, e1, e2, KD, tb⟩ := o.dct x hgn
  refine pe_mono (pe_cmpR (op_in_kd KD) (pe_v h2) (pe_glob (v := .ref q) g1 e2 rfl g2) rfl) fun s H Q ⟨M, U, r, rp, f⟩ => ?_
  have f : Fin G W s H M U ((evX C a r).bind fun y r => lift ((tabC (C.glb x) y.1).map (D.bl ·, false)) r) _ := f
  refine ⟨M, U, r, rp, (f.bind rp.all).mono fun d r1 H1 M1 U1 st1 rp1 f1 v hv => ?_⟩
  obtain ⟨z, e, f2⟩ := fin_lift f1
  obtain ⟨b, e3, e4⟩ := Option.map_eq_some_iff.mp e
  subst e4
  obtain ⟨k, d1, k1, k2, k3⟩ := tabC_some e3 e1
  subst k3
  rw [k1] at hv
  obtain rfl := isD_str hv
  have w := tb k _ k2
  cases d1 with
  | none => exact ⟨sv k, none, rfl, rfl, w, fin_new rp1 f2 (new_val (.bl _))⟩
  | some d1 =>
    obtain ⟨u, v1, w1, w2, w3⟩ := w
    exact ⟨sv k, some u, rfl, rfl, w1, fin_new rp1 f2 (new_val (.bl _))⟩
theorem snt_gc (o : Ok X c G W C T) {n x : Str} {a : E} {y : Expr} {p p2 : Pos} (h : (x == n && glB c x && T.dnm x) = true) (h2 : PE X y (tX G W C a)) : PT X (.Compare y [.In] [.Name x p] p2) (tTe G W C (.gc n a)) := by
  simp only [Bool.and_eq_true, beq_iff_eq] at h
  obtain ⟨⟨rfl, h⟩, hgn⟩ := h
  obtain ⟨g1, g2, g3⟩ := o.gl h
  obtain ⟨kvs, q, es, m, e1, e2, KD, tb⟩ := o.dct x hgn
  refine pt_mono (pt_cmpR (op_in_kd KD) (pe_v h2) (pe_glob (v := .ref q) g1 e2 rfl g2) rfl) fun s H Q ⟨M, U, r, rp, f⟩ => ?_
  have f : Fin G W s H M U ((evX C a r).bind fun y r => lift (tabC (C.glb x) y.1) r) _ := f
  refine ⟨M, U, r, rp, (f.bind rp.all).mono fun d r1 H1 M1 U1 st1 rp1 f1 v hv => ?_⟩
  obtain ⟨b, e3, f2⟩ := fin_lift f1
  obtain ⟨k, d1, k1, k2, k3⟩ := tabC_some e3 e1
  subst k3
  rw [k1] at hv
  obtain rfl := isD_str hv
  have w := tb k _ k2
  cases d1 with
  | none => exact ⟨sv k, none, rfl, rfl, w, _, rfl, fin_here rp1 f2⟩
  | some d1 =>
    obtain ⟨u, v1, w1, w2, w3⟩ := w
    exact ⟨sv k, some u, rfl, rfl, w1, _, rfl, fin_here rp1 f2⟩
/-! ### more walks -/
theorem down_data {K : PySem.W.Frag} {H : Hp} {M : AP} (i j : Int) : Wk K (Itc i (-1) (i - j).toNat) M H (downD i j) := by
  have hl : (downD i j).length = (i - j).toNat := by simp [downD]
  refine ⟨fun _ => True, YFn fun k => .int (i + (k : Nat) * (-1)), by rw [hl]; exact walk_rangeC, fun _ _ _ => trivial, fun k Hc x H' M' hk y st _ => ?_⟩
  obtain ⟨rfl, rfl⟩ := y
  rw [hl] at hk
  refine ⟨Same.refl _, .int (i + (k : Nat) * (-1)), ?_, .int _⟩
  unfold downD
  rw [List.getElem?_map, List.getElem?_range hk]
  rfl
theorem snd_r3 (o : Ok X c G W C T) {a b d : E} {f : Str} {x y z tg : Expr} {p p2 : Pos} (hf : (f == ("range" : Str)) = true) (hg : glB c f = true) (h : PE X x (tX G W C a)) (hp : plainE x = true) (h2 : PE X y (tX G W C b)) (hp2 : plainE y = true) (h3 : PE X z (tX G W C d)) (hp3 : plainE z = true) : PI X tg (.Call (.Name f p2) [x, y, z] [] p) (tW G W C (.r3 a b d)) := by
  have ef := eq_of_beq hf
  subst ef
  refine pi_mono (pi_range3 (o.gl hg).1 (o.bt (by decide +kernel)) (pa_cons (pe_v h) (pa_cons (pe_v h2) (pa_cons (pe_v h3) pa_nil (star_plain hp3 _ _)) (star_plain hp2 _ _)) (star_plain hp _ _)) (star_plain hp _ _) (by rw [star_plain hp2, star_plain hp3]; rfl)) fun s H Rr ⟨M, U, r, rp, q⟩ => ?_
  have q : Fin G W s H M U ((evX C a r).bind fun x r => (evX C b r).bind fun y r => (evX C d r).bind fun z r => match x.1, y.1, z.1 with
    | .int i, .int j, .int k => if -big ≤ i ∧ i < big ∧ -big ≤ j ∧ j < big ∧ k = -1 then Ev.R.ok (downD i j) r else .bad
    | _, _, _ => .bad) _ := q
  refine ⟨M, U, r, rp, (q.bind rp.all).mono fun d1 r1 H1 M1 U1 st1 rp1 f1 v hv => ⟨M1, U1, r1, rp1, (f1.bind rp1.all).mono fun d2 r2 H2 M2 U2 st2 rp2 f2 w hw => ⟨M2, U2, r2, rp2, (f2.bind rp2.all).mono fun d3 r3 H3 M3 U3 st3 rp3 f3 u hu => ?_⟩⟩⟩
  obtain ⟨d1, b1⟩ := d1
  obtain ⟨d2, b2⟩ := d2
  obtain ⟨d3, b3⟩ := d3
  cases hv with
  | int i =>
    cases hw with
    | int j =>
      cases hu with
      | int k =>
        by_cases hb : -big ≤ i ∧ i < big ∧ -big ≤ j ∧ j < big ∧ k = -1
        · simp only [if_pos hb] at f3
          obtain ⟨b1, b2, b3, b4, rfl⟩ := hb
          rw [← big_eq] at b1 b2 b3 b4
          exact ⟨i, j, -1, _, rfl, RgC.neg b1 b2 b3 b4, fin_here rp3 f3 _ (down_data i j)⟩
        · simp only [if_neg hb] at f3
          exact f3.elim
      | _ => exact f3.elim
    | _ => exact f3.elim
  | _ => exact f3.elim
theorem pair_wk {K : PySem.W.Frag} {J : L2.It} {M : AP} {H : Hp} {us vs : List V} {xs ys : List D} {n : Nat} {Gd : Hp → Prop} {fa fb : Nat → Option V} (w : Walk J n Gd (YPair fa fb)) (gd : ∀ M' H', Stay M H M' H' → Gd H') (hn : n ≤ xs.length) (hn2 : n ≤ ys.length)
    (ha : ∀ i Hc M', i < n → Stay M H M' Hc → ∀ x, fa i = some x → ∃ d, xs[i]? = some d ∧ IsD K Hc M' x d) (hb : ∀ i Hc M', i < n → Stay M H M' Hc → ∀ x, fb i = some x → ∃ d, ys[i]? = some d ∧ IsD K Hc M' x d) :
    Wk K J M H ((List.range n).map fun i => D.tup [xs[i]?.getD .non, ys[i]?.getD .non]) := by
  have hl : ((List.range n).map fun i => D.tup [xs[i]?.getD .non, ys[i]?.getD .non]).length = n := by simp
  refine ⟨Gd, YPair fa fb, by rw [hl]; exact w, gd, fun i Hc x H' M' hi y st hm => ?_⟩
  rw [hl] at hi
  obtain ⟨T, x1, y1, rfl, e1, rfl, e2, e3⟩ := y
  obtain ⟨d1, k1, k2⟩ := ha i Hc M' hi st x1 e2
  obtain ⟨d2, k3, k4⟩ := hb i Hc M' hi st y1 e3
  have nw := new_tup (M := M') hm (.cons _ _ _ _ k2 (.cons _ _ _ _ k4 .nil)) e1
  refine ⟨nw.1, .tup [d1, d2], ?_, nw.2⟩
  rw [List.getElem?_map, List.getElem?_range hi]
  simp [k1, k3]
theorem enum_eq (ds : List D) : (List.range ds.length).map (fun i => D.tup [((List.range ds.length).map fun k : Nat => D.int k)[i]?.getD .non, ds[i]?.getD .non]) = enumD ds := by
  unfold enumD
  refine List.ext_getElem? fun i => ?_
  by_cases hi : i < ds.length
  · have hz : ((List.range ds.length).zip ds)[i]? = some (i, ds[i]) := List.getElem?_zip_eq_some.mpr ⟨List.getElem?_range hi, List.getElem?_eq_getElem hi⟩
    rw [List.getElem?_map, List.getElem?_map, List.getElem?_range hi, hz]
    simp [hi]
  · rw [List.getElem?_eq_none (by simp; omega), List.getElem?_eq_none (by simp; omega)]
theorem wk_en {K : PySem.W.Frag} {J : L2.It} {M : AP} {H : Hp} {vs : List V} {ds : List D} {Gd : Hp → Prop} (g : IsDs K H M vs ds) (w : Walk J vs.length Gd (YPair (fun i => some (.int (i : Nat))) (fun i => vs[i]?))) (gd : ∀ M' H', Stay M H M' H' → Gd H') : Wk K J M H (enumD ds) := by
  rw [← enum_eq]
  have hl := g.length
  rw [hl] at w
  refine pair_wk (us := vs) (vs := vs) w gd (by simp) (Nat.le_refl _) (fun i Hc M' hi st x e => ?_) fun i Hc M' hi st x e => (g.stay st).getV e
  cases e
  exact ⟨.int (i : Nat), by rw [List.getElem?_map, List.getElem?_range hi]; rfl, .int _⟩
theorem snd_en (o : Ok X c G W C T) {a : E} {f : Str} {x tg : Expr} {p p2 : Pos} (hf : (f == ("enumerate" : Str)) = true) (hg : glB c f = true) (h : PE X x (tX G W C a)) (hp : plainE x = true) (ht : isTupE tg = true) : PI X tg (.Call (.Name f p2) [x] [] p) (tW G W C (.en a)) := by
  have ef := eq_of_beq hf
  subst ef
  obtain ⟨es, kk, tp, rfl⟩ : ∃ es k p, tg = .Tuple es k p := by cases tg <;> first | exact ⟨_, _, _, rfl⟩ | cases ht
  refine pi_mono (En.pi_any (o.gl hg).1 (o.bt (by decide +kernel)) (pa_cons (pe_v h) pa_nil (star_plain hp _ _)) (star_plain hp _ _)) fun s H Rr ⟨M, U, r, rp, q⟩ => ?_
  have q : Fin G W s H M U ((evX C a r).bind fun x r => match x.1 with
    | .lst xs => Ev.R.ok (enumD xs) r
    | .tup xs => .ok (enumD xs) r
    | _ => .bad) _ := q
  refine ⟨M, U, r, rp, (q.bind rp.all).mono fun d r1 H1 M1 U1 st1 rp1 f1 v hv => ?_⟩
  obtain ⟨d, fr⟩ := d
  cases hv with
  | tup a vs ds g k => exact ⟨a, rfl, .inr ⟨vs, by rw [o.hK]; exact g.sq, by rw [o.hK]; exact fin_here rp1 f1 _ (wk_en k En.walk_T fun M' H' st => (g.stay st).sq)⟩⟩
  | lst a vs ds g k => exact ⟨a, rfl, .inl ⟨vs, by rw [o.hK]; exact g.sq, by rw [o.hK]; exact fin_here rp1 f1 _ (wk_en k walk_enum fun M' H' st => (g.stay st).sq)⟩⟩
  | _ => exact f1.elim
theorem zip_eq (xs ys : List D) : (List.range (min xs.length ys.length)).map (fun i => D.tup [xs[i]?.getD .non, ys[i]?.getD .non]) = zipD xs ys := by
  unfold zipD
  refine List.ext_getElem? fun i => ?_
  by_cases hi : i < min xs.length ys.length
  · have h1 : i < xs.length := by omega
    have h2 : i < ys.length := by omega
    have hz : (xs.zip ys)[i]? = some (xs[i], ys[i]) := List.getElem?_zip_eq_some.mpr ⟨List.getElem?_eq_getElem h1, List.getElem?_eq_getElem h2⟩
    rw [List.getElem?_map, List.getElem?_map, List.getElem?_range hi, hz]
    simp [h1, h2]
  · rw [List.getElem?_eq_none (by simp; omega), List.getElem?_eq_none (by simp; omega)]
theorem walk_zT {K : PySem.W.Frag} {a b : Addr} {xs ys : List V} {n : Nat} (hn : n = min xs.length ys.length) : Walk (RZ.ItzT K a b) n (fun H => SqT K H a xs ∧ SqT K H b ys) (YPair (fun i => xs[i]?) (fun i => ys[i]?)) := by
  subst hn
  refine ⟨fun i H hi q => ?_, fun H q => ⟨xs, ys, q.1, q.2, by omega⟩, fun i H v H' hi q y => ?_⟩
  · have h1 : i < xs.length := by omega
    have h2 : i < ys.length := by omega
    exact ⟨xs, ys, xs[i], ys[i], q.1, q.2, List.getElem?_eq_getElem h1, List.getElem?_eq_getElem h2⟩
  · obtain ⟨T', x', y', k1, k2, k3, k4, k5⟩ := y
    exact ⟨T', x', y', k1, k2, k3, k4 xs q.1, k5 ys q.2⟩
theorem wk_zp {K : PySem.W.Frag} {J : L2.It} {M : AP} {H : Hp} {us vs : List V} {xs ys : List D} {Gd : Hp → Prop} (g1 : IsDs K H M us xs) (g2 : IsDs K H M vs ys) (w : Walk J (min us.length vs.length) Gd (YPair (fun i => us[i]?) (fun i => vs[i]?))) (gd : ∀ M' H', Stay M H M' H' → Gd H') : Wk K J M H (zipD xs ys) := by
  rw [← zip_eq]
  rw [g1.length, g2.length] at w
  exact pair_wk (us := us) (vs := vs) w gd (Nat.min_le_left ..) (Nat.min_le_right ..) (fun i Hc M' hi st x e => (g1.stay st).getV e) fun i Hc M' hi st x e => (g2.stay st).getV e
theorem snd_zp (o : Ok X c G W C T) {a b : E} {f : Str} {x y tg : Expr} {p p2 : Pos} (hf : (f == ("zip" : Str)) = true) (hg : glB c f = true) (h : PE X x (tX G W C a)) (hp : plainE x = true) (h2 : PE X y (tX G W C b)) (hp2 : plainE y = true) (ht : isTupE tg = true) : PI X tg (.Call (.Name f p2) [x, y] [] p) (tW G W C (.zp a b)) := by
  have ef := eq_of_beq hf
  subst ef
  obtain ⟨es, kk, tp, rfl⟩ : ∃ es k p, tg = .Tuple es k p := by cases tg <;> first | exact ⟨_, _, _, rfl⟩ | cases ht
  refine pi_mono (RZ.pi_zipA (o.gl hg).1 (o.bt (by decide +kernel)) (pa_cons (pe_v h) (pa_cons (pe_v h2) pa_nil (star_plain hp2 _ _)) (star_plain hp _ _)) (star_plain hp _ _) (by rw [star_plain hp2]; rfl)) fun s H Rr ⟨M, U, r, rp, q⟩ => ?_
  have q : Fin G W s H M U ((evX C a r).bind fun x r => (evX C b r).bind fun y r => match x.1, y.1 with
    | .lst xs, .lst ys => Ev.R.ok (zipD xs ys) r
    | .tup xs, .tup ys => .ok (zipD xs ys) r
    | _, _ => .bad) _ := q
  refine ⟨M, U, r, rp, (q.bind rp.all).mono fun d1 r1 H1 M1 U1 st1 rp1 f1 v hv => ⟨M1, U1, r1, rp1, (f1.bind rp1.all).mono fun d2 r2 H2 M2 U2 st2 rp2 f2 w hw => ?_⟩⟩
  obtain ⟨d1, b1⟩ := d1
  obtain ⟨d2, b2⟩ := d2
  have hv := hv.stay (st2.stay rp1.sub)
  cases hv with
  | tup a1 vs ds g k =>
    cases hw with
    | tup a2 ws es g' k' => exact ⟨a1, a2, vs, ws, rfl, .inr ⟨by rw [o.hK]; exact g.sq, by rw [o.hK]; exact g'.sq, by rw [o.hK]; exact fin_here rp2 f2 _ (wk_zp k k' (walk_zT rfl) fun M' H' st => ⟨(g.stay st).sq, (g'.stay st).sq⟩)⟩⟩
    | _ => exact f2.elim
  | lst a1 vs ds g k =>
    cases hw with
    | lst a2 ws es g' k' => exact ⟨a1, a2, vs, ws, rfl, .inl ⟨by rw [o.hK]; exact g.sq, by rw [o.hK]; exact g'.sq, by rw [o.hK]; exact fin_here rp2 f2 _ (wk_zp k k' (walk_zip rfl) fun M' H' st => ⟨(g.stay st).sq, (g'.stay st).sq⟩)⟩⟩
    | _ => exact f2.elim
  | _ => exact f2.elim
theorem seq_ix {n j : Nat} {i : Int} (h : ixOf n i = some j) : seqIndex? i n = some j := by
  unfold ixOf at h
  unfold seqIndex?
  simp only
  by_cases h0 : 0 ≤ i
  · rw [if_pos h0] at h
    rw [if_neg (by omega : ¬ i < 0)]
    split at h
    · cases h
      rw [if_pos (by simp; omega)]
    · cases h
  · rw [if_neg h0] at h
    rw [if_pos (by omega : i < 0)]
    split at h
    · cases h
      rw [if_pos (by simp; omega)]
    · cases h
theorem rev_sv (s : List Nat) : (⟨(sv s).cps.toList.reverse.toArray⟩ : Str) = sv s.reverse := by
  unfold sv
  simp
theorem pe_either {e : Expr} {t t' : TE} (h : PE X e t) (h' : PE X e t') : PE X e (fun s H Q => t s H Q ∨ t' s H Q) := ⟨fun pins s σ H Q I q => q.elim (h.run pins s σ H Q I) (h'.run pins s σ H Q I)⟩
theorem snd_rev (o : Ok X c G W C T) {a : E} {x : Expr} {k : Nat} {p1 p2 p3 p : Pos} (h : PE X x (tX G W C a)) : PE X (.Subscript x (.Slice none none (some (.UnaryOp .USub (.Constant (.int 1) k p1) p2)) p3) p) (tX G W C (.rev a)) := by
  refine pe_mono (pe_either (Rv.pe_rev (pe_v h)) (pe_revL (pe_v h))) fun s H Q ⟨M, U, r, rp, f⟩ => ?_
  have f : Fin G W s H M U ((evX C a r).bind fun x r => match x.1 with
    | .str s => if s.length ≤ cap then Ev.R.ok (D.str s.reverse, false) r else .bad
    | .lst s => if s.length ≤ cap then Ev.R.ok (D.lst s.reverse, true) r else .bad
    | _ => .bad) _ := f
  by_cases hl : ∃ xs fr r', evX C a r = .ok (.lst xs, fr) r'
  · obtain ⟨xs, fr, r', e⟩ := hl
    refine .inr ⟨M, U, r, rp, (f.bind rp.all).mono' fun d r1 H1 M1 U1 st1 rp1 f1 er v hv => ?_⟩
    rw [e] at er
    cases er
    by_cases hz : xs.length ≤ cap
    · simp only [if_pos hz] at f1
      cases hv with
      | lst a vs ds fz g => exact ⟨a, vs, rfl, by rw [o.hK]; exact fz.sq, fun p hp => fin_new rp1 f1 (new_lst g.reverse hp)⟩
    · simp only [if_neg hz] at f1
      exact f1.elim
  · refine .inl ⟨M, U, r, rp, (f.bind rp.all).mono' fun d r1 H1 M1 U1 st1 rp1 f1 er v hv => ?_⟩
    obtain ⟨d, fr⟩ := d
    cases hv with
    | str z g =>
      by_cases hz : z.length ≤ cap
      · simp only [if_pos hz] at f1
        refine ⟨sv z, rfl, ?_, ?_⟩
        · have := good_len g
          simpa [sv] using Nat.le_trans g.1 cap_line
        · rw [rev_sv]
          exact fin_new rp1 f1 (new_val (.str _ (good_sub g (fun c hc => by simpa using hc) (by simp))))
      · simp only [if_neg hz] at f1
        exact f1.elim
    | lst a vs ds fz g => exact absurd ⟨_, _, _, er⟩ hl
    | _ => exact f1.elim
theorem snd_popAt (o : Ok X c G W C T) {i : Nat} {e : E} {x n : Str} {y : Expr} {p1 ap p : Pos} (hn : (n == ("pop" : Str)) = true) (hx : nameB c i x = true) (hy : PE X y (tX G W C e)) (hp : plainE y = true) (hl : (ap.endLine == p.line) = true) :
    PE X (.Call (.Attribute (.Name x p1) n ap) [y] [] p) (tX G W C (.popAt i e)) := by
  have en := eq_of_beq hn
  subst en
  obtain ⟨h1, h2, h3, h4⟩ := o.vis hx
  have few : ((backTo p (starEach [y] X.env)).all (fun x => !x.1) && (backToKw p (keywordEach [] X.env)).all (fun x => x.1.isSome)
      && decide ([y].length + ([] : List Keyword).length + (if ([] : List Keyword).isEmpty then 0 else 1) < 30)) = true := by
    rw [star_plain hp]
    rfl
  have pe := pe_bm (X := X) PySem.F.plainAttrs_list PySem.F.slot_list_pop PySem.F.type_list_pop mt_popAt (pe_var (pos := p1) h1 h2 h3 h4) (pa_cons (pe_v hy) pa_nil (star_plain hp _ _)) (apos := ap) (cpos := p) rfl few hl (star_plain hp _ _) (star_any [] rfl _ _)
  refine pe_mono pe fun s H Q ⟨M, U, r, rp, f⟩ => ?_
  have f : Fin G W s H M U (match getM r i with
    | none => .bad
    | some _ => (evX C e r).bind fun k r => match getM r i, k.1 with
      | some (.lst xs), .int k => match (if -big ≤ k ∧ k < big then ixOf xs.length k else none) with
        | some j => match xs[j]? with
          | some y => Ev.R.ok (y, false) (r.set i (.mu (.lst (xs.eraseIdx j))))
          | none => .bad
        | none => .bad
      | _, _ => .bad) _ := f
  cases e1 : getM r i with
  | none =>
    simp only [e1] at f
    exact f.elim
  | some d0 =>
    simp only [e1] at f
    obtain ⟨a, vs, ds, q1, q2, q3, q4⟩ := mu_at rp e1
    refine ⟨.ref a, q1, .inl ⟨rfl, vs, SqL.of q3⟩, M, U, r, rp, (f.bind rp.all).mono fun kk r2 H2 M2 U2 st2 rp2 f2 w hw => ?_⟩
    obtain ⟨kd, kf⟩ := kk
    cases e2 : getM r2 i with
    | none =>
      simp only [e2] at f2
      exact f2.elim
    | some d =>
      obtain ⟨a', vs', ds', z1, z2, z3, z4⟩ := mu_at rp2 e2
      subst z2
      rw [q1] at z1
      cases z1
      simp only [e2] at f2
      cases hw with
      | int k =>
        simp only at f2
        by_cases hb : -big ≤ k ∧ k < big
        · simp only [if_pos hb] at f2
          cases ej : ixOf ds'.length k with
          | none =>
            simp only [ej] at f2
            exact f2.elim
          | some j =>
            simp only [ej] at f2
            cases ey : ds'[j]? with
            | none =>
              simp only [ey] at f2
              exact f2.elim
            | some y0 =>
              simp only [ey] at f2
              obtain ⟨v0, g1, g2⟩ := z4.get ey
              have ww := rp2.wr (getM_some e2) q1 (z4.erase j)
              have hm : M2 a := by
                obtain ⟨a2, y1, y2, _⟩ := rp2.mu i _ (getM_some e2)
                rw [q1] at y1
                cases y1
                exact rp2.sub a y2
              have sty : Stay M2 H2 M2 (upd H2 a (.lst (vs'.eraseIdx j))) := fun b u k1 k2 => ⟨k1, by rw [upd_ne (fun z => k1 (by rw [z]; exact hm))]; exact k2⟩
              unfold big at hb
              exact ⟨a, vs', k, j, v0, rfl, rfl, z3, by omega, by omega, by rw [z4.length]; exact seq_ix ej, g1, f2 _ M2 U2 ww.2 ww.1 v0 (g2.stay sty)⟩
        · simp only [if_neg hb] at f2
          exact f2.elim
      | _ => exact f2.elim
/-! ### a display of texts -/
def trT (ts : List (List Nat × List Nat)) : List (TE × TE) := ts.map fun p => (tC (.str (sv p.1)), tC (.str (sv p.2)))
theorem pps_T {p : Pos} : ∀ {ts : List (List Nat × List Nat)} {keys : List (Option Expr)} {vals : List Expr}, keysT ts keys = true → valsT ts vals = true → PPs X p keys vals (trT ts) ∧ keys.all (·.isSome) = true ∧ keys.length = vals.length ∧ keys.length = ts.length ∧ ∀ q, q ∈ ts → GoodS q.2
  | [], [], [], _, _ => ⟨pps_nil, rfl, rfl, rfl, fun _ h => by cases h⟩
  | q :: ts, some (.Constant (.str z) _ _) :: keys, .Constant (.str u) _ _ :: vals, h1, h2 => by
    have h1 : (z.cps.toList == q.1 && keysT ts keys) = true := h1
    have h2 : (u.cps.toList == q.2 && goodB q.2 && valsT ts vals) = true := h2
    simp only [Bool.and_eq_true, beq_iff_eq] at h1 h2
    obtain ⟨ih, i2, i3, i4, i5⟩ := pps_T h1.2 h2.2
    have ez : z = sv q.1 := by rw [← h1.1]; unfold sv; simp
    have eu : u = sv q.2 := by rw [← h2.1.1]; unfold sv; simp
    have gd := h2.1.2
    unfold goodB at gd
    simp only [Bool.and_eq_true, decide_eq_true_eq, List.all_eq_true] at gd
    subst ez eu
    exact ⟨pps_cons pe_str pe_str ih, by simpa using i2, by simp [i3], by simp [i4], fun y hy => (List.mem_cons.mp hy).elim (fun e => by rw [e]; exact ⟨gd.1, fun c hc => gd.2 c hc⟩) (i5 y)⟩
theorem pairs_T {s : St} : ∀ {ts : List (List Nat × List Nat)} {H : Hp} {Q : List (V × V) → Hp → Prop}, Q (ts.map fun p => (V.str (sv p.1), V.str (sv p.2))) H → tPairs (trT ts) s H Q
  | [], _, _, h => h
  | q :: ts, H, Q, h => pairs_T (ts := ts) h
theorem sv_nd : ∀ {ts : List (List Nat × List Nat)}, (ts.map (·.1)).Nodup → ((dkv ts).map (·.1)).Nodup
  | [], _ => List.nodup_nil
  | q :: ts, h => by
    have h := List.nodup_cons.mp (show (q.1 :: ts.map (·.1)).Nodup from h)
    refine List.nodup_cons.mpr ⟨fun z => ?_, sv_nd h.2⟩
    obtain ⟨y, hy, e⟩ := List.mem_map.mp z
    obtain ⟨p, hp, rfl⟩ := List.mem_map.mp hy
    have e : (Sum.inr (sv p.1) : Key) = Sum.inr (sv q.1) := e
    have e := sv_inj (Sum.inr.inj e)
    exact h.1 (List.mem_map.mpr ⟨p, hp, e⟩)
theorem snd_tdp (o : Ok X c G W C T) {ts : List (List Nat × List Nat)} {keys : List (Option Expr)} {vals : List Expr} {p : Pos} (h1 : keysT ts keys = true) (h2 : valsT ts vals = true) (h3 : ts.length ≤ 15) (h4 : ts ≠ []) (h5 : (ts.map (·.1)).Nodup) : PE X (.Dict keys vals p) (tX G W C (.tdp ts)) := by
  obtain ⟨pp, q1, q2, q3, q4⟩ := pps_T (X := X) (p := p) h1 h2
  have k0 : keys ≠ [] := fun z => h4 (List.length_eq_zero_iff.mp (by rw [← q3, z]; rfl))
  refine pe_mono (pe_disp pp q1 q2 k0 (by omega)) fun s H Q ⟨M, U, r, rp, f⟩ a ha => ?_
  refine pairs_T ⟨upd_same, dkv ts, by unfold dkv; rw [List.map_map]; rfl, by unfold dkv; rw [List.length_map]; exact h3, ?_⟩
  have em : mergeK [] (dkv ts) = dkv ts := by
    rw [merge_new _ _ (by rw [List.map_nil, List.nil_append]; exact sv_nd h5)]
    rfl
  rw [em]
  have f : Fin G W s H M U (Ev.R.ok (D.dic (dts ts), false) r) _ := f
  refine fin_new rp f ⟨fun b u e => ?_, .dic a ts q4 (fun z => rp.all a z ha) upd_same⟩
  have ne : b ≠ a := fun z => by rw [z, ha] at e; cases e
  rw [upd_ne ne, upd_ne ne]
  exact e
theorem look_T : ∀ {ts : List (List Nat × List Nat)} {z : List Nat} {d : D}, lookC (dts ts) z = some (some d) → ∃ v, d = .str v ∧ valV (dkv ts) (.inr (sv z)) = some (.str (sv v)) ∧ ∃ q, q ∈ ts ∧ q.2 = v
  | [], _, _, e => by cases e
  | q :: ts, z, d, e => by
    have e : (if q.1 = z then some (some (D.str q.2)) else lookC (dts ts) z) = some (some d) := e
    by_cases hz : q.1 = z
    · rw [if_pos hz] at e
      cases e
      refine ⟨q.2, rfl, ?_, q, List.mem_cons_self .., rfl⟩
      subst hz
      unfold dkv valV
      simp
    · rw [if_neg hz] at e
      obtain ⟨v, e1, e2, y, e3, e4⟩ := look_T e
      refine ⟨v, e1, ?_, y, List.mem_cons_of_mem _ e3, e4⟩
      have ne : ¬ ((Sum.inr (sv q.1) : Key) = Sum.inr (sv z)) := fun w => hz (sv_inj (Sum.inr.inj w))
      unfold dkv valV at e2 ⊢
      simp only [List.map_cons, List.find?_cons]
      rw [show decide ((Sum.inr (sv q.1) : Key) = Sum.inr (sv z)) = false from decide_eq_false ne]
      exact e2
theorem snd_tix (o : Ok X c G W C T) {a b : E} {x y : Expr} {p : Pos} (h1 : PE X x (tX G W C a)) (h2 : PE X y (tX G W C b)) (hp : plainE y = true) : PE X (.Subscript x y p) (tX G W C (.tix a b)) := by
  have ns : NoSl y := fun ov iv => by cases y <;> first | rfl | cases hp
  refine pe_mono (pe_dget (by have := o.un; omega) (pe_v h1) (pe_v h2) ns) fun s H Q ⟨M, U, r, rp, f⟩ => ?_
  have f : Fin G W s H M U ((evX C a r).bind fun x r => (evX C b r).bind fun y r => lift (tabI (some x.1) y.1) r) _ := f
  refine ⟨M, U, r, rp, (f.bind rp.all).mono fun d1 r1 H1 M1 U1 st1 rp1 f1 v hv => ⟨M1, U1, r1, rp1, (f1.bind rp1.all).mono fun d2 r2 H2 M2 U2 st2 rp2 f2 w hw => ?_⟩⟩
  obtain ⟨d1, b1⟩ := d1
  obtain ⟨d2, b2⟩ := d2
  have hv := hv.stay (st2.stay rp1.sub)
  obtain ⟨z, e, f2⟩ := fin_lift f2
  cases hv with
  | dic q ts gd nm eq =>
    obtain ⟨k, d, k1, k2, k3⟩ := tabI_some e rfl
    subst k3
    have k1 : d2 = .str k := k1
    subst k1
    obtain rfl := isD_str hw
    obtain ⟨u, e1, e2, y', e3, e4⟩ := look_T k2
    subst e1
    have hd : DGet H2 q (kV (.inr (sv k))) (valV (dkv ts) (.inr (sv k))) := DGet.k eq
    rw [e2] at hd
    exact ⟨q, _, rfl, hd, fin_new rp2 f2 (new_val (.str u (e4 ▸ gd y' e3)))⟩
  | _ => cases e
end
end Ev

/-! every expression -/
namespace Ev
open PySem L2
section inv
variable {T : Nm} {c : Sc} {x : Expr}
theorem inv_c {d : D} (h : chkE T c (.c d) x = true) : ∃ k j p, x = .Constant k j p ∧ chkC d k = true := by
  cases x <;> first | exact ⟨_, _, _, rfl, h⟩ | cases h
theorem inv_v {i : Nat} (h : chkE T c (.v i) x = true) : ∃ n p, x = .Name n p ∧ nameB c i n = true := by
  cases x <;> first | exact ⟨_, _, rfl, h⟩ | cases h
theorem inv_m {i : Nat} (h : chkE T c (.m i) x = true) : ∃ n p, x = .Name n p ∧ nameB c i n = true := by
  cases x <;> first | exact ⟨_, _, rfl, h⟩ | cases h
theorem inv_mv {i : Nat} (h : chkE T c (.mv i) x = true) : ∃ n p, x = .Name n p ∧ nameB c i n = true := by
  cases x <;> first | exact ⟨_, _, rfl, h⟩ | cases h
theorem inv_g {n : Str} (h : chkE T c (.g n) x = true) : ∃ m p, x = .Name m p ∧ (m == n && glB c m && T.gnm m) = true := by
  cases x <;> first | exact ⟨_, _, rfl, h⟩ | cases h
theorem inv_tup {es : List E} (h : chkE T c (.tup es) x = true) : ∃ xs k p, x = .Tuple xs k p ∧ chkEs T c es xs = true := by
  cases x <;> first | exact ⟨_, _, _, rfl, h⟩ | cases h
theorem inv_lst {es : List E} (h : chkE T c (.lst es) x = true) : ∃ xs p, x = .List xs p ∧ chkEs T c es xs = true := by
  cases x <;> first | exact ⟨_, _, rfl, h⟩ | cases h
theorem inv_bin {o : Bop} {a b : E} (h : chkE T c (.bin o a b) x = true) : ∃ l r p, x = .BinOp l (bopOf o) r p ∧ chkE T c a l = true ∧ chkE T c b r = true := by
  cases x <;> first | cases h | skip
  rename_i l op r p
  have h : (op == bopOf o && chkE T c a l && chkE T c b r) = true := h
  simp only [Bool.and_eq_true, beq_iff_eq] at h
  exact ⟨l, r, p, by rw [h.1.1], h.1.2, h.2⟩
theorem inv_neg {a : E} (h : chkE T c (.neg a) x = true) : ∃ l p, x = .UnaryOp .USub l p ∧ chkE T c a l = true := by
  cases x <;> first | cases h | skip
  rename_i op l p
  cases op <;> first | exact ⟨l, p, rfl, h⟩ | cases h
theorem inv_not {a : E} (h : chkE T c (.not a) x = true) : ∃ l p, x = .UnaryOp .Not l p ∧ chkE T c a l = true := by
  cases x <;> first | cases h | skip
  rename_i op l p
  cases op <;> first | exact ⟨l, p, rfl, h⟩ | cases h
theorem inv_cmp {o : Cop} {a b : E} (h : chkE T c (.cmp o a b) x = true) : ∃ l r p, x = .Compare l [copOf o] [r] p ∧ chkE T c a l = true ∧ chkE T c b r = true ∧ behindInMarks (copOf o) r = false := by
  cases x <;> first | cases h | skip
  rename_i l ops rs p
  match ops, rs, h with
  | [op], [r], h =>
    have h : (op == copOf o && chkE T c a l && chkE T c b r && !behindInMarks op r) = true := h
    simp only [Bool.and_eq_true, beq_iff_eq, Bool.not_eq_true'] at h
    obtain ⟨⟨⟨rfl, h1⟩, h2⟩, h3⟩ := h
    exact ⟨l, r, p, rfl, h1, h2, h3⟩
theorem inv_chain {o o' : Cop} {a b d : E} (h : chkE T c (.chain o o' a b d) x = true) : ∃ l y z p, x = .Compare l [copOf o, copOf o'] [y, z] p ∧ chkE T c a l = true ∧ chkE T c b y = true ∧ chkE T c d z = true ∧ lastMarks [copOf o, copOf o'] [y, z] = false := by
  cases x <;> first | cases h | skip
  rename_i l ops rs p
  match ops, rs, h with
  | [op, op'], [y, z], h =>
    have h : (op == copOf o && op' == copOf o' && chkE T c a l && chkE T c b y && chkE T c d z && !lastMarks [op, op'] [y, z]) = true := h
    simp only [Bool.and_eq_true, beq_iff_eq, Bool.not_eq_true'] at h
    obtain ⟨⟨⟨⟨⟨rfl, rfl⟩, h1⟩, h2⟩, h3⟩, h4⟩ := h
    exact ⟨l, y, z, p, rfl, h1, h2, h3, h4⟩
def tailB (T : Nm) (c : Sc) (op : PySem.BoolOp) (b : E) (y : Expr) (rest : List Expr) (p : Pos) : Prop := (rest = [] ∧ chkE T c b y = true) ∨ chkE T c b (.BoolOp op (y :: rest) p) = true
theorem inv_and {a b : E} (h : chkE T c (.and a b) x = true) : ∃ l y rest p, x = .BoolOp .And (l :: y :: rest) p ∧ chkE T c a l = true ∧ tailB T c .And b y rest p := by
  cases x <;> first | cases h | skip
  rename_i op vs p
  match op, vs, h with
  | .And, [l, y], h =>
    have h : (chkE T c a l && chkE T c b y) = true := h
    simp only [Bool.and_eq_true] at h
    exact ⟨l, y, [], p, rfl, h.1, .inl ⟨rfl, h.2⟩⟩
  | .And, l :: y :: z :: rest, h =>
    have h : (chkE T c a l && chkE T c b (.BoolOp .And (y :: z :: rest) p)) = true := h
    simp only [Bool.and_eq_true] at h
    exact ⟨l, y, z :: rest, p, rfl, h.1, .inr h.2⟩
theorem inv_or {a b : E} (h : chkE T c (.or a b) x = true) : ∃ l y rest p, x = .BoolOp .Or (l :: y :: rest) p ∧ chkE T c a l = true ∧ tailB T c .Or b y rest p := by
  cases x <;> first | cases h | skip
  rename_i op vs p
  match op, vs, h with
  | .Or, [l, y], h =>
    have h : (chkE T c a l && chkE T c b y) = true := h
    simp only [Bool.and_eq_true] at h
    exact ⟨l, y, [], p, rfl, h.1, .inl ⟨rfl, h.2⟩⟩
  | .Or, l :: y :: z :: rest, h =>
    have h : (chkE T c a l && chkE T c b (.BoolOp .Or (y :: z :: rest) p)) = true := h
    simp only [Bool.and_eq_true] at h
    exact ⟨l, y, z :: rest, p, rfl, h.1, .inr h.2⟩
theorem inv_ifx {t a b : E} (h : chkE T c (.ifx t a b) x = true) : ∃ l y z p, x = .IfExp l y z p ∧ chkE T c t l = true ∧ chkE T c a y = true ∧ chkE T c b z = true := by
  cases x <;> first | cases h | skip
  rename_i l y z p
  have h : (chkE T c t l && chkE T c a y && chkE T c b z) = true := h
  simp only [Bool.and_eq_true] at h
  exact ⟨l, y, z, p, rfl, h.1.1, h.1.2, h.2⟩
theorem inv_ix {a b : E} (h : chkE T c (.ix a b) x = true) : ∃ l y p, x = .Subscript l y p ∧ chkE T c a l = true ∧ chkE T c b y = true ∧ plainE y = true := by
  cases x <;> first | cases h | skip
  rename_i l y p
  have h : (chkE T c a l && chkE T c b y && plainE y) = true := h
  simp only [Bool.and_eq_true] at h
  exact ⟨l, y, p, rfl, h.1.1, h.1.2, h.2⟩
theorem inv_sl {a : E} {lo hi : Option E} (h : chkE T c (.sl a lo hi) x = true) : ∃ l s e p2 p, x = .Subscript l (.Slice s e none p2) p ∧ chkE T c a l = true ∧ chkO T c lo s = true ∧ chkO T c hi e = true := by
  cases x <;> first | cases h | skip
  rename_i l y p
  cases y <;> first | cases h | skip
  rename_i s e st p2
  cases st with
  | some => cases h
  | none =>
    have h : (chkE T c a l && chkO T c lo s && chkO T c hi e) = true := h
    simp only [Bool.and_eq_true] at h
    exact ⟨l, s, e, p2, p, rfl, h.1.1, h.1.2, h.2⟩
theorem inv_call {f : Nat} {as : List E} (h : chkE T c (.call f as) x = true) : ∃ n y ys p2 p, x = .Call (.Name n p2) (y :: ys) [] p ∧ T.fnm f = some n ∧ glB c n = true ∧ chkEs T c as (y :: ys) = true ∧ (y :: ys).all plainE = true := by
  cases x <;> first | cases h | skip
  rename_i g xs kw p
  cases g <;> first | cases h | skip
  rename_i n p2
  cases kw with
  | cons => cases h
  | nil =>
    have h : (T.fnm f == some n && glB c n && chkEs T c as xs && xs.all plainE && !xs.isEmpty) = true := h
    simp only [Bool.and_eq_true, beq_iff_eq, Bool.not_eq_true'] at h
    cases xs with
    | nil => simp at h
    | cons y ys => exact ⟨n, y, ys, p2, p, rfl, h.1.1.1.1, h.1.1.1.2, h.1.1.2, h.1.2⟩
theorem inv_bi {f : Bi} {as : List E} (hf : ∀ t, f ≠ .isa t) (h : chkE T c (.bi f as) x = true) : ∃ n y ys p2 p, x = .Call (.Name n p2) (y :: ys) [] p ∧ biNm f = some n ∧ glB c n = true ∧ chkEs T c as (y :: ys) = true ∧ (y :: ys).all plainE = true := by
  cases x <;> first | (cases f <;> first | cases h | exact absurd rfl (hf _)) | skip
  rename_i g xs kw p
  cases g <;> first | (cases f <;> first | cases h | exact absurd rfl (hf _)) | skip
  rename_i n p2
  cases kw with
  | cons => cases f <;> first | cases h | exact absurd rfl (hf _)
  | nil =>
    have h : (biNm f == some n && glB c n && chkEs T c as xs && xs.all plainE && !xs.isEmpty) = true := by
      cases f <;> first | exact h | exact absurd rfl (hf _)
    simp only [Bool.and_eq_true, beq_iff_eq, Bool.not_eq_true'] at h
    cases xs with
    | nil => simp at h
    | cons y ys => exact ⟨n, y, ys, p2, p, rfl, h.1.1.1.1, h.1.1.1.2, h.1.1.2, h.1.2⟩
theorem inv_isa {t : String} {as : List E} (h : chkE T c (.bi (.isa t) as) x = true) : ∃ a f y ty p2 p3 p, as = [a] ∧ x = .Call (.Name f p2) [y, .Name ty p3] [] p ∧ (f == ("isinstance" : Str)) = true ∧ glB c f = true ∧ chkE T c a y = true ∧ plainE y = true ∧ (ty == (t : Str)) = true ∧ glB c ty = true ∧ tys.contains t = true := by
  cases x <;> first | cases h | skip
  rename_i g xs kw p
  cases g <;> first | cases h | skip
  rename_i f p2
  cases kw with
  | cons => cases h
  | nil =>
    have h : (f == ("isinstance" : Str) && glB c f && chkEs T c as (xs.take 1) && isaTail c t xs && tys.contains t) = true := h
    simp only [Bool.and_eq_true] at h
    obtain ⟨⟨⟨⟨h1, h2⟩, h3⟩, h4⟩, h5⟩ := h
    match xs, h4, h3 with
    | [y, .Name ty p3], h4, h3 =>
      have h4 : (ty == (t : Str) && glB c ty) = true := h4
      simp only [Bool.and_eq_true] at h4
      match as, h3 with
      | [a], h3 =>
        have h3 : (chkE T c a y && plainE y && true) = true := h3
        simp only [Bool.and_eq_true] at h3
        exact ⟨a, f, y, ty, p2, p3, p, rfl, rfl, h1, h2, h3.1.1, h3.1.2, h4.1, h4.2, h5⟩
      | _ :: _ :: _, h3 =>
        have h3 : (_ && _ && false) = true := h3
        simp at h3
theorem inv_mt {f : Mt} {o : E} {as : List E} (h : chkE T c (.mt f o as) x = true) : ∃ b l y ap p, as = [b] ∧ x = .Call (.Attribute l (mtNm f) ap) [y] [] p ∧ chkE T c o l = true ∧ chkE T c b y = true ∧ plainE y = true ∧ noCall l = true ∧ (ap.endLine == p.line) = true := by
  cases x <;> first | cases h | skip
  rename_i g xs kw p
  cases g <;> first | cases h | skip
  rename_i l n ap
  cases kw with
  | cons => cases h
  | nil =>
    have h : (n == mtNm f && chkE T c o l && chkEs T c as xs && xs.all plainE && xs.length == 1 && (ap.endLine == p.line) && noCall l) = true := h
    simp only [Bool.and_eq_true] at h
    obtain ⟨⟨⟨⟨⟨⟨h0, h1⟩, h2⟩, h3⟩, h4⟩, h5⟩, h6⟩ := h
    have h0 := eq_of_beq h0
    subst h0
    cases xs with
    | nil => simp at h4
    | cons y ys =>
      cases ys with
      | cons => simp at h4
      | nil =>
        cases as with
        | nil => cases h2
        | cons b bs =>
          cases bs with
          | cons =>
            have h2 : (_ && _ && false) = true := h2
            simp at h2
          | nil =>
            have h2 : (chkE T c b y && plainE y && true) = true := h2
            simp only [Bool.and_eq_true] at h2
            exact ⟨b, l, y, ap, p, rfl, rfl, h1, h2.1.1, h2.1.2, h6, h5⟩
theorem inv_comp {own : List Nat} {elt : E} {t : Tg} {it : Ev.It} {ifs : Option E} (h : chkE T c (.comp own elt t it ifs) x = true) : ∃ e tg iter cs scope p, x = .ListComp e [⟨tg, iter, cs, 0⟩] scope p ∧ blkB c scope own = true ∧ chkIt T c it tg iter = true ∧ chkT (c.blk scope) t tg = true ∧ tgIn own t = true ∧ chkE T (c.blk scope) elt e = true ∧ plainE iter = true ∧
    ((ifs = none ∧ cs = []) ∨ ∃ q y, ifs = some q ∧ cs = [y] ∧ chkE T (c.blk scope) q y = true) := by
  cases x <;> first | cases h | skip
  rename_i e gs scope p
  match gs, h with
  | [⟨tg, iter, cs, 0⟩], h =>
    cases ifs with
    | none =>
      cases cs with
      | nil =>
        have h : (blkB c scope own && chkIt T c it tg iter && chkT (c.blk scope) t tg && tgIn own t && chkE T (c.blk scope) elt e && plainE iter && true) = true := h
        simp only [Bool.and_eq_true] at h
        obtain ⟨⟨⟨⟨⟨⟨h1, h2⟩, h3⟩, h4⟩, h5⟩, h6⟩, _⟩ := h
        exact ⟨e, tg, iter, [], scope, p, rfl, h1, h2, h3, h4, h5, h6, .inl ⟨rfl, rfl⟩⟩
      | cons y cs =>
        have h : (blkB c scope own && chkIt T c it tg iter && chkT (c.blk scope) t tg && tgIn own t && chkE T (c.blk scope) elt e && plainE iter && false) = true := h
        simp at h
    | some q =>
      match cs, h with
      | [], h =>
        have h : (blkB c scope own && chkIt T c it tg iter && chkT (c.blk scope) t tg && tgIn own t && chkE T (c.blk scope) elt e && plainE iter && false) = true := h
        simp at h
      | [y], h =>
        have h : (blkB c scope own && chkIt T c it tg iter && chkT (c.blk scope) t tg && tgIn own t && chkE T (c.blk scope) elt e && plainE iter && chkE T (c.blk scope) q y) = true := h
        simp only [Bool.and_eq_true] at h
        obtain ⟨⟨⟨⟨⟨⟨h1, h2⟩, h3⟩, h4⟩, h5⟩, h6⟩, h7⟩ := h
        exact ⟨e, tg, iter, [y], scope, p, rfl, h1, h2, h3, h4, h5, h6, .inr ⟨q, y, rfl, rfl, h7⟩⟩
      | _ :: _ :: _, h =>
        have h : (blkB c scope own && chkIt T c it tg iter && chkT (c.blk scope) t tg && tgIn own t && chkE T (c.blk scope) elt e && plainE iter && false) = true := h
        simp at h
theorem inv_comp2 {own own1 : List Nat} {elt : E} {t t1 : Tg} {it it1 : Ev.It} {ifs : Option E} (h : chkE T c (.comp2 own own1 elt t it t1 it1 ifs) x = true) : ∃ e tg iter tg1 iter1 cs scope p, x = .ListComp e [⟨tg, iter, [], 0⟩, ⟨tg1, iter1, cs, 0⟩] scope p ∧ blkB c scope own = true ∧ chkIt T c it tg iter = true ∧ chkT (c.blk scope) t tg = true ∧ tgIn own t = true ∧ chkIt T (c.blk scope) it1 tg1 iter1 = true ∧ chkT (c.blk scope) t1 tg1 = true ∧ tgIn own1 t1 = true ∧ (∀ i ∈ own1, i ∈ own) ∧ chkE T (c.blk scope) elt e = true ∧ plainE iter = true ∧ plainE iter1 = true ∧
    ((ifs = none ∧ cs = []) ∨ ∃ q y, ifs = some q ∧ cs = [y] ∧ chkE T (c.blk scope) q y = true) := by
  cases x <;> first | cases h | skip
  rename_i e gs scope p
  match gs, h with
  | [⟨tg, iter, [], 0⟩, ⟨tg1, iter1, cs, 0⟩], h =>
    have key : ∀ {b : Bool}, (blkB c scope own && chkIt T c it tg iter && chkT (c.blk scope) t tg && tgIn own t && chkIt T (c.blk scope) it1 tg1 iter1 && chkT (c.blk scope) t1 tg1 && tgIn own1 t1 && own1.all own.contains && chkE T (c.blk scope) elt e && plainE iter && plainE iter1 && b) = true → (blkB c scope own = true ∧ chkIt T c it tg iter = true ∧ chkT (c.blk scope) t tg = true ∧ tgIn own t = true ∧ chkIt T (c.blk scope) it1 tg1 iter1 = true ∧ chkT (c.blk scope) t1 tg1 = true ∧ tgIn own1 t1 = true ∧ (∀ i ∈ own1, i ∈ own) ∧ chkE T (c.blk scope) elt e = true ∧ plainE iter = true ∧ plainE iter1 = true) ∧ b = true := by
      intro b h
      simp only [Bool.and_eq_true] at h
      obtain ⟨⟨⟨⟨⟨⟨⟨⟨⟨⟨⟨h1, h2⟩, h3⟩, h4⟩, h5⟩, h6⟩, h7⟩, h8⟩, h9⟩, h10⟩, h11⟩, h12⟩ := h
      exact ⟨⟨h1, h2, h3, h4, h5, h6, h7, fun i hi => by simpa using List.all_eq_true.mp h8 i hi, h9, h10, h11⟩, h12⟩
    match ifs, cs, h with
    | none, [], h =>
      obtain ⟨⟨h1, h2, h3, h4, h5, h6, h7, h8, h9, h10, h11⟩, _⟩ := key (b := true) h
      exact ⟨e, tg, iter, tg1, iter1, [], scope, p, rfl, h1, h2, h3, h4, h5, h6, h7, h8, h9, h10, h11, .inl ⟨rfl, rfl⟩⟩
    | none, y :: cs, h => exact absurd (key (b := false) h).2 (by simp)
    | some q, [], h => exact absurd (key (b := false) h).2 (by simp)
    | some q, [y], h =>
      obtain ⟨⟨h1, h2, h3, h4, h5, h6, h7, h8, h9, h10, h11⟩, h12⟩ := key (b := chkE T (c.blk scope) q y) h
      exact ⟨e, tg, iter, tg1, iter1, [y], scope, p, rfl, h1, h2, h3, h4, h5, h6, h7, h8, h9, h10, h11, .inr ⟨q, y, rfl, rfl, h12⟩⟩
    | some q, _ :: _ :: _, h => exact absurd (key (b := false) h).2 (by simp)
theorem inv_lrg {a : E} (h : chkE T c (.lrg a) x = true) : ∃ f g y p p2 p3 p4, x = .Call (.Name f p) [.Call (.Name g p2) [y] [] p3] [] p4 ∧ (f == ("list" : Str)) = true ∧ glB c f = true ∧ (g == ("range" : Str)) = true ∧ glB c g = true ∧ chkE T c a y = true ∧ plainE y = true := by
  cases x <;> first | cases h | skip
  rename_i fe xs kw p4
  match fe, xs, kw, h with
  | .Name f p, [.Call (.Name g p2) [y] [] p3], [], h =>
    have h : (f == ("list" : Str) && glB c f && g == ("range" : Str) && glB c g && chkE T c a y && plainE y) = true := h
    simp only [Bool.and_eq_true] at h
    obtain ⟨⟨⟨⟨⟨h1, h2⟩, h3⟩, h4⟩, h5⟩, h6⟩ := h
    exact ⟨f, g, y, p, p2, p3, p4, rfl, h1, h2, h3, h4, h5, h6⟩
theorem inv_sset {a : E} (h : chkE T c (.sset a) x = true) : ∃ f g y p p2 p3 p4, x = .Call (.Name f p) [.Call (.Name g p2) [y] [] p3] [] p4 ∧ (f == ("sorted" : Str)) = true ∧ glB c f = true ∧ (g == ("set" : Str)) = true ∧ glB c g = true ∧ chkE T c a y = true ∧ plainE y = true := by
  cases x <;> first | cases h | skip
  rename_i fe xs kw p4
  match fe, xs, kw, h with
  | .Name f p, [.Call (.Name g p2) [y] [] p3], [], h =>
    have h : (f == ("sorted" : Str) && glB c f && g == ("set" : Str) && glB c g && chkE T c a y && plainE y) = true := h
    simp only [Bool.and_eq_true] at h
    obtain ⟨⟨⟨⟨⟨h1, h2⟩, h3⟩, h4⟩, h5⟩, h6⟩ := h
    exact ⟨f, g, y, p, p2, p3, p4, rfl, h1, h2, h3, h4, h5, h6⟩
theorem inv_lset {a : E} (h : chkE T c (.lset a) x = true) : ∃ f g y p p2 p3 p4, x = .Call (.Name f p) [.Call (.Name g p2) [y] [] p3] [] p4 ∧ (f == ("len" : Str)) = true ∧ glB c f = true ∧ (g == ("set" : Str)) = true ∧ glB c g = true ∧ chkE T c a y = true ∧ plainE y = true := by
  cases x <;> first | cases h | skip
  rename_i fe xs kw p4
  match fe, xs, kw, h with
  | .Name f p, [.Call (.Name g p2) [y] [] p3], [], h =>
    have h : (f == ("len" : Str) && glB c f && g == ("set" : Str) && glB c g && chkE T c a y && plainE y) = true := h
    simp only [Bool.and_eq_true] at h
    obtain ⟨⟨⟨⟨⟨h1, h2⟩, h3⟩, h4⟩, h5⟩, h6⟩ := h
    exact ⟨f, g, y, p, p2, p3, p4, rfl, h1, h2, h3, h4, h5, h6⟩
theorem inv_gd {n : Str} {a : E} (h : chkE T c (.gd n a) x = true) : ∃ y z p p2, x = .Subscript (.Name z p) y p2 ∧ (z == n && glB c z && T.dnm z) = true ∧ chkE T c a y = true ∧ plainE y = true := by
  cases x <;> first | cases h | skip
  rename_i fe y p2
  cases fe <;> first | cases h | skip
  rename_i z p
  have h : (z == n && glB c z && T.dnm z && chkE T c a y && plainE y) = true := h
  simp only [Bool.and_eq_true] at h ⊢
  obtain ⟨⟨⟨⟨h1, h2⟩, h3⟩, h4⟩, h5⟩ := h
  exact ⟨y, z, p, p2, rfl, ⟨⟨h1, h2⟩, h3⟩, h4, h5⟩
theorem inv_gc {n : Str} {a : E} (h : chkE T c (.gc n a) x = true) : ∃ y z p p2, x = .Compare y [.In] [.Name z p] p2 ∧ (z == n && glB c z && T.dnm z) = true ∧ chkE T c a y = true := by
  cases x <;> first | cases h | skip
  rename_i l ops rs p2
  match ops, rs, h with
  | [op], [.Name z p], h =>
    have h : (op == .In && z == n && glB c z && T.dnm z && chkE T c a l) = true := h
    simp only [Bool.and_eq_true] at h ⊢
    obtain ⟨⟨⟨⟨h1, h2⟩, h3⟩, h4⟩, h5⟩ := h
    have h1 := eq_of_beq h1
    subst h1
    exact ⟨l, z, p, p2, rfl, ⟨⟨h2, h3⟩, h4⟩, h5⟩
theorem inv_dsp {ks : List Int} {vs : List E} {a : E} (h : chkE T c (.dsp ks vs a) x = true) : ∃ keys vals y p p2, x = .Subscript (.Dict keys vals p) y p2 ∧ keysB ks keys = true ∧ chkEs T c vs vals = true ∧ ks.length = vals.length ∧ ks.length ≤ 15 ∧ ks ≠ [] ∧ ks.Nodup ∧ chkE T c a y = true ∧ plainE y = true := by
  cases x <;> first | cases h | skip
  rename_i fe y p2
  cases fe <;> first | cases h | skip
  rename_i keys vals p
  have h : (keysB ks keys && chkEs T c vs vals && ks.length == vals.length && decide (ks.length ≤ 15) && !ks.isEmpty && decide ks.Nodup && chkE T c a y && plainE y) = true := h
  simp only [Bool.and_eq_true, decide_eq_true_eq, beq_iff_eq, Bool.not_eq_true'] at h
  obtain ⟨⟨⟨⟨⟨⟨⟨h1, h2⟩, h3⟩, h4⟩, h5⟩, h6⟩, h7⟩, h8⟩ := h
  exact ⟨keys, vals, y, p, p2, rfl, h1, h2, h3, h4, (by intro z; rw [z] at h5; cases h5), h6, h7, h8⟩
theorem keys_len : ∀ {ks : List Int} {keys : List (Option Expr)}, keysB ks keys = true → keys.length = ks.length ∧ keys.all (·.isSome) = true
  | [], [], _ => ⟨rfl, rfl⟩
  | k :: ks, some (.Constant (.int i) _ _) :: xs, h => by
    have h : (k == i && keysB ks xs) = true := h
    simp only [Bool.and_eq_true] at h
    obtain ⟨h1, h2⟩ := keys_len h.2
    exact ⟨by simp [h1], by simp only [List.all_cons, Option.isSome_some, Bool.true_and]; exact h2⟩
theorem chkEs_len : ∀ {es : List E} {xs : List Expr}, chkEs T c es xs = true → es.length = xs.length
  | [], [], _ => rfl
  | a :: as, x :: xs, h => by
    have h : (chkE T c a x && plainE x && chkEs T c as xs) = true := h
    simp only [Bool.and_eq_true] at h
    simp [chkEs_len h.2]
theorem inv_r1 {a : E} {tg : Expr} (h : chkIt T c (.r1 a) tg x = true) : ∃ f y p2 p, x = .Call (.Name f p2) [y] [] p ∧ (f == ("range" : Str)) = true ∧ glB c f = true ∧ chkE T c a y = true ∧ plainE y = true := by
  cases x <;> first | cases h | skip
  rename_i g xs kw p
  cases g <;> first | cases h | skip
  rename_i f p2
  match xs, kw, h with
  | [y], [], h =>
    have h : (f == ("range" : Str) && glB c f && chkE T c a y && plainE y) = true := h
    simp only [Bool.and_eq_true] at h
    exact ⟨f, y, p2, p, rfl, h.1.1.1, h.1.1.2, h.1.2, h.2⟩
theorem inv_r2 {a b : E} {tg : Expr} (h : chkIt T c (.r2 a b) tg x = true) : ∃ f y z p2 p, x = .Call (.Name f p2) [y, z] [] p ∧ (f == ("range" : Str)) = true ∧ glB c f = true ∧ chkE T c a y = true ∧ plainE y = true ∧ chkE T c b z = true ∧ plainE z = true := by
  cases x <;> first | cases h | skip
  rename_i g xs kw p
  cases g <;> first | cases h | skip
  rename_i f p2
  match xs, kw, h with
  | [y, z], [], h =>
    have h : (f == ("range" : Str) && glB c f && chkE T c a y && plainE y && chkE T c b z && plainE z) = true := h
    simp only [Bool.and_eq_true] at h
    exact ⟨f, y, z, p2, p, rfl, h.1.1.1.1.1, h.1.1.1.1.2, h.1.1.1.2, h.1.1.2, h.1.2, h.2⟩
theorem inv_r3 {a b d : E} {tg : Expr} (h : chkIt T c (.r3 a b d) tg x = true) : ∃ f y z u p2 p, x = .Call (.Name f p2) [y, z, u] [] p ∧ (f == ("range" : Str)) = true ∧ glB c f = true ∧ (chkE T c a y = true ∧ plainE y = true) ∧ (chkE T c b z = true ∧ plainE z = true) ∧ chkE T c d u = true ∧ plainE u = true := by
  cases x <;> first | cases h | skip
  rename_i g xs kw p
  cases g <;> first | cases h | skip
  rename_i f p2
  match xs, kw, h with
  | [y, z, u], [], h =>
    have h : (f == ("range" : Str) && glB c f && chkE T c a y && plainE y && chkE T c b z && plainE z && chkE T c d u && plainE u) = true := h
    simp only [Bool.and_eq_true] at h
    obtain ⟨⟨⟨⟨⟨⟨⟨h1, h2⟩, h3⟩, h4⟩, h5⟩, h6⟩, h7⟩, h8⟩ := h
    exact ⟨f, y, z, u, p2, p, rfl, h1, h2, ⟨h3, h4⟩, ⟨h5, h6⟩, h7, h8⟩
theorem inv_en {a : E} {tg : Expr} (h : chkIt T c (.en a) tg x = true) : ∃ f y p2 p, x = .Call (.Name f p2) [y] [] p ∧ (f == ("enumerate" : Str)) = true ∧ glB c f = true ∧ chkE T c a y = true ∧ plainE y = true ∧ isTupE tg = true := by
  cases x <;> first | cases h | skip
  rename_i g xs kw p
  cases g <;> first | cases h | skip
  rename_i f p2
  match xs, kw, h with
  | [y], [], h =>
    have h : (f == ("enumerate" : Str) && glB c f && chkE T c a y && plainE y && isTupE tg) = true := h
    simp only [Bool.and_eq_true] at h
    exact ⟨f, y, p2, p, rfl, h.1.1.1.1, h.1.1.1.2, h.1.1.2, h.1.2, h.2⟩
theorem inv_zp {a b : E} {tg : Expr} (h : chkIt T c (.zp a b) tg x = true) : ∃ f y z p2 p, x = .Call (.Name f p2) [y, z] [] p ∧ (f == ("zip" : Str)) = true ∧ glB c f = true ∧ (chkE T c a y = true ∧ plainE y = true) ∧ (chkE T c b z = true ∧ plainE z = true) ∧ isTupE tg = true := by
  cases x <;> first | cases h | skip
  rename_i g xs kw p
  cases g <;> first | cases h | skip
  rename_i f p2
  match xs, kw, h with
  | [y, z], [], h =>
    have h : (f == ("zip" : Str) && glB c f && chkE T c a y && plainE y && chkE T c b z && plainE z && isTupE tg) = true := h
    simp only [Bool.and_eq_true] at h
    obtain ⟨⟨⟨⟨⟨⟨h1, h2⟩, h3⟩, h4⟩, h5⟩, h6⟩, h7⟩ := h
    exact ⟨f, y, z, p2, p, rfl, h1, h2, ⟨h3, h4⟩, ⟨h5, h6⟩, h7⟩
theorem inv_tdp {ts : List (List Nat × List Nat)} (h : chkE T c (.tdp ts) x = true) : ∃ keys vals p, x = .Dict keys vals p ∧ keysT ts keys = true ∧ valsT ts vals = true ∧ ts.length ≤ 15 ∧ ts ≠ [] ∧ (ts.map (·.1)).Nodup := by
  cases x <;> first | cases h | skip
  rename_i keys vals p
  have h : (keysT ts keys && valsT ts vals && decide (ts.length ≤ 15) && !ts.isEmpty && decide (ts.map (·.1)).Nodup) = true := h
  simp only [Bool.and_eq_true, decide_eq_true_eq, Bool.not_eq_true'] at h
  obtain ⟨⟨⟨⟨h1, h2⟩, h3⟩, h4⟩, h5⟩ := h
  exact ⟨keys, vals, p, rfl, h1, h2, h3, (by intro z; rw [z] at h4; cases h4), h5⟩
theorem inv_tix {a b : E} (h : chkE T c (.tix a b) x = true) : ∃ l y p, x = .Subscript l y p ∧ chkE T c a l = true ∧ chkE T c b y = true ∧ plainE y = true := by
  cases x <;> first | cases h | skip
  rename_i l y p
  have h : (chkE T c a l && chkE T c b y && plainE y) = true := h
  simp only [Bool.and_eq_true] at h
  exact ⟨l, y, p, rfl, h.1.1, h.1.2, h.2⟩
theorem inv_rev {a : E} (h : chkE T c (.rev a) x = true) : ∃ y k p1 p2 p3 p, x = .Subscript y (.Slice none none (some (.UnaryOp .USub (.Constant (.int 1) k p1) p2)) p3) p ∧ chkE T c a y = true := by
  cases x <;> first | cases h | skip
  rename_i y sl p
  match sl, h with
  | .Slice none none (some (.UnaryOp .USub (.Constant (.int 1) k p1) p2)) p3, h => exact ⟨y, k, p1, p2, p3, p, rfl, h⟩
theorem inv_popAt {i : Nat} {e : E} (h : chkE T c (.popAt i e) x = true) : ∃ z n y p1 ap p, x = .Call (.Attribute (.Name z p1) n ap) [y] [] p ∧ (n == ("pop" : Str)) = true ∧ nameB c i z = true ∧ chkE T c e y = true ∧ plainE y = true ∧ (ap.endLine == p.line) = true := by
  cases x <;> first | cases h | skip
  rename_i g xs kw p
  cases g <;> first | cases h | skip
  rename_i o n ap
  cases o <;> first | cases h | skip
  rename_i z p1
  match xs, kw, h with
  | [y], [], h =>
    have h : (n == ("pop" : Str) && nameB c i z && chkE T c e y && plainE y && (ap.endLine == p.line)) = true := h
    simp only [Bool.and_eq_true] at h
    exact ⟨z, n, y, p1, ap, p, rfl, h.1.1.1.1, h.1.1.1.2, h.1.1.2, h.1.2, h.2⟩
end inv
end Ev

/-! every expression, put together -/
namespace Ev
open PySem L2
section
variable {G : Ct} {C : Cfg} {T : Nm}
theorem to_o {X : Cx} {c : Sc} {W : WX} (o : Ok X c G W C T) {e : E} {x : Expr} (h : chkE T c e x = true) (ih : PE X x (tX G W C e)) : PE X x (tO G W C e) := by
  by_cases hm : ∃ i, e = .m i
  · obtain ⟨i, rfl⟩ := hm
    obtain ⟨n, p, rfl, h1⟩ := inv_m h
    exact snd_m o h1
  · exact pe_o ih fun i z => hm ⟨i, z⟩
def notBool : Expr → Bool
  | .BoolOp .. => false
  | _ => true
theorem true_plain {X : Cx} {x : Expr} (h : match x with | .Name .. => True | .Constant .. => True | .Call .. => True | _ => False) (whole : Sem Value) : isTrue x X.env whole = (do let v ← whole; standAt x.pos; holding [v] (truthy v)) := by
  cases x <;> first | rfl | cases h
theorem evT_v (i : Nat) (r : Env) : evT C (.v i) r = (evX C (.v i) r).bind fun y r => match y.1 with | .bl b => .ok b r | _ => .bad := by
  show (match getV r i with | some (.bl b) => R.ok b r | _ => .bad) = (lift ((getV r i).map (·, false)) r).bind _
  cases getV r i with
  | none => rfl
  | some d => cases d <;> rfl
theorem evT_bi (f : Bi) (as : List E) (r : Env) : evT C (.bi f as) r = (evX C (.bi f as) r).bind fun y r => match y.1 with | .bl b => .ok b r | _ => .bad := by
  show (evOs C as r).bind (fun os r => match gets r os with
    | some ds => match biD f ds with
      | some (.bl b, _) => R.ok b r
      | _ => .bad
    | none => .bad) = ((evOs C as r).bind fun os r => match gets r os with | some ds => lift (biD f ds) r | none => .bad).bind _
  cases evOs C as r with
  | bad => rfl
  | exc cc rr => rfl
  | ok os r1 =>
    simp only [R.bind]
    cases gets r1 os with
    | none => rfl
    | some ds =>
      simp only
      cases biD f ds with
      | none => rfl
      | some y =>
        obtain ⟨d, fr⟩ := y
        cases d <;> rfl
theorem evT_call (f : Nat) (as : List E) (r : Env) : evT C (.call f as) r = (evX C (.call f as) r).bind fun y r => match y.1 with | .bl b => .ok b r | _ => .bad := by
  show (match C.fn f with | none => R.bad | some _ => ((evOs C as r).bind fun os r => callE C f os r).bind fun x r => match x.1 with
      | .bl b => .ok b r
      | _ => .bad) = (match C.fn f with | none => R.bad | some _ => (evOs C as r).bind fun os r => callE C f os r).bind _
  cases C.fn f <;> rfl
theorem blk_kind {c : Sc} {scope : Scope} {own : List Nat} (h : blkB c scope own = true) : scope.kind = .function := by
  unfold blkB at h
  simp only [Bool.and_eq_true, beq_iff_eq] at h
  exact h.1.1.1.1
theorem pe_bad {X : Cx} {x : Expr} {W : WX} {e : E} (h : ∀ r, evX C e r = .bad) : PE X x (tX G W C e) := ⟨fun _ _ _ _ _ _ ⟨M, U, r, rp, f⟩ => by
  rw [h] at f
  exact f.elim⟩
theorem pt_bad {X : Cx} {x : Expr} {W : WX} {e : E} (h : ∀ r, evT C e r = .bad) : PT X x (tTe G W C e) := ⟨fun _ _ _ _ _ _ ⟨M, U, r, rp, f⟩ => by
  rw [h] at f
  exact f.elim⟩
theorem pw_bad {X : Cx} {x : Expr} {W : WX} {e : E} (h : ∀ r, evT C e r = .bad) : PW X x (tTe G W C e) := ⟨fun _ _ _ _ _ _ _ ⟨M, U, r, rp, f⟩ => by
  rw [h] at f
  exact f.elim⟩
mutual
theorem sndX : ∀ (e : E) {X : Cx} {c : Sc} {W : WX} {x : Expr}, Ok X c G W C T → chkE T c e x = true → PE X x (tX G W C e)
  | .c d, X, c, W, x, o, h => by
    obtain ⟨k, j, p, rfl, h1⟩ := inv_c h
    exact snd_c h1
  | .v i, X, c, W, x, o, h => by
    obtain ⟨n, p, rfl, h1⟩ := inv_v h
    exact snd_v o h1
  | .g n, X, c, W, x, o, h => by
    obtain ⟨m, p, rfl, h1⟩ := inv_g h
    exact snd_g o h1
  | .m i, X, c, W, x, o, h => pe_bad fun r => rfl
  | .dead, X, c, W, x, o, h => pe_bad fun r => rfl
  | .mv i, X, c, W, x, o, h => by
    obtain ⟨n, p, rfl, h1⟩ := inv_mv h
    exact snd_mv o h1
  | .tup es, X, c, W, x, o, h => by
    obtain ⟨xs, k, p, rfl, h1⟩ := inv_tup h
    exact snd_tup (sndEs es o h1)
  | .lst es, X, c, W, x, o, h => by
    obtain ⟨xs, p, rfl, h1⟩ := inv_lst h
    exact snd_lst (sndEs es o h1)
  | .bin b a₁ a₂, X, c, W, x, o, h => by
    obtain ⟨l, r, p, rfl, h1, h2⟩ := inv_bin h
    exact snd_bin o (to_o o h1 (sndX a₁ o h1)) (to_o o h2 (sndX a₂ o h2))
  | .neg a, X, c, W, x, o, h => by
    obtain ⟨l, p, rfl, h1⟩ := inv_neg h
    exact snd_neg (sndX a o h1)
  | .cmp b a₁ a₂, X, c, W, x, o, h => by
    obtain ⟨l, r, p, rfl, h1, h2, h3⟩ := inv_cmp h
    exact snd_cmp o (to_o o h1 (sndX a₁ o h1)) (to_o o h2 (sndX a₂ o h2)) h3
  | .chain b b' a₁ a₂ a₃, X, c, W, x, o, h => by
    obtain ⟨l, y, z, p, rfl, h1, h2, h3, h4⟩ := inv_chain h
    exact snd_chain o (sndX a₁ o h1) (sndX a₂ o h2) (sndX a₃ o h3) h4
  | .and a b, X, c, W, x, o, h => by
    obtain ⟨l, y, rest, p, rfl, h1, h2⟩ := inv_and h
    rcases h2 with ⟨rfl, h2⟩ | h2
    · exact snd_and (sndX a o h1) (pe_one (sndX b o h2))
    · exact snd_and (sndX a o h1) (sndX b o h2)
  | .or a b, X, c, W, x, o, h => by
    obtain ⟨l, y, rest, p, rfl, h1, h2⟩ := inv_or h
    rcases h2 with ⟨rfl, h2⟩ | h2
    · exact snd_or (sndX a o h1) (pe_one (sndX b o h2))
    · exact snd_or (sndX a o h1) (sndX b o h2)
  | .not a, X, c, W, x, o, h => by
    obtain ⟨l, p, rfl, h1⟩ := inv_not h
    exact snd_not (sndX a o h1)
  | .ifx t a b, X, c, W, x, o, h => by
    obtain ⟨l, y, z, p, rfl, h1, h2, h3⟩ := inv_ifx h
    exact snd_ifx (sndT t o h1).1 (sndX a o h2) (sndX b o h3)
  | .ix a b, X, c, W, x, o, h => by
    obtain ⟨l, y, p, rfl, h1, h2, h3⟩ := inv_ix h
    exact snd_ix o (to_o o h1 (sndX a o h1)) (sndX b o h2) h3
  | .sl a lo hi, X, c, W, x, o, h => by
    obtain ⟨l, s, e, p2, p, rfl, h1, h2, h3⟩ := inv_sl h
    exact snd_sl o (to_o o h1 (sndX a o h1)) (sndI lo o h2) (sndI hi o h3)
  | .rev a, X, c, W, x, o, h => by
    obtain ⟨y, k, p1, p2, p3, p, rfl, h1⟩ := inv_rev h
    exact snd_rev o (sndX a o h1)
  | .bi (.isa t) [], X, c, W, x, o, h => by
    obtain ⟨a, f, y, ty, p2, p3, p, e1, _⟩ := inv_isa h
    cases e1
  | .bi (.isa t) (a :: as), X, c, W, x, o, h => by
    obtain ⟨a', f, y, ty, p2, p3, p, e1, rfl, h1, h2, h3, h4, h5, h6, h7⟩ := inv_isa h
    cases e1
    exact snd_isa o h1 h2 (to_o o h3 (sndX a o h3)) h4 h5 h6 h7
  | .bi .len as, X, c, W, x, o, h => by
    obtain ⟨n, y, ys, p2, p, rfl, h1, h2, h3, h4⟩ := inv_bi (fun t z => by cases z) h
    exact snd_bi o h1 h2 (sndOs as o h3) h4
  | .bi .tuple as, X, c, W, x, o, h => by
    obtain ⟨n, y, ys, p2, p, rfl, h1, h2, h3, h4⟩ := inv_bi (fun t z => by cases z) h
    exact snd_bi o h1 h2 (sndOs as o h3) h4
  | .bi .list as, X, c, W, x, o, h => by
    obtain ⟨n, y, ys, p2, p, rfl, h1, h2, h3, h4⟩ := inv_bi (fun t z => by cases z) h
    exact snd_bi o h1 h2 (sndOs as o h3) h4
  | .bi .all as, X, c, W, x, o, h => by
    obtain ⟨n, y, ys, p2, p, rfl, h1, h2, h3, h4⟩ := inv_bi (fun t z => by cases z) h
    exact snd_bi o h1 h2 (sndOs as o h3) h4
  | .bi .any as, X, c, W, x, o, h => by
    obtain ⟨n, y, ys, p2, p, rfl, h1, h2, h3, h4⟩ := inv_bi (fun t z => by cases z) h
    exact snd_bi o h1 h2 (sndOs as o h3) h4
  | .bi .int as, X, c, W, x, o, h => by
    obtain ⟨n, y, ys, p2, p, rfl, h1, h2, h3, h4⟩ := inv_bi (fun t z => by cases z) h
    exact snd_bi o h1 h2 (sndOs as o h3) h4
  | .bi .abs as, X, c, W, x, o, h => by
    obtain ⟨n, y, ys, p2, p, rfl, h1, h2, h3, h4⟩ := inv_bi (fun t z => by cases z) h
    exact snd_bi o h1 h2 (sndOs as o h3) h4
  | .bi .sorted as, X, c, W, x, o, h => by
    obtain ⟨n, y, ys, p2, p, rfl, h1, h2, h3, h4⟩ := inv_bi (fun t z => by cases z) h
    exact snd_bi o h1 h2 (sndOs as o h3) h4
  | .bi .min as, X, c, W, x, o, h => by
    obtain ⟨n, y, ys, p2, p, rfl, h1, h2, h3, h4⟩ := inv_bi (fun t z => by cases z) h
    exact snd_bi o h1 h2 (sndOs as o h3) h4
  | .bi .max as, X, c, W, x, o, h => by
    obtain ⟨n, y, ys, p2, p, rfl, h1, h2, h3, h4⟩ := inv_bi (fun t z => by cases z) h
    exact snd_bi o h1 h2 (sndOs as o h3) h4
  | .bi .sum as, X, c, W, x, o, h => by
    obtain ⟨n, y, ys, p2, p, rfl, h1, h2, h3, h4⟩ := inv_bi (fun t z => by cases z) h
    exact snd_bi o h1 h2 (sndOs as o h3) h4
  | .mt f o' [], X, c, W, x, o, h => by
    obtain ⟨b, l, y, ap, p, e1, _⟩ := inv_mt h
    cases e1
  | .mt f o' (b :: bs), X, c, W, x, o, h => by
    obtain ⟨b', l, y, ap, p, e1, rfl, h1, h2, h3, h4, h5⟩ := inv_mt h
    cases e1
    exact snd_mt o (to_o o h1 (sndX o' o h1)) (to_o o h2 (sndX b o h2)) h3 h4 h5
  | .call f as, X, c, W, x, o, h => by
    obtain ⟨n, y, ys, p2, p, rfl, h1, h2, h3, h4⟩ := inv_call h
    exact snd_call o h1 h2 (sndOs as o h3) h4
  | .comp own elt t it none, X, c, W, x, o, h => by
    obtain ⟨e, tg, iter, cs, scope, p, rfl, h1, h2, h3, h4, h5, h6, h7⟩ := inv_comp h
    have hk := blk_kind h1
    rcases h7 with ⟨_, rfl⟩ | ⟨q, y, z, _⟩
    · exact (snd_comp (ifs := none) o h1 (sndIt it o h2) h4 (fun s H A cl fp => snd_T (o.blk hk) h3) (fun s H A cl fp => pts_nil) (fun s H A cl fp => sndX elt (o.blk hk) h5) h6).1
    · cases z
  | .comp own elt t it (some q), X, c, W, x, o, h => by
    obtain ⟨e, tg, iter, cs, scope, p, rfl, h1, h2, h3, h4, h5, h6, h7⟩ := inv_comp h
    have hk := blk_kind h1
    rcases h7 with ⟨z, _⟩ | ⟨q', y, z, rfl, h7⟩
    · cases z
    · cases z
      exact (snd_comp (ifs := some q) o h1 (sndIt it o h2) h4 (fun s H A cl fp => snd_T (o.blk hk) h3) (fun s H A cl fp => pts_one (sndT q (o.blk hk) h7).1) (fun s H A cl fp => sndX elt (o.blk hk) h5) h6).1
  | .comp2 own own1 elt t it t1 it1 none, X, c, W, x, o, h => by
    obtain ⟨e, tg, iter, tg1, iter1, cs, scope, p, rfl, h1, h2, h3, h4, h5, h6, h7, h8, h9, h10, h11, h12⟩ := inv_comp2 h
    have hk := blk_kind h1
    rcases h12 with ⟨_, rfl⟩ | ⟨q, y, z, _⟩
    · exact (snd_comp2 (ifs := none) o h1 (sndIt it o h2) h4 (fun s H A cl fp => snd_T (o.blk hk) h3) (fun s H A cl fp => sndIt it1 (o.blk hk) h5) h7 h8 (fun s H A cl fp => snd_T (o.blk hk) h6) (fun s H A cl fp => pts_nil) (fun s H A cl fp => sndX elt (o.blk hk) h9) h10 h11).1
    · cases z
  | .comp2 own own1 elt t it t1 it1 (some q), X, c, W, x, o, h => by
    obtain ⟨e, tg, iter, tg1, iter1, cs, scope, p, rfl, h1, h2, h3, h4, h5, h6, h7, h8, h9, h10, h11, h12⟩ := inv_comp2 h
    have hk := blk_kind h1
    rcases h12 with ⟨z, _⟩ | ⟨q', y, z, rfl, h12⟩
    · cases z
    · cases z
      exact (snd_comp2 (ifs := some q) o h1 (sndIt it o h2) h4 (fun s H A cl fp => snd_T (o.blk hk) h3) (fun s H A cl fp => sndIt it1 (o.blk hk) h5) h7 h8 (fun s H A cl fp => snd_T (o.blk hk) h6) (fun s H A cl fp => pts_one (sndT q (o.blk hk) h12).1) (fun s H A cl fp => sndX elt (o.blk hk) h9) h10 h11).1
  | .lrg a, X, c, W, x, o, h => by
    obtain ⟨f, g, y, p, p2, p3, p4, rfl, h1, h2, h3, h4, h5, h6⟩ := inv_lrg h
    exact snd_lrg o h1 h2 h3 h4 (sndX a o h5) h6
  | .sset a, X, c, W, x, o, h => by
    obtain ⟨f, g, y, p, p2, p3, p4, rfl, h1, h2, h3, h4, h5, h6⟩ := inv_sset h
    exact snd_sset o h1 h2 h3 h4 (to_o o h5 (sndX a o h5)) h6
  | .lset a, X, c, W, x, o, h => by
    obtain ⟨f, g, y, p, p2, p3, p4, rfl, h1, h2, h3, h4, h5, h6⟩ := inv_lset h
    exact snd_lset o h1 h2 h3 h4 (to_o o h5 (sndX a o h5)) h6
  | .tdp ts, X, c, W, x, o, h => by
    obtain ⟨keys, vals, p, rfl, h1, h2, h3, h4, h5⟩ := inv_tdp h
    exact snd_tdp o h1 h2 h3 h4 h5
  | .tix a b, X, c, W, x, o, h => by
    obtain ⟨l, y, p, rfl, h1, h2, h3⟩ := inv_tix h
    exact snd_tix o (sndX a o h1) (sndX b o h2) h3
  | .gd n a, X, c, W, x, o, h => by
    obtain ⟨y, z, p, p2, rfl, h1, h2, h3⟩ := inv_gd h
    exact snd_gd o h1 (sndX a o h2) h3
  | .gc n a, X, c, W, x, o, h => by
    obtain ⟨y, z, p, p2, rfl, h1, h2⟩ := inv_gc h
    exact snd_gc o h1 (sndX a o h2)
  | .dsp ks vs a, X, c, W, x, o, h => by
    obtain ⟨keys, vals, y, p, p2, rfl, h1, h2, h3, h4, h5, h6, h7, h8⟩ := inv_dsp h
    obtain ⟨k1, k2⟩ := keys_len h1
    exact snd_dsp o (sndPs vs o (by rw [h3, chkEs_len h2]) h1 h2) k2 (by rw [k1, h3]) (fun z => h5 (by rw [z] at k1; exact List.length_eq_zero_iff.mp k1.symm)) (by rw [k1]; exact h4) k1 (by rw [h3, chkEs_len h2]) h6 (sndX a o h7) h8
  | .pop i, X, c, W, x, o, h => by cases x <;> cases h
  | .popAt i e, X, c, W, x, o, h => by
    obtain ⟨z, n, y, p1, ap, p, rfl, h1, h2, h3, h4, h5⟩ := inv_popAt h
    exact snd_popAt o h1 h2 (sndX e o h3) h4 h5
theorem sndT : ∀ (e : E) {X : Cx} {c : Sc} {W : WX} {x : Expr}, Ok X c G W C T → chkE T c e x = true → PT X x (tTe G W C e) ∧ (notBool x = false → PW X x (tTe G W C e))
  | .not a, X, c, W, x, o, h => by
    obtain ⟨l, p, rfl, h1⟩ := inv_not h
    exact ⟨snt_not (sndT a o h1).1, fun z => by cases z⟩
  | .and a b, X, c, W, x, o, h => by
    obtain ⟨l, y, rest, p, rfl, h1, h2⟩ := inv_and h
    have pw : PW X (.BoolOp .And (l :: y :: rest) p) (tTe G W C (.and a b)) := by
      rcases h2 with ⟨rfl, h2⟩ | h2
      · exact snw_and (sndT a o h1).1 (pw_and1 (sndT b o h2).1)
      · exact snw_and (sndT a o h1).1 ((sndT b o h2).2 rfl)
    exact ⟨pw.pt, fun _ => pw⟩
  | .or a b, X, c, W, x, o, h => by
    obtain ⟨l, y, rest, p, rfl, h1, h2⟩ := inv_or h
    have pw : PW X (.BoolOp .Or (l :: y :: rest) p) (tTe G W C (.or a b)) := by
      rcases h2 with ⟨rfl, h2⟩ | h2
      · exact snw_or (sndT a o h1).1 (pw_or1 (sndT b o h2).1)
      · exact snw_or (sndT a o h1).1 ((sndT b o h2).2 rfl)
    exact ⟨pw.pt, fun _ => pw⟩
  | .cmp b a₁ a₂, X, c, W, x, o, h => by
    obtain ⟨l, r, p, rfl, h1, h2, h3⟩ := inv_cmp h
    exact ⟨snt_cmp o (to_o o h1 (sndX a₁ o h1)) (to_o o h2 (sndX a₂ o h2)) h3, fun z => by cases z⟩
  | .chain b b' a₁ a₂ a₃, X, c, W, x, o, h => by
    obtain ⟨l, y, z, p, rfl, h1, h2, h3, h4⟩ := inv_chain h
    exact ⟨snt_chain o (sndX a₁ o h1) (sndX a₂ o h2) (sndX a₃ o h3) h4, fun z => by cases z⟩
  | .c d, X, c, W, x, o, h => by
    obtain ⟨k, j, p, rfl, h1⟩ := inv_c h
    refine ⟨?_, fun z => by cases z⟩
    cases d with
    | bl b => exact snt_val (snd_c h1) (fun wh => true_plain (by trivial) wh) fun r => rfl
    | _ => exact pt_bad fun r => rfl
  | .v i, X, c, W, x, o, h => by
    obtain ⟨n, p, rfl, h1⟩ := inv_v h
    exact ⟨snt_val (snd_v o h1) (fun wh => true_plain (by trivial) wh) (evT_v i), fun z => by cases z⟩
  | .bi (.isa t) [], X, c, W, x, o, h => by
    obtain ⟨a, f, y, ty, p2, p3, p, e1, _⟩ := inv_isa h
    cases e1
  | .bi (.isa t) (a :: as), X, c, W, x, o, h => by
    obtain ⟨a', f, y, ty, p2, p3, p, e1, rfl, h1, h2, h3, h4, h5, h6, h7⟩ := inv_isa h
    cases e1
    exact ⟨snt_val (snd_isa o h1 h2 (to_o o h3 (sndX a o h3)) h4 h5 h6 h7) (fun wh => true_plain (by trivial) wh) (evT_bi _ _), fun z => by cases z⟩
  | .bi .len as, X, c, W, x, o, h => by
    obtain ⟨n, y, ys, p2, p, rfl, h1, h2, h3, h4⟩ := inv_bi (fun t z => by cases z) h
    exact ⟨snt_val (snd_bi o h1 h2 (sndOs as o h3) h4) (fun wh => true_plain (by trivial) wh) (evT_bi _ _), fun z => by cases z⟩
  | .bi .tuple as, X, c, W, x, o, h => by
    obtain ⟨n, y, ys, p2, p, rfl, h1, h2, h3, h4⟩ := inv_bi (fun t z => by cases z) h
    exact ⟨snt_val (snd_bi o h1 h2 (sndOs as o h3) h4) (fun wh => true_plain (by trivial) wh) (evT_bi _ _), fun z => by cases z⟩
  | .bi .list as, X, c, W, x, o, h => by
    obtain ⟨n, y, ys, p2, p, rfl, h1, h2, h3, h4⟩ := inv_bi (fun t z => by cases z) h
    exact ⟨snt_val (snd_bi o h1 h2 (sndOs as o h3) h4) (fun wh => true_plain (by trivial) wh) (evT_bi _ _), fun z => by cases z⟩
  | .bi .all as, X, c, W, x, o, h => by
    obtain ⟨n, y, ys, p2, p, rfl, h1, h2, h3, h4⟩ := inv_bi (fun t z => by cases z) h
    exact ⟨snt_val (snd_bi o h1 h2 (sndOs as o h3) h4) (fun wh => true_plain (by trivial) wh) (evT_bi _ _), fun z => by cases z⟩
  | .bi .any as, X, c, W, x, o, h => by
    obtain ⟨n, y, ys, p2, p, rfl, h1, h2, h3, h4⟩ := inv_bi (fun t z => by cases z) h
    exact ⟨snt_val (snd_bi o h1 h2 (sndOs as o h3) h4) (fun wh => true_plain (by trivial) wh) (evT_bi _ _), fun z => by cases z⟩
  | .bi .int as, X, c, W, x, o, h => by
    obtain ⟨n, y, ys, p2, p, rfl, h1, h2, h3, h4⟩ := inv_bi (fun t z => by cases z) h
    exact ⟨snt_val (snd_bi o h1 h2 (sndOs as o h3) h4) (fun wh => true_plain (by trivial) wh) (evT_bi _ _), fun z => by cases z⟩
  | .bi .abs as, X, c, W, x, o, h => by
    obtain ⟨n, y, ys, p2, p, rfl, h1, h2, h3, h4⟩ := inv_bi (fun t z => by cases z) h
    exact ⟨snt_val (snd_bi o h1 h2 (sndOs as o h3) h4) (fun wh => true_plain (by trivial) wh) (evT_bi _ _), fun z => by cases z⟩
  | .bi .sorted as, X, c, W, x, o, h => by
    obtain ⟨n, y, ys, p2, p, rfl, h1, h2, h3, h4⟩ := inv_bi (fun t z => by cases z) h
    exact ⟨snt_val (snd_bi o h1 h2 (sndOs as o h3) h4) (fun wh => true_plain (by trivial) wh) (evT_bi _ _), fun z => by cases z⟩
  | .bi .min as, X, c, W, x, o, h => by
    obtain ⟨n, y, ys, p2, p, rfl, h1, h2, h3, h4⟩ := inv_bi (fun t z => by cases z) h
    exact ⟨snt_val (snd_bi o h1 h2 (sndOs as o h3) h4) (fun wh => true_plain (by trivial) wh) (evT_bi _ _), fun z => by cases z⟩
  | .bi .max as, X, c, W, x, o, h => by
    obtain ⟨n, y, ys, p2, p, rfl, h1, h2, h3, h4⟩ := inv_bi (fun t z => by cases z) h
    exact ⟨snt_val (snd_bi o h1 h2 (sndOs as o h3) h4) (fun wh => true_plain (by trivial) wh) (evT_bi _ _), fun z => by cases z⟩
  | .bi .sum as, X, c, W, x, o, h => by
    obtain ⟨n, y, ys, p2, p, rfl, h1, h2, h3, h4⟩ := inv_bi (fun t z => by cases z) h
    exact ⟨snt_val (snd_bi o h1 h2 (sndOs as o h3) h4) (fun wh => true_plain (by trivial) wh) (evT_bi _ _), fun z => by cases z⟩
  | .call f as, X, c, W, x, o, h => by
    obtain ⟨n, y, ys, p2, p, rfl, h1, h2, h3, h4⟩ := inv_call h
    exact ⟨snt_val (snd_call o h1 h2 (sndOs as o h3) h4) (fun wh => true_plain (by trivial) wh) (evT_call f as), fun z => by cases z⟩
  | .dead, X, c, W, x, o, h => ⟨pt_bad fun r => rfl, fun _ => pw_bad fun r => rfl⟩
  | .g _, X, c, W, x, o, h => by
    obtain ⟨m, p, rfl, h1⟩ := inv_g h
    exact ⟨pt_bad fun r => rfl, fun z => by cases z⟩
  | .m _, X, c, W, x, o, h => by
    obtain ⟨m, p, rfl, h1⟩ := inv_m h
    exact ⟨pt_bad fun r => rfl, fun z => by cases z⟩
  | .mv _, X, c, W, x, o, h => by
    obtain ⟨m, p, rfl, h1⟩ := inv_mv h
    exact ⟨pt_bad fun r => rfl, fun z => by cases z⟩
  | .tup _, X, c, W, x, o, h => by
    obtain ⟨xs, k, p, rfl, h1⟩ := inv_tup h
    exact ⟨pt_bad fun r => rfl, fun z => by cases z⟩
  | .lst _, X, c, W, x, o, h => by
    obtain ⟨xs, p, rfl, h1⟩ := inv_lst h
    exact ⟨pt_bad fun r => rfl, fun z => by cases z⟩
  | .bin _ _ _, X, c, W, x, o, h => by
    obtain ⟨l, r, p, rfl, h1, h2⟩ := inv_bin h
    exact ⟨pt_bad fun r => rfl, fun z => by cases z⟩
  | .neg _, X, c, W, x, o, h => by
    obtain ⟨l, p, rfl, h1⟩ := inv_neg h
    exact ⟨pt_bad fun r => rfl, fun z => by cases z⟩
  | .ifx _ _ _, X, c, W, x, o, h => by
    obtain ⟨l, y, z, p, rfl, h1, h2, h3⟩ := inv_ifx h
    exact ⟨pt_bad fun r => rfl, fun z => by cases z⟩
  | .ix _ _, X, c, W, x, o, h => by
    obtain ⟨l, y, p, rfl, h1, h2, h3⟩ := inv_ix h
    exact ⟨pt_bad fun r => rfl, fun z => by cases z⟩
  | .sl _ _ _, X, c, W, x, o, h => by
    obtain ⟨l, s, e, p2, p, rfl, h1, h2, h3⟩ := inv_sl h
    exact ⟨pt_bad fun r => rfl, fun z => by cases z⟩
  | .rev a, X, c, W, x, o, h => by
    obtain ⟨y, k, p1, p2, p3, p, rfl, h1⟩ := inv_rev h
    exact ⟨pt_bad fun r => rfl, fun z => by cases z⟩
  | .mt _ _ _, X, c, W, x, o, h => by
    obtain ⟨b, l, y, ap, p, e1, rfl, h1, h2, h3, h4, h5⟩ := inv_mt h
    exact ⟨pt_bad fun r => rfl, fun z => by cases z⟩
  | .comp _ _ _ _ _, X, c, W, x, o, h => by
    obtain ⟨e, tg, iter, cs, scope, p, rfl, h1, h2, h3, h4, h5, h6, h7⟩ := inv_comp h
    exact ⟨pt_bad fun r => rfl, fun z => by cases z⟩
  | .comp2 _ _ _ _ _ _ _ _, X, c, W, x, o, h => by
    obtain ⟨e, tg, iter, tg1, iter1, cs, scope, p, rfl, _⟩ := inv_comp2 h
    exact ⟨pt_bad fun r => rfl, fun z => by cases z⟩
  | .lrg _, X, c, W, x, o, h => by
    obtain ⟨f, g, y, p, p2, p3, p4, rfl, _⟩ := inv_lrg h
    exact ⟨pt_bad fun r => rfl, fun z => by cases z⟩
  | .sset _, X, c, W, x, o, h => by
    obtain ⟨f, g, y, p, p2, p3, p4, rfl, _⟩ := inv_sset h
    exact ⟨pt_bad fun r => rfl, fun z => by cases z⟩
  | .lset _, X, c, W, x, o, h => by
    obtain ⟨f, g, y, p, p2, p3, p4, rfl, _⟩ := inv_lset h
    exact ⟨pt_bad fun r => rfl, fun z => by cases z⟩
  | .tdp ts, X, c, W, x, o, h => by
    obtain ⟨keys, vals, p, rfl, _⟩ := inv_tdp h
    exact ⟨pt_bad fun r => rfl, fun z => by cases z⟩
  | .tix a b, X, c, W, x, o, h => by
    obtain ⟨l, y, p, rfl, _⟩ := inv_tix h
    exact ⟨pt_bad fun r => rfl, fun z => by cases z⟩
  | .gd n a, X, c, W, x, o, h => by
    obtain ⟨y, z, p, p2, rfl, h1, h2, h3⟩ := inv_gd h
    exact ⟨pt_bad fun r => rfl, fun z => by cases z⟩
  | .gc n a, X, c, W, x, o, h => by
    obtain ⟨y, z, p, p2, rfl, h1, h2⟩ := inv_gc h
    exact ⟨snt_gc o h1 (sndX a o h2), fun z => by cases z⟩
  | .dsp _ _ _, X, c, W, x, o, h => by
    obtain ⟨keys, vals, y, p, p2, rfl, _⟩ := inv_dsp h
    exact ⟨pt_bad fun r => rfl, fun z => by cases z⟩
  | .pop i, X, c, W, x, o, h => by cases x <;> cases h
  | .popAt i e, X, c, W, x, o, h => by
    obtain ⟨z, n, y, p1, ap, p, rfl, h1, h2, h3, h4, h5⟩ := inv_popAt h
    exact ⟨pt_bad fun r => rfl, fun z => by cases z⟩
theorem sndEs : ∀ (es : List E) {X : Cx} {c : Sc} {W : WX} {xs : List Expr}, Ok X c G W C T → chkEs T c es xs = true → PA X xs (tEs G W C es)
  | [], X, c, W, xs, o, h => by
    cases xs with
    | nil => exact es_nil
    | cons => cases h
  | a :: as, X, c, W, xs, o, h => by
    cases xs with
    | nil => cases h
    | cons y ys =>
      have h : (chkE T c a y && plainE y && chkEs T c as ys) = true := h
      simp only [Bool.and_eq_true] at h
      exact es_cons h.1.2 (sndX a o h.1.1) (sndEs as o h.2)
theorem sndOs : ∀ (es : List E) {X : Cx} {c : Sc} {W : WX} {xs : List Expr}, Ok X c G W C T → chkEs T c es xs = true → PA X xs (tOs G W C es)
  | [], X, c, W, xs, o, h => by
    cases xs with
    | nil => exact os_nil
    | cons => cases h
  | a :: as, X, c, W, xs, o, h => by
    cases xs with
    | nil => cases h
    | cons y ys =>
      have h : (chkE T c a y && plainE y && chkEs T c as ys) = true := h
      simp only [Bool.and_eq_true] at h
      exact os_cons h.1.2 (to_o o h.1.1 (sndX a o h.1.1)) (sndOs as o h.2)
theorem sndPs : ∀ (es : List E) {X : Cx} {c : Sc} {W : WX} {ks : List Int} {keys : List (Option Expr)} {xs : List Expr} {pos : Pos}, Ok X c G W C T → ks.length = es.length → keysB ks keys = true → chkEs T c es xs = true → PPs X pos keys xs (tDps G W C ks es)
  | [], X, c, W, ks, keys, xs, pos, o, hl, hk, h => by
    cases xs with
    | cons => cases h
    | nil =>
      match ks, keys, hl, hk with
      | [], [], hl, hk => exact pps_nil
  | a :: as, X, c, W, ks, keys, xs, pos, o, hl, hk, h => by
    cases xs with
    | nil => cases h
    | cons y ys =>
      have h : (chkE T c a y && plainE y && chkEs T c as ys) = true := h
      simp only [Bool.and_eq_true] at h
      match ks, keys, hl, hk with
      | k :: ks, some (.Constant (.int i) _ _) :: keys, hl, hk =>
        have hk : (k == i && keysB ks keys) = true := hk
        simp only [Bool.and_eq_true] at hk
        have e := eq_of_beq hk.1
        subst e
        exact pps_cons pe_int (sndX a o h.1.1) (sndPs as o (by simpa using hl) hk.2 h.2)
theorem sndI : ∀ (e : Option E) {X : Cx} {c : Sc} {W : WX} {x : Option Expr}, Ok X c G W C T → chkO T c e x = true → PO X x (tI G W C e)
  | none, X, c, W, x, o, h => by
    cases x with
    | none => exact snd_i0
    | some => cases h
  | some a, X, c, W, x, o, h => by
    cases x with
    | none => cases h
    | some y => exact snd_i1 (sndX a o h)
theorem sndIt : ∀ (it : Ev.It) {X : Cx} {c : Sc} {W : WX} {x tg : Expr}, Ok X c G W C T → chkIt T c it tg x = true → PI X tg x (tW G W C it)
  | .e a, X, c, W, x, tg, o, h => snd_ite o (sndX a o h)
  | .r1 a, X, c, W, x, tg, o, h => by
    obtain ⟨f, y, p2, p, rfl, h1, h2, h3, h4⟩ := inv_r1 h
    exact snd_r1 o h1 h2 (sndX a o h3) h4
  | .r2 a b, X, c, W, x, tg, o, h => by
    obtain ⟨f, y, z, p2, p, rfl, h1, h2, h3, h4, h5, h6⟩ := inv_r2 h
    exact snd_r2 o h1 h2 (sndX a o h3) h4 (sndX b o h5) h6
  | .r3 a b d, X, c, W, x, tg, o, h => by
    obtain ⟨f, y, z, u, p2, p, rfl, h1, h2, h3, h4, h5⟩ := inv_r3 h
    exact snd_r3 o h1 h2 (sndX a o h3.1) h3.2 (sndX b o h4.1) h4.2 (sndX d o h5.1) h5.2
  | .en a, X, c, W, x, tg, o, h => by
    obtain ⟨f, y, p2, p, rfl, h1, h2, h3, h4, h5⟩ := inv_en h
    exact snd_en o h1 h2 (sndX a o h3) h4 h5
  | .zp a b, X, c, W, x, tg, o, h => by
    obtain ⟨f, y, z, p2, p, rfl, h1, h2, h3, h4, h5⟩ := inv_zp h
    exact snd_zp o h1 h2 (sndX a o h3.1) h3.2 (sndX b o h4.1) h4.2 h5
end
end
end Ev

/-! statements -/
namespace Ev
open PySem L2
/-! ### the check -/
def notComp : Expr → Bool
  | .ListComp .. => false
  | .SetComp .. => false
  | .DictComp .. => false
  | _ => true
def notTup : Expr → Bool
  | .Tuple .. => false
  | _ => true
def isNameTg : Expr → Bool
  | .Name .. => true
  | _ => false
/-- the names of a, b = .. that are stored from the right -/
def swapNS (sc : Scope) (ts : List Expr) : List Str := ts.filterMap fun
  | .Name id pos => if sc.names.lookup id == some .local && pos.line == (ts.head?.map (·.pos.line)).getD 0 then some id else none
  | _ => none
def isStar : Expr → Bool
  | .Starred .. => true
  | _ => false
def swapsB (c : Sc) (ts vs : List Expr) : Bool := (ts.length == 2 || ts.length == 3) && (swapNS c.sc ts).length == ts.length && (swapNS c.sc ts).eraseDups.length == (swapNS c.sc ts).length && !vs.all (foldedForSure 8) && !vs.all (constantsAlone 8)
def straightB (c : Sc) (ts vs : List Expr) : Bool := !(ts.length == 2 || ts.length == 3) || (swapNS c.sc ts).length != ts.length || vs.all (foldedForSure 8)
def mapFst (ts : List (Nat × Bool)) : List Nat := ts.map (·.1)
mutual
def chkS (T : Nm) (c : Sc) : S → Stmt → Bool
  | .dead, _ => true
  | .asg (.n i) e, .Assign [.Name x p] v _ => locB c i x && chkE T c e v
  | .asg (.t is) e, .Assign [.Tuple es _ _] v _ => locEs c is es && chkE T c e v && notTup v
  | .new i e, .Assign [.Name x p] v _ => locB c i x && chkE T c e v
  | .par ts es, .Assign [.Tuple tes _ _] (.Tuple vs _ _) _ => locEs c (mapFst ts) tes && chkEs T c es vs && (mapFst ts).length == vs.length && decide (mapFst ts).Nodup && decide ((mapFst ts).length ≤ 100) && (swapsB c tes vs || straightB c tes vs)
  | .seti i k e, .Assign [.Subscript (.Name x _) y _] v _ => nameB c i x && chkE T c k y && plainE y && chkE T c e v
  | .app i e, .Expr (.Call (.Attribute (.Name x _) n ap) [y] [] p) _ => n == ("append" : Str) && nameB c i x && chkE T c e y && plainE y && (ap.endLine == p.line)
  | .ex e, .Expr v _ => chkE T c e v && notComp v
  | .ret e, .Return (some v) _ => chkE T c e v
  | .ife t a b, .If v x y _ => chkE T c t v && chkSs T c a x && chkSs T c b y
  | .for_ t it b, .For tg iter x [] _ => chkT c t tg && chkIt T c it tg iter && plainE iter && chkSs T c b x
  | .whl t b, .While v x [] _ => chkE T c t v && chkSs T c b x
  | .rais k, .Raise (some (.Call (.Name x _) [.Constant (.str _) _ _] [] _)) none _ => T.cnm k == some x && glB c x
  | _, _ => false
def chkSs (T : Nm) (c : Sc) : List S → List Stmt → Bool
  | [], [] => true
  | .frz _ :: ss, xs => chkSs T c ss xs
  | s :: ss, x :: xs => chkS T c s x && chkSs T c ss xs
  | _, _ => false
end
/-! ### readings -/
def FinS (G : Ct) (W : WX) (H : Hp) (M U : AP) (x : RS) (D : Ends) : Prop := match x with
  | .next r => ∀ s' H' M' U', Step M U H M' U' H' → Rep G H' M' U' s' r → D.nx s' H'
  | .ret d fr r => ∀ s' H' M' U' v, Step M U H M' U' H' → Rep G H' M' U' s' r → IsV G s' r H' M' U' v d fr → D.rt v H'
  | .exc c r => ∀ s' H' M' U', Step M U H M' U' H' → Rep G H' M' U' s' r → W (G.cv c) none s' H'
  | .bad => False
def tS (G : Ct) (W : WX) (C : Cfg) (st : S) : TS := fun D s H => ∃ M U r, Rep G H M U s r ∧ FinS G W H M U (evS C st r) D
def tSs (G : Ct) (W : WX) (C : Cfg) (ss : List S) : TS := fun D s H => ∃ M U r, Rep G H M U s r ∧ FinS G W H M U (evSs C ss r) D
structure OkF (X : Cx) (c : Sc) (G : Ct) (W : WX) (C : Cfg) (T : Nm) : Prop extends Ok X c G W C T where
  po : PassesOwn (model X.prog X.w) X.A X.env X.xe
  cls : ∀ k nm, T.cnm k = some nm → ∀ (m : Str) (j : Nat) (p p2 pos : Pos), Gl X nm → (nm == ("__debug__" : Str)) = false → PMk X (.Call (.Name nm p) [.Constant (.str m) j p2] [] pos) (fun _ H Q => Q (G.cv k) none H)
section
variable {X : Cx} {c : Sc} {G : Ct} {W : WX} {C : Cfg} {T : Nm} {s : St} {H H' : Hp} {M U M' U' : AP} {r : Env} {En : Ends} {α : Type}
theorem FinS.step {x : RS} (hm : ∀ a, M a → H a ≠ none) (h : FinS G W H M U x En) (st : Step M U H M' U' H') : FinS G W H' M' U' x En := by
  cases x with
  | next r => exact fun s2 H2 M2 U2 st2 rp => h s2 H2 M2 U2 (st.trans hm st2) rp
  | ret d fr r => exact fun s2 H2 M2 U2 v st2 rp iv => h s2 H2 M2 U2 v (st.trans hm st2) rp iv
  | exc c r => exact fun s2 H2 M2 U2 st2 rp => h s2 H2 M2 U2 (st.trans hm st2) rp
  | bad => exact h
theorem FinS.toS {x : R α} {f : α → Env → RS} (hm : ∀ a, M a → H a ≠ none) (h : FinS G W H M U (x.toS f) En) : Fin G W s H M U x (fun a r H' M' U' => FinS G W H' M' U' (f a r) En) := by
  cases x with
  | ok a r => exact fun H2 M2 U2 st rp => FinS.step (x := f a r) hm h st
  | exc c r => exact fun H2 M2 U2 st rp => h s H2 M2 U2 st rp
  | bad => exact h
theorem fs_here {r : Env} (rp : Rep G H M U s r) (f : FinS G W H M U (.next r) En) : En.nx s H := f s H M U (Step.refl M U H) rp
/-! ### another base point -/
def Ct.at (G : Ct) (H : Hp) (U : AP) : Ct := { G with H0 := H, U0 := U }
def Like (G G' : Ct) : Prop := G'.K = G.K ∧ G'.io = G.io ∧ G'.cv = G.cv
theorem Ok.like (o : Ok X c G W C T) {G' : Ct} (h : Like G G') : Ok X c G' W C T := by
  obtain ⟨K, io, s0, H0, U0, cv⟩ := G
  obtain ⟨K', io', s0', H0', U0', cv'⟩ := G'
  obtain ⟨h1, h2, h3⟩ := h
  simp only at h1 h2 h3
  subst h1 h2 h3
  exact ⟨o.hN, o.hs, o.hf, o.calm, o.nd, o.hK, o.hio, o.kd, o.un, o.blt, o.tk, o.fns, o.glb, o.dct⟩
theorem Rep.at (rp : Rep G H M U s r) : Rep (G.at H U) H M U s r := ⟨rp.len, rp.val, rp.mu, rp.inj, rp.sub, rp.all, rp.pin, rp.pmu, fun _ h => .inl h, fun _ h => h⟩
theorem Rep.un {r' : Env} {s' : St} {M0 U0 : AP} {H0 : Hp} {s0 : St} {r0 : Env} (rp0 : Rep G H0 M0 U0 s0 r0) (rp : Rep (G.at H0 U0) H M U s' r') : Rep G H M U s' r' :=
  ⟨rp.len, rp.val, rp.mu, rp.inj, rp.sub, rp.all, rp.pin, rp.pmu, fun a h => (rp.ent a h).elim (rp0.ent a) fun e => .inr (rp0.old a e), fun a h => rp0.old a (rp.old a h)⟩
theorem Fin.at {x : R α} {k : α → Env → Hp → AP → AP → Prop} (rp : Rep G H M U s r) (f : Fin G W s H M U x k) : Fin (G.at H U) W s H M U x k := by
  cases x with
  | ok a r => exact fun H2 M2 U2 st rp2 => f H2 M2 U2 st (rp.un rp2)
  | exc c r => exact fun H2 M2 U2 st rp2 => f H2 M2 U2 st (rp.un rp2)
  | bad => exact f
def tXa (G : Ct) (W : WX) (C : Cfg) (e : E) : TE := fun s H Q => ∃ G', Like G G' ∧ tX G' W C e s H Q
/-! ### name = value -/
theorem snd_name (o : Ok X c G W C T) {e : E} {v : Expr} {i : Nat} {y : Str} {py sp : Pos} (hy : locB c i y = true) (h : chkE T c e v = true) : PS X (.Assign [.Name y py] v sp) (tAsg (tX G W C e) (gName i)) := by
  by_cases hc : notComp v = true
  · obtain ⟨h1, h2, h3⟩ := o.loc hy
    have sw : swapsWith v (some (.Name y py)) sp.line X.env = pure false := by cases v <;> first | rfl | cases hc
    exact ps_set o.nd h1 h2 (sndX e o h) sw h3
  · cases e with
    | dead => exact ⟨fun _ _ _ _ _ _ ⟨M, U, r, rp, f⟩ => f.elim⟩
    | comp own elt t it ifs =>
      obtain ⟨e, tg, iter, cs, scope, p, rfl, h1, h2, h3, h4, h5, h6, h7⟩ := inv_comp h
      have hk := blk_kind h1
      rcases h7 with ⟨rfl, rfl⟩ | ⟨q, y, rfl, rfl, h7⟩
      · exact (snd_comp (ifs := none) o h1 (sndIt it o h2) h4 (fun s H A cl fp => snd_T (o.blk hk) h3) (fun s H A cl fp => pts_nil) (fun s H A cl fp => sndX elt (o.blk hk) h5) h6).2 hy
      · exact (snd_comp (ifs := some q) o h1 (sndIt it o h2) h4 (fun s H A cl fp => snd_T (o.blk hk) h3) (fun s H A cl fp => pts_one (sndT q (o.blk hk) h7).1) (fun s H A cl fp => sndX elt (o.blk hk) h5) h6).2 hy
    | comp2 own own1 elt t it t1 it1 ifs =>
      obtain ⟨e, tg, iter, tg1, iter1, cs, scope, p, rfl, h1, h2, h3, h4, h5, h6, h7, h8, h9, h10, h11, h12⟩ := inv_comp2 h
      have hk := blk_kind h1
      rcases h12 with ⟨rfl, rfl⟩ | ⟨q, y, rfl, rfl, h12⟩
      · exact (snd_comp2 (ifs := none) o h1 (sndIt it o h2) h4 (fun s H A cl fp => snd_T (o.blk hk) h3) (fun s H A cl fp => sndIt it1 (o.blk hk) h5) h7 h8 (fun s H A cl fp => snd_T (o.blk hk) h6) (fun s H A cl fp => pts_nil) (fun s H A cl fp => sndX elt (o.blk hk) h9) h10 h11).2 hy
      · exact (snd_comp2 (ifs := some q) o h1 (sndIt it o h2) h4 (fun s H A cl fp => snd_T (o.blk hk) h3) (fun s H A cl fp => sndIt it1 (o.blk hk) h5) h7 h8 (fun s H A cl fp => snd_T (o.blk hk) h6) (fun s H A cl fp => pts_one (sndT q (o.blk hk) h12).1) (fun s H A cl fp => sndX elt (o.blk hk) h9) h10 h11).2 hy
    | _ => cases v <;> first | exact absurd rfl hc | cases h
theorem snd_asg1 (o : Ok X c G W C T) {e : E} {v : Expr} {i : Nat} {y : Str} {py sp : Pos} (hy : locB c i y = true) (h : chkE T c e v = true) : PS X (.Assign [.Name y py] v sp) (tS G W C (.asg (.n i) e)) := by
  refine ps_mono (snd_name o hy h) fun D s H ⟨M, U, r, rp, f⟩ => ?_
  have f : FinS G W H M U ((evX C e r).toS fun x r => nextO (setT C.io (.n i) x.1 r)) D := f
  refine ⟨M, U, r, rp, (f.toS rp.all).mono fun x r1 H1 M1 U1 st rp1 f1 v hv => ?_⟩
  rw [o.hio] at f1
  cases es : setT G.io (.n i) x.1 r1 with
  | none =>
    rw [es] at f1
    exact f1.elim
  | some r' =>
    rw [es] at f1
    exact fs_here (rp1.setV hv.isD es) f1
theorem setM_some {io : List Nat} {i : Nat} {d : D} {r r' : Env} (h : setM io i d r = some r') : i ∉ io ∧ i < r.length ∧ r' = r.set i (.mu d) := by
  unfold setM at h
  split at h
  · cases h
  · rename_i hc
    cases h
    simp only [Bool.or_eq_true, decide_eq_true_eq, not_or] at hc
    exact ⟨by simpa using hc.1, by omega, rfl⟩
/-- a list that is held back comes to a slot -/
theorem Rep.setM {r' : Env} {i : Nat} {p : Addr} {vs : List V} {ds : List D} (rp : Rep G H M U s r) (hm : M p) (hu : ¬ U p) (hb : G.U0 p ∨ G.H0 p = none) (hp : H p = some (.lst vs)) (hd : IsDs G.K H M vs ds) (h : Ev.setM G.io i (.lst ds) r = some r') :
    Rep G H M (Ev.plus U p) (s.set i (some (.ref p))) r' := by
  obtain ⟨h1, h2, rfl⟩ := setM_some h
  have hs : i < s.length := by rw [← rp.len]; exact h2
  refine ⟨by rw [List.length_set, List.length_set]; exact rp.len, fun j e he => ?_, fun j e he => ?_, fun j k e g a q1 q2 q3 q4 => ?_, fun a h => h.elim (fun z => by rw [z]; exact hm) (rp.sub a), rp.all, fun j hj => ?_, fun j hj => ?_, fun a h => h.elim (fun z => by rw [z]; exact hb) (rp.ent a), rp.old⟩
  · by_cases hj : i = j
    · subst hj
      rw [List.getElem?_set_self h2] at he
      cases he
    · rw [List.getElem?_set_ne hj] at he ⊢
      exact rp.val j e he
  · by_cases hj : i = j
    · subst hj
      rw [List.getElem?_set_self h2] at he
      cases he
      exact ⟨p, by rw [List.getElem?_set_self hs], .inl rfl, vs, ds, rfl, hp, hd⟩
    · rw [List.getElem?_set_ne hj] at he ⊢
      obtain ⟨a, z1, z2, z3⟩ := rp.mu j e he
      exact ⟨a, z1, .inr z2, z3⟩
  · have oth : ∀ {j : Nat} {e : D}, i ≠ j → (r.set i (.mu (.lst ds)))[j]? = some (.mu e) → (s.set i (some (V.ref p)))[j]? = some (some (.ref a)) → a ≠ p := fun {j e} hj z1 z2 z3 => by
      rw [List.getElem?_set_ne hj] at z1 z2
      obtain ⟨b, w1, w2, _⟩ := rp.mu j e z1
      rw [z2] at w1
      cases w1
      exact hu (by rw [← z3]; exact w2)
    by_cases hj : i = j
    · by_cases hk : i = k
      · rw [← hj, ← hk]
      · subst hj
        rw [List.getElem?_set_self hs] at q3
        cases q3
        exact absurd rfl (oth hk q2 q4)
    · by_cases hk : i = k
      · subst hk
        rw [List.getElem?_set_self hs] at q4
        cases q4
        exact absurd rfl (oth hj q1 q3)
      · rw [List.getElem?_set_ne hj] at q1 q3
        rw [List.getElem?_set_ne hk] at q2 q4
        exact rp.inj j k e g a q1 q2 q3 q4
  · rw [List.getElem?_set_ne (fun z => h1 (by rw [z]; exact hj))]
    exact rp.pin j hj
  · rw [List.getElem?_set_ne (fun z => h1 (by rw [z]; exact hj))]
    exact rp.pmu j hj
theorem snd_new (o : Ok X c G W C T) {e : E} {v : Expr} {i : Nat} {y : Str} {py sp : Pos} (hy : locB c i y = true) (h : chkE T c e v = true) : PS X (.Assign [.Name y py] v sp) (tS G W C (.new i e)) := by
  have base : PS X (.Assign [.Name y py] v sp) (tAsg (tXa G W C e) (gName i)) := ⟨fun pins s σ H D I ⟨G', lk, q⟩ => (snd_name (o.like lk) hy h).run pins s σ H D I q⟩
  refine ps_mono base fun D s H ⟨M, U, r, rp, f⟩ => ?_
  have f : FinS G W H M U ((evX C e r).toS fun x r => if x.2 then nextO (Ev.setM C.io i x.1 r) else .bad) D := f
  refine ⟨G.at H U, ⟨rfl, rfl, rfl⟩, M, U, r, rp.at, ?_⟩
  cases ex : evX C e r with
  | bad =>
    rw [ex] at f
    exact f.elim
  | exc cc rr =>
    rw [ex] at f
    exact fun H2 M2 U2 st rp2 => f s H2 M2 U2 st (rp.un rp2)
  | ok x r1 =>
    rw [ex] at f
    obtain ⟨d, fr⟩ := x
    intro H1 M1 U1 st rp1 v iv
    cases fr with
    | false => exact f.elim
    | true =>
      have f : FinS G W H M U (nextO (Ev.setM C.io i d r1)) D := f
      obtain ⟨p, vs, ds, rfl, rfl, hp, nM, hb, ids, rp2⟩ := iv
      rw [o.hio] at f
      cases es : Ev.setM G.io i (.lst ds) r1 with
      | none =>
        rw [es] at f
        exact f.elim
      | some r' =>
        rw [es] at f
        have hb' : U p ∨ H p = none := hb
        refine f (s.set i (some (.ref p))) H1 (plus M1 p) (plus U1 p) ⟨st.rd, fun a h => ?_, fun a h => ?_, fun a h1 h2 => .inr (st.kp a h1 h2), st.al⟩ ((rp.un rp2).setM (.inl rfl) (fun h => nM (rp1.sub p h)) ?_ hp ids es)
        · rcases h with z | h
          · rw [z]
            exact hb'.elim (fun q => .inl (rp.sub p q)) .inr
          · exact st.new a h
        · rcases h with z | h
          · rw [z]
            exact hb'
          · exact st.own a h
        · exact hb'.elim (rp.ent p) fun q => .inr (rp.old p q)
end
end Ev

namespace Ev
open PySem L2
section
variable {X : Cx} {c : Sc} {G : Ct} {W : WX} {C : Cfg} {T : Nm} {s : St} {H H' : Hp} {M U M' U' : AP} {r : Env} {α : Type}
theorem snd_asgT (o : Ok X c G W C T) {e : E} {v : Expr} {is : List Nat} {es : List Expr} {k : Nat} {py sp : Pos} (hy : locEs c is es = true) (h : chkE T c e v = true) (hv : notTup v = true) : PS X (.Assign [.Tuple es k py] v sp) (tS G W C (.asg (.t is) e)) := by
  have hs : swapsWithSole [.Tuple es k py] v sp.line X.env = pure false := by cases v <;> rfl
  have hw : swappedStores [.Tuple es k py] v X.env = pure none := by cases v <;> first | rfl | cases hv
  refine ps_mono (ps_asg (pe_v (sndX e o h)) (snd_T o (t := .t is) (tg := .Tuple es k py) hy) hs hw rfl) fun D s H ⟨M, U, r, rp, f⟩ => ?_
  have f : FinS G W H M U ((evX C e r).toS fun x r => nextO (setT C.io (.t is) x.1 r)) D := f
  refine ⟨M, U, r, rp, (f.toS rp.all).mono fun x r1 H1 M1 U1 st rp1 f1 v hv => ?_⟩
  rw [o.hio] at f1
  cases es : setT G.io (.t is) x.1 r1 with
  | none =>
    rw [es] at f1
    exact f1.elim
  | some r' =>
    rw [es] at f1
    exact ⟨M1, U1, r1, x.1, r', rp1, hv, es, fun s' rp' _ => fs_here rp' f1⟩
/-! ### a, b = x, y -/
/-- values held back: the lists that come to slots of their own stand apart -/
inductive Pend (G : Ct) (H : Hp) (M U : AP) : List Bool → List V → List D → List Addr → Prop
  | nil : Pend G H M U [] [] [] []
  | val (v : V) (d : D) (fs : List Bool) (vs : List V) (ds : List D) (ps : List Addr) : IsD G.K H M v d → Pend G H M U fs vs ds ps → Pend G H M U (false :: fs) (v :: vs) (d :: ds) ps
  | frs (p : Addr) (ws : List V) (es : List D) (fs : List Bool) (vs : List V) (ds : List D) (ps : List Addr) : H p = some (.lst ws) → M p → ¬ U p → (G.U0 p ∨ G.H0 p = none) → IsDs G.K H M ws es → p ∉ ps → Pend G H M U fs vs ds ps → Pend G H M U (true :: fs) (.ref p :: vs) (.lst es :: ds) (p :: ps)
def tPs (G : Ct) (W : WX) (C : Cfg) (fs : List Bool) (es : List E) : TA := fun s H Q => ∃ G' M U r, Like G G' ∧ Rep G' H M U s r ∧ Fin G' W s H M U (evPar C fs es r) fun ds r' H' M' U' => ∀ vs ps, Pend G' H' M' U' fs vs ds ps → (∀ p ∈ ps, ¬ M p ∨ U p) → Q vs H'
theorem Pend.out {fs : List Bool} {vs : List V} {ds : List D} {ps : List Addr} (h : Pend G H M U fs vs ds ps) : ∀ p ∈ ps, M p ∧ ¬ U p ∧ ∃ ws, H p = some (.lst ws) := by
  induction h with
  | nil => intro p hp; cases hp
  | val _ _ _ _ _ _ _ _ ih => exact ih
  | frs p ws es fs vs ds ps h1 h2 h3 h4 h5 h6 h7 ih =>
    intro q hq
    rcases List.mem_cons.mp hq with z | hq
    · subst z
      exact ⟨h2, h3, ws, h1⟩
    · exact ih q hq
theorem evPar_len : ∀ {fs : List Bool} {es : List E} {r r' : Env} {ds : List D}, evPar C fs es r = .ok ds r' → fs.length = es.length
  | [], [], _, _, _, _ => rfl
  | [], _ :: _, _, _, _, h => by cases h
  | _ :: _, [], _, _, _, h => by cases h
  | f :: fs, e :: es, r, r', ds, h => by
    simp only [evPar] at h
    cases ex : evX C e r with
    | bad => rw [ex] at h; cases h
    | exc => rw [ex] at h; cases h
    | ok x r1 =>
      rw [ex] at h
      simp only [R.bind] at h
      split at h
      · cases e2 : evPar C fs es r1 with
        | bad => rw [e2] at h; cases h
        | exc => rw [e2] at h; cases h
        | ok y r2 => simp [evPar_len e2]
      · cases h
theorem ps_list (o : Ok X c G W C T) : ∀ (es : List E) (fs : List Bool) {xs : List Expr}, chkEs T c es xs = true → fs.length = es.length → PA X xs (tPs G W C fs es)
  | [], [], xs, h, _ => by
    cases xs with
    | nil => exact pa_mono pa_nil fun s H Q ⟨G', M, U, r, lk, rp, f⟩ => fin_here rp f [] [] .nil (fun p hp => by cases hp)
    | cons => cases h
  | [], _ :: _, _, _, h => by simp at h
  | _ :: _, [], _, _, h => by simp at h
  | a :: as, fl :: fs, xs, h, hl => by
    cases xs with
    | nil => cases h
    | cons y ys =>
      have h : (chkE T c a y && plainE y && chkEs T c as ys) = true := h
      simp only [Bool.and_eq_true] at h
      have pa : PE X y (tXa G W C a) := ⟨fun pins s σ H Q I ⟨G', lk, q⟩ => (sndX a (o.like lk) h.1.1).run pins s σ H Q I q⟩
      refine pa_mono (pa_cons pa (ps_list o as fs h.2 (by simpa using hl)) (star_plain h.1.2 _ _)) fun s H Q ⟨G', M, U, r, lk, rp, f⟩ => ?_
      have f : Fin G' W s H M U ((evX C a r).bind fun x r => if fl = false ∨ x.2 = true then (evPar C fs as r).map (x.1 :: ·) else .bad) _ := f
      refine ⟨G'.at H U, lk, M, U, r, rp.at, ?_⟩
      cases ex : evX C a r with
      | bad =>
        rw [ex] at f
        exact f.elim
      | exc cc rr =>
        rw [ex] at f
        exact fun H2 M2 U2 st rp2 => f H2 M2 U2 st (rp.un rp2)
      | ok x r1 =>
        rw [ex] at f
        obtain ⟨d, fr⟩ := x
        intro H1 M1 U1 st rp1 v iv
        have rq := rp.un rp1
        have rel : ∀ {M1' : AP}, Step M U H M1' U1 H1 → ∀ q, ¬ M1' q ∨ U1 q → ¬ M q ∨ U q := fun {M1'} st q h => by
          rcases h with h | h
          · by_cases hu : U q
            · exact .inr hu
            · exact .inl fun hm => h (st.kp q hm hu)
          · exact (st.own q h).elim .inr fun e => .inl fun hm => rp.all q hm e
        by_cases hf : fl = false ∨ fr = true
        · have hf' : fl = false ∨ (d, fr).2 = true := hf
          simp only [R.bind, if_pos hf'] at f
          cases fl with
          | false =>
            have f1 := (Fin.step rp.all f st).map
            refine ⟨G', M1, U1, r1, lk, rq, f1.mono fun ds r2 H2 M2 U2 st2 rp2 f2 vs ps hp hq => f2 (v :: vs) ps (.val v d fs vs ds ps ?_ hp) fun q h => rel st q (hq q h)⟩
            exact IsD.stay (K := G'.K) (st2.stay rq.sub) iv.isD
          | true =>
            have hfr : fr = true := hf.resolve_left (fun z => by cases z)
            subst hfr
            obtain ⟨p, ws, ds', rfl, rfl, hp, nM, hb, ids, rp2⟩ := iv
            have hb' : U p ∨ H p = none := hb
            have rp2 := rp.un rp2
            have nU : ¬ U1 p := fun h => nM (rq.sub p h)
            have st' : Step M U H (plus M1 p) U1 H1 := ⟨st.rd, fun a h => h.elim (fun z => by rw [z]; exact hb'.elim (fun q => .inl (rp.sub p q)) .inr) (st.new a), st.own, fun a h1 h2 => .inr (st.kp a h1 h2), st.al⟩
            have f1 := (Fin.step rp.all f st').map
            refine ⟨G', plus M1 p, U1, r1, lk, rp2, f1.mono fun ds r3 H2 M2 U2 st2 rp3 f2 vs ps hp2 hq => ?_⟩
            have h2 : H2 p = some (.lst ws) := st2.rd p _ nU hp
            have m2 : M2 p := st2.kp p (.inl rfl) nU
            have u2 : ¬ U2 p := fun h => (st2.own p h).elim nU (fun z => by rw [hp] at z; cases z)
            refine f2 (.ref p :: vs) (p :: ps) (.frs p ws ds' fs vs ds ps h2 m2 u2 (hb'.elim (rp.ent p) fun q => .inr (rp.old p q)) (IsDs.stay (st2.stay rp2.sub) ids) (fun hm => ?_) hp2) fun q h => ?_
            · exact (hq p hm).elim (fun z => z (.inl rfl)) nU
            · rcases List.mem_cons.mp h with z | h
              · rw [z]
                exact hb'.elim .inr fun e => .inl fun hm => rp.all p hm e
              · exact rel st' q (hq q h)
        · have hf' : ¬ (fl = false ∨ (d, fr).2 = true) := hf
          simp only [R.bind, if_neg hf'] at f
          exact f.elim
/-- the slots are given what was held back -/
theorem Pend.put {fs : List Bool} {vs : List V} {ds : List D} {ps : List Addr} (h : Pend G H M U fs vs ds ps) : ∀ {is : List Nat} {s : St} {r r' : Env} {U1 : AP}, Rep G H M U1 s r → (∀ a, U a → U1 a) → (∀ p ∈ ps, ¬ U1 p) → setP G.io (is.zip fs) ds r = some r' → is.length = fs.length →
    ∃ U2, Rep G H M U2 ((is.zip vs).foldl (fun s p => s.set p.1 (some p.2)) s) r' ∧ (∀ a, U2 a → U1 a ∨ a ∈ ps) := by
  induction h with
  | nil =>
    intro is s r r' U1 rp hu hp e hl
    cases is with
    | nil =>
      cases e
      exact ⟨U1, rp, fun a h => .inl h⟩
    | cons => simp at hl
  | val v d fs vs ds ps h1 h2 ih =>
    intro is s r r' U1 rp hu hp e hl
    cases is with
    | nil => simp at hl
    | cons i is =>
      obtain ⟨r1, e1, e2⟩ := Option.bind_eq_some_iff.mp (show (if false = true then Ev.setM G.io i d r else Ev.setV G.io i d r).bind (setP G.io (is.zip fs) ds) = some r' from e)
      rw [if_neg Bool.false_ne_true] at e1
      exact ih (rp.setV h1 e1) hu hp e2 (by simpa using hl)
  | frs p ws es fs vs ds ps h1 h2 h3 h4 h5 h6 h7 ih =>
    intro is s r r' U1 rp hu hp e hl
    cases is with
    | nil => simp at hl
    | cons i is =>
      obtain ⟨r1, e1, e2⟩ := Option.bind_eq_some_iff.mp (show (if true = true then Ev.setM G.io i (.lst es) r else Ev.setV G.io i (.lst es) r).bind (setP G.io (is.zip fs) ds) = some r' from e)
      rw [if_pos rfl] at e1
      have rp1 := rp.setM h2 (hp p (by simp)) h4 h1 h5 e1
      obtain ⟨U2, q1, q2⟩ := ih rp1 (fun a h => .inr (hu a h)) (fun q hq h => h.elim (fun z => h6 (by rw [← z]; exact hq)) (hp q (by simp [hq]))) e2 (by simpa using hl)
      exact ⟨U2, q1, fun a h => (q2 a h).elim (fun h => h.elim (fun z => .inr (by simp [z])) .inl) fun h => .inr (by simp [h])⟩
theorem Pend.len {fs : List Bool} {vs : List V} {ds : List D} {ps : List Addr} (h : Pend G H M U fs vs ds ps) : vs.length = fs.length := by
  induction h with
  | nil => rfl
  | val _ _ _ _ _ _ _ _ ih => simp [ih]
  | frs _ _ _ _ _ _ _ _ _ _ _ _ _ _ ih => simp [ih]
theorem Pend.same {fs : List Bool} {vs : List V} {ds : List D} {ps : List Addr} (h : Pend G H M U fs vs ds ps) (sm : Same H H') : Pend G H' M U fs vs ds ps := by
  induction h with
  | nil => exact .nil
  | val v d fs vs ds ps h1 h2 ih => exact .val v d fs vs ds ps (h1.stay (same_stay M sm)) ih
  | frs p ws es fs vs ds ps h1 h2 h3 h4 h5 h6 h7 ih => exact .frs p ws es fs vs ds ps (sm _ _ h1) h2 h3 h4 (h5.stay (same_stay M sm)) h6 ih
theorem zip_parts (ts : List (Nat × Bool)) : (mapFst ts).zip (ts.map (·.2)) = ts := by
  unfold mapFst
  induction ts with
  | nil => rfl
  | cons t ts ih => simp [ih]
/-- what follows a, b = x, y -/
theorem par_use {ts : List (Nat × Bool)} {es : List E} {D : Ends} {s : St} {H : Hp} (hio : C.io = G.io) (q : tS G W C (.par ts es) D s H) : tPs G W C (ts.map (·.2)) es s H fun vs H1 => vs.length = ts.length ∧ ∀ H2, Same H1 H2 → D.nx (((mapFst ts).zip vs).foldl (fun s p => s.set p.1 (some p.2)) s) H2 := by
  obtain ⟨M, U, r, rp, f⟩ := q
  have f : FinS G W H M U ((evPar C (ts.map (·.2)) es r).toS fun ds r => nextO (setP C.io ts ds r)) D := f
  refine ⟨G, M, U, r, ⟨rfl, rfl, rfl⟩, rp, ?_⟩
  cases ex : evPar C (ts.map (·.2)) es r with
  | bad =>
    rw [ex] at f
    exact f.elim
  | exc cc rr =>
    rw [ex] at f
    exact fun H2 M2 U2 st rp2 => f s H2 M2 U2 st rp2
  | ok ds r1 =>
    rw [ex] at f
    intro H1 M1 U1 st rp1 vs ps hp hq
    refine ⟨by rw [hp.len, List.length_map], fun H2 sm => ?_⟩
    have f : FinS G W H M U (nextO (setP C.io ts ds r1)) D := f
    rw [hio] at f
    cases es : setP G.io ts ds r1 with
    | none =>
      rw [es] at f
      exact f.elim
    | some r' =>
      rw [es] at f
      obtain ⟨U2, z1, z2⟩ := (hp.same sm).put (is := mapFst ts) (rp1.same sm) (fun _ h => h) (fun p h => (hp.out p h).2.1) (by rw [zip_parts]; exact es) (by simp [mapFst])
      refine f _ H2 M1 U2 ⟨fun a u h1 h2 => sm a u (st.rd a u h1 h2), st.new, fun a h => ?_, st.kp, fun a h => st.al a (Same.free sm h)⟩ z1
      rcases z2 a h with h | h
      · exact st.own a h
      · rcases hq a h with h2 | h2
        · exact (st.new a (hp.out a h).1).elim (fun z => absurd z h2) .inr
        · exact .inl h2
end
end Ev

namespace Ev
open PySem L2
section
variable {X : Cx} {c : Sc} {G : Ct} {W : WX} {C : Cfg} {T : Nm} {s : St} {H H' : Hp} {M U M' U' : AP} {r : Env} {α : Type}
theorem sw_eq {ts vs : List Expr} {k k2 : Nat} {p p2 : Pos} {env : PySem.Env} : swappedStores [.Tuple ts k p] (.Tuple vs k2 p2) env =
    if (!(ts.length == 2 || ts.length == 3) || vs.length != ts.length || env.blockKind != .function) = true then pure none else
    if (vs.any isStar) = true then pure none else
    if ((swapNS env.scope ts).length != ts.length || (swapNS env.scope ts).eraseDups.length != (swapNS env.scope ts).length) = true then pure none else
    if vs.all (foldedForSure 8) = true then pure none else
    if vs.all (constantsAlone 8) = true then (unsupported "assign.tuple-of-constant-expressions:order-of-the-stores" >>= fun (_ : Unit) => pure (some (swapNS env.scope ts))) else pure (some (swapNS env.scope ts)) := rfl
theorem blk_fn (o : Ok X c G W C T) : X.env.blockKind = .function := by
  unfold Env.blockKind
  rw [show X.env.scope.kind = .function from by rw [o.hs]; exact o.kd]
  rfl
theorem no_star : ∀ {es : List E} {vs : List Expr}, chkEs T c es vs = true → vs.any isStar = false
  | [], [], _ => rfl
  | [], _ :: _, h => by cases h
  | _ :: _, [], h => by cases h
  | a :: as, x :: xs, h => by
    have h : (chkE T c a x && plainE x && chkEs T c as xs) = true := h
    simp only [Bool.and_eq_true] at h
    have ih := no_star h.2
    rw [List.any_cons, ih]
    have := h.1.2
    cases x <;> first | rfl | cases this
theorem locEs_len : ∀ {is : List Nat} {vs : List Expr}, locEs c is vs = true → is.length = vs.length
  | [], [], _ => rfl
  | [], _ :: _, h => by cases h
  | _ :: _, [], h => by cases h
  | a :: as, x :: xs, h => by
    have h : (locE c a x && locEs c as xs) = true := h
    simp only [Bool.and_eq_true] at h
    simp [locEs_len h.2]
theorem swap_yes (o : Ok X c G W C T) {ts vs : List Expr} {k k2 : Nat} {p p2 : Pos} (hl : vs.length = ts.length) (hst : vs.any isStar = false) (h : swapsB c ts vs = true) :
    swappedStores [.Tuple ts k p] (.Tuple vs k2 p2) X.env = pure (some (swapNS c.sc ts)) := by
  unfold swapsB at h
  simp only [Bool.and_eq_true, Bool.not_eq_true', beq_iff_eq] at h
  obtain ⟨⟨⟨⟨h1, h2⟩, h3⟩, h4⟩, h5⟩ := h
  have e1 : (!(ts.length == 2 || ts.length == 3) || vs.length != ts.length || X.env.blockKind != ScopeKind.function) = false := by
    rw [h1, hl, blk_fn o]
    simp
  have e2 : ((swapNS c.sc ts).length != ts.length || (swapNS c.sc ts).eraseDups.length != (swapNS c.sc ts).length) = false := by simp [h2, h3]
  rw [sw_eq, o.hs]
  simp only [e1, hst, Bool.false_eq_true, if_false, e2, h4, h5]
theorem swap_no (o : Ok X c G W C T) {ts vs : List Expr} {k k2 : Nat} {p p2 : Pos} (hst : vs.any isStar = false) (h : straightB c ts vs = true) :
    swappedStores [.Tuple ts k p] (.Tuple vs k2 p2) X.env = pure none := by
  unfold straightB at h
  simp only [Bool.or_eq_true, Bool.not_eq_true', bne_iff_ne, ne_eq] at h
  rw [sw_eq, o.hs]
  by_cases e1 : (!(ts.length == 2 || ts.length == 3) || vs.length != ts.length || X.env.blockKind != ScopeKind.function) = true
  · rw [if_pos e1]
  · rw [if_neg e1, if_neg (by rw [hst]; simp)]
    by_cases e2 : ((swapNS c.sc ts).length != ts.length || (swapNS c.sc ts).eraseDups.length != (swapNS c.sc ts).length) = true
    · rw [if_pos e2]
    · rw [if_neg e2]
      have h3 : vs.all (foldedForSure 8) = true := by
        rcases h with (h | h) | h
        · simp [h] at e1
        · simp [h] at e2
        · exact h
      rw [if_pos h3]
/-- all of them local names -/
theorem swap_all {ts : List Expr} (h : (swapNS c.sc ts).length = ts.length) : ∀ t ∈ ts, ∃ x p, t = .Name x p ∧ c.sc.names.lookup x = some .local := by
  unfold swapNS at h
  generalize (ts.head?.map (·.pos.line)).getD 0 = ln at h
  intro t ht
  have key : ∀ (l : List Expr), (l.filterMap fun
      | .Name id pos => if c.sc.names.lookup id == some .local && pos.line == ln then some id else none
      | _ => none).length = l.length → ∀ t ∈ l, ∃ x p, t = .Name x p ∧ c.sc.names.lookup x = some .local := by
    intro l
    induction l with
    | nil => intro _ t ht; cases ht
    | cons y l ih =>
      intro hl t ht
      have le := List.length_filterMap_le (fun (e : Expr) => match e with
      | .Name id pos => if c.sc.names.lookup id == some .local && pos.line == ln then some id else none
      | _ => none) l
      rw [List.filterMap_cons] at hl
      split at hl
      · simp only [List.length_cons] at hl
        omega
      · rename_i b hb
        simp only [List.length_cons, Nat.add_right_cancel_iff] at hl
        rcases List.mem_cons.mp ht with z | ht
        · subst z
          cases t <;> simp only [reduceCtorEq] at hb
          rename_i id pos
          split at hb
          · rename_i hc
            simp only [Bool.and_eq_true, beq_iff_eq] at hc
            exact ⟨id, pos, rfl, hc.1⟩
          · cases hb
        · exact ih hl t ht
  exact key ts h t ht
theorem snd_par (o : Ok X c G W C T) {ts : List (Nat × Bool)} {es : List E} {tes vs : List Expr} {k k2 : Nat} {p p2 sp : Pos} (hy : locEs c (mapFst ts) tes = true) (h : chkEs T c es vs = true) (hl : ((mapFst ts).length == vs.length) = true) (hn : (mapFst ts).Nodup) (h100 : (mapFst ts).length ≤ 100) (hp : (swapsB c tes vs || straightB c tes vs) = true) :
    PS X (.Assign [.Tuple tes k p] (.Tuple vs k2 p2) sp) (tS G W C (.par ts es)) := by
  have l1 := locEs_len hy
  have l2 := chkEs_len h
  have l3 := eq_of_beq hl
  have l4 : (mapFst ts).length = ts.length := by simp [mapFst]
  have pa := ps_list o es (ts.map (·.2)) h (by rw [List.length_map]; omega)
  have hs : swapsWithSole [.Tuple tes k p] (.Tuple vs k2 p2) sp.line X.env = pure false := rfl
  cases hb : swapsB c tes vs with
  | true =>
    have hw := swap_yes (k := k) (k2 := k2) (p := p) (p2 := p2) o (by omega) (no_star h) hb
    have hb' := hb
    unfold swapsB at hb'
    simp only [Bool.and_eq_true, Bool.or_eq_true, beq_iff_eq] at hb'
    have nm := swap_all hb'.1.1.1.2
    rcases hb'.1.1.1.1 with hl2 | hl3
    · -- two
      match tes, vs, ts, hl2, l1, l2, l3, l4, hy, pa, nm, hn, hw with
      | [t1, t2], [v1, v2], [(i, f1), (j, f2)], _, _, _, _, _, hy, pa, nm, hn, hw =>
        obtain ⟨x, px, rfl, lx⟩ := nm t1 (by simp)
        obtain ⟨y, py, rfl, ly⟩ := nm t2 (by simp)
        have hy' : (locB c i x && (locB c j y && true)) = true := hy
        simp only [Bool.and_eq_true] at hy'
        obtain ⟨a1, _, _⟩ := o.loc hy'.1
        obtain ⟨b1, _, _⟩ := o.loc hy'.2.1
        have nij : i ≠ j := by
          intro z
          simp [mapFst, z] at hn
        have sn : swapNS c.sc [.Name x px, .Name y py] = [x, y] := by
          have e := hb'.1.1.1.2
          unfold swapNS at e ⊢
          simp only [List.filterMap_cons, List.filterMap_nil] at e ⊢
          split at e <;> split at e <;> simp_all
        rw [sn] at hw
        refine ps_mono (ps_par o.calm o.nd a1 b1 nij (by rw [o.hs]; exact lx) (by rw [o.hs]; exact ly) pa hw hs) fun D s H q => ?_
        obtain ⟨G', M, U, r, lk, rp, f⟩ := par_use o.hio q
        refine ⟨G', M, U, r, lk, rp, f.mono fun ds r1 H1 M1 U1 st rp1 g us ps hp hq => ?_⟩
        obtain ⟨e1, e2⟩ := g us ps hp hq
        match us, e1 with
        | [u, w], _ => exact ⟨u, w, rfl, e2 H1 (Same.refl H1)⟩
    · match tes, vs, ts, hl3, l1, l2, l3, l4, hy, pa, nm, hn, hw with
      | [t1, t2, t3], [v1, v2, v3], [(i, f1), (j, f2), (l, f3)], _, _, _, _, _, hy, pa, nm, hn, hw =>
        obtain ⟨x, px, rfl, lx⟩ := nm t1 (by simp)
        obtain ⟨y, py, rfl, ly⟩ := nm t2 (by simp)
        obtain ⟨z, pz, rfl, lz⟩ := nm t3 (by simp)
        have hy' : (locB c i x && (locB c j y && (locB c l z && true))) = true := hy
        simp only [Bool.and_eq_true] at hy'
        obtain ⟨a1, _, _⟩ := o.loc hy'.1
        obtain ⟨b1, _, _⟩ := o.loc hy'.2.1
        obtain ⟨c1, _, _⟩ := o.loc hy'.2.2.1
        have nn : i ≠ j ∧ i ≠ l ∧ j ≠ l := by
          simp [mapFst] at hn
          exact ⟨hn.1.1, hn.1.2, hn.2⟩
        have sn : swapNS c.sc [.Name x px, .Name y py, .Name z pz] = [x, y, z] := by
          have e := hb'.1.1.1.2
          unfold swapNS at e ⊢
          simp only [List.filterMap_cons, List.filterMap_nil] at e ⊢
          split at e <;> split at e <;> split at e <;> simp_all
        rw [sn] at hw
        refine ps_mono (ps_par3 o.calm o.nd a1 b1 c1 nn.1 nn.2.1 nn.2.2 (by rw [o.hs]; exact lx) (by rw [o.hs]; exact ly) (by rw [o.hs]; exact lz) pa hw hs) fun D s H q => ?_
        obtain ⟨G', M, U, r, lk, rp, f⟩ := par_use o.hio q
        refine ⟨G', M, U, r, lk, rp, f.mono fun ds r1 H1 M1 U1 st rp1 g us ps hp hq => ?_⟩
        obtain ⟨e1, e2⟩ := g us ps hp hq
        match us, e1 with
        | [u, w, v], _ => exact ⟨u, w, v, rfl, e2 H1 (Same.refl H1)⟩
  | false =>
    have hst : straightB c tes vs = true := by simpa [hb] using hp
    have hw := swap_no (k := k) (k2 := k2) (p := p) (p2 := p2) o (no_star h) hst
    obtain ⟨q1, q2, q3⟩ := pgs_ok o hy
    refine ps_mono (ps_asg (pe_tup pa) (pg_tup o.calm q1 q2 q3) hs hw rfl) fun D s H q => ?_
    obtain ⟨G', M, U, r, lk, rp, f⟩ := par_use o.hio q
    refine ⟨G', M, U, r, lk, rp, f.mono fun ds r1 H1 M1 U1 st rp1 g us ps hp hq => ?_⟩
    obtain ⟨e1, e2⟩ := g us ps hp hq
    have gput : ∀ (is : List Nat) (us : List V) (s : St) (H : Hp), us.length = is.length → D.nx ((is.zip us).foldl (fun s p => s.set p.1 (some p.2)) s) H → gNs is us s H D.nx := by
      intro is
      induction is with
      | nil =>
        intro us s H hl h
        cases us with
        | nil => exact ⟨rfl, h⟩
        | cons => simp at hl
      | cons i is ih =>
        intro us s H hl h
        cases us with
        | nil => simp at hl
        | cons u us => exact ⟨u, us, rfl, ih us _ H (by simpa using hl) h⟩
    have ul : us.length ≤ sizeLine := by
      rw [e1, ← l4]
      exact Nat.le_trans h100 (by decide)
    refine ⟨ul, fun a ha => ⟨a, us, rfl, .inl (.inl upd_same), by rw [e1, l4], gput _ us s _ (by rw [e1, l4]) (e2 _ (same_upd ha))⟩⟩
end
end Ev

namespace Ev
open PySem L2
section
variable {X : Cx} {c : Sc} {G : Ct} {W : WX} {C : Cfg} {T : Nm} {s : St} {H H' : Hp} {M U M' U' : AP} {r : Env} {α : Type}
theorem op_m {i : Nat} {d : D} {Q : VK} (rp : Rep G H M U s r) (hi : getM r i = some d) (h : ∀ a, s[i]? = some (some (.ref a)) → Q (.ref a) H) : tVar i s H Q := by
  obtain ⟨a, vs, ds, q1, _⟩ := mu_at rp hi
  exact ⟨.ref a, q1, h a q1⟩
theorem snd_seti (o : Ok X c G W C T) {i : Nat} {k e : E} {x : Str} {y v : Expr} {p1 p2 p3 : Pos} (hx : nameB c i x = true) (hk : chkE T c k y = true) (hp : plainE y = true) (hv : chkE T c e v = true) : PS X (.Assign [.Subscript (.Name x p1) y p2] v p3) (tS G W C (.seti i k e)) := by
  obtain ⟨h1, h2, h3, h4⟩ := o.vis hx
  have hs : swapsWithSole [.Subscript (.Name x p1) y p2] v p3.line X.env = pure false := by cases v <;> rfl
  have hw : swappedStores [.Subscript (.Name x p1) y p2] v X.env = pure none := rfl
  have ha : ∀ u, assign (.Subscript (.Name x p1) y p2) X.env u = (do
      let ov ← holding [u] (eval (.Name x p1) X.env)
      let iv ← holding [u, ov] (eval y X.env)
      standAt p2
      holding [u, ov, iv] (setItem ov iv u)
      release [u, ov, iv] []) := fun u => by cases y <;> first | rfl | cases hp
  refine ps_mono (ps_asg (pe_v (sndX e o hv)) (pg_sub (pe_var h1 h2 h3 h4) (pe_v (sndX k o hk)) set_list ha) hs hw rfl) fun D s H ⟨M, U, r, rp, f⟩ => ?_
  have f : FinS G W H M U ((evX C e r).toS fun x r => match getM r i with
    | none => .bad
    | some _ => (evX C k r).toS fun y r => match getM r i, y.1 with
      | some (.lst xs), .int k => match ixOf xs.length k with
        | some j => .next (r.set i (.mu (.lst (xs.set j x.1))))
        | none => .bad
      | _, _ => .bad) D := f
  refine ⟨M, U, r, rp, (f.toS rp.all).mono fun x r1 H1 M1 U1 st1 rp1 f1 v hv => ?_⟩
  cases e1 : getM r1 i with
  | none =>
    simp only [e1] at f1
    exact f1.elim
  | some d0 =>
    simp only [e1] at f1
    refine op_m rp1 e1 fun a ha => ⟨M1, U1, r1, rp1, (f1.toS rp1.all).mono fun y r2 H2 M2 U2 st2 rp2 f2 w hw => ?_⟩
    cases e2 : getM r2 i with
    | none =>
      simp only [e2] at f2
      exact f2.elim
    | some d =>
      obtain ⟨a', vs, ds, q1, q2, q3, q4⟩ := mu_at rp2 e2
      subst q2
      rw [ha] at q1
      cases q1
      obtain ⟨y, fy⟩ := y
      cases hw with
      | int kk =>
        simp only [e2] at f2
        cases ej : ixOf ds.length kk with
        | none =>
          simp only [ej] at f2
          exact f2.elim
        | some j =>
          simp only [ej] at f2
          have ww := rp2.wr (getM_some e2) ha (q4.set (hv.stay (st2.stay rp1.sub)) j)
          exact ⟨a, vs, kk, j, rfl, rfl, q3, by rw [q4.length]; exact ej, f2 s _ M2 U2 ww.2 ww.1⟩
      | _ =>
        simp only [e2] at f2
        exact f2.elim
theorem snd_app (o : Ok X c G W C T) {i : Nat} {e : E} {x n : Str} {y : Expr} {p1 ap p p2 : Pos} (hn : (n == ("append" : Str)) = true) (hx : nameB c i x = true) (hy : chkE T c e y = true) (hp : plainE y = true) (hl : (ap.endLine == p.line) = true) :
    PS X (.Expr (.Call (.Attribute (.Name x p1) n ap) [y] [] p) p2) (tS G W C (.app i e)) := by
  have en := eq_of_beq hn
  subst en
  obtain ⟨h1, h2, h3, h4⟩ := o.vis hx
  have hfew : ((backTo p (starEach [y] X.env)).all (fun x => !x.1) && (backToKw p (keywordEach [] X.env)).all (fun x => x.1.isSome)
      && decide ([y].length + ([] : List Keyword).length + (if ([] : List Keyword).isEmpty then 0 else 1) < 30)) = true := by
    rw [star_plain hp]
    rfl
  have pe := pe_bm (X := X) PySem.F.plainAttrs_list PySem.F.slot_list_append PySem.F.type_list_append mt_append (pe_var (pos := p1) h1 h2 h3 h4) (pa_cons (pe_v (sndX e o hy)) pa_nil (star_plain hp _ _)) (apos := ap) (cpos := p) rfl hfew hl (star_plain hp _ _) (star_any [] rfl _ _)
  refine ps_mono (ps_expr pe rfl) fun D s H ⟨M, U, r, rp, f⟩ => ?_
  have f : FinS G W H M U (match getM r i with
    | none => .bad
    | some _ => (evX C e r).toS fun x r => match getM r i with
      | some (.lst xs) => if xs.length < cap then .next (r.set i (.mu (.lst (xs ++ [x.1])))) else .bad
      | _ => .bad) D := f
  cases e1 : getM r i with
  | none =>
    simp only [e1] at f
    exact f.elim
  | some d0 =>
    simp only [e1] at f
    obtain ⟨a, vs, ds, q1, q2, q3, q4⟩ := mu_at rp e1
    refine ⟨.ref a, q1, .inl ⟨rfl, vs, SqL.of q3⟩, M, U, r, rp, (f.toS rp.all).mono fun x r2 H2 M2 U2 st2 rp2 f2 w hw => ?_⟩
    cases e2 : getM r2 i with
    | none =>
      simp only [e2] at f2
      exact f2.elim
    | some d =>
      obtain ⟨a', vs', ds', z1, z2, z3, z4⟩ := mu_at rp2 e2
      subst z2
      rw [q1] at z1
      cases z1
      simp only [e2] at f2
      by_cases hz : ds'.length < cap
      · rw [if_pos hz] at f2
        have ww := rp2.wr (getM_some e2) q1 (z4.append (.cons w [] x.1 [] hw .nil))
        exact ⟨a, vs', w, rfl, rfl, z3, by rw [z4.length]; exact Nat.lt_of_lt_of_le hz cap_line, f2 s _ M2 U2 ww.2 ww.1⟩
      · rw [if_neg hz] at f2
        exact f2.elim
theorem snd_ex (o : Ok X c G W C T) {e : E} {v : Expr} {p : Pos} (h : chkE T c e v = true) (hc : notComp v = true) : PS X (.Expr v p) (tS G W C (.ex e)) := by
  have hs : swapsWith v none p.line X.env = pure false := by cases v <;> first | rfl | cases hc
  refine ps_mono (ps_expr (pe_v (sndX e o h)) hs) fun D s H ⟨M, U, r, rp, f⟩ => ?_
  have f : FinS G W H M U ((evX C e r).toS fun _ r => .next r) D := f
  exact ⟨M, U, r, rp, (f.toS rp.all).mono fun x r1 H1 M1 U1 st1 rp1 f1 v hv => fs_here rp1 f1⟩
theorem snd_ret (o : Ok X c G W C T) {e : E} {v : Expr} {p : Pos} (h : chkE T c e v = true) : PS X (.Return (some v) p) (tS G W C (.ret e)) := by
  refine ps_mono (ps_ret (sndX e o h)) fun D s H ⟨M, U, r, rp, f⟩ => ?_
  have f : FinS G W H M U ((evX C e r).toS fun x r => .ret x.1 x.2 r) D := f
  exact ⟨M, U, r, rp, (f.toS rp.all).mono fun x r1 H1 M1 U1 st1 rp1 f1 v hv => f1 s H1 M1 U1 v (Step.refl M1 U1 H1) rp1 hv⟩
theorem snd_if (o : Ok X c G W C T) {t : E} {a b : List S} {v : Expr} {x y : List Stmt} {p : Pos} (h : chkE T c t v = true) (ha : PSs X x (tSs G W C a)) (hb : PSs X y (tSs G W C b)) : PS X (.If v x y p) (tS G W C (.ife t a b)) := by
  refine ps_mono (ps_if (sndT t o h).1 ha hb) fun D s H ⟨M, U, r, rp, f⟩ => ?_
  have f : FinS G W H M U ((evT C t r).toS fun c r => if c then evSs C a r else evSs C b r) D := f
  refine ⟨M, U, r, rp, (f.toS rp.all).mono fun q r1 H1 M1 U1 st1 rp1 f1 => ?_⟩
  cases q with
  | true =>
    simp only [if_true] at f1 ⊢
    exact ⟨M1, U1, r1, rp1, f1⟩
  | false =>
    simp only [Bool.false_eq_true, if_false] at f1 ⊢
    exact ⟨M1, U1, r1, rp1, f1⟩
theorem snd_rais (o : OkF X c G W C T) {k : Nat} {x m : Str} {j : Nat} {p1 p2 p3 p : Pos} (h : (T.cnm k == some x) = true) (hg : glB c x = true) : PS X (.Raise (some (.Call (.Name x p1) [.Constant (.str m) j p2] [] p3)) none p) (tS G W C (.rais k)) := by
  obtain ⟨g1, g2, g3⟩ := o.gl hg
  refine ps_mono (ps_raise o.calm o.tk (o.cls k x (eq_of_beq h) m j p1 p2 p3 g1 g2)) fun D s H ⟨M, U, r, rp, f⟩ => ?_
  exact f s H M U (Step.refl M U H) rp
def bodyF (C : Cfg) (t : Tg) (b : List S) (x : D) (r : Env) : RS := match setT C.io t x r with
  | some r => evSs C b r
  | none => .bad
theorem snd_for (o : OkF X c G W C T) {t : Tg} {it : Ev.It} {b : List S} {tg iter : Expr} {x : List Stmt} {p : Pos} (ht : chkT c t tg = true) (hi : chkIt T c it tg iter = true) (hp : plainE iter = true) (hb : PSs X x (tSs G W C b)) : PS X (.For tg iter x [] p) (tS G W C (.for_ t it b)) := by
  have hs : ∀ x, foldedSetIterable iter X.env x = pure x := fun x => by cases iter <;> first | rfl | cases hp
  refine ps_mono (ps_for o.po o.calm (sndIt it o.toOk hi) (snd_T o.toOk ht) hb hs) fun D s H ⟨M, U, r, rp, f⟩ => ?_
  have f : FinS G W H M U ((evIt C it r).toS fun xs r => forLoop (bodyF C t b) xs r) D := f
  refine ⟨M, U, r, rp, (f.toS rp.all).mono fun xs r1 H1 M1 U1 st1 rp1 f1 J wk => ?_⟩
  obtain ⟨Gd, Y, walk, hG, hY⟩ := wk
  refine for_it walk (fun i s' H' => ∃ Mi Ui ri, Rep G H' Mi Ui s' ri ∧ Step M1 U1 H1 Mi Ui H' ∧ FinS G W H' Mi Ui (forLoop (bodyF C t b) (xs.drop i) ri) D) ?_ ?_ ?_ ?_
  · exact ⟨M1, U1, r1, rp1, Step.refl _ _ _, by simpa using f1⟩
  · rintro i s' H' hi' ⟨Mi, Ui, ri, q1, q2, q3⟩
    exact hG Mi H' (q2.stay rp1.sub)
  · rintro i x s' Hc H' hi' ⟨Mi, Ui, ri, q1, q2, q3⟩ y
    obtain ⟨sm, d, ed, hd⟩ := hY i Hc x H' Mi hi' y (q2.stay rp1.sub) q1.all
    have q3' := q3.step q1.all (same_step Mi Ui sm)
    have q2' := q2.trans rp1.all (same_step Mi Ui sm)
    have q1' := q1.same sm
    rw [List.drop_eq_getElem_cons hi', show xs[i] = d from by rw [List.getElem?_eq_getElem hi'] at ed; exact Option.some.inj ed] at q3'
    simp only [forLoop] at q3'
    cases es : setT C.io t d ri with
    | none =>
      simp only [bodyF, es] at q3'
      exact q3'.elim
    | some r' =>
      have eb : bodyF C t b d ri = evSs C b r' := by simp only [bodyF, es]
      rw [eb] at q3'
      rw [o.hio] at es
      refine ⟨Mi, Ui, ri, d, r', q1', hd, es, fun s2 rps _ => ⟨Mi, Ui, r', rps, ?_⟩⟩
      cases ev : evSs C b r' with
      | bad =>
        rw [ev] at q3'
        exact q3'.elim
      | next r2 =>
        rw [ev] at q3'
        intro s3 H3 M3 U3 st3 rp3
        exact ⟨M3, U3, r2, rp3, q2'.trans rp1.all st3, q3'.step q1'.all st3⟩
      | ret d2 fr r2 =>
        rw [ev] at q3'
        exact q3'
      | exc cc r2 =>
        rw [ev] at q3'
        exact q3'
  · rintro s' H' ⟨Mi, Ui, ri, q1, q2, q3⟩
    rw [List.drop_length] at q3
    exact fs_here q1 q3
theorem snd_whl (o : OkF X c G W C T) {t : E} {b : List S} {v : Expr} {x : List Stmt} {p : Pos} (h : chkE T c t v = true) (hb : PSs X x (tSs G W C b)) : PS X (.While v x [] p) (tS G W C (.whl t b)) := by
  refine ps_mono (ps_while o.po (sndT t o.toOk h).1 hb) fun D s H ⟨M, U, r, rp, f⟩ => ?_
  have f : FinS G W H M U (whileLoop (fun r => evT C t r) (fun r => evSs C b r) C.wf r) D := f
  refine ⟨fun m s' H' => ∃ Mi Ui ri, Rep G H' Mi Ui s' ri ∧ FinS G W H' Mi Ui (whileLoop (fun r => evT C t r) (fun r => evSs C b r) m ri) D, ⟨C.wf, M, U, r, rp, f⟩, ?_⟩
  rintro m s1 H1 ⟨M1, U1, r1, rp1, f1⟩
  cases m with
  | zero => exact f1.elim
  | succ n =>
    refine ⟨M1, U1, r1, rp1, ?_⟩
    simp only [whileLoop] at f1
    cases et : evT C t r1 with
    | bad =>
      rw [et] at f1
      exact f1.elim
    | exc cc rr =>
      rw [et] at f1
      exact fun H2 M2 U2 st rp2 => f1 s1 H2 M2 U2 st rp2
    | ok q r2 =>
      rw [et] at f1
      intro H2 M2 U2 st2 rp2
      cases q with
      | false =>
        simp only [Bool.false_eq_true, if_false] at f1 ⊢
        exact f1 s1 H2 M2 U2 st2 rp2
      | true =>
        simp only [if_true] at f1 ⊢
        refine ⟨fun s' H' => ∃ Mi Ui ri, Rep G H' Mi Ui s' ri ∧ FinS G W H' Mi Ui (whileLoop (fun r => evT C t r) (fun r => evSs C b r) n ri) D, fun s' H' q => ⟨n, Nat.lt_succ_self n, q⟩, M2, U2, r2, rp2, ?_⟩
        have f2 := FinS.step rp1.all f1 st2
        cases eb : evSs C b r2 with
        | bad =>
          rw [eb] at f2
          exact f2.elim
        | next r3 =>
          rw [eb] at f2
          intro s3 H3 M3 U3 st3 rp3
          exact ⟨M3, U3, r3, rp3, FinS.step rp2.all f2 st3⟩
        | ret d2 fr r3 =>
          rw [eb] at f2
          exact f2
        | exc cc r3 =>
          rw [eb] at f2
          exact f2
end
end Ev

/-! blocks, defs, the whole program -/
namespace Ev
open PySem L2
section
variable {X : Cx} {c : Sc} {G : Ct} {W : WX} {C : Cfg} {T : Nm} {s : St} {H H' : Hp} {M U M' U' : AP} {r : Env} {α : Type}
theorem frz_use {i : Nat} {ss : List S} {D : Ends} (hio : C.io = G.io) (q : tSs G W C (.frz i :: ss) D s H) : tSs G W C ss D s H := by
  obtain ⟨M, U, r, rp, f⟩ := q
  have f : FinS G W H M U (match (match getM r i with | some d => if C.io.contains i then RS.bad else .next (r.set i (.va d)) | none => .bad) with
    | .next r1 => evSs C ss r1
    | o => o) D := f
  cases e : getM r i with
  | none =>
    simp only [e] at f
    exact f.elim
  | some d =>
    simp only [e] at f
    cases hc : C.io.contains i with
    | true =>
      simp only [hc, if_true] at f
      exact f.elim
    | false =>
      simp only [hc, Bool.false_eq_true, if_false] at f
      have hi := getM_some e
      have hn : i ∉ G.io := fun hm => by
        rw [hio] at hc
        have : G.io.contains i = true := by simpa using hm
        rw [this] at hc
        cases hc
      obtain ⟨a, e1, e2, vs, ds, e3, e4, e5⟩ := rp.mu i d hi
      subst e3
      have st : Step M U H (minus M a) (minus U a) H := ⟨fun _ _ _ h => h, fun b h => .inl h.1, fun b h => .inl h.1, fun b h1 h2 => ⟨h1, fun z => by subst z; exact h2 e2⟩, fun _ h => h⟩
      have rp' : Rep G H (minus M a) (minus U a) s (r.set i .un) := rp.mv hi hn e1 (fun _ h => h.1) (fun b h => ⟨rp.sub b h.1, h.2⟩) (fun b h1 h2 => ⟨h1, h2⟩) fun _ h => h.1
      have hl := (List.getElem?_eq_some_iff.mp hi).1
      have hv : IsD G.K H (minus M a) (.ref a) (.lst ds) := .lst a vs ds (.inl ⟨fun h => h.2 rfl, .inl e4⟩) (e5.stay (stay_mono fun _ h => h.1))
      have es : setV G.io i (.lst ds) (r.set i .un) = some (r.set i (.va (.lst ds))) := by
        unfold setV
        rw [if_neg]
        · rw [List.set_set]
        · simp only [Bool.or_eq_true, decide_eq_true_eq, not_or, List.length_set]
          exact ⟨by simpa using hn, by omega⟩
      have rp2 := rp'.setV hv es
      have ss' : s.set i (some (V.ref a)) = s := by
        apply List.ext_getElem?
        intro j
        by_cases hj : i = j
        · subst hj
          rw [List.getElem?_set_self (by rw [← rp.len]; exact hl), e1]
        · rw [List.getElem?_set_ne hj]
      rw [ss'] at rp2
      exact ⟨minus M a, minus U a, _, rp2, f.step rp.all st⟩
theorem seq_use {st : S} {ss : List S} {D : Ends} (q : tSs G W C (st :: ss) D s H) : tSeq (tS G W C st) (tSs G W C ss) D s H := by
  obtain ⟨M, U, r, rp, f⟩ := q
  have f : FinS G W H M U (match evS C st r with | .next r1 => evSs C ss r1 | o => o) D := f
  refine ⟨M, U, r, rp, ?_⟩
  cases e : evS C st r with
  | bad =>
    rw [e] at f
    exact f.elim
  | next r1 =>
    rw [e] at f
    exact fun s' H' M' U' st' rp' => ⟨M', U', r1, rp', f.step rp.all st'⟩
  | ret d fr r1 =>
    rw [e] at f
    exact f
  | exc cc r1 =>
    rw [e] at f
    exact f
section inv
variable {x : Stmt}
theorem invs_asg1 {i : Nat} {e : E} (h : chkS T c (.asg (.n i) e) x = true) : ∃ y p v sp, x = .Assign [.Name y p] v sp ∧ locB c i y = true ∧ chkE T c e v = true := by
  cases x <;> first | cases h | skip
  rename_i ts v sp
  match ts, h with
  | [.Name y p], h =>
    have h : (locB c i y && chkE T c e v) = true := h
    simp only [Bool.and_eq_true] at h
    exact ⟨y, p, v, sp, rfl, h.1, h.2⟩
theorem invs_new {i : Nat} {e : E} (h : chkS T c (.new i e) x = true) : ∃ y p v sp, x = .Assign [.Name y p] v sp ∧ locB c i y = true ∧ chkE T c e v = true := by
  cases x <;> first | cases h | skip
  rename_i ts v sp
  match ts, h with
  | [.Name y p], h =>
    have h : (locB c i y && chkE T c e v) = true := h
    simp only [Bool.and_eq_true] at h
    exact ⟨y, p, v, sp, rfl, h.1, h.2⟩
theorem invs_asgT {is : List Nat} {e : E} (h : chkS T c (.asg (.t is) e) x = true) : ∃ es k p v sp, x = .Assign [.Tuple es k p] v sp ∧ locEs c is es = true ∧ chkE T c e v = true ∧ notTup v = true := by
  cases x <;> first | cases h | skip
  rename_i ts v sp
  match ts, h with
  | [.Tuple es k p], h =>
    have h : (locEs c is es && chkE T c e v && notTup v) = true := h
    simp only [Bool.and_eq_true] at h
    exact ⟨es, k, p, v, sp, rfl, h.1.1, h.1.2, h.2⟩
theorem invs_par {ts : List (Nat × Bool)} {es : List E} (h : chkS T c (.par ts es) x = true) : ∃ tes vs k k2 p p2 sp, x = .Assign [.Tuple tes k p] (.Tuple vs k2 p2) sp ∧ locEs c (mapFst ts) tes = true ∧ chkEs T c es vs = true ∧ ((mapFst ts).length == vs.length) = true ∧ (mapFst ts).Nodup ∧ (mapFst ts).length ≤ 100 ∧ (swapsB c tes vs || straightB c tes vs) = true := by
  cases x <;> first | cases h | skip
  rename_i tgs v sp
  match tgs, v, h with
  | [.Tuple tes k p], .Tuple vs k2 p2, h =>
    have h : (locEs c (mapFst ts) tes && chkEs T c es vs && (mapFst ts).length == vs.length && decide (mapFst ts).Nodup && decide ((mapFst ts).length ≤ 100) && (swapsB c tes vs || straightB c tes vs)) = true := h
    rw [Bool.and_eq_true, Bool.and_eq_true, Bool.and_eq_true, Bool.and_eq_true, Bool.and_eq_true] at h
    obtain ⟨⟨⟨⟨⟨h1, h2⟩, h3⟩, h4⟩, h5⟩, h6⟩ := h
    exact ⟨tes, vs, k, k2, p, p2, sp, rfl, h1, h2, h3, of_decide_eq_true h4, of_decide_eq_true h5, h6⟩
theorem invs_seti {i : Nat} {k e : E} (h : chkS T c (.seti i k e) x = true) : ∃ n y v p1 p2 p3, x = .Assign [.Subscript (.Name n p1) y p2] v p3 ∧ nameB c i n = true ∧ chkE T c k y = true ∧ plainE y = true ∧ chkE T c e v = true := by
  cases x <;> first | cases h | skip
  rename_i tgs v sp
  match tgs, h with
  | [.Subscript (.Name n p1) y p2], h =>
    have h : (nameB c i n && chkE T c k y && plainE y && chkE T c e v) = true := h
    simp only [Bool.and_eq_true] at h
    exact ⟨n, y, v, p1, p2, sp, rfl, h.1.1.1, h.1.1.2, h.1.2, h.2⟩
theorem invs_app {i : Nat} {e : E} (h : chkS T c (.app i e) x = true) : ∃ n m y p1 ap p p2, x = .Expr (.Call (.Attribute (.Name m p1) n ap) [y] [] p) p2 ∧ (n == ("append" : Str)) = true ∧ nameB c i m = true ∧ chkE T c e y = true ∧ plainE y = true ∧ (ap.endLine == p.line) = true := by
  cases x <;> first | cases h | skip
  rename_i v sp
  match v, h with
  | .Call (.Attribute (.Name m p1) n ap) [y] [] p, h =>
    have h : (n == ("append" : Str) && nameB c i m && chkE T c e y && plainE y && (ap.endLine == p.line)) = true := h
    simp only [Bool.and_eq_true] at h
    exact ⟨n, m, y, p1, ap, p, sp, rfl, h.1.1.1.1, h.1.1.1.2, h.1.1.2, h.1.2, h.2⟩
theorem invs_ex {e : E} (h : chkS T c (.ex e) x = true) : ∃ v p, x = .Expr v p ∧ chkE T c e v = true ∧ notComp v = true := by
  cases x <;> first | cases h | skip
  rename_i v sp
  have h : (chkE T c e v && notComp v) = true := h
  simp only [Bool.and_eq_true] at h
  exact ⟨v, sp, rfl, h.1, h.2⟩
theorem invs_ret {e : E} (h : chkS T c (.ret e) x = true) : ∃ v p, x = .Return (some v) p ∧ chkE T c e v = true := by
  cases x <;> first | cases h | skip
  rename_i v sp
  cases v with
  | none => cases h
  | some v => exact ⟨v, sp, rfl, h⟩
theorem invs_ife {t : E} {a b : List S} (h : chkS T c (.ife t a b) x = true) : ∃ v y z p, x = .If v y z p ∧ chkE T c t v = true ∧ chkSs T c a y = true ∧ chkSs T c b z = true := by
  cases x <;> first | cases h | skip
  rename_i v y z sp
  have h : (chkE T c t v && chkSs T c a y && chkSs T c b z) = true := h
  simp only [Bool.and_eq_true] at h
  exact ⟨v, y, z, sp, rfl, h.1.1, h.1.2, h.2⟩
theorem invs_for {t : Tg} {it : Ev.It} {b : List S} (h : chkS T c (.for_ t it b) x = true) : ∃ tg iter y p, x = .For tg iter y [] p ∧ chkT c t tg = true ∧ chkIt T c it tg iter = true ∧ plainE iter = true ∧ chkSs T c b y = true := by
  cases x <;> first | cases h | skip
  rename_i tg iter y els sp
  cases els with
  | cons => cases h
  | nil =>
    have h : (chkT c t tg && chkIt T c it tg iter && plainE iter && chkSs T c b y) = true := h
    simp only [Bool.and_eq_true] at h
    exact ⟨tg, iter, y, sp, rfl, h.1.1.1, h.1.1.2, h.1.2, h.2⟩
theorem invs_whl {t : E} {b : List S} (h : chkS T c (.whl t b) x = true) : ∃ v y p, x = .While v y [] p ∧ chkE T c t v = true ∧ chkSs T c b y = true := by
  cases x <;> first | cases h | skip
  rename_i v y els sp
  cases els with
  | cons => cases h
  | nil =>
    have h : (chkE T c t v && chkSs T c b y) = true := h
    simp only [Bool.and_eq_true] at h
    exact ⟨v, y, sp, rfl, h.1, h.2⟩
theorem invs_rais {k : Nat} (h : chkS T c (.rais k) x = true) : ∃ n m j p1 p2 p3 p, x = .Raise (some (.Call (.Name n p1) [.Constant (.str m) j p2] [] p3)) none p ∧ (T.cnm k == some n) = true ∧ glB c n = true := by
  cases x <;> first | cases h | skip
  rename_i v w sp
  match v, w, h with
  | some (.Call (.Name n p1) [.Constant (.str m) j p2] [] p3), none, h =>
    have h : (T.cnm k == some n && glB c n) = true := h
    simp only [Bool.and_eq_true] at h
    exact ⟨n, m, j, p1, p2, p3, sp, rfl, h.1, h.2⟩
end inv
mutual
theorem sndS : ∀ (st : S) {x : Stmt}, OkF X c G W C T → chkS T c st x = true → PS X x (tS G W C st)
  | .asg (.n i) e, x, o, h => by
    obtain ⟨y, p, v, sp, rfl, h1, h2⟩ := invs_asg1 h
    exact snd_asg1 o.toOk h1 h2
  | .asg (.t is) e, x, o, h => by
    obtain ⟨es, k, p, v, sp, rfl, h1, h2, h3⟩ := invs_asgT h
    exact snd_asgT o.toOk h1 h2 h3
  | .new i e, x, o, h => by
    obtain ⟨y, p, v, sp, rfl, h1, h2⟩ := invs_new h
    exact snd_new o.toOk h1 h2
  | .par ts es, x, o, h => by
    obtain ⟨tes, vs, k, k2, p, p2, sp, rfl, h1, h2, h3, h4, h5, h6⟩ := invs_par h
    exact snd_par o.toOk h1 h2 h3 h4 h5 h6
  | .seti i k e, x, o, h => by
    obtain ⟨n, y, v, p1, p2, p3, rfl, h1, h2, h3, h4⟩ := invs_seti h
    exact snd_seti o.toOk h1 h2 h3 h4
  | .app i e, x, o, h => by
    obtain ⟨n, m, y, p1, ap, p, p2, rfl, h1, h2, h3, h4, h5⟩ := invs_app h
    exact snd_app o.toOk h1 h2 h3 h4 h5
  | .ext i e, x, o, h => by cases x <;> cases h
  | .dead, x, o, h => ⟨fun _ _ _ _ _ _ ⟨M, U, r, rp, f⟩ => f.elim⟩
  | .ex e, x, o, h => by
    obtain ⟨v, p, rfl, h1, h2⟩ := invs_ex h
    exact snd_ex o.toOk h1 h2
  | .ret e, x, o, h => by
    obtain ⟨v, p, rfl, h1⟩ := invs_ret h
    exact snd_ret o.toOk h1
  | .ife t a b, x, o, h => by
    obtain ⟨v, y, z, p, rfl, h1, h2, h3⟩ := invs_ife h
    exact snd_if o.toOk h1 (sndSs a o h2) (sndSs b o h3)
  | .for_ t it b, x, o, h => by
    obtain ⟨tg, iter, y, p, rfl, h1, h2, h3, h4⟩ := invs_for h
    exact snd_for o h1 h2 h3 (sndSs b o h4)
  | .whl t b, x, o, h => by
    obtain ⟨v, y, p, rfl, h1, h2⟩ := invs_whl h
    exact snd_whl o h1 (sndSs b o h2)
  | .rais k, x, o, h => by
    obtain ⟨n, m, j, p1, p2, p3, p, rfl, h1, h2⟩ := invs_rais h
    exact snd_rais o h1 h2
  | .frz i, x, o, h => by cases x <;> cases h
theorem sndSs : ∀ (ss : List S) {xs : List Stmt}, OkF X c G W C T → chkSs T c ss xs = true → PSs X xs (tSs G W C ss)
  | [], xs, o, h => by
    cases xs with
    | nil => exact pss_mono pss_nil fun D s H ⟨M, U, r, rp, f⟩ => fs_here rp f
    | cons => cases h
  | st :: ss, xs, o, h => by
    by_cases hf : ∃ i, st = .frz i
    · obtain ⟨i, rfl⟩ := hf
      have h' : chkSs T c ss xs = true := h
      exact pss_mono (sndSs ss o h') fun D s H q => frz_use o.hio q
    · cases xs with
      | nil =>
        cases st <;> first | cases h | exact absurd ⟨_, rfl⟩ hf
      | cons x xs =>
        have h' : (chkS T c st x && chkSs T c ss xs) = true := by
          cases st <;> first | exact h | exact absurd ⟨_, rfl⟩ hf
        simp only [Bool.and_eq_true] at h'
        exact pss_mono (pss_cons (sndS st o h'.1) (sndSs ss o h'.2)) fun D s H q => seq_use q
end
end
/-! ### a def -/
structure Def (T : Nm) (K : PySem.W.Frag) (mg : Str → Option Value) (fn : Fn) (nm : Str) (st : Stmt) (Nn ps : List Str) (fa : Addr) (fd : FuncData) : Prop where
  F : Fun K nm nm st fa fd
  mg : mg nm = some (.ref fa)
  bd : Binds K fd ps []
  sc : FnScope Nn ps (defScope st)
  chk : chkSs T ⟨Nn, defScope st, fun _ => true⟩ fn.body (defBody st) = true
  np : fn.np = ps.length
  ns : fn.ns = Nn.length
  le : ps.length ≤ Nn.length
  io : ∀ j, j ∈ fn.io → j < fn.np
theorem args_at (io : List Nat) : ∀ (ds : List D) (k i : Nat), (argsFrom io k ds)[i]? = (ds[i]?).map fun d => if io.contains (k + i) then .mu d else .va d
  | [], k, i => by simp [argsFrom]
  | d :: ds, k, 0 => by simp [argsFrom]
  | d :: ds, k, i + 1 => by
    simp only [argsFrom, List.getElem?_cons_succ, args_at io ds (k + 1) i]
    rw [show k + 1 + i = k + (i + 1) by omega]
theorem args_len (io : List Nat) : ∀ (ds : List D) (k : Nat), (argsFrom io k ds).length = ds.length
  | [], k => rfl
  | d :: ds, k => by simp [argsFrom, args_len io ds]
theorem entry_at {fn : Fn} {ds : List D} {i : Nat} (hl : ds.length = fn.np) : (entry fn ds)[i]? = if i < ds.length then (ds[i]?).map (fun d => if fn.io.contains i then .mu d else .va d) else if i < fn.ns then some .un else none := by
  unfold entry
  by_cases h : i < ds.length
  · rw [if_pos h, List.getElem?_append_left (by rw [args_len]; exact h), args_at]
    simp
  · rw [if_neg h, List.getElem?_append_right (by rw [args_len]; omega), args_len]
    by_cases h2 : i < fn.ns
    · rw [if_pos h2, List.getElem?_replicate, if_pos (by omega)]
    · rw [if_neg h2, List.getElem?_replicate, if_neg (by omega)]
theorem start_at {N : List Str} {vs : List V} {i : Nat} {v : V} (h : vs[i]? = some v) : (start N vs)[i]? = some (some v) := by
  unfold L2.start
  have hl := (List.getElem?_eq_some_iff.mp h).1
  rw [List.getElem?_append_left (by rw [List.length_map]; exact hl), List.getElem?_map, h]
  rfl
theorem Rep.entry {K : PySem.W.Frag} {cv : Nat → Value} {fn : Fn} {N : List Str} {vs : List V} {ds : List D} {H : Hp} {M : AP} (hl : ds.length = fn.np) (hn : fn.ns = N.length) (hle : fn.np ≤ N.length) (hm : ∀ a, M a → H a ≠ none) (ao : ArgsOk K H M fn.io vs ds) :
    Rep ⟨K, fn.io, start N vs, H, UOf fn.io vs, cv⟩ H M (UOf fn.io vs) (start N vs) (Ev.entry fn ds) := by
  obtain ⟨a1, a2, a3, a4, a5⟩ := ao
  have kind : ∀ {i : Nat} {x : Sl}, (Ev.entry fn ds)[i]? = some x → x = .un ∨ ∃ d, ds[i]? = some d ∧ ((i ∈ fn.io ∧ x = .mu d) ∨ (i ∉ fn.io ∧ x = .va d)) := fun {i x} h => by
    rw [entry_at hl] at h
    split at h
    · obtain ⟨d, e1, e2⟩ := Option.map_eq_some_iff.mp h
      refine .inr ⟨d, e1, ?_⟩
      by_cases hi : i ∈ fn.io
      · rw [if_pos (by simpa using hi)] at e2
        exact .inl ⟨hi, e2.symm⟩
      · rw [if_neg (by simpa using hi)] at e2
        exact .inr ⟨hi, e2.symm⟩
    · split at h
      · cases h
        exact .inl rfl
      · cases h
  refine ⟨?_, fun i d h => ?_, fun i d h => ?_, fun i j d e a h1 h2 h3 h4 => ?_, fun a h => ?_, hm, fun _ _ => rfl, fun j hj => ?_, fun _ h => .inl h, fun _ h => h⟩
  · unfold Ev.entry L2.start
    simp only [List.length_append, args_len, List.length_replicate, List.length_map]
    omega
  · rcases kind h with z | ⟨d', e1, ⟨_, z⟩ | ⟨hi, z⟩⟩
    · cases z
    · cases z
    · cases z
      obtain ⟨v, q1, q2⟩ := a2 i d e1 hi
      exact ⟨v, start_at q1, q2⟩
  · rcases kind h with z | ⟨d', e1, ⟨hi, z⟩ | ⟨_, z⟩⟩
    · cases z
    · cases z
      obtain ⟨a, q1, q2, q3⟩ := a3 i d e1 hi
      exact ⟨a, start_at q1, ⟨i, hi, q1⟩, q3⟩
    · cases z
  · rcases kind h1 with z | ⟨d', e1, ⟨hi, z⟩ | ⟨_, z⟩⟩
    · cases z
    · rcases kind h2 with z' | ⟨d'', e2, ⟨hj, z'⟩ | ⟨_, z'⟩⟩
      · cases z'
      · obtain ⟨b, q1, q2, q3⟩ := a3 i d' e1 hi
        obtain ⟨b', q1', q2', q3'⟩ := a3 j d'' e2 hj
        rw [start_at q1] at h3
        rw [start_at q1'] at h4
        cases h3
        cases h4
        exact a4 i j a hi hj q1 q1'
      · cases z'
    · cases z
  · obtain ⟨j, hj, e⟩ := h
    have hd : j < ds.length := a5 j hj
    obtain ⟨b, q1, q2, q3⟩ := a3 j _ (List.getElem?_eq_getElem hd) hj
    rw [e] at q1
    cases q1
    exact q2
  · have hd : j < ds.length := a5 j hj
    refine ⟨ds[j], ?_⟩
    rw [entry_at hl, if_pos hd, List.getElem?_eq_getElem hd]
    simp only [Option.map_some]
    rw [if_pos (by simpa using hj)]
theorem Rep.outs {K : PySem.W.Frag} {cv : Nat → Value} {io : List Nat} {N : List Str} {vs : List V} {H0 H : Hp} {U0 M U : AP} {s : St} {r : Env} (rp : Rep ⟨K, io, start N vs, H0, U0, cv⟩ H M U s r) (hv : ∀ j, j ∈ io → j < vs.length) : OutsOk K H M io vs (outsOf io r) ∧ ∀ a, UOf io vs a → U a := by
  have key : ∀ j, j ∈ io → ∃ a d, vs[j]? = some (.ref a) ∧ getM r j = some d ∧ U a ∧ MutAt K H M a d := fun j hj => by
    obtain ⟨d, hd⟩ := rp.pmu j hj
    obtain ⟨a, q1, q2, q3⟩ := rp.mu j d hd
    have p := rp.pin j hj
    rw [q1] at p
    have hl := hv j hj
    have p' : some (some (V.ref a)) = (start N vs)[j]? := p
    rw [start_at (List.getElem?_eq_getElem hl)] at p'
    refine ⟨a, d, ?_, ?_, q2, q3⟩
    · rw [List.getElem?_eq_getElem hl]
      exact (Option.some.inj p').symm
    · unfold getM
      rw [hd]
  refine ⟨⟨by simp [outsOf], fun k j hk => ?_⟩, fun a ⟨j, hj, e⟩ => ?_⟩
  · obtain ⟨a, d, q1, q2, q3, q4⟩ := key j (List.mem_of_getElem? hk)
    refine ⟨a, d, q1, ?_, rp.sub a q3, q4⟩
    unfold outsOf
    rw [List.getElem?_map, hk]
    simp [q2]
  · obtain ⟨a', d, q1, q2, q3, q4⟩ := key j hj
    rw [e] at q1
    cases q1
    exact q3
/-! ### the program -/
structure Pr (P : Program) (w : World) (K : PySem.W.Frag) (mg : Str → Option Value) (T : Pg) (Nn : Nm) (cv : Nat → Value) : Prop where
  blt : ∀ x, x ∈ blts → mg x = none
  glb : ∀ n d, Nn.gnm n = true → T.glb n = some d → ∃ v u, mg n = some u ∧ RelV v u ∧ ∀ H M, IsD K H M v d
  dct : ∀ n, Nn.dnm n = true → ∃ kvs a es m, T.glb n = some (.dic kvs) ∧ mg n = some (.ref a) ∧ KDict K w a es m ∧ TabOk K a kvs
  cls : ∀ k nm, Nn.cnm k = some nm → ∀ (X : Cx), X.K = K → X.mg = mg → ∀ (m : Str) (j : Nat) (p p2 pos : Pos), Gl X nm → (nm == ("__debug__" : Str)) = false → PMk X (.Call (.Name nm p) [.Constant (.str m) j p2] [] pos) (fun _ H Q => Q (cv k) none H)
  defs : ∀ f fn nm, T.fns f = some fn → Nn.fnm f = some nm → ∃ st N ps fa fd, Def Nn K mg fn nm st N ps fa fd
theorem all_ok {P : Program} {w : World} {K : PySem.W.Frag} {mg : Str → Option Value} {T : Pg} {Nn : Nm} {cv : Nat → Value} {base : Heap} (pr : Pr P w K mg T Nn cv) : ∀ (n f : Nat) (fn : Fn) (nm : Str), T.fns f = some fn → Nn.fnm f = some nm →
    ∀ st N ps fa fd, Def Nn K mg fn nm st N ps fa fd → FnOk P w K mg base (L2.CX P w) n fa fd ps (spF K cv fn.io (call T n f)) := by
  intro n
  induction n with
  | zero =>
    intro f fn nm h1 h2 st N ps fa fd df
    exact ⟨fun vs H Q E ⟨M, ds, _, _, q⟩ => q.elim, fun A outer s H args us vs Q E _ _ _ _ ⟨M, ds, _, _, q⟩ => q.elim⟩
  | succ n ih =>
    intro f fn nm h1 h2 st N ps fa fd df
    have ec : ∀ ds, call T (n + 1) f ds = if ds.length = fn.np then fin fn.io (evSs (cfg T (call T n) fn.io) fn.body (entry fn ds)) else .bad := fun ds => by
      show (match T.fns f with | none => Out.bad | some fn => if ds.length = fn.np then fin fn.io (evSs (cfg T (call T n) fn.io) fn.body (entry fn ds)) else .bad) = _
      rw [h1]
    refine df.F.okX df.sc (fun vs H Q E ⟨M, ds, _, ao, q⟩ => ?_) fun cdv A outer s H vs Q E hr ⟨M, ds, hm, ao, q⟩ => ?_
    · rw [ao.1, ← df.np]
      rw [ec] at q
      by_cases hl : ds.length = fn.np
      · exact hl
      · rw [if_neg hl] at q
        exact q.elim
    · rw [ec] at q
      by_cases hl : ds.length = fn.np
      · rw [if_pos hl] at q
        have o : OkF (cxOf (L2.CX P w) P w K mg base N nm (defScope st) fa cdv A outer s H E) ⟨N, defScope st, fun _ => true⟩ ⟨K, fn.io, start N vs, H, UOf fn.io vs, cv⟩ (fun cls d _ H => E cls d H) (cfg T (call T n) fn.io) Nn := by
          refine ⟨⟨rfl, rfl, rfl, rfl, df.sc.nd, rfl, rfl, df.sc.kind, ?_, pr.blt, takes_of rfl rfl rfl rfl, fun g io sem gn e1 e2 => ?_, pr.glb, pr.dct⟩, passes_of rfl, fun k nm' e m j p p2 pos g1 g2 => pr.cls k nm' e _ rfl rfl m j p p2 pos g1 g2⟩
          · have := hr.un
            show (A.deeper _).units + 65 < cLine
            omega
          · obtain ⟨fn', e3, e4⟩ := Option.map_eq_some_iff.mp (show (T.fns g).map (fun fn => (fn.io, call T n g)) = some (io, sem) from e1)
            cases e4
            obtain ⟨st', N', ps', fa', fd', df'⟩ := pr.defs g fn' gn e3 e2
            exact ⟨n, fa', fd', ps', ih g fn' gn e3 e2 st' N' ps' fa' fd' df', hr, df'.mg, df'.F.kp, df'.bd⟩
        refine ⟨_, sndSs fn.body o df.chk, M, UOf fn.io vs, entry fn ds, Rep.entry hl df.ns (by rw [df.np]; exact df.le) hm ao, ?_⟩
        have hv : ∀ j, j ∈ fn.io → j < vs.length := fun j hj => by rw [ao.1]; exact ao.2.2.2.2 j hj
        cases er : evSs (cfg T (call T n) fn.io) fn.body (entry fn ds) with
        | bad =>
          rw [er] at q
          exact q.elim
        | next r =>
          rw [er] at q
          intro s' H' M' U' st' rp'
          exact q .non H' M' U' st' (rp'.outs hv).1 .non
        | exc cc r =>
          rw [er] at q
          intro s' H' M' U' st' rp'
          exact q H' M' U' st' (rp'.outs hv).1
        | ret d fr r =>
          rw [er] at q
          intro s' H' M' U' v st' rp' iv
          cases fr with
          | false => exact q v H' M' U' st' (rp'.outs hv).1 iv
          | true =>
            obtain ⟨p, ws, es, rfl, rfl, e1, e2, e3, e4, rp2⟩ := iv
            have e3' : UOf fn.io vs p ∨ H p = none := e3
            have hp : H p = none := e3'.resolve_left fun z => e2 (rp'.sub p ((rp'.outs hv).2 p z))
            refine q (.ref p) H' (plus M' p) U' ⟨st'.rd, fun a h => h.elim (fun z => .inr (by rw [z]; exact hp)) (st'.new a), st'.own, fun a h1 h2 => .inr (st'.kp a h1 h2), st'.al⟩ (rp2.outs hv).1 ⟨p, ws, es, rfl, rfl, hp, e1, .inl rfl, e4⟩
      · rw [if_neg hl] at q
        exact q.elim
end Ev

/-! from the facts of the head to the law -/
namespace Ev
open PySem L2 PyProof.Rows
/-- one def: its number, its name, its text, its slots, its parameters, what it is here -/
structure DR where
  id : Nat
  nm : Str
  st : Stmt
  N : List Str
  ps : List Str
  fn : Fn
def DR.dd (r : DR) : He.DefD := ⟨(r.nm, none), r.nm, r.nm, defArgs r.st, defBody r.st, defScope r.st, [], []⟩
def nmsOf : List DR → Nat → Option Str
  | [], _ => none
  | r :: rs, f => if r.id = f then some r.nm else nmsOf rs f
def cnOf : List (Nat × Str) → Nat → Option Str
  | [], _ => none
  | (i, x) :: r, k => if i = k then some x else cnOf r k
/-- data of the top, looked at -/
def strB (z : Str) (s : List Nat) : Bool := decide (z.cps.toList = s) && goodB s
mutual
def litB (K : PySem.W.Frag) : D → Value → Bool
  | .non, .none => true
  | .bl b, .bool c => b == c
  | .int i, .int j _ => decide (i = j)
  | .str s, .str z _ => strB z s
  | .tup ds, .ref a => match K.lookup a with
    | some ⟨.type c, _, .seq its _, _⟩ => decide (c = "tuple") && (decide (its.size ≤ sizeLine) && litBs K ds its.toList)
    | _ => false
  | _, _ => false
def litBs (K : PySem.W.Frag) : List D → List Value → Bool
  | [], [] => true
  | d :: ds, u :: us => litB K d u && litBs K ds us
  | _, _ => false
end
theorem strB_ok {z : Str} {s : List Nat} (h : strB z s = true) : z = sv s ∧ GoodS s := by
  unfold strB goodB at h
  simp only [Bool.and_eq_true, decide_eq_true_eq, List.all_eq_true] at h
  refine ⟨?_, h.2.1, fun c hc => h.2.2 c hc⟩
  rw [← h.1]
  unfold sv
  simp
mutual
theorem litB_ok {K : PySem.W.Frag} : ∀ {d : D} {u : Value}, litB K d u = true → ∃ v, RelV v u ∧ ∀ H M, IsD K H M v d
  | .non, .none, _ => ⟨.non, rfl, fun _ _ => .non⟩
  | .bl b, .bool c, h => by
    have h := eq_of_beq (show (b == c) = true from h)
    subst h
    exact ⟨.bl b, rfl, fun _ _ => .bl b⟩
  | .int i, .int j t, h => by
    have h := of_decide_eq_true (show decide (i = j) = true from h)
    subst h
    exact ⟨.int i, ⟨t, rfl⟩, fun _ _ => .int i⟩
  | .str s, .str z t, h => by
    obtain ⟨rfl, g⟩ := strB_ok (show strB z s = true from h)
    exact ⟨.str (sv s), ⟨t, rfl⟩, fun _ _ => .str s g⟩
  | .tup ds, .ref a, h => by
    have h : (match K.lookup a with
      | some ⟨.type c, _, .seq its _, _⟩ => decide (c = "tuple") && (decide (its.size ≤ sizeLine) && litBs K ds its.toList)
      | _ => false) = true := h
    cases q : K.lookup a with
    | none => rw [q] at h; cases h
    | some o =>
      obtain ⟨oc, od, dt, osl⟩ := o
      rw [q] at h
      cases oc with
      | type c =>
        cases dt with
        | seq its n =>
          have h : (decide (c = "tuple") && (decide (its.size ≤ sizeLine) && litBs K ds its.toList)) = true := h
          simp only [Bool.and_eq_true, decide_eq_true_eq] at h
          obtain ⟨h1, h2, h3⟩ := h
          obtain ⟨vs, r, g⟩ := litBs_ok h3
          exact ⟨.ref a, rfl, fun H M => .tup a vs ds (.inr (.inr ⟨_, its, n, q, congrArg Value.type h1, rfl, h2, r⟩)) (g H M)⟩
        | _ => cases h
      | _ => cases dt <;> cases h
theorem litBs_ok {K : PySem.W.Frag} : ∀ {ds : List D} {us : List Value}, litBs K ds us = true → ∃ vs, Vals vs us ∧ ∀ H M, IsDs K H M vs ds
  | [], [], _ => ⟨[], .nil, fun _ _ => .nil⟩
  | d :: ds, u :: us, h => by
    have h : (litB K d u && litBs K ds us) = true := h
    rw [Bool.and_eq_true] at h
    obtain ⟨v, h1, h2⟩ := litB_ok h.1
    obtain ⟨vs, h3, h4⟩ := litBs_ok h.2
    exact ⟨v :: vs, .cons h1 h3, fun H M => .cons _ _ _ _ (h2 H M) (h4 H M)⟩
end
def conB (K : PySem.W.Frag) (p : Str × D) : Bool := match PySem.W.nsIn K mainGlobals p.1 with
  | some (some u) => litB K p.2 u
  | _ => false
def keyB (K : PySem.W.Frag) (a : Addr) : D × D → Bool
  | (.str k, .tup []) => He.eqO (PySem.W.nsIn K a (sv k)) (some none)
  | (.str k, .tup [d]) => match PySem.W.nsIn K a (sv k) with
    | some (some u) => litB K d u
    | _ => false
  | _ => false
def tabB (K : PySem.W.Frag) (t : Str × List (D × D)) : Bool := (He.Fa.glo t.1).ok K && t.2.all (keyB K (He.ga K t.1))
theorem tabOk_of {K : PySem.W.Frag} {a : Addr} : ∀ {kvs : List (D × D)}, kvs.all (keyB K a) = true → TabOk K a kvs
  | [], _, z, o, e => by cases e
  | (k, d) :: r, h, z, o, e => by
    simp only [List.all_cons, Bool.and_eq_true] at h
    obtain ⟨h1, h2⟩ := h
    have ih := tabOk_of h2 z o
    cases k with
    | str s =>
      cases d with
      | tup xs =>
        match xs, h1, e with
        | [], h1, e =>
          have e : (if s = z then some none else lookC r z) = some o := e
          by_cases q : s = z
          · rw [if_pos q] at e
            cases e
            subst q
            exact He.eqO_ok h1
          · rw [if_neg q] at e
            exact ih e
        | [d], h1, e =>
          have e : (if s = z then some (some d) else lookC r z) = some o := e
          by_cases q : s = z
          · rw [if_pos q] at e
            cases e
            subst q
            have h1 : (match PySem.W.nsIn K a (sv s) with | some (some u) => litB K d u | _ => false) = true := h1
            cases en : PySem.W.nsIn K a (sv s) with
            | none => rw [en] at h1; cases h1
            | some uo =>
              rw [en] at h1
              cases uo with
              | none => cases h1
              | some u =>
                obtain ⟨v, g1, g2⟩ := litB_ok h1
                exact ⟨u, v, rfl, g1, g2⟩
          · rw [if_neg q] at e
            exact ih e
        | _ :: _ :: _, h1, e => cases h1
      | _ => cases h1
    | _ => cases d <;> cases h1
def keyStrs (kvs : List (D × D)) : List Str := kvs.filterMap fun p => match p with
  | (.str k, .tup [_]) => some (sv k)
  | _ => none
def tabsOf (ts : List (Str × List (D × D))) : List He.Tab := ts.map fun t => ((fun K => He.ga K t.1), keyStrs t.2)
def exB (cs : List (Str × D)) (ts : List (Str × List (D × D))) (K : PySem.W.Frag) : Bool := cs.all (conB K) && ts.all (tabB K)
abbrev AlQ : Type := He.AlT × Bool
def obsQ (fa : List He.Fa) (fn : List He.DefD) (cs : List (Str × D)) (ts : List (Str × List (D × D))) (K : PySem.W.Frag) : AlQ := (He.obsT fa fn (tabsOf ts) K, exB cs ts K)
def obsQG (n : Nat) (fa : List He.Fa) (fn : List He.DefD) (cs : List (Str × D)) (ts : List (Str × List (D × D))) (g : Addr → Option Obj) : AlQ := obsQ fa fn cs ts (He.frG g (He.asD g n))
structure SaysQ (fa : List He.Fa) (fn : List He.DefD) (cs : List (Str × D)) (ts : List (Str × List (D × D))) (w : World) (K : PySem.W.Frag) : Prop where
  t : He.SaysT fa fn (tabsOf ts) w K
  x : exB cs ts K = true
def hookQ (n : Nat) (fa : List He.Fa) (fn : List He.DefD) (cs : List (Str × D)) (ts : List (Str × List (D × D))) : PySem.W.Hook where
  α := AlQ
  obs := fun s => obsQG n fa fn cs ts s.heap.get?
  val := fun w => (He.valT fn (tabsOf ts) w, true)
  says := fun w h => ∃ K : PySem.W.Frag, K.In h ∧ SaysQ fa fn cs ts w K
  of := fun _ _ e => ⟨_, He.frG_in, congrArg (fun z : AlQ => z.1) e, congrArg (fun z : AlQ => z.2) e⟩
  keeps := fun _ _ _ ⟨K, hK, c⟩ k => ⟨K, PySem.W.Frag.In.keeps hK k, c⟩
theorem obsQG_eq {n : Nat} {fa : List He.Fa} {fn : List He.DefD} {cs : List (Str × D)} {ts : List (Str × List (D × D))} {g : Addr → Option Obj} {s : Shared} (h : ∀ a, g a = s.heap.get? a) : obsQG n fa fn cs ts g = (hookQ n fa fn cs ts).obs s := by
  have e : g = s.heap.get? := funext h
  rw [e] <;> rfl
/-- what a law's program names: its defs, its exceptions, its data, its tables -/
def nmOf (rs : List DR) (xs : List (Nat × Str)) (cs : List (Str × D)) (ts : List (Str × List (D × D))) : Nm := ⟨nmsOf rs, cnOf xs, fun x => cs.any fun p => p.1 == x, fun x => ts.any fun p => p.1 == x⟩
structure Good (T : Nm) (r : DR) : Prop where
  sc : FnScope r.N r.ps (defScope r.st)
  chk : chkSs T ⟨r.N, defScope r.st, fun _ => true⟩ r.fn.body (defBody r.st) = true
  np : r.fn.np = r.ps.length
  ns : r.fn.ns = r.N.length
  le : r.ps.length ≤ r.N.length
  io : ∀ j, j ∈ r.fn.io → j < r.fn.np
  bd : ∀ (kV doc pm : Value) (an : Option Addr) (cdv ct : Value) (us : List Value), us.length = r.ps.length → bindArgs (PySem.W.fnOf r.nm r.nm (defArgs r.st) (defBody r.st) (defScope r.st) .none kV doc pm an cdv ct) ⟨us, []⟩ = pure (r.ps.zip us)
theorem funOf {K : PySem.W.Frag} {x : Str} {st : Stmt} {f : Addr} {fd : FuncData} (F : FunD K x x (defArgs st) (defBody st) (defScope st) [] [] f fd) : Fun K x x st f fd := by
  obtain ⟨oc, od, dV, kV, doc, pm, an, cdv, ct, osl, e, lk, hcd, hD, hK⟩ := F.ex
  rcases hD with ⟨_, z⟩ | ⟨z, _⟩
  · rw [z] at e
    exact ⟨⟨oc, od, kV, doc, pm, an, cdv, ct, osl, e, lk, hcd⟩, F.kp⟩
  · exact absurd rfl z
/-- the facts that a law asks of its top -/
def facts (rs : List DR) (xs : List (Nat × Str)) : List He.Fa := rs.map (fun r => He.Fa.glo r.nm) ++ (blts.map He.Fa.free ++ (xs.map (fun p => He.Fa.glo p.2) ++ xs.map (fun p => He.Fa.exc p.2)))
theorem fact_in {fa : List He.Fa} {fn : List He.DefD} {K : PySem.W.Frag} (c : He.SaysD fa fn K) {f : He.Fa} (h : f ∈ fa) : f.ok K = true := by
  obtain ⟨i, hi⟩ := List.getElem?_of_mem h
  exact c.fact i hi
theorem cnOf_in : ∀ {xs : List (Nat × Str)} {k : Nat} {x : Str}, cnOf xs k = some x → (k, x) ∈ xs
  | [], _, _, e => by cases e
  | (i, y) :: r, k, x, e => by
    simp only [cnOf] at e
    by_cases h : i = k
    · rw [if_pos h] at e
      cases e
      rw [h]
      exact List.mem_cons_self ..
    · rw [if_neg h] at e
      exact List.mem_cons_of_mem _ (cnOf_in e)
theorem nmsOf_in : ∀ {rs : List DR} {f : Nat} {x : Str}, nmsOf rs f = some x → ∃ r, r ∈ rs ∧ r.id = f ∧ r.nm = x
  | [], _, _, e => by cases e
  | q :: r, f, x, e => by
    simp only [nmsOf] at e
    by_cases h : q.id = f
    · rw [if_pos h] at e
      cases e
      exact ⟨q, List.mem_cons_self .., h, rfl⟩
    · rw [if_neg h] at e
      obtain ⟨s, h1, h2⟩ := nmsOf_in e
      exact ⟨s, List.mem_cons_of_mem _ h1, h2⟩
def cvOf (K : PySem.W.Frag) (xs : List (Nat × Str)) (k : Nat) : Value := match cnOf xs k with
  | some x => .ref (He.ga K x)
  | none => .none
section
variable {P : Program} {w : World} {T : Pg} {N : Nm} {K : PySem.W.Frag} {mg : Str → Option Value} {h : Heap} {rs : List DR} {xs : List (Nat × Str)} {cs : List (Str × D)} {ts : List (Str × List (D × D))}
theorem def_of (X : K.In h) (G : h.Ns mainGlobals mg) (c : SaysQ (facts rs xs) (rs.map DR.dd) cs ts w K) {r : DR} (e : r ∈ rs) (g : Good N r) :
    ∃ fd, Def N K mg r.fn r.nm r.st r.N r.ps (He.ga K r.nm) fd ∧ FunD K r.nm r.nm (defArgs r.st) (defBody r.st) (defScope r.st) [] [] (He.ga K r.nm) fd := by
  obtain ⟨i, hi⟩ := List.getElem?_of_mem e
  obtain ⟨fd, F⟩ := c.t.d.def_ i (d := r.dd) (by rw [List.getElem?_map, hi]; rfl)
  have F : FunD K r.nm r.nm (defArgs r.st) (defBody r.st) (defScope r.st) [] [] (He.ga K r.nm) fd := F
  have m : mg r.nm = some (.ref (He.ga K r.nm)) := He.glo_ok X G (fact_in c.t.d (List.mem_append_left _ (List.mem_map_of_mem e)))
  exact ⟨fd, ⟨funOf F, m, F.bindsN g.bd, g.sc, g.chk, g.np, g.ns, g.le, g.io⟩, F⟩
theorem pr_of (X : K.In h) (G : h.Ns mainGlobals mg) (c : SaysQ (facts rs xs) (rs.map DR.dd) cs ts w K) (g : ∀ r, r ∈ rs → Good (nmOf rs xs cs ts) r) (hT : ∀ r, r ∈ rs → T.fns r.id = some r.fn)
    (hc : ∀ p, p ∈ cs → T.glb p.1 = some p.2) (ht : ∀ t, t ∈ ts → T.glb t.1 = some (.dic t.2)) : Pr P w K mg T (nmOf rs xs cs ts) (cvOf K xs) := by
  refine ⟨fun x hx => ?_, fun n d e1 e2 => ?_, fun n e1 => ?_, fun k nm e X' eK eM m j p p2 pos hg hdb => ?_, fun f fn nm e1 e2 => ?_⟩
  · exact He.free_ok X G (fact_in c.t.d (List.mem_append_right _ (List.mem_append_left _ (List.mem_map_of_mem hx))))
  · obtain ⟨⟨a, z⟩, mem, q⟩ := List.any_eq_true.mp (show (cs.any fun p => p.1 == n) = true from e1)
    have q := eq_of_beq q
    subst q
    rw [show T.glb a = some z from hc _ mem] at e2
    have e2 := Option.some.inj e2
    subst e2
    have hx := (Bool.and_eq_true _ _ ▸ c.x : _ ∧ _).1
    have hb : conB K (a, z) = true := List.all_eq_true.mp hx _ mem
    have hb : (match PySem.W.nsIn K mainGlobals a with | some (some u) => litB K z u | _ => false) = true := hb
    cases en : PySem.W.nsIn K mainGlobals a with
    | none => rw [en] at hb; cases hb
    | some uo =>
      rw [en] at hb
      cases uo with
      | none => cases hb
      | some u =>
        obtain ⟨v, g1, g2⟩ := litB_ok hb
        exact ⟨v, u, PySem.W.mg_of X G en, g1, g2⟩
  · obtain ⟨⟨a, kvs⟩, mem, q⟩ := List.any_eq_true.mp (show (ts.any fun p => p.1 == n) = true from e1)
    have q := eq_of_beq q
    subst q
    have hx := (Bool.and_eq_true _ _ ▸ c.x : _ ∧ _).2
    have hb : ((He.Fa.glo a).ok K && kvs.all (keyB K (He.ga K a))) = true := List.all_eq_true.mp hx _ mem
    rw [Bool.and_eq_true] at hb
    obtain ⟨i, hi⟩ := List.getElem?_of_mem mem
    obtain ⟨es, m, hd⟩ := c.t.tab i (t := ((fun K => He.ga K a), keyStrs kvs)) (by unfold tabsOf; rw [List.getElem?_map, hi]; rfl)
    exact ⟨kvs, He.ga K a, es, m, ht _ mem, He.glo_ok X G hb.1, hd, tabOk_of hb.2⟩
  · have e : cnOf xs k = some nm := e
    have mem := cnOf_in e
    have m1 := He.glo_ok X G (fact_in c.t.d (List.mem_append_right _ (List.mem_append_right _ (List.mem_append_left _ (List.mem_map_of_mem (f := fun p : Nat × Str => He.Fa.glo p.2) mem)))))
    obtain ⟨q1, q2, q3, q4⟩ := He.exc_ok (fact_in c.t.d (List.mem_append_right _ (List.mem_append_right _ (List.mem_append_right _ (List.mem_map_of_mem (f := fun p : Nat × Str => He.Fa.exc p.2) mem)))))
    have ec : cvOf K xs k = .ref (He.ga K nm) := by
      unfold cvOf
      rw [e]
    rw [ec]
    subst eK eM
    exact pmk_own PySem.F.excBase_ValueError q1 m1 q2 (raises_own q3 q4) hg hdb
  · obtain ⟨r, h1, h2, h3⟩ := nmsOf_in (show nmsOf rs f = some nm from e2)
    subst h2 h3
    rw [hT r h1] at e1
    cases e1
    obtain ⟨fd, hd, _⟩ := def_of X G c h1 (g r h1)
    exact ⟨_, _, _, _, fd, hd⟩
theorem law_fn {n : Nat} {r : DR} {fa : Addr} (X : K.In h) (G : h.Ns mainGlobals mg) (c : SaysQ (facts rs xs) (rs.map DR.dd) cs ts w K) (g : ∀ r, r ∈ rs → Good (nmOf rs xs cs ts) r) (hT : ∀ r, r ∈ rs → T.fns r.id = some r.fn)
    (hc : ∀ p, p ∈ cs → T.glb p.1 = some p.2) (ht : ∀ t, t ∈ ts → T.glb t.1 = some (.dic t.2)) (e : r ∈ rs) (en : nmsOf rs r.id = some r.nm) (hp : r.ps = [("script" : Str)]) (hfa : mg r.nm = some (.ref fa)) :
    ∃ fd : FuncData, (∀ (s : Shared) (v : Value), BindsTo s fd ⟨[v], []⟩ [("script", v)]) ∧ ∀ base : Heap, FnOk P w K mg base (L2.CX P w) n fa fd ["script"] (spF K (cvOf K xs) r.fn.io (call T n r.id)) := by
  obtain ⟨fd, hd, F⟩ := def_of X G c e (g r e)
  have e2 := hfa.symm.trans hd.mg
  cases e2
  refine ⟨fd, fun s v => ?_, fun base => ?_⟩
  · have b := FunD.bindsA (ps := r.ps) F (g r e).bd s [v] (by rw [hp]; rfl)
    rw [hp] at b
    exact b
  · have q := all_ok (base := base) (pr_of (P := P) (w := w) X G c g hT hc ht) n r.id r.fn r.nm (hT r e) en _ _ _ _ _ hd
    rw [hp] at q
    exact q
end
/-- the script at the law's door -/
theorem sp_law {K : PySem.W.Frag} {cv : Nat → Value} {sem : List D → Out} {H : Hp} {a : Addr} {ns : List Int} (hS : SqL K H a (ns.map V.int)) (h : sem [.lst (ns.map D.int)] = .ret (.bl true) false []) : spF K cv [] sem [.ref a] H (fun v _ => v = .bl true) fun _ _ _ => False := by
  have hd : ∀ ns : List Int, IsDs K H (fun _ => False) (ns.map V.int) (ns.map D.int) := fun ns => by
    induction ns with
    | nil => exact .nil
    | cons i is ih => exact .cons _ _ _ _ (.int i) ih
  have fz : FzL K H (fun _ => False) a (ns.map V.int) := by
    rcases hS with h | h
    · exact .inl ⟨fun z => z, h⟩
    · exact .inr (.inr h)
  refine ⟨fun _ => False, [.lst (ns.map D.int)], fun _ z => z.elim, ⟨rfl, fun i d hi _ => ?_, fun i d _ z => absurd z (by simp), fun i j a z => absurd z (by simp), fun j z => absurd z (by simp)⟩, ?_⟩
  · cases i with
    | zero =>
      cases hi
      exact ⟨.ref a, rfl, .lst a _ _ fz (hd ns)⟩
    | succ i => simp at hi
  · rw [h]
    intro v H' M' U' _ _ rv
    cases rv
    rfl
end Ev

/-! the law's end -/
namespace Ev
open PySem L2 PyProof.Rows
theorem law_end {l : PySem.W.OpenLaw} {n k : Nat} {q : Program} {loose : List Str} {XP : (Str → Option Value) → Heap → Prop} {YP : World → Heap → Prop} {d : DefRec}
    (hn : l.most = some n) (hn2 : n ≤ sizeLine) (hdf : d.params.defaults = []) (hr : Room k callerA)
    (F : ∀ (w : World) (mg : Str → Option Value) (fa : Addr) (h : Heap), YP w h → h.Ns mainGlobals mg → mg d.name = some (.ref fa) → ∃ (K : PySem.W.Frag) (fd : FuncData) (cv : Nat → Value) (sem : List D → Out), K.In h ∧ (∀ (s : Shared) (u : Value), BindsTo s fd ⟨[u], []⟩ [("script", u)]) ∧ (∀ ns : List Int, ns.length ≤ n → sem [.lst (ns.map D.int)] = .ret (.bl true) false []) ∧ ∀ base : Heap, FnOk l.prog w K mg base (L2.CX l.prog w) k fa fd ["script"] (spF K cv [] sem)) :
    PySem.W.WalkO q loose XP YP l.row.toRowW d [] (fun f vs => PySem.call f vs) := by
  refine Att.attach_call hn hdf fun w s0 s1 mg mb fa o pm cd doc a vs ns G Y ho hd hcd hmg hobj hints hlen hg => ?_
  obtain ⟨K, fd, cv, sem, KX, hb, hm, hF⟩ := F w mg fa _ Y G.T.g hmg
  refine law_call KX G.T.g G.T.b G.T.builtins G.T.nolimit hg hobj hints (Nat.le_trans hlen hn2) hr (fun base _ _ => hF base) hb (fun H _ hS => sp_law hS (hm ns hlen)) fun H e s' z => ?_
  obtain ⟨_, _, _, _, _, _, _, _, _, _, _, _, z⟩ := z
  exact z
end Ev

/-! the defs of the program and of the laws, in the small language -/
namespace Ev
open PySem
def f_is_between : Fn := ⟨3, 3, [], [.ret (.and (.bi (.isa "int") [(.v 0)]) (.and (.not (.bi (.isa "bool") [(.v 0)])) (.chain .le .le (.v 1) (.v 0) (.v 2))))]⟩
def f_is_box : Fn := ⟨1, 3, [], [.ife (.or (.not (.bi (.isa "tuple") [(.v 0)])) (.not (.chain .le .le (.c (.int 1)) (.bi .len [(.v 0)]) (.c (.int 5))))) [.ret (.c (.bl false))] [], .ife (.or (.not (.bi .all [(.comp [1] (.bi (.isa "str") [(.v 1)]) (.n 1) (.e (.v 0)) none)])) (.not (.chain .le .le (.c (.int 1)) (.bi .len [(.ix (.v 0) (.c (.int 0)))]) (.c (.int 5))))) [.ret (.c (.bl false))] [], .ife (.not (.bi .all [(.comp [1] (.cmp .eq (.bi .len [(.v 1)]) (.bi .len [(.ix (.v 0) (.c (.int 0)))])) (.n 1) (.e (.v 0)) none)])) [.ret (.c (.bl false))] [], .ret (.bi .all [(.comp2 [1, 2] [2] (.cmp .in_ (.v 2) (.g "SIGNS")) (.n 1) (.e (.v 0)) (.n 2) (.e (.v 1)) none)])]⟩
def f_has_signs : Fn := ⟨2, 4, [], [.ret (.bi .any [(.comp2 [2, 3] [3] (.cmp .in_ (.v 3) (.v 1)) (.n 2) (.e (.v 0)) (.n 3) (.e (.v 2)) none)])]⟩
def f_is_plain : Fn := ⟨1, 1, [], [.ret (.and (.call 2 [(.v 0)]) (.not (.call 3 [(.v 0), (.c (.str [82, 70]))])))]⟩
def f_is_free : Fn := ⟨1, 1, [], [.ret (.and (.call 2 [(.v 0)]) (.not (.call 3 [(.v 0), (.c (.str [82, 70, 35]))])))]⟩
def f_check_box : Fn := ⟨1, 1, [], [.ife (.not (.call 2 [(.v 0)])) [.rais 1] []]⟩
def f_check_plain : Fn := ⟨1, 1, [], [.ex (.call 6 [(.v 0)]), .ife (.call 3 [(.v 0), (.c (.str [82, 70]))]) [.rais 15] []]⟩
def f_check_free : Fn := ⟨1, 1, [], [.ex (.call 6 [(.v 0)]), .ife (.call 3 [(.v 0), (.c (.str [82, 70, 35]))]) [.rais 16] []]⟩
def f_size_of : Fn := ⟨1, 1, [], [.ret (.tup [(.bi .len [(.v 0)]), (.bi .len [(.ix (.v 0) (.c (.int 0)))])])]⟩
def f_check_pair : Fn := ⟨2, 2, [], [.ex (.call 7 [(.v 0)]), .ex (.call 7 [(.v 1)]), .ife (.cmp .ne (.call 9 [(.v 0)]) (.call 9 [(.v 1)])) [.rais 17] []]⟩
def f_doors_of : Fn := ⟨2, 2, [], [.ret (.bin .mul (.c (.int 2)) (.bin .add (.v 0) (.v 1)))]⟩
def f_check_door : Fn := ⟨2, 2, [], [.ife (.not (.call 1 [(.v 1), (.c (.int 0)), (.bin .sub (.call 11 [(.bi .len [(.v 0)]), (.bi .len [(.ix (.v 0) (.c (.int 0)))])]) (.c (.int 1)))])) [.rais 2] []]⟩
def f_check_cell : Fn := ⟨3, 3, [], [.ife (.or (.not (.call 1 [(.v 1), (.c (.int 0)), (.bin .sub (.bi .len [(.v 0)]) (.c (.int 1)))])) (.not (.call 1 [(.v 2), (.c (.int 0)), (.bin .sub (.bi .len [(.ix (.v 0) (.c (.int 0)))]) (.c (.int 1)))]))) [.rais 3] []]⟩
def f_count_doors : Fn := ⟨1, 1, [], [.ex (.call 6 [(.v 0)]), .ret (.call 11 [(.bi .len [(.v 0)]), (.bi .len [(.ix (.v 0) (.c (.int 0)))])])]⟩
def f_begin : Fn := ⟨3, 3, [], [.ife (.cmp .lt (.v 2) (.v 1)) [.ret (.tup [(.c (.int 0)), (.v 2), (.c (.int 2))])] [], .ife (.cmp .lt (.v 2) (.bin .add (.v 1) (.v 0))) [.ret (.tup [(.bin .sub (.v 2) (.v 1)), (.bin .sub (.v 1) (.c (.int 1))), (.c (.int 3))])] [], .ife (.cmp .lt (.v 2) (.bin .add (.bin .mul (.c (.int 2)) (.v 1)) (.v 0))) [.ret (.tup [(.bin .sub (.v 0) (.c (.int 1))), (.bin .sub (.bin .sub (.bin .add (.bin .mul (.c (.int 2)) (.v 1)) (.v 0)) (.c (.int 1))) (.v 2)), (.c (.int 0))])] [], .ret (.tup [(.bin .sub (.bin .sub (.bin .add (.bin .mul (.c (.int 2)) (.v 1)) (.bin .mul (.c (.int 2)) (.v 0))) (.c (.int 1))) (.v 2)), (.c (.int 0)), (.c (.int 1))])]⟩
def f_entrance : Fn := ⟨2, 2, [], [.ex (.call 6 [(.v 0)]), .ex (.call 12 [(.v 0), (.v 1)]), .ret (.call 15 [(.bi .len [(.v 0)]), (.bi .len [(.ix (.v 0) (.c (.int 0)))]), (.v 1)])]⟩
def f_beyond : Fn := ⟨5, 5, [], [.ife (.and (.cmp .eq (.v 4) (.c (.int 0))) (.cmp .eq (.v 2) (.c (.int 0)))) [.ret (.v 3)] [], .ife (.and (.cmp .eq (.v 4) (.c (.int 1))) (.cmp .eq (.v 3) (.bin .sub (.v 1) (.c (.int 1))))) [.ret (.bin .add (.v 1) (.v 2))] [], .ife (.and (.cmp .eq (.v 4) (.c (.int 2))) (.cmp .eq (.v 2) (.bin .sub (.v 0) (.c (.int 1))))) [.ret (.bin .sub (.bin .sub (.bin .add (.bin .mul (.c (.int 2)) (.v 1)) (.v 0)) (.c (.int 1))) (.v 3))] [], .ife (.and (.cmp .eq (.v 4) (.c (.int 3))) (.cmp .eq (.v 3) (.c (.int 0)))) [.ret (.bin .sub (.bin .sub (.bin .add (.bin .mul (.c (.int 2)) (.v 1)) (.bin .mul (.c (.int 2)) (.v 0))) (.c (.int 1))) (.v 2))] [], .ret (.c .non)]⟩
def f_door_behind : Fn := ⟨4, 4, [], [.ex (.call 6 [(.v 0)]), .ex (.call 13 [(.v 0), (.v 1), (.v 2)]), .ife (.not (.call 1 [(.v 3), (.c (.int 0)), (.c (.int 3))])) [.rais 4] [], .ret (.call 17 [(.bi .len [(.v 0)]), (.bi .len [(.ix (.v 0) (.c (.int 0)))]), (.v 1), (.v 2), (.v 3)])]⟩
def f_with_sign : Fn := ⟨4, 5, [], [.asg (.n 4) (.bin .add (.bin .add (.sl (.ix (.v 0) (.v 1)) none (some (.v 2))) (.v 3)) (.sl (.ix (.v 0) (.v 1)) (some (.bin .add (.v 2) (.c (.int 1)))) none)), .ret (.bin .add (.bin .add (.sl (.v 0) none (some (.v 1))) (.tup [(.v 4)])) (.sl (.v 0) (some (.bin .add (.v 1) (.c (.int 1)))) none))]⟩
def f_changed : Fn := ⟨4, 4, [], [.ex (.call 6 [(.v 0)]), .ex (.call 13 [(.v 0), (.v 1), (.v 2)]), .ex (.call 21 [(.v 3)]), .ret (.call 19 [(.v 0), (.v 1), (.v 2), (.v 3)])]⟩
def f_check_sign : Fn := ⟨1, 1, [], [.ife (.or (.not (.bi (.isa "str") [(.v 0)])) (.or (.cmp .ne (.bi .len [(.v 0)]) (.c (.int 1))) (.cmp .notin (.v 0) (.g "SIGNS")))) [.rais 5] []]⟩
def f_cells_with : Fn := ⟨2, 6, [], [.asg (.t [2, 3]) (.call 9 [(.v 0)]), .ret (.comp2 [4, 5] [5] (.tup [(.v 4), (.v 5)]) (.n 4) (.r1 (.v 2)) (.n 5) (.r1 (.v 3)) (some (.cmp .in_ (.ix (.ix (.v 0) (.v 4)) (.v 5)) (.v 1))))]⟩
def f_next_triple : Fn := ⟨1, 3, [], [.asg (.t [1, 2]) (.ix (.g "STEPS") (.ix (.v 0) (.c (.int 2)))), .ret (.tup [(.bin .add (.ix (.v 0) (.c (.int 0))) (.v 1)), (.bin .add (.ix (.v 0) (.c (.int 1))) (.v 2)), (.ix (.v 0) (.c (.int 2)))])]⟩
def f_turn_at : Fn := ⟨2, 2, [], [.ife (.cmp .eq (.v 0) (.c (.str [114]))) [.ret (.ix (.tup [(.c (.int 1)), (.c (.int 0)), (.c (.int 3)), (.c (.int 2))]) (.v 1))] [], .ret (.ifx (.cmp .eq (.v 0) (.c (.str [102]))) (.ix (.tup [(.c (.int 3)), (.c (.int 2)), (.c (.int 1)), (.c (.int 0))]) (.v 1)) (.v 1))]⟩
def b_lit_1 : List S := [.app 5 (.v 4), .asg (.t [8, 9, 6]) (.v 4), .ife (.cmp .eq (.ix (.ix (.v 0) (.v 8)) (.v 9)) (.c (.str [35]))) [.ret (.tup [(.mv 5), (.c .non)])] [], .asg (.n 6) (.call 24 [(.ix (.ix (.v 0) (.v 8)) (.v 9)), (.v 6)]), .asg (.n 7) (.call 17 [(.v 2), (.v 3), (.v 8), (.v 9), (.v 6)]), .ife (.cmp .isnot (.v 7) (.c .non)) [.ret (.tup [(.mv 5), (.v 7)])] [], .asg (.n 4) (.call 23 [(.tup [(.v 8), (.v 9), (.v 6)])])]
def f_lit : Fn := ⟨2, 10, [], [.par [(2, false), (3, false)] [(.bi .len [(.v 0)]), (.bi .len [(.ix (.v 0) (.c (.int 0)))])], .par [(4, false), (5, true)] [(.call 15 [(.v 2), (.v 3), (.v 1)]), (.lst [])], .whl (.c (.bl true)) b_lit_1]⟩
def f_way : Fn := ⟨2, 2, [], [.ex (.call 7 [(.v 0)]), .ex (.call 12 [(.v 0), (.v 1)]), .ret (.bi .tuple [(.ix (.call 25 [(.v 0), (.v 1)]) (.c (.int 0)))])]⟩
def f_leads : Fn := ⟨2, 2, [], [.ex (.call 7 [(.v 0)]), .ex (.call 12 [(.v 0), (.v 1)]), .ret (.ix (.call 25 [(.v 0), (.v 1)]) (.c (.int 1)))]⟩
def b_rays_of_1 : List S := [.asg (.t [3, 4]) (.call 25 [(.v 0), (.v 2)]), .app 1 (.tup [(.v 4), (.bi .len [(.v 3)])])]
def f_rays_of : Fn := ⟨1, 5, [], [.new 1 (.lst []), .for_ (.n 2) (.r1 (.call 11 [(.bi .len [(.v 0)]), (.bi .len [(.ix (.v 0) (.c (.int 0)))])])) b_rays_of_1, .ret (.bi .tuple [(.m 1)])]⟩
def f_rays : Fn := ⟨1, 1, [], [.ex (.call 7 [(.v 0)]), .ret (.call 28 [(.v 0)])]⟩
def f_table_of : Fn := ⟨1, 2, [], [.ret (.bi .tuple [(.comp [1] (.ix (.call 25 [(.v 0), (.v 1)]) (.c (.int 1))) (.n 1) (.r1 (.call 11 [(.bi .len [(.v 0)]), (.bi .len [(.ix (.v 0) (.c (.int 0)))])])) none)])]⟩
def f_table : Fn := ⟨1, 1, [], [.ex (.call 7 [(.v 0)]), .ret (.call 30 [(.v 0)])]⟩
def b_doors_through_1 : List S := [.ife (.cmp .in_ (.tup [(.v 1), (.v 2)]) (.comp [5] (.sl (.v 5) none (some (.c (.int 2)))) (.n 5) (.e (.ix (.call 25 [(.v 0), (.v 4)]) (.c (.int 0)))) none)) [.app 3 (.v 4)] []]
def f_doors_through : Fn := ⟨3, 6, [], [.ex (.call 7 [(.v 0)]), .ex (.call 13 [(.v 0), (.v 1), (.v 2)]), .new 3 (.lst []), .for_ (.n 4) (.r1 (.call 11 [(.bi .len [(.v 0)]), (.bi .len [(.ix (.v 0) (.c (.int 0)))])])) b_doors_through_1, .ret (.bi .tuple [(.m 3)])]⟩
def f_same : Fn := ⟨2, 2, [], [.ex (.call 10 [(.v 0), (.v 1)]), .ret (.cmp .eq (.call 30 [(.v 0)]) (.call 30 [(.v 1)]))]⟩
def b_without_1 : List S := [.asg (.n 0) (.call 19 [(.v 0), (.v 2), (.v 3), (.c (.str [46]))])]
def f_without : Fn := ⟨2, 4, [], [.for_ (.t [2, 3]) (.e (.v 1)) b_without_1, .ret (.v 0)]⟩
def f_needless : Fn := ⟨1, 3, [], [.ex (.call 7 [(.v 0)]), .asg (.n 1) (.call 30 [(.v 0)]), .ret (.bi .tuple [(.comp [2] (.v 2) (.n 2) (.e (.call 22 [(.v 0), (.c (.str [114, 102, 35]))])) (some (.cmp .eq (.call 30 [(.call 35 [(.v 0), (.lst [(.v 2)])])]) (.v 1))))])]⟩
def b_greatest_needless_1 : List S := [.asg (.n 6) (.bin .add (.v 6) (.comp [5] (.bin .add (.v 5) (.tup [(.v 2)])) (.n 5) (.e (.v 6)) none))]
def b_greatest_needless_2 : List S := [.ife (.not (.bi .any [(.comp [8] (.and (.cmp .ne (.v 5) (.v 8)) (.bi .all [(.comp [2] (.cmp .in_ (.v 2) (.v 8)) (.n 2) (.e (.v 5)) none)])) (.n 8) (.e (.v 3)) none)])) [.app 4 (.v 5)] []]
def f_greatest_needless : Fn := ⟨1, 9, [], [.ex (.call 7 [(.v 0)]), .asg (.n 1) (.call 22 [(.v 0), (.c (.str [114, 102, 35]))]), .ife (.cmp .gt (.bi .len [(.v 1)]) (.c (.int 9))) [.rais 19] [], .par [(6, false), (7, false)] [(.lst [(.tup [])]), (.call 30 [(.v 0)])], .for_ (.n 2) (.e (.v 1)) b_greatest_needless_1, .asg (.n 3) (.comp [5] (.v 5) (.n 5) (.e (.v 6)) (some (.cmp .eq (.call 30 [(.call 35 [(.v 0), (.v 5)])]) (.v 7)))), .new 4 (.lst []), .for_ (.n 5) (.e (.v 3)) b_greatest_needless_2, .ret (.bi .tuple [(.bi .sorted [(.m 4)])])]⟩
def f_side_of : Fn := ⟨2, 2, [], [.ife (.cmp .in_ (.v 1) (.tup [(.c (.int 0)), (.c (.int 2))])) [.ret (.ifx (.cmp .eq (.v 1) (.c (.int 2))) (.c (.str [117, 112, 112, 101, 114])) (.c (.str [108, 111, 119, 101, 114])))] [], .ret (.ifx (.cmp .eq (.cmp .eq (.v 1) (.c (.int 1))) (.cmp .in_ (.v 0) (.c (.str [114, 82])))) (.c (.str [117, 112, 112, 101, 114])) (.c (.str [108, 111, 119, 101, 114])))]⟩
def f_dark_sides : Fn := ⟨1, 8, [], [.ex (.call 7 [(.v 0)]), .asg (.n 1) (.comp [4, 5, 6] (.tup [(.v 4), (.v 5), (.call 38 [(.ix (.ix (.v 0) (.v 4)) (.v 5)), (.v 6)])]) (.t [4, 5, 6]) (.e (.call 39 [(.v 0)])) none), .asg (.n 2) (.comp2 [4, 5, 3] [3] (.tup [(.v 4), (.v 5), (.v 3)]) (.t [4, 5]) (.e (.call 22 [(.v 0), (.c (.str [114, 102]))])) (.n 3) (.e (.tup [(.c (.str [108, 111, 119, 101, 114])), (.c (.str [117, 112, 112, 101, 114]))])) none), .ret (.bi .tuple [(.comp [7] (.v 7) (.n 7) (.e (.v 2)) (some (.cmp .notin (.v 7) (.v 1))))])]⟩
def f_behind : Fn := ⟨2, 5, [], [.asg (.t [3, 4, 2]) (.v 1), .ife (.cmp .eq (.ix (.ix (.v 0) (.v 3)) (.v 4)) (.c (.str [35]))) [.ret (.c .non)] [], .asg (.n 2) (.call 24 [(.ix (.ix (.v 0) (.v 3)) (.v 4)), (.v 2)]), .ife (.cmp .isnot (.call 17 [(.bi .len [(.v 0)]), (.bi .len [(.ix (.v 0) (.c (.int 0)))]), (.v 3), (.v 4), (.v 2)]) (.c .non)) [.ret (.c .non)] [], .ret (.call 23 [(.tup [(.v 3), (.v 4), (.v 2)])])]⟩
def b_round_from_1 : List S := [.app 2 (.v 3), .asg (.n 3) (.call 41 [(.v 0), (.v 3)])]
def f_round_from : Fn := ⟨2, 4, [], [.par [(2, true), (3, false)] [(.lst [(.v 1)]), (.call 41 [(.v 0), (.v 1)])], .whl (.and (.cmp .isnot (.v 3) (.c .non)) (.and (.cmp .ne (.v 3) (.v 1)) (.cmp .notin (.v 3) (.m 2)))) b_round_from_1, .ret (.ifx (.cmp .eq (.v 3) (.v 1)) (.bi .tuple [(.m 2)]) (.c .non))]⟩
def f_is_reverse : Fn := ⟨2, 4, [], [.ret (.cmp .eq (.call 45 [(.v 0)]) (.bi .sorted [(.comp [2, 3] (.tup [(.v 3), (.v 2)]) (.t [2, 3]) (.e (.call 45 [(.v 1)])) none)]))]⟩
def f_borders_of : Fn := ⟨1, 4, [], [.asg (.n 1) (.comp [2] (.sl (.v 2) none (some (.c (.int 2)))) (.n 2) (.e (.v 0)) none), .ret (.bi .sorted [(.comp [3] (.tup [(.ix (.v 1) (.bin .sub (.v 3) (.c (.int 1)))), (.ix (.v 1) (.v 3))]) (.n 3) (.r1 (.bi .len [(.v 1)])) none)])]⟩
def f_moved_doors : Fn := ⟨3, 7, [], [.ex (.call 8 [(.v 0)]), .ex (.call 13 [(.v 0), (.v 1), (.v 2)]), .asg (.n 3) (.ix (.ix (.v 0) (.v 1)) (.v 2)), .ife (.cmp .eq (.v 3) (.c (.str [46]))) [.ret (.tup [])] [], .asg (.n 4) (.call 30 [(.call 19 [(.v 0), (.v 1), (.v 2), (.ifx (.cmp .eq (.v 3) (.c (.str [114]))) (.c (.str [102])) (.c (.str [114])))])]), .ret (.bi .tuple [(.comp [5, 6] (.v 5) (.t [5, 6]) (.en (.call 30 [(.v 0)])) (some (.cmp .ne (.v 6) (.ix (.v 4) (.v 5)))))])]⟩
def f_beside : Fn := ⟨2, 4, [], [.ex (.call 6 [(.v 0)]), .ex (.call 6 [(.v 1)]), .ife (.cmp .ne (.bi .len [(.v 0)]) (.bi .len [(.v 1)])) [.rais 17] [], .ife (.cmp .gt (.bin .add (.bi .len [(.ix (.v 0) (.c (.int 0)))]) (.bi .len [(.ix (.v 1) (.c (.int 0)))])) (.c (.int 5))) [.rais 18] [], .ret (.bi .tuple [(.comp [2, 3] (.bin .add (.v 2) (.v 3)) (.t [2, 3]) (.zp (.v 0) (.v 1)) none)])]⟩
def f_above : Fn := ⟨2, 2, [], [.ex (.call 6 [(.v 0)]), .ex (.call 6 [(.v 1)]), .ife (.cmp .ne (.bi .len [(.ix (.v 0) (.c (.int 0)))]) (.bi .len [(.ix (.v 1) (.c (.int 0)))])) [.rais 17] [], .ife (.cmp .gt (.bin .add (.bi .len [(.v 0)]) (.bi .len [(.v 1)])) (.c (.int 5))) [.rais 18] [], .ret (.bin .add (.v 0) (.v 1))]⟩
def b_put_in_1 : List S := [.ife (.chain .le .lt (.v 1) (.v 5) (.bin .add (.v 1) (.bi .len [(.v 3)]))) [.asg (.n 6) (.bin .add (.bin .add (.sl (.v 6) none (some (.v 2))) (.ix (.v 3) (.bin .sub (.v 5) (.v 1)))) (.sl (.v 6) (some (.bin .add (.v 2) (.bi .len [(.ix (.v 3) (.c (.int 0)))]))) none))] [], .app 4 (.v 6)]
def f_put_in : Fn := ⟨4, 7, [], [.ex (.call 6 [(.v 0)]), .ex (.call 13 [(.v 0), (.v 1), (.v 2)]), .ex (.call 6 [(.v 3)]), .ife (.or (.cmp .gt (.bin .add (.v 1) (.bi .len [(.v 3)])) (.bi .len [(.v 0)])) (.cmp .gt (.bin .add (.v 2) (.bi .len [(.ix (.v 3) (.c (.int 0)))])) (.bi .len [(.ix (.v 0) (.c (.int 0)))]))) [.rais 18] [], .new 4 (.lst []), .for_ (.t [5, 6]) (.en (.v 0)) b_put_in_1, .ret (.bi .tuple [(.m 4)])]⟩
def f_check_turn : Fn := ⟨1, 1, [], [.ife (.not (.call 1 [(.v 0), (.c (.int 0)), (.c (.int 7))])) [.rais 13] []]⟩
def b_quarter_1 : List S := [.app 1 (.mt .join (.c (.str [])) [(.comp [3] (.gd "OTHER" (.ix (.ix (.v 0) (.v 3)) (.v 2))) (.n 3) (.r3 (.bin .sub (.bi .len [(.v 0)]) (.c (.int 1))) (.neg (.c (.int 1))) (.neg (.c (.int 1)))) none)])]
def f_quarter : Fn := ⟨1, 4, [], [.new 1 (.lst []), .for_ (.n 2) (.r1 (.bi .len [(.ix (.v 0) (.c (.int 0)))])) b_quarter_1, .ret (.bi .tuple [(.m 1)])]⟩
def f_exchanged : Fn := ⟨1, 3, [], [.ret (.bi .tuple [(.comp [1] (.mt .join (.c (.str [])) [(.comp [2] (.gd "OTHER" (.v 2)) (.n 2) (.e (.rev (.v 1))) none)]) (.n 1) (.e (.v 0)) none)])]⟩
def b_turned_box_1 : List S := [.asg (.n 2) (.call 51 [(.v 2)])]
def f_turned_box : Fn := ⟨2, 4, [], [.asg (.n 2) (.ifx (.cmp .gt (.v 1) (.c (.int 3))) (.call 52 [(.v 0)]) (.v 0)), .for_ (.n 3) (.r1 (.bin .mod (.v 1) (.c (.int 4)))) b_turned_box_1, .ret (.v 2)]⟩
def f_turned : Fn := ⟨2, 2, [], [.ex (.call 6 [(.v 0)]), .ex (.call 50 [(.v 1)]), .ret (.call 53 [(.v 0), (.v 1)])]⟩
def b_door_after_1 : List S := [.asg (.n 3) (.bin .add (.v 3) (.c (.int 1)))]
def b_door_after_2 : List S := [.asg (.n 3) (.bin .mod (.bin .add (.v 3) (.v 0)) (.call 11 [(.v 0), (.v 1)])), .par [(0, false), (1, false)] [(.v 1), (.v 0)]]
def f_door_after : Fn := ⟨4, 8, [], [.ife (.cmp .gt (.v 2) (.c (.int 3))) [.asg (.t [7, 6, 5]) (.call 15 [(.v 0), (.v 1), (.v 3)]), .asg (.n 5) (.ix (.tup [(.c (.int 0)), (.c (.int 3)), (.c (.int 2)), (.c (.int 1))]) (.v 5)), .asg (.n 6) (.bin .sub (.bin .sub (.v 1) (.c (.int 1))) (.v 6)), .asg (.n 3) (.c (.int 0)), .whl (.cmp .ne (.call 15 [(.v 0), (.v 1), (.v 3)]) (.tup [(.v 7), (.v 6), (.v 5)])) b_door_after_1] [], .for_ (.n 4) (.r1 (.bin .mod (.v 2) (.c (.int 4)))) b_door_after_2, .ret (.v 3)]⟩
def f_turned_door : Fn := ⟨3, 3, [], [.ex (.call 6 [(.v 0)]), .ex (.call 50 [(.v 1)]), .ex (.call 12 [(.v 0), (.v 2)]), .ret (.call 55 [(.bi .len [(.v 0)]), (.bi .len [(.ix (.v 0) (.c (.int 0)))]), (.v 1), (.v 2)])]⟩
def f_symmetries : Fn := ⟨1, 2, [], [.ex (.call 6 [(.v 0)]), .ret (.bi .tuple [(.comp [1] (.v 1) (.n 1) (.r1 (.c (.int 8))) (some (.cmp .eq (.call 53 [(.v 0), (.v 1)]) (.v 0))))])]⟩
def f_least_turned : Fn := ⟨1, 2, [], [.ex (.call 6 [(.v 0)]), .ret (.bi .min [(.comp [1] (.call 53 [(.v 0), (.v 1)]) (.n 1) (.r1 (.c (.int 8))) none)])]⟩
def f_check_split : Fn := ⟨1, 1, [], [.ex (.call 6 [(.v 0)]), .ife (.cmp .gt (.bi .len [(.call 22 [(.v 0), (.c (.str [82, 70]))])]) (.c (.int 6))) [.rais 19] []]⟩
def b_fraction_1 : List S := [.par [(2, false), (3, false)] [(.v 3), (.bin .mod (.v 2) (.v 3))]]
def f_fraction : Fn := ⟨2, 4, [], [.par [(2, false), (3, false)] [(.bi .abs [(.v 0)]), (.bi .abs [(.v 1)])], .whl (.cmp .ne (.v 3) (.c (.int 0))) b_fraction_1, .ret (.ifx (.cmp .gt (.v 1) (.c (.int 0))) (.tup [(.bin .fdiv (.v 0) (.v 2)), (.bin .fdiv (.v 1) (.v 2))]) (.tup [(.bin .fdiv (.neg (.v 0)) (.v 2)), (.bin .fdiv (.neg (.v 1)) (.v 2))]))]⟩
def f_plus : Fn := ⟨2, 2, [], [.ret (.call 60 [(.bin .add (.bin .mul (.ix (.v 0) (.c (.int 0))) (.ix (.v 1) (.c (.int 1)))) (.bin .mul (.ix (.v 1) (.c (.int 0))) (.ix (.v 0) (.c (.int 1))))), (.bin .mul (.ix (.v 0) (.c (.int 1))) (.ix (.v 1) (.c (.int 1))))])]⟩
def f_times : Fn := ⟨2, 2, [], [.ret (.call 60 [(.bin .mul (.ix (.v 0) (.c (.int 0))) (.ix (.v 1) (.c (.int 0)))), (.bin .mul (.ix (.v 0) (.c (.int 1))) (.ix (.v 1) (.c (.int 1))))])]⟩
def f_goes_on : Fn := ⟨2, 7, [], [.asg (.t [3, 4, 5]) (.v 1), .asg (.n 2) (.ix (.ix (.v 0) (.v 3)) (.v 4)), .ife (.cmp .eq (.v 2) (.c (.str [35]))) [.ret (.lst [])] [], .ife (.cmp .in_ (.v 2) (.c (.str [82, 70]))) [.asg (.n 6) (.ifx (.cmp .eq (.call 38 [(.v 2), (.v 5)]) (.c (.str [117, 112, 112, 101, 114]))) (.tup [(.c (.int 4)), (.c (.int 5))]) (.tup [(.neg (.c (.int 4))), (.c (.int 5))])), .ret (.lst [(.tup [(.v 5), (.tup [(.c (.int 3)), (.c (.int 5))])]), (.tup [(.call 24 [(.ifx (.cmp .eq (.v 2) (.c (.str [82]))) (.c (.str [114])) (.c (.str [102]))), (.v 5)]), (.v 6)])])] [], .ret (.lst [(.tup [(.call 24 [(.v 2), (.v 5)]), (.tup [(.c (.int 1)), (.c (.int 1))])])])]⟩
def b_run_on_1 : List S := [.asg (.t [7, 8, 5]) (.v 2), .ife (.cmp .in_ (.ix (.ix (.v 0) (.v 7)) (.v 8)) (.c (.str [35, 82, 70]))) [.ret (.tup [(.c (.str [99, 101, 108, 108])), (.v 2)])] [], .asg (.n 5) (.call 24 [(.ix (.ix (.v 0) (.v 7)) (.v 8)), (.v 5)]), .asg (.n 6) (.call 17 [(.v 3), (.v 4), (.v 7), (.v 8), (.v 5)]), .ife (.cmp .isnot (.v 6) (.c .non)) [.ret (.tup [(.c (.str [100, 111, 111, 114])), (.v 6)])] [], .asg (.n 2) (.call 23 [(.tup [(.v 7), (.v 8), (.v 5)])])]
def f_run_on : Fn := ⟨2, 9, [], [.par [(3, false), (4, false)] [(.bi .len [(.v 0)]), (.bi .len [(.ix (.v 0) (.c (.int 0)))])], .asg (.n 2) (.v 1), .whl (.c (.bl true)) b_run_on_1]⟩
def b_next_ends_1 : List S := [.asg (.n 7) (.call 17 [(.v 3), (.v 4), (.ix (.v 1) (.c (.int 0))), (.ix (.v 1) (.c (.int 1))), (.v 5)]), .ife (.cmp .isnot (.v 7) (.c .non)) [.app 2 (.tup [(.tup [(.c (.str [100, 111, 111, 114])), (.v 7)]), (.v 6)])] [.app 2 (.tup [(.call 64 [(.v 0), (.call 23 [(.tup [(.ix (.v 1) (.c (.int 0))), (.ix (.v 1) (.c (.int 1))), (.v 5)])])]), (.v 6)])]]
def f_next_ends : Fn := ⟨2, 8, [], [.par [(3, false), (4, false)] [(.bi .len [(.v 0)]), (.bi .len [(.ix (.v 0) (.c (.int 0)))])], .new 2 (.lst []), .for_ (.t [5, 6]) (.e (.call 63 [(.v 0), (.v 1)])) b_next_ends_1, .ret (.mv 2)]⟩
def b_lost_1 : List S := [.ife (.and (.cmp .eq (.ix (.v 2) (.c (.int 0))) (.c (.str [99, 101, 108, 108]))) (.cmp .eq (.ix (.ix (.v 0) (.ix (.ix (.v 2) (.c (.int 1))) (.c (.int 0)))) (.ix (.ix (.v 2) (.c (.int 1))) (.c (.int 1)))) (.c (.str [35])))) [.asg (.n 4) (.call 61 [(.v 4), (.call 62 [(.ix (.v 3) (.v 2)), (.ix (.v 3) (.v 2))])])] []]
def f_lost : Fn := ⟨2, 5, [], [.ex (.call 59 [(.v 0)]), .ex (.call 12 [(.v 0), (.v 1)]), .par [(3, false), (4, false)] [(.call 67 [(.v 0), (.v 1)]), (.tup [(.c (.int 0)), (.c (.int 1))])], .for_ (.n 2) (.e (.v 3)) b_lost_1, .ret (.v 4)]⟩
def f_dark_doors : Fn := ⟨2, 4, [], [.ex (.call 59 [(.v 0)]), .ex (.call 12 [(.v 0), (.v 1)]), .asg (.n 2) (.call 67 [(.v 0), (.v 1)]), .ret (.bi .tuple [(.bi .sorted [(.comp [3] (.ix (.v 3) (.c (.int 1))) (.n 3) (.e (.v 2)) (some (.and (.cmp .eq (.ix (.v 3) (.c (.int 0))) (.c (.str [100, 111, 111, 114]))) (.cmp .eq (.ix (.ix (.v 2) (.v 3)) (.c (.int 0))) (.c (.int 0))))))])])]⟩
def f_check_mirrors : Fn := ⟨1, 1, [], [.ex (.call 7 [(.v 0)]), .ife (.cmp .gt (.bi .len [(.call 22 [(.v 0), (.c (.str [114, 102]))])]) (.c (.int 9))) [.rais 19] []]⟩
def b_rolled_1 : List S := [.asg (.n 8) (.ix (.ix (.v 0) (.v 5)) (.v 6)), .ife (.cmp .eq (.v 8) (.c (.str [35]))) [.ret (.tup [(.c .non), (.v 0)])] [], .ife (.gc "SLANTS" (.v 8)) [.asg (.n 0) (.call 19 [(.v 0), (.v 5), (.v 6), (.gd "SLANTS" (.v 8))]), .asg (.n 7) (.call 24 [(.ifx (.v 2) (.gd "SLANTS" (.v 8)) (.v 8)), (.v 7)])] [], .asg (.n 9) (.call 17 [(.v 3), (.v 4), (.v 5), (.v 6), (.v 7)]), .ife (.cmp .isnot (.v 9) (.c .non)) [.ret (.tup [(.v 9), (.v 0)])] [], .asg (.t [5, 6, 7]) (.call 23 [(.tup [(.v 5), (.v 6), (.v 7)])])]
def f_rolled : Fn := ⟨3, 10, [], [.asg (.t [3, 4]) (.call 9 [(.v 0)]), .asg (.t [5, 6, 7]) (.call 15 [(.v 3), (.v 4), (.v 1)]), .whl (.c (.bl true)) b_rolled_1]⟩
def f_ball : Fn := ⟨2, 2, [], [.ex (.call 73 [(.v 0)]), .ex (.call 12 [(.v 0), (.v 1)]), .ret (.call 74 [(.v 0), (.v 1), (.c (.bl false))])]⟩
def f_back_ball : Fn := ⟨2, 2, [], [.ex (.call 73 [(.v 0)]), .ex (.call 12 [(.v 0), (.v 1)]), .ret (.call 74 [(.v 0), (.v 1), (.c (.bl true))])]⟩
def b_after_balls_1 : List S := [.asg (.t [5, 0]) (.call 74 [(.v 0), (.v 4), (.c (.bl false))]), .app 3 (.v 5)]
def f_after_balls : Fn := ⟨2, 7, [], [.ex (.call 73 [(.v 0)]), .asg (.n 2) (.bin .sub (.call 11 [(.bi .len [(.v 0)]), (.bi .len [(.ix (.v 0) (.c (.int 0)))])]) (.c (.int 1))), .ife (.or (.not (.bi (.isa "tuple") [(.v 1)])) (.or (.cmp .gt (.bi .len [(.v 1)]) (.c (.int 30))) (.not (.bi .all [(.comp [6] (.call 1 [(.v 6), (.c (.int 0)), (.v 2)]) (.n 6) (.e (.v 1)) none)])))) [.rais 2] [], .new 3 (.lst []), .for_ (.n 4) (.e (.v 1)) b_after_balls_1, .ret (.tup [(.bi .tuple [(.m 3)]), (.v 0)])]⟩
def f_count_reached : Fn := ⟨1, 1, [], [.ex (.call 73 [(.v 0)]), .ret (.bi .len [(.call 79 [(.v 0), (.c .non)])])]⟩
def f__law_town : Fn := ⟨1, 1, [], [.ret (.bin .add (.lst [(.c (.int 0))]) (.bi .list [(.v 0)]))]⟩
def f__law_draw : Fn := ⟨3, 6, [1], [.seti 1 (.c (.int 0)) (.bin .add (.ix (.m 1) (.c (.int 0))) (.c (.int 1))), .ife (.cmp .eq (.v 0) (.lst [])) [.ret (.bin .mod (.bin .fdiv (.bin .mul (.bin .mul (.ix (.m 1) (.c (.int 0))) (.ix (.m 1) (.c (.int 0)))) (.c (.int 7))) (.c (.int 3))) (.v 2))] [], .asg (.n 3) (.bin .mod (.ix (.m 1) (.c (.int 0))) (.bi .len [(.v 0)])), .asg (.n 4) (.ix (.m 1) (.bin .add (.c (.int 1)) (.v 3))), .ife (.and (.cmp .ge (.ix (.v 0) (.v 3)) (.bin .pow (.c (.int 10)) (.c (.int 18)))) (.cmp .gt (.v 4) (.c (.int 0)))) [.seti 1 (.bin .add (.c (.int 1)) (.v 3)) (.bin .fdiv (.v 4) (.v 2)), .ret (.bin .mod (.v 4) (.v 2))] [], .asg (.n 5) (.bin .mod (.bin .add (.ix (.v 0) (.v 3)) (.bin .mul (.c (.int 104729)) (.ix (.m 1) (.c (.int 0))))) (.c (.int 4294967291))), .asg (.n 5) (.bin .mod (.bin .pow (.v 5) (.c (.int 5))) (.c (.int 4294967279))), .ret (.bin .mod (.bin .fdiv (.bin .mod (.bin .add (.bin .mul (.bin .fdiv (.v 5) (.c (.int 64))) (.c (.int 69621))) (.v 5)) (.c (.int 4294967231))) (.c (.int 8))) (.v 2))]⟩
def f__law_pick : Fn := ⟨3, 3, [1], [.ret (.ix (.v 2) (.call 82 [(.v 0), (.m 1), (.bi .len [(.v 2)])]))]⟩
def f__law_raises : Fn := ⟨1, 2, [], [.asg (.n 1) (.lst [(.c (.str [98, 111, 120])), (.c (.str [100, 111, 111, 114])), (.c (.str [99, 101, 108, 108])), (.c (.str [100, 105, 114, 101, 99, 116, 105, 111, 110])), (.c (.str [115, 105, 103, 110])), (.c (.str [115, 105, 122, 101])), (.c (.str [115, 105, 103, 110, 115])), (.c (.str [115, 104, 111, 116, 115]))]), .asg (.n 1) (.bin .add (.v 1) (.lst [(.c (.str [98, 111, 120, 101, 115])), (.c (.str [110, 117, 109, 98, 101, 114])), (.c (.str [119, 105, 115, 104, 101, 115])), (.c (.str [114, 97, 121, 115])), (.c (.str [116, 117, 114, 110])), (.c (.str [116, 101, 120, 116])), (.c (.str [112, 108, 97, 105, 110]))])), .asg (.n 1) (.bin .add (.v 1) (.lst [(.c (.str [102, 114, 101, 101])), (.c (.str [117, 110, 108, 105, 107, 101])), (.c (.str [108, 97, 114, 103, 101])), (.c (.str [109, 97, 110, 121])), (.c (.str [117, 110, 100, 111]))])), .ret (.tup [(.c (.str [114, 97, 105, 115, 101, 100])), (.mt .index (.v 1) [(.v 0)])])]⟩
def b__law_sized_1 : List S := [.app 5 (.mt .join (.c (.str [])) [(.comp [7] (.call 83 [(.v 0), (.m 1), (.bi .list [(.v 4)])]) (.n 7) (.r1 (.v 3)) none)])]
def f__law_sized : Fn := ⟨5, 8, [1], [.new 5 (.lst []), .for_ (.n 6) (.r1 (.v 2)) b__law_sized_1, .ret (.bi .tuple [(.m 5)])]⟩
def f__law_with : Fn := ⟨4, 5, [], [.asg (.n 4) (.bin .add (.bin .add (.sl (.ix (.v 0) (.v 1)) none (some (.v 2))) (.v 3)) (.sl (.ix (.v 0) (.v 1)) (some (.bin .add (.v 2) (.c (.int 1)))) none)), .ret (.bin .add (.bin .add (.sl (.v 0) none (some (.v 1))) (.tup [(.v 4)])) (.sl (.v 0) (some (.bin .add (.v 1) (.c (.int 1)))) none))]⟩
def b__law_cells_1 : List S := [.new 2 (.bin .add (.m 2) (.comp [4] (.tup [(.v 3), (.v 4)]) (.n 4) (.r1 (.bi .len [(.ix (.v 0) (.c (.int 0)))])) (some (.cmp .in_ (.ix (.ix (.v 0) (.v 3)) (.v 4)) (.v 1)))))]
def f__law_cells : Fn := ⟨2, 5, [], [.new 2 (.lst []), .for_ (.n 3) (.r1 (.bi .len [(.v 0)])) b__law_cells_1, .ret (.mv 2)]⟩
def b__law_wrong_1 : List S := [.new 5 (.bin .add (.m 5) (.comp [4] (.tup [(.v 4), (.tup [(.v 3), (.c .non), (.c .non), (.c .non)]), (.c (.str [98, 111, 120]))]) (.n 4) (.r1 (.c (.int 32))) none)), .new 5 (.bin .add (.m 5) (.comp [4] (.tup [(.v 4), (.tup [(.v 0), (.v 3), (.c .non), (.c .non)]), (.c (.str [98, 111, 120]))]) (.n 4) (.e (.tup [(.c (.int 13)), (.c (.int 14)), (.c (.int 15)), (.c (.int 16))])) none)), .app 5 (.tup [(.c (.int 30)), (.tup [(.v 0), (.c (.int 0)), (.c (.int 0)), (.v 3)]), (.c (.str [98, 111, 120]))])]
def b__law_wrong_2 : List S := [.app 5 (.tup [(.v 4), (.tup [(.v 1), (.c .non), (.c .non), (.c .non)]), (.c (.str [112, 108, 97, 105, 110]))])]
def b__law_wrong_3 : List S := [.new 5 (.bin .add (.m 5) (.comp [4] (.tup [(.v 4), (.tup [(.v 0), (.v 3), (.c .non), (.c .non)]), (.c (.str [100, 111, 111, 114]))]) (.n 4) (.e (.tup [(.c (.int 10)), (.c (.int 11)), (.c (.int 12)), (.c (.int 18)), (.c (.int 19)), (.c (.int 20)), (.c (.int 21)), (.c (.int 22)), (.c (.int 23)), (.c (.int 31))])) none)), .new 5 (.bin .add (.m 5) (.lst [(.tup [(.c (.int 24)), (.tup [(.v 0), (.tup [(.c (.int 0)), (.v 3)]), (.c .non), (.c .non)]), (.c (.str [100, 111, 111, 114]))]), (.tup [(.c (.int 27)), (.tup [(.v 0), (.c (.int 0)), (.v 3), (.c .non)]), (.c (.str [100, 111, 111, 114]))])])), .new 5 (.bin .add (.m 5) (.lst [(.tup [(.c (.int 24)), (.tup [(.v 0), (.bin .mul (.tup [(.v 3)]) (.c (.int 31))), (.c .non), (.c .non)]), (.c (.str [100, 111, 111, 114]))]), (.tup [(.c (.int 31)), (.tup [(.v 0), (.c (.int 0)), (.v 3), (.c .non)]), (.c (.str [100, 111, 111, 114]))])]))]
def b__law_wrong_4 : List S := [.new 5 (.bin .add (.m 5) (.comp [4] (.tup [(.v 4), (.tup [(.v 0), (.v 3), (.c .non), (.c .non)]), (.c (.str [99, 101, 108, 108]))]) (.n 4) (.e (.tup [(.c (.int 25)), (.c (.int 28)), (.c (.int 29)), (.c (.int 30))])) none))]
def b__law_wrong_5 : List S := [.new 5 (.bin .add (.m 5) (.comp [4] (.tup [(.v 4), (.tup [(.v 0), (.c (.int 0)), (.v 3), (.c .non)]), (.c (.str [99, 101, 108, 108]))]) (.n 4) (.e (.tup [(.c (.int 25)), (.c (.int 28)), (.c (.int 29)), (.c (.int 30))])) none))]
def f__law_wrong : Fn := ⟨2, 8, [], [.par [(5, true), (6, false)] [(.lst []), (.bin .add (.bin .mod (.bin .add (.bi .len [(.v 0)]) (.c (.int 1))) (.c (.int 5))) (.c (.int 1)))], .asg (.n 2) (.lst [(.c .non), (.c (.int 5)), (.c (.str [114])), (.tup []), (.lst [(.c (.str [46, 114]))]), (.tup [(.c (.str []))]), (.tup [(.bin .mul (.c (.str [114])) (.c (.int 6)))]), (.bin .mul (.tup [(.c (.str [46]))]) (.c (.int 6))), (.tup [(.c (.str [114, 102])), (.c (.str [114]))]), (.tup [(.c (.str [114])), (.c .non)]), (.tup [(.c (.str [120]))])]), .for_ (.n 3) (.e (.bin .add (.v 2) (.lst [(.tup [(.c (.str [114, 114])), (.c (.str [114, 46, 114]))]), (.tup [(.c .non), (.c (.str [114]))]), (.tup [(.c (.int 5)), (.c (.str [114, 102]))]), (.tup [(.c (.bl true)), (.c (.str [114])), (.c (.str [102]))])]))) b__law_wrong_1, .for_ (.n 4) (.e (.tup [(.c (.int 1)), (.c (.int 2)), (.c (.int 3)), (.c (.int 4)), (.c (.int 5)), (.c (.int 6)), (.c (.int 9)), (.c (.int 11)), (.c (.int 12)), (.c (.int 13)), (.c (.int 14)), (.c (.int 21)), (.c (.int 22)), (.c (.int 23)), (.c (.int 24)), (.c (.int 25))])) b__law_wrong_2, .new 5 (.bin .add (.m 5) (.comp [7] (.tup [(.c (.int 26)), (.tup [(.v 7), (.c .non), (.c .non), (.c .non)]), (.c (.str [102, 114, 101, 101]))]) (.n 7) (.e (.tup [(.v 1), (.tup [(.c (.str [35]))])])) none)), .for_ (.n 3) (.e (.tup [(.c .non), (.neg (.c (.int 1))), (.bin .mul (.c (.int 2)) (.bin .add (.bi .len [(.v 0)]) (.bi .len [(.ix (.v 0) (.c (.int 0)))]))), (.c (.bl true)), (.c (.str [48])), (.tup [(.c (.int 0))])])) b__law_wrong_3, .new 5 (.bin .add (.m 5) (.comp [3] (.tup [(.c (.int 24)), (.tup [(.v 0), (.v 3), (.c .non), (.c .non)]), (.c (.str [100, 111, 111, 114]))]) (.n 3) (.e (.tup [(.c .non), (.c (.int 0)), (.lst [(.c (.int 0))]), (.c (.str [48])), (.tup [(.tup [(.c (.int 0))])]), (.bin .mul (.tup [(.c (.int 0))]) (.c (.int 31)))])) none)), .for_ (.n 3) (.e (.tup [(.c .non), (.neg (.c (.int 1))), (.bi .len [(.v 0)]), (.c (.bl true)), (.c (.str [48]))])) b__law_wrong_4, .for_ (.n 3) (.e (.tup [(.c .non), (.neg (.c (.int 1))), (.bi .len [(.ix (.v 0) (.c (.int 0)))]), (.c (.bl true)), (.c (.str [48]))])) b__law_wrong_5, .new 5 (.bin .add (.m 5) (.comp [3] (.tup [(.c (.int 29)), (.tup [(.v 0), (.c (.int 0)), (.c (.int 0)), (.v 3)]), (.c (.str [100, 105, 114, 101, 99, 116, 105, 111, 110]))]) (.n 3) (.e (.tup [(.c .non), (.neg (.c (.int 1))), (.c (.int 4)), (.c (.bl true)), (.c (.str [48]))])) none)), .new 5 (.bin .add (.m 5) (.comp [3] (.tup [(.c (.int 28)), (.tup [(.v 0), (.c (.int 0)), (.c (.int 0)), (.v 3)]), (.c (.str [115, 105, 103, 110]))]) (.n 3) (.e (.tup [(.c .non), (.c (.int 0)), (.c (.str [])), (.c (.str [120])), (.c (.str [114, 102])), (.tup [(.c (.str [114]))]), (.lst [(.c (.str [114]))])])) none)), .new 5 (.bin .add (.m 5) (.comp [3] (.tup [(.c (.int 17)), (.tup [(.v 0), (.v 3), (.c (.int 0)), (.c .non)]), (.c (.str [116, 117, 114, 110]))]) (.n 3) (.e (.tup [(.c .non), (.neg (.c (.int 1))), (.c (.int 8)), (.c (.bl true)), (.c (.str [49]))])) none)), .new 5 (.bin .add (.m 5) (.comp [3] (.tup [(.c (.int 27)), (.tup [(.v 0), (.v 3), (.c (.int 0)), (.c .non)]), (.c (.str [116, 117, 114, 110]))]) (.n 3) (.e (.tup [(.c .non), (.neg (.c (.int 1))), (.c (.int 8)), (.c (.bl true)), (.c (.str [49]))])) none)), .new 5 (.bin .add (.m 5) (.comp [3] (.tup [(.c (.int 31)), (.tup [(.v 0), (.c (.int 0)), (.c (.int 0)), (.v 3)]), (.c (.str [110, 117, 109, 98, 101, 114]))]) (.n 3) (.e (.tup [(.c .non), (.neg (.c (.int 1))), (.c (.int 31)), (.c (.bl true)), (.c (.str [49]))])) none)), .new 5 (.bin .add (.m 5) (.comp [4] (.tup [(.v 4), (.tup [(.v 0), (.bin .mul (.tup [(.ix (.v 0) (.c (.int 0)))]) (.v 6)), (.c .non), (.c .non)]), (.c (.str [117, 110, 108, 105, 107, 101]))]) (.n 4) (.e (.tup [(.c (.int 13)), (.c (.int 14)), (.c (.int 15))])) none)), .ret (.bin .add (.m 5) (.lst [(.tup [(.c (.int 16)), (.tup [(.v 0), (.tup [(.bin .mul (.sl (.ix (.v 0) (.c (.int 0))) none (some (.c (.int 1)))) (.bin .add (.bin .mod (.bi .len [(.ix (.v 0) (.c (.int 0)))]) (.c (.int 5))) (.c (.int 1))))]), (.c .non), (.c .non)]), (.c (.str [117, 110, 108, 105, 107, 101]))])]))]⟩
def f__law_box : Fn := ⟨5, 7, [1], [.par [(5, false), (6, false)] [(.bin .add (.c (.int 1)) (.call 82 [(.v 0), (.m 1), (.v 2)])), (.bin .add (.c (.int 1)) (.call 82 [(.v 0), (.m 1), (.v 3)]))], .ret (.call 87 [(.v 0), (.m 1), (.v 5), (.v 6), (.v 4)])]⟩
def f__law_doors : Fn := ⟨1, 1, [], [.ret (.lrg (.bin .mul (.c (.int 2)) (.bin .add (.bi .len [(.v 0)]) (.bi .len [(.ix (.v 0) (.c (.int 0)))]))))]⟩
def f__law_first : Fn := ⟨2, 8, [], [.par [(3, false), (4, false)] [(.bi .len [(.v 0)]), (.bi .len [(.ix (.v 0) (.c (.int 0)))])], .asg (.n 2) (.bin .add (.comp [5] (.tup [(.c (.int 0)), (.v 5), (.c (.int 2))]) (.n 5) (.r1 (.v 4)) none) (.comp [6] (.tup [(.v 6), (.bin .sub (.v 4) (.c (.int 1))), (.c (.int 3))]) (.n 6) (.r1 (.v 3)) none)), .asg (.n 2) (.bin .add (.v 2) (.comp [7] (.tup [(.bin .sub (.v 3) (.c (.int 1))), (.bin .sub (.bin .sub (.v 4) (.c (.int 1))) (.v 7)), (.c (.int 0))]) (.n 7) (.r1 (.v 4)) none)), .ret (.ix (.bin .add (.v 2) (.comp [7] (.tup [(.bin .sub (.bin .sub (.v 3) (.c (.int 1))) (.v 7)), (.c (.int 0)), (.c (.int 1))]) (.n 7) (.r1 (.v 3)) none)) (.v 1))]⟩
def f__law_out : Fn := ⟨3, 3, [], [.ret (.not (.and (.chain .le .lt (.c (.int 0)) (.v 1) (.bi .len [(.v 0)])) (.chain .le .lt (.c (.int 0)) (.v 2) (.bi .len [(.ix (.v 0) (.c (.int 0)))]))))]⟩
def f__law_move : Fn := ⟨3, 3, [], [.ret (.dsp [0, 1, 2, 3] [(.tup [(.bin .sub (.v 0) (.c (.int 1))), (.v 1)]), (.tup [(.v 0), (.bin .add (.v 1) (.c (.int 1)))]), (.tup [(.bin .add (.v 0) (.c (.int 1))), (.v 1)]), (.tup [(.v 0), (.bin .sub (.v 1) (.c (.int 1)))])] (.v 2))]⟩
def f_check_size : Fn := ⟨2, 2, [], [.ife (.or (.not (.call 1 [(.v 0), (.c (.int 1)), (.c (.int 5))])) (.or (.not (.call 1 [(.v 1), (.c (.int 1)), (.c (.int 5))])) (.cmp .gt (.bin .mul (.v 0) (.v 1)) (.c (.int 6))))) [.rais 6] []]⟩
def f_check_signs : Fn := ⟨1, 1, [], [.ife (.or (.not (.bi (.isa "str") [(.v 0)])) (.cmp .notin (.v 0) (.tup [(.c (.str [46, 114, 102])), (.c (.str [35, 46, 114, 102]))]))) [.rais 7] []]⟩
def b_check_shots_1 : List S := [.ife (.or (.not (.bi (.isa "tuple") [(.v 4)])) (.or (.cmp .ne (.bi .len [(.v 4)]) (.c (.int 2))) (.not (.call 1 [(.ix (.v 4) (.c (.int 0))), (.c (.int 0)), (.v 3)])))) [.rais 8] [], .ife (.and (.cmp .isnot (.ix (.v 4) (.c (.int 1))) (.c .non)) (.not (.call 1 [(.ix (.v 4) (.c (.int 1))), (.c (.int 0)), (.v 3)]))) [.rais 8] []]
def f_check_shots : Fn := ⟨3, 6, [], [.ife (.or (.not (.bi (.isa "tuple") [(.v 2)])) (.cmp .gt (.bi .len [(.v 2)]) (.c (.int 20)))) [.rais 8] [], .asg (.n 3) (.bin .sub (.call 11 [(.v 0), (.v 1)]) (.c (.int 1))), .for_ (.n 4) (.e (.v 2)) b_check_shots_1, .ife (.not (.bi .all [(.comp [5] (.cmp .lt (.ix (.ix (.v 2) (.v 5)) (.c (.int 0))) (.ix (.ix (.v 2) (.bin .add (.v 5) (.c (.int 1)))) (.c (.int 0)))) (.n 5) (.r1 (.bin .sub (.bi .len [(.v 2)]) (.c (.int 1)))) none)])) [.rais 8] []]⟩
def f_does_agree : Fn := ⟨2, 4, [], [.ret (.bi .all [(.comp [2, 3] (.cmp .eq (.ix (.call 25 [(.v 0), (.v 2)]) (.c (.int 1))) (.v 3)) (.t [2, 3]) (.e (.v 1)) none)])]⟩
def b_all_boxes_1 : List S := [.asg (.n 3) (.comp2 [7, 8] [8] (.bin .add (.v 7) (.v 8)) (.n 7) (.e (.v 3)) (.n 8) (.e (.bi .sorted [(.v 2)])) none)]
def b_all_boxes_2 : List S := [.asg (.n 5) (.comp2 [9, 7] [7] (.bin .add (.v 9) (.tup [(.v 7)])) (.n 9) (.e (.v 5)) (.n 7) (.e (.v 3)) none)]
def f_all_boxes : Fn := ⟨3, 10, [], [.asg (.n 3) (.lst [(.c (.str []))]), .for_ (.n 4) (.r1 (.v 1)) b_all_boxes_1, .asg (.n 5) (.lst [(.tup [])]), .for_ (.n 6) (.r1 (.v 0)) b_all_boxes_2, .ret (.v 5)]⟩
def f_found_boxes : Fn := ⟨4, 5, [], [.ret (.comp [4] (.v 4) (.n 4) (.e (.call 101 [(.v 0), (.v 1), (.v 2)])) (some (.call 100 [(.v 4), (.v 3)])))]⟩
def f_check_asked : Fn := ⟨3, 3, [], [.ex (.call 7 [(.v 0)]), .ife (.not (.call 118 [(.call 11 [(.bi .len [(.v 0)]), (.bi .len [(.ix (.v 0) (.c (.int 0)))])]), (.v 1)])) [.rais 11] [], .ife (.not (.call 119 [(.v 0), (.v 2)])) [.rais 3] []]⟩
def f_tables : Fn := ⟨2, 3, [], [.ex (.call 97 [(.v 0), (.v 1)]), .ret (.bi .tuple [(.sset (.comp [2] (.call 30 [(.v 2)]) (.n 2) (.e (.call 101 [(.v 0), (.v 1), (.c (.str [46, 114, 102]))])) none))])]⟩
def f_check_boxes : Fn := ⟨1, 3, [], [.ife (.or (.not (.bi (.isa "tuple") [(.v 0)])) (.or (.not (.chain .le .le (.c (.int 1)) (.bi .len [(.v 0)]) (.c (.int 24)))) (.not (.bi .all [(.comp [1] (.call 4 [(.v 1)]) (.n 1) (.e (.v 0)) none)])))) [.rais 9] [], .ife (.not (.bi .all [(.comp [1] (.cmp .eq (.call 9 [(.v 1)]) (.call 9 [(.ix (.v 0) (.c (.int 0)))])) (.n 1) (.e (.v 0)) none)])) [.rais 9] [], .ife (.not (.bi .all [(.comp [2] (.cmp .lt (.ix (.v 0) (.v 2)) (.ix (.v 0) (.bin .add (.v 2) (.c (.int 1))))) (.n 2) (.r1 (.bin .sub (.bi .len [(.v 0)]) (.c (.int 1)))) none)])) [.rais 9] []]⟩
def f_agreeing : Fn := ⟨2, 3, [], [.ex (.call 106 [(.v 0)]), .ex (.call 99 [(.bi .len [(.ix (.v 0) (.c (.int 0)))]), (.bi .len [(.ix (.ix (.v 0) (.c (.int 0))) (.c (.int 0)))]), (.v 1)]), .ret (.bi .tuple [(.comp [2] (.v 2) (.n 2) (.e (.v 0)) (some (.call 100 [(.v 2), (.v 1)])))])]⟩
def b_tables_in_1 : List S := [.ife (.cmp .notin (.call 30 [(.v 2)]) (.m 1)) [.app 1 (.call 30 [(.v 2)])] []]
def f_tables_in : Fn := ⟨1, 3, [], [.new 1 (.lst []), .for_ (.n 2) (.e (.v 0)) b_tables_in_1, .ret (.bi .tuple [(.m 1)])]⟩
def b_fewest_for_1 : List S := [.asg (.n 4) (.call 109 [(.v 0), (.v 3)]), .ife (.cmp .gt (.bi .len [(.v 4)]) (.c (.int 1))) [.app 2 (.bin .add (.c (.int 1)) (.bi .max [(.comp [5] (.call 111 [(.ix (.v 4) (.v 5)), (.m 1)]) (.n 5) (.e (.v 4)) none)]))] []]
def f_fewest_for : Fn := ⟨2, 6, [1], [.ife (.cmp .eq (.bi .len [(.v 0)]) (.c (.int 1))) [.ret (.c (.int 0))] [], .ife (.cmp .notin (.v 0) (.m 1)) [.new 2 (.lst []), .for_ (.n 3) (.r1 (.bi .len [(.ix (.v 0) (.c (.int 0)))])) b_fewest_for_1, .seti 1 (.v 0) (.bi .min [(.m 2)])] [], .ret (.ix (.m 1) (.v 0))]⟩
def f_in_sequence : Fn := ⟨1, 2, [], [.ret (.bin .add (.bi .sorted [(.comp [1] (.v 1) (.n 1) (.e (.v 0)) (some (.cmp .isnot (.v 1) (.c .non))))]) (.comp [1] (.v 1) (.n 1) (.e (.v 0)) (some (.cmp .is_ (.v 1) (.c .non)))))]⟩
def b_plan_for_1 : List S := [.asg (.n 4) (.call 109 [(.v 0), (.v 3)]), .ife (.and (.cmp .gt (.bi .len [(.v 4)]) (.c (.int 1))) (.cmp .eq (.bin .add (.c (.int 1)) (.bi .max [(.comp [5] (.call 111 [(.ix (.v 4) (.v 5)), (.m 1)]) (.n 5) (.e (.v 4)) none)])) (.v 2))) [.ret (.tup [(.v 3), (.bi .tuple [(.comp [5] (.tup [(.v 5), (.call 113 [(.ix (.v 4) (.v 5)), (.m 1)])]) (.n 5) (.e (.call 112 [(.v 4)])) none)])])] []]
def f_plan_for : Fn := ⟨2, 6, [1], [.ife (.cmp .eq (.bi .len [(.v 0)]) (.c (.int 1))) [.ret (.c .non)] [], .asg (.n 2) (.call 111 [(.v 0), (.m 1)]), .for_ (.n 3) (.r1 (.bi .len [(.ix (.v 0) (.c (.int 0)))])) b_plan_for_1, .ret (.c .non)]⟩
def f_does_part : Fn := ⟨3, 5, [], [.ife (.cmp .is_ (.v 2) (.c .non)) [.ret (.cmp .eq (.bi .len [(.v 0)]) (.c (.int 1)))] [], .ife (.or (.cmp .eq (.bi .len [(.v 0)]) (.c (.int 1))) (.or (.cmp .eq (.v 1) (.c (.int 0))) (.or (.not (.bi (.isa "tuple") [(.v 2)])) (.cmp .ne (.bi .len [(.v 2)]) (.c (.int 2)))))) [.ret (.c (.bl false))] [], .ife (.or (.not (.call 1 [(.ix (.v 2) (.c (.int 0))), (.c (.int 0)), (.bin .sub (.bi .len [(.ix (.v 0) (.c (.int 0)))]) (.c (.int 1)))])) (.not (.bi (.isa "tuple") [(.ix (.v 2) (.c (.int 1)))]))) [.ret (.c (.bl false))] [], .asg (.n 3) (.call 109 [(.v 0), (.ix (.v 2) (.c (.int 0)))]), .ife (.not (.bi .all [(.comp [4] (.and (.bi (.isa "tuple") [(.v 4)]) (.and (.cmp .eq (.bi .len [(.v 4)]) (.c (.int 2))) (.call 116 [(.ix (.v 4) (.c (.int 0)))]))) (.n 4) (.e (.ix (.v 2) (.c (.int 1)))) none)])) [.ret (.c (.bl false))] [], .ife (.cmp .ne (.comp [4] (.ix (.v 4) (.c (.int 0))) (.n 4) (.e (.ix (.v 2) (.c (.int 1)))) none) (.call 112 [(.v 3)])) [.ret (.c (.bl false))] [], .ret (.bi .all [(.comp [4] (.call 115 [(.ix (.v 3) (.ix (.v 4) (.c (.int 0)))), (.bin .sub (.v 1) (.c (.int 1))), (.ix (.v 4) (.c (.int 1)))]) (.n 4) (.e (.ix (.v 2) (.c (.int 1)))) none)])]⟩
def f_is_answer : Fn := ⟨1, 1, [], [.ret (.or (.cmp .is_ (.v 0) (.c .non)) (.call 1 [(.v 0), (.c (.int 0)), (.bin .sub (.call 11 [(.c (.int 5)), (.c (.int 5))]) (.c (.int 1)))]))]⟩
def f_is_shot_plan : Fn := ⟨3, 3, [], [.ex (.call 106 [(.v 0)]), .ife (.not (.call 1 [(.v 1), (.c (.int 0)), (.c (.int 20))])) [.rais 10] [], .ret (.call 115 [(.call 110 [(.v 0)]), (.v 1), (.v 2)])]⟩
def b_are_wishes_1 : List S := [.ife (.or (.not (.bi (.isa "tuple") [(.v 2)])) (.or (.cmp .ne (.bi .len [(.v 2)]) (.c (.int 2))) (.not (.call 1 [(.ix (.v 2) (.c (.int 0))), (.c (.int 0)), (.bin .sub (.v 0) (.c (.int 1)))])))) [.ret (.c (.bl false))] [], .ife (.not (.call 1 [(.ix (.v 2) (.c (.int 1))), (.bin .add (.ix (.v 2) (.c (.int 0))) (.c (.int 1))), (.bin .sub (.v 0) (.c (.int 1)))])) [.ret (.c (.bl false))] []]
def f_are_wishes : Fn := ⟨2, 5, [], [.ife (.or (.not (.bi (.isa "tuple") [(.v 1)])) (.not (.chain .le .le (.c (.int 1)) (.bi .len [(.v 1)]) (.c (.int 4))))) [.ret (.c (.bl false))] [], .for_ (.n 2) (.e (.v 1)) b_are_wishes_1, .asg (.n 3) (.comp2 [2, 4] [4] (.v 4) (.n 2) (.e (.v 1)) (.n 4) (.e (.v 2)) none), .ret (.and (.cmp .eq (.bi .list [(.v 1)]) (.bi .sorted [(.v 1)])) (.cmp .eq (.lset (.v 3)) (.bi .len [(.v 3)])))]⟩
def b_are_cells_1 : List S := [.ife (.or (.not (.bi (.isa "tuple") [(.v 2)])) (.or (.cmp .ne (.bi .len [(.v 2)]) (.c (.int 2))) (.not (.call 1 [(.ix (.v 2) (.c (.int 0))), (.c (.int 0)), (.bin .sub (.bi .len [(.v 0)]) (.c (.int 1)))])))) [.ret (.c (.bl false))] [], .ife (.not (.call 1 [(.ix (.v 2) (.c (.int 1))), (.c (.int 0)), (.bin .sub (.bi .len [(.ix (.v 0) (.c (.int 0)))]) (.c (.int 1)))])) [.ret (.c (.bl false))] []]
def f_are_cells : Fn := ⟨2, 4, [], [.ife (.or (.not (.bi (.isa "tuple") [(.v 1)])) (.cmp .gt (.bi .len [(.v 1)]) (.c (.int 7)))) [.ret (.c (.bl false))] [], .for_ (.n 2) (.e (.v 1)) b_are_cells_1, .ret (.bi .all [(.comp [3] (.cmp .lt (.ix (.v 1) (.v 3)) (.ix (.v 1) (.bin .add (.v 3) (.c (.int 1))))) (.n 3) (.r1 (.bin .sub (.bi .len [(.v 1)]) (.c (.int 1)))) none)])]⟩
def b_are_rays_1 : List S := [.ife (.or (.not (.bi (.isa "tuple") [(.v 4)])) (.or (.cmp .ne (.bi .len [(.v 4)]) (.c (.int 2))) (.not (.call 1 [(.ix (.v 4) (.c (.int 1))), (.c (.int 1)), (.c (.int 999))])))) [.ret (.c (.bl false))] [], .ife (.and (.cmp .isnot (.ix (.v 4) (.c (.int 0))) (.c .non)) (.not (.call 1 [(.ix (.v 4) (.c (.int 0))), (.c (.int 0)), (.bin .sub (.v 3) (.c (.int 1)))]))) [.ret (.c (.bl false))] []]
def b_are_rays_2 : List S := [.ife (.and (.cmp .isnot (.ix (.v 4) (.c (.int 0))) (.c .non)) (.or (.cmp .eq (.ix (.v 4) (.c (.int 0))) (.v 5)) (.cmp .ne (.ix (.v 2) (.ix (.v 4) (.c (.int 0)))) (.tup [(.v 5), (.ix (.v 4) (.c (.int 1)))])))) [.ret (.c (.bl false))] []]
def f_are_rays : Fn := ⟨3, 6, [], [.asg (.n 3) (.call 11 [(.v 0), (.v 1)]), .ife (.or (.not (.bi (.isa "tuple") [(.v 2)])) (.cmp .ne (.bi .len [(.v 2)]) (.v 3))) [.ret (.c (.bl false))] [], .for_ (.n 4) (.e (.v 2)) b_are_rays_1, .for_ (.t [5, 4]) (.en (.v 2)) b_are_rays_2, .ret (.c (.bl true))]⟩
def f_check_length : Fn := ⟨1, 1, [], [.ife (.not (.call 1 [(.v 0), (.c (.int 1)), (.c (.int 5))])) [.rais 6] []]⟩
def f_check_rays : Fn := ⟨3, 3, [], [.ife (.not (.call 122 [(.v 0), (.v 1), (.v 2)])) [.rais 12] []]⟩
def f_place_of : Fn := ⟨4, 6, [], [.ife (.cmp .lt (.v 3) (.v 1)) [.ret (.tup [(.c (.int 0)), (.v 3)])] [], .ife (.cmp .lt (.v 3) (.bin .add (.v 1) (.v 2))) [.ret (.tup [(.c (.int 1)), (.bin .sub (.v 3) (.v 1))])] [], .asg (.n 4) (.bin .sub (.bin .sub (.v 3) (.v 1)) (.v 2)), .ife (.cmp .lt (.v 4) (.v 0)) [.ret (.tup [(.c (.int 1)), (.bin .add (.v 2) (.v 4))])] [], .asg (.n 5) (.bin .sub (.v 4) (.v 0)), .ife (.cmp .lt (.v 5) (.v 2)) [.ret (.tup [(.c (.int 1)), (.bin .add (.bin .add (.v 2) (.v 0)) (.v 5))])] [], .ret (.tup [(.c (.int 0)), (.bin .sub (.bin .add (.bin .add (.v 1) (.v 0)) (.v 5)) (.v 2))])]⟩
def b_joined_rays_1 : List S := [.asg (.n 12) (.ix (.ix (.tup [(.v 2), (.v 4)]) (.ix (.v 9) (.c (.int 0)))) (.ix (.v 9) (.c (.int 1)))), .asg (.n 10) (.bin .add (.v 10) (.ix (.v 12) (.c (.int 1)))), .asg (.n 13) (.ifx (.cmp .is_ (.ix (.v 12) (.c (.int 0))) (.c .non)) (.c .non) (.tup [(.ix (.v 9) (.c (.int 0))), (.ix (.v 12) (.c (.int 0)))])), .ife (.cmp .in_ (.v 13) (.v 5)) [.asg (.n 11) (.mt .index (.v 5) [(.v 13)])] [], .asg (.n 9) (.ifx (.or (.cmp .is_ (.v 13) (.c .non)) (.cmp .in_ (.v 13) (.v 5))) (.c .non) (.call 127 [(.v 0), (.v 1), (.v 3), (.v 13)]))]
def b_joined_rays_2 : List S := [.par [(9, false), (10, false), (11, false)] [(.v 7), (.c (.int 0)), (.c .non)], .whl (.cmp .isnot (.v 9) (.c .non)) b_joined_rays_1, .app 6 (.tup [(.v 11), (.v 10)])]
def f_joined_rays : Fn := ⟨5, 14, [], [.ex (.call 123 [(.v 0)]), .ex (.call 123 [(.v 1)]), .ex (.call 124 [(.v 0), (.v 1), (.v 2)]), .ex (.call 123 [(.v 3)]), .ex (.call 124 [(.v 0), (.v 3), (.v 4)]), .asg (.n 5) (.comp [8] (.call 125 [(.v 0), (.v 1), (.v 3), (.v 8)]) (.n 8) (.r1 (.call 11 [(.v 0), (.bin .add (.v 1) (.v 3))])) none), .new 6 (.lst []), .for_ (.n 7) (.e (.v 5)) b_joined_rays_2, .ret (.bi .tuple [(.m 6)])]⟩
def f_across : Fn := ⟨4, 4, [], [.ife (.cmp .eq (.ix (.v 3) (.c (.int 0))) (.c (.int 0))) [.ret (.tup [(.c (.int 1)), (.bin .sub (.bin .sub (.bin .add (.bin .mul (.c (.int 2)) (.v 2)) (.bin .mul (.c (.int 2)) (.v 0))) (.c (.int 1))) (.bin .sub (.ix (.v 3) (.c (.int 1))) (.v 1)))])] [], .ret (.tup [(.c (.int 0)), (.bin .sub (.bin .sub (.bin .add (.bin .add (.v 1) (.bin .mul (.c (.int 2)) (.v 2))) (.bin .mul (.c (.int 2)) (.v 0))) (.c (.int 1))) (.ix (.v 3) (.c (.int 1))))])]⟩
def b_can_part_1 : List S := [.ife (.bi .all [(.comp [4] (.call 128 [(.comp [3] (.v 3) (.n 3) (.e (.v 0)) (some (.cmp .eq (.ix (.v 3) (.v 2)) (.ix (.v 4) (.v 2))))), (.bin .sub (.v 1) (.c (.int 1)))]) (.n 4) (.e (.v 0)) none)]) [.ret (.c (.bl true))] []]
def f_can_part : Fn := ⟨2, 5, [], [.ife (.bi .all [(.comp [3] (.cmp .eq (.v 3) (.ix (.v 0) (.c (.int 0)))) (.n 3) (.e (.v 0)) none)]) [.ret (.c (.bl true))] [], .ife (.cmp .eq (.v 1) (.c (.int 0))) [.ret (.c (.bl false))] [], .for_ (.n 2) (.r1 (.bi .len [(.ix (.v 0) (.c (.int 0)))])) b_can_part_1, .ret (.c (.bl false))]⟩
def b_naive_fewest_shots_1 : List S := [.asg (.n 2) (.bin .add (.v 2) (.c (.int 1)))]
def f_naive_fewest_shots : Fn := ⟨1, 4, [], [.ex (.call 106 [(.v 0)]), .ife (.cmp .gt (.bi .len [(.v 0)]) (.c (.int 6))) [.rais 19] [], .par [(1, false), (2, false)] [(.comp [3] (.call 30 [(.v 3)]) (.n 3) (.e (.v 0)) none), (.c (.int 0))], .whl (.not (.call 128 [(.v 1), (.v 2)])) b_naive_fewest_shots_1, .ret (.v 2)]⟩
def f__law_turn : Fn := ⟨2, 2, [], [.ife (.cmp .in_ (.v 0) (.c (.str [114, 82]))) [.ret (.dsp [0, 1, 2, 3] [(.c (.int 1)), (.c (.int 0)), (.c (.int 3)), (.c (.int 2))] (.v 1))] [], .ret (.ifx (.cmp .in_ (.v 0) (.c (.str [102, 70]))) (.dsp [0, 3, 2, 1] [(.c (.int 3)), (.c (.int 0)), (.c (.int 1)), (.c (.int 2))] (.v 1)) (.v 1))]⟩
def b__law_walk_1 : List S := [.app 2 (.tup [(.v 4), (.v 5), (.v 6)]), .ife (.cmp .eq (.ix (.ix (.v 0) (.v 4)) (.v 5)) (.c (.str [35]))) [.ret (.tup [(.mv 2), (.c .non)])] [], .asg (.n 6) (.call 130 [(.ix (.ix (.v 0) (.v 4)) (.v 5)), (.v 6)]), .asg (.t [4, 5]) (.call 96 [(.v 4), (.v 5), (.v 6)])]
def f__law_walk : Fn := ⟨2, 8, [], [.asg (.t [4, 5, 6]) (.call 94 [(.v 0), (.v 1)]), .new 2 (.lst []), .whl (.not (.call 95 [(.v 0), (.v 4), (.v 5)])) b__law_walk_1, .asg (.n 3) (.bin .add (.call 96 [(.v 4), (.v 5), (.bin .mod (.bin .add (.v 6) (.c (.int 2))) (.c (.int 4)))]) (.tup [(.bin .mod (.bin .add (.v 6) (.c (.int 2))) (.c (.int 4)))])), .ret (.tup [(.mv 2), (.ix (.comp [7] (.v 7) (.n 7) (.e (.call 93 [(.v 0)])) (some (.cmp .eq (.call 94 [(.v 0), (.v 7)]) (.v 3)))) (.c (.int 0)))])]⟩
def b__law_cells_and_sizes_1 : List S := [.asg (.n 1) (.bin .add (.v 1) (.lst [(.tup [(.c (.int 3)), (.tup [(.v 0), (.v 5), (.v 6), (.c (.int 0))]), (.c (.str [99, 101, 108, 108]))]), (.tup [(.c (.int 4)), (.tup [(.v 0), (.v 5), (.v 6), (.c (.int 0))]), (.c (.str [99, 101, 108, 108]))])])), .asg (.n 1) (.bin .add (.v 1) (.lst [(.tup [(.c (.int 1)), (.tup [(.v 0), (.v 5), (.v 6), (.c (.str [114]))]), (.c (.str [99, 101, 108, 108]))]), (.tup [(.c (.int 2)), (.tup [(.v 0), (.v 5), (.v 6), (.tup [(.c (.str [114]))])]), (.c (.str [99, 101, 108, 108]))])]))]
def b__law_cells_and_sizes_2 : List S := [.asg (.n 1) (.bin .add (.v 1) (.lst [(.tup [(.c (.int 0)), (.tup [(.v 7), (.v 8), (.c (.str [46, 114, 102])), (.tup [])]), (.c (.str [115, 105, 122, 101]))]), (.tup [(.c (.int 6)), (.tup [(.v 7), (.v 8), (.c (.int 0)), (.c (.int 0))]), (.c (.str [115, 105, 122, 101]))])]))]
def b__law_cells_and_sizes_3 : List S := [.asg (.n 2) (.bin .add (.v 2) (.lst [(.tup [(.c (.int 0)), (.tup [(.v 7), (.v 8), (.c (.str [46, 114, 102])), (.tup [(.tup [(.c (.int 0)), (.c (.int 1))])])])]), (.tup [(.c (.int 6)), (.tup [(.v 7), (.v 8), (.c (.int 0)), (.c (.int 0))])])]))]
def f__law_cells_and_sizes : Fn := ⟨1, 9, [], [.par [(1, false), (2, false), (3, false), (4, false)] [(.lst []), (.lst []), (.bi .len [(.v 0)]), (.bi .len [(.ix (.v 0) (.c (.int 0)))])], .for_ (.t [5, 6]) (.e (.lst [(.tup [(.v 3), (.c (.int 0))]), (.tup [(.c (.int 0)), (.v 4)]), (.tup [(.v 3), (.v 4)]), (.tup [(.neg (.c (.int 1))), (.c (.int 0))]), (.tup [(.c (.int 0)), (.neg (.c (.int 1)))])])) b__law_cells_and_sizes_1, .for_ (.t [7, 8]) (.e (.lst [(.tup [(.c (.int 0)), (.c (.int 1))]), (.tup [(.c (.int 1)), (.c (.int 0))]), (.tup [(.c (.int 6)), (.c (.int 1))]), (.tup [(.c (.int 1)), (.c (.int 6))]), (.tup [(.c (.int 2)), (.c (.int 4))]), (.tup [(.c (.int 4)), (.c (.int 2))]), (.tup [(.c (.int 3)), (.c (.int 3))])])) b__law_cells_and_sizes_2, .for_ (.t [7, 8]) (.e (.lst [(.tup [(.c (.int 5)), (.c (.int 1))]), (.tup [(.c (.int 1)), (.c (.int 5))]), (.tup [(.c (.int 2)), (.c (.int 3))]), (.tup [(.c (.int 3)), (.c (.int 2))])])) b__law_cells_and_sizes_3, .ret (.tup [(.v 1), (.v 2)])]⟩
def f__law_table : Fn := ⟨1, 2, [], [.ret (.bi .tuple [(.comp [1] (.ix (.call 131 [(.v 0), (.v 1)]) (.c (.int 1))) (.n 1) (.e (.call 93 [(.v 0)])) none)])]⟩
def b__law_emptied_1 : List S := [.asg (.n 0) (.call 88 [(.v 0), (.v 2), (.v 3), (.c (.str [46]))])]
def f__law_emptied : Fn := ⟨2, 4, [], [.for_ (.t [2, 3]) (.e (.v 1)) b__law_emptied_1, .ret (.v 0)]⟩
def f__law_side : Fn := ⟨2, 2, [], [.ife (.cmp .eq (.v 1) (.c (.int 2))) [.ret (.c (.str [117, 112, 112, 101, 114]))] [], .ife (.cmp .eq (.v 1) (.c (.int 0))) [.ret (.c (.str [108, 111, 119, 101, 114]))] [], .ret (.ifx (.cmp .in_ (.tup [(.v 0), (.v 1)]) (.tup [(.tup [(.c (.str [114])), (.c (.int 1))]), (.tup [(.c (.str [102])), (.c (.int 3))])])) (.c (.str [117, 112, 112, 101, 114])) (.c (.str [108, 111, 119, 101, 114])))]⟩
def f__law_next : Fn := ⟨2, 5, [], [.asg (.t [3, 4, 2]) (.v 1), .ife (.cmp .eq (.ix (.ix (.v 0) (.v 3)) (.v 4)) (.c (.str [35]))) [.ret (.c .non)] [], .asg (.n 2) (.call 130 [(.ix (.ix (.v 0) (.v 3)) (.v 4)), (.v 2)]), .asg (.t [3, 4]) (.call 96 [(.v 3), (.v 4), (.v 2)]), .ret (.ifx (.call 95 [(.v 0), (.v 3), (.v 4)]) (.c .non) (.tup [(.v 3), (.v 4), (.v 2)]))]⟩
def b__law_round_1 : List S := [.ife (.cmp .in_ (.v 3) (.m 2)) [.ret (.c .non)] [], .app 2 (.v 3), .asg (.n 3) (.call 137 [(.v 0), (.v 3)])]
def f__law_round : Fn := ⟨2, 4, [], [.par [(2, true), (3, false)] [(.lst [(.v 1)]), (.call 137 [(.v 0), (.v 1)])], .whl (.and (.cmp .isnot (.v 3) (.c .non)) (.cmp .ne (.v 3) (.v 1))) b__law_round_1, .ret (.ifx (.cmp .isnot (.v 3) (.c .non)) (.bi .tuple [(.m 2)]) (.c .non))]⟩
def f__law_cells_of : Fn := ⟨1, 2, [], [.ret (.bi .sorted [(.comp [1] (.sl (.v 1) none (some (.c (.int 2)))) (.n 1) (.e (.v 0)) none)])]⟩
def f_check_asked_2 : Fn := ⟨4, 4, [], [.ex (.call 97 [(.v 0), (.v 1)]), .ex (.call 98 [(.v 2)]), .ex (.call 99 [(.v 0), (.v 1), (.v 3)])]⟩
def f_boxes_for_2 : Fn := ⟨4, 4, [], [.ex (.call 140 [(.v 0), (.v 1), (.v 2), (.v 3)]), .ret (.bi .tuple [(.call 102 [(.v 0), (.v 1), (.v 2), (.v 3)])])]⟩
def f_fewest_mirrors : Fn := ⟨3, 5, [], [.ex (.call 97 [(.v 0), (.v 1)]), .ex (.call 99 [(.v 0), (.v 1), (.v 2)]), .asg (.n 3) (.comp [4] (.tup [(.bi .len [(.call 22 [(.v 4), (.c (.str [114, 102]))])]), (.v 4)]) (.n 4) (.e (.call 102 [(.v 0), (.v 1), (.c (.str [46, 114, 102])), (.v 2)])) none), .ret (.ifx (.cmp .ne (.v 3) (.lst [])) (.ix (.bi .min [(.v 3)]) (.c (.int 1))) (.c .non))]⟩
def b_naive_boxes_for_1 : List S := [.asg (.n 6) (.call 30 [(.v 5)]), .ife (.bi .all [(.comp [7, 8] (.cmp .eq (.ix (.v 6) (.v 7)) (.v 8)) (.t [7, 8]) (.e (.v 3)) none)]) [.app 4 (.v 5)] []]
def f_naive_boxes_for : Fn := ⟨4, 9, [], [.ex (.call 140 [(.v 0), (.v 1), (.v 2), (.v 3)]), .new 4 (.lst []), .for_ (.n 5) (.e (.call 101 [(.v 0), (.v 1), (.v 2)])) b_naive_boxes_for_1, .ret (.bi .tuple [(.m 4)])]⟩
def b__law_all_1 : List S := [.asg (.n 3) (.call 145 [(.v 3), (.v 2)])]
def b__law_all_2 : List S := [.asg (.n 7) (.bin .add (.v 7) (.comp [9] (.bin .add (.v 8) (.tup [(.v 9)])) (.n 9) (.e (.v 3)) none))]
def b__law_all_3 : List S := [.asg (.n 7) (.lst []), .for_ (.n 8) (.e (.v 5)) b__law_all_2, .asg (.n 5) (.v 7)]
def f__law_all : Fn := ⟨3, 10, [], [.asg (.n 3) (.lst [(.c (.str []))]), .for_ (.n 4) (.r1 (.v 1)) b__law_all_1, .asg (.n 5) (.lst [(.tup [])]), .for_ (.n 6) (.r1 (.v 0)) b__law_all_3, .ret (.v 5)]⟩
def b__law_longer_1 : List S := [.asg (.n 2) (.bin .add (.v 2) (.comp [4] (.bin .add (.v 3) (.v 4)) (.n 4) (.e (.v 1)) none))]
def f__law_longer : Fn := ⟨2, 5, [], [.asg (.n 2) (.lst []), .for_ (.n 3) (.e (.v 0)) b__law_longer_1, .ret (.v 2)]⟩
def b_sure_cells_1 : List S := [.asg (.n 6) (.sset (.comp [7] (.ix (.ix (.v 7) (.v 2)) (.v 5)) (.n 7) (.e (.v 0)) none)), .ife (.cmp .eq (.bi .len [(.v 6)]) (.c (.int 1))) [.app 1 (.tup [(.v 2), (.v 5), (.ix (.v 6) (.c (.int 0)))])] []]
def b_sure_cells_2 : List S := [.for_ (.n 5) (.r1 (.v 4)) b_sure_cells_1]
def f_sure_cells : Fn := ⟨1, 8, [], [.ex (.call 106 [(.v 0)]), .asg (.t [3, 4]) (.call 9 [(.ix (.v 0) (.c (.int 0)))]), .new 1 (.lst []), .for_ (.n 2) (.r1 (.v 3)) b_sure_cells_2, .ret (.bi .tuple [(.m 1)])]⟩
def b_best_shot_1 : List S := [.asg (.n 4) (.call 109 [(.v 1), (.v 3)]), .app 2 (.tup [(.bi .max [(.comp [6] (.bi .len [(.ix (.v 4) (.v 6))]) (.n 6) (.e (.v 4)) none)]), (.v 3)])]
def f_best_shot : Fn := ⟨1, 7, [], [.ex (.call 106 [(.v 0)]), .asg (.n 1) (.comp [5] (.call 30 [(.v 5)]) (.n 5) (.e (.v 0)) none), .new 2 (.lst []), .for_ (.n 3) (.r1 (.bi .len [(.ix (.v 1) (.c (.int 0)))])) b_best_shot_1, .ret (.ix (.bi .min [(.m 2)]) (.c (.int 1)))]⟩
def b__law_candidates_1 : List S := [.asg (.n 7) (.call 87 [(.v 0), (.m 1), (.v 5), (.v 6), (.c (.str [46, 114, 102]))]), .ife (.cmp .gt (.call 82 [(.v 0), (.m 1), (.c (.int 3))]) (.c (.int 0))) [.par [(8, false), (9, false)] [(.call 82 [(.v 0), (.m 1), (.v 5)]), (.call 82 [(.v 0), (.m 1), (.v 6)])], .frz 3, .asg (.n 7) (.call 88 [(.call 83 [(.v 0), (.m 1), (.v 3)]), (.v 8), (.v 9), (.call 83 [(.v 0), (.m 1), (.lst [(.c (.str [46])), (.c (.str [114])), (.c (.str [102]))])])])] [], .app 3 (.v 7)]
def f__law_candidates : Fn := ⟨3, 10, [1], [.par [(5, false), (6, false)] [(.bin .add (.c (.int 1)) (.call 82 [(.v 0), (.m 1), (.c (.int 3))])), (.bin .add (.c (.int 1)) (.call 82 [(.v 0), (.m 1), (.c (.int 3))]))], .new 3 (.lst [(.call 87 [(.v 0), (.m 1), (.v 5), (.v 6), (.call 83 [(.v 0), (.m 1), (.lst [(.c (.str [46, 114, 102])), (.c (.str [46, 114, 102, 35])), (.c (.str [114, 102]))])])])]), .for_ (.n 4) (.r1 (.call 82 [(.v 0), (.m 1), (.v 2)])) b__law_candidates_1, .ret (.bi .tuple [(.sset (.m 3))])]⟩
def b__law_least_1 : List S := [.asg (.n 8) (.call 154 [(.comp [7] (.v 7) (.n 7) (.e (.v 0)) (some (.cmp .eq (.ix (.v 7) (.v 3)) (.v 6)))), (.bin .sub (.v 1) (.c (.int 1)))]), .asg (.n 5) (.ifx (.or (.cmp .is_ (.v 8) (.c .non)) (.cmp .is_ (.v 5) (.c .non))) (.c .non) (.bi .max [(.v 5), (.v 8)]))]
def b__law_least_2 : List S := [.asg (.n 4) (.comp [7] (.ix (.v 7) (.v 3)) (.n 7) (.e (.v 0)) none), .ife (.cmp .ne (.comp [7] (.v 7) (.n 7) (.e (.v 4)) (some (.cmp .ne (.v 7) (.ix (.v 4) (.c (.int 0)))))) (.lst [])) [.asg (.n 5) (.c (.int 0)), .for_ (.n 6) (.e (.call 155 [(.v 4)])) b__law_least_1, .ife (.and (.cmp .isnot (.v 5) (.c .non)) (.or (.cmp .is_ (.v 2) (.c .non)) (.cmp .lt (.bin .add (.c (.int 1)) (.v 5)) (.v 2)))) [.asg (.n 2) (.bin .add (.c (.int 1)) (.v 5))] []] []]
def f__law_least : Fn := ⟨2, 9, [], [.ife (.cmp .eq (.comp [7] (.v 7) (.n 7) (.e (.v 0)) (some (.cmp .ne (.v 7) (.ix (.v 0) (.c (.int 0)))))) (.lst [])) [.ret (.c (.int 0))] [], .ife (.cmp .eq (.v 1) (.c (.int 0))) [.ret (.c .non)] [], .asg (.n 2) (.c .non), .for_ (.n 3) (.r1 (.bi .len [(.ix (.v 0) (.c (.int 0)))])) b__law_least_2, .ret (.v 2)]⟩
def f__law_once : Fn := ⟨1, 2, [], [.ret (.comp [1] (.ix (.v 0) (.v 1)) (.n 1) (.r1 (.bi .len [(.v 0)])) (some (.cmp .notin (.ix (.v 0) (.v 1)) (.sl (.v 0) none (some (.v 1))))))]⟩
def f__law_depth : Fn := ⟨1, 2, [], [.ret (.ifx (.cmp .is_ (.v 0) (.c .non)) (.c (.int 0)) (.bin .add (.c (.int 1)) (.bi .max [(.comp [1] (.call 156 [(.ix (.v 1) (.c (.int 1)))]) (.n 1) (.e (.ix (.v 0) (.c (.int 1)))) none)])))]⟩
def b__law_first_door_1 : List S := [.app 4 (.call 154 [(.comp [6] (.v 6) (.n 6) (.e (.v 0)) (some (.cmp .eq (.ix (.v 6) (.v 2)) (.v 5)))), (.c (.int 3))])]
def b__law_first_door_2 : List S := [.asg (.n 3) (.comp [6] (.ix (.v 6) (.v 2)) (.n 6) (.e (.v 0)) none), .new 4 (.lst []), .for_ (.n 5) (.e (.v 3)) b__law_first_door_1, .ife (.and (.cmp .ne (.comp [6] (.v 6) (.n 6) (.e (.v 3)) (some (.cmp .ne (.v 6) (.ix (.v 3) (.c (.int 0)))))) (.lst [])) (.and (.cmp .notin (.c .non) (.m 4)) (.cmp .eq (.bin .add (.c (.int 1)) (.bi .max [(.m 4)])) (.v 1)))) [.ret (.v 2)] []]
def f__law_first_door : Fn := ⟨2, 7, [], [.for_ (.n 2) (.r1 (.bi .len [(.ix (.v 0) (.c (.int 0)))])) b__law_first_door_2, .ret (.c .non)]⟩
def f_fewest_changes_2 : Fn := ⟨3, 4, [], [.ex (.call 103 [(.v 0), (.v 1), (.v 2)]), .asg (.n 3) (.call 120 [(.v 0), (.v 1), (.v 2)]), .ret (.ifx (.cmp .isnot (.v 3) (.c .non)) (.ix (.v 3) (.c (.int 0))) (.c .non))]⟩
def f_all_changes_2 : Fn := ⟨3, 4, [], [.ex (.call 103 [(.v 0), (.v 1), (.v 2)]), .asg (.n 3) (.call 120 [(.v 0), (.v 1), (.v 2)]), .ret (.ifx (.cmp .isnot (.v 3) (.c .non)) (.bi .tuple [(.ix (.v 3) (.c (.int 1)))]) (.tup []))]⟩
def b__law_choices_1 : List S := [.asg (.n 7) (.sset (.lst [(.c (.str [46])), (.c (.str [114])), (.c (.str [102])), (.ix (.ix (.v 0) (.v 3)) (.v 4))])), .asg (.n 5) (.bin .add (.v 5) (.comp [8] (.call 88 [(.v 6), (.v 3), (.v 4), (.v 8)]) (.n 8) (.e (.v 7)) none))]
def b__law_choices_2 : List S := [.asg (.n 5) (.lst []), .for_ (.n 6) (.e (.v 2)) b__law_choices_1, .asg (.n 2) (.v 5)]
def f__law_choices : Fn := ⟨2, 9, [], [.asg (.n 2) (.lst [(.v 0)]), .for_ (.t [3, 4]) (.e (.v 1)) b__law_choices_2, .ret (.v 2)]⟩
def b__law_wrong_2_1 : List S := [.app 4 (.tup [(.v 1), (.tup [(.v 0), (.v 5), (.c .non)]), (.c (.str [119, 105, 115, 104, 101, 115]))])]
def b__law_wrong_2_2 : List S := [.app 4 (.tup [(.v 1), (.tup [(.v 0), (.v 5), (.c .non)]), (.c (.str [119, 105, 115, 104, 101, 115]))])]
def b__law_wrong_2_3 : List S := [.app 4 (.tup [(.v 1), (.tup [(.v 0), (.v 2), (.v 5)]), (.c (.str [99, 101, 108, 108]))])]
def b__law_wrong_2_4 : List S := [.new 4 (.bin .add (.m 4) (.comp [5] (.tup [(.v 1), (.tup [(.v 5), (.c .non), (.c .non)]), (.c (.str [98, 111, 120]))]) (.n 5) (.e (.tup [(.c .non), (.tup []), (.tup [(.c (.str [120]))]), (.lst [(.c (.str [46, 114]))])])) none)), .app 4 (.tup [(.v 1), (.tup [(.tup [(.c (.str [82, 46]))]), (.c .non), (.c .non)]), (.c (.str [112, 108, 97, 105, 110]))]), .for_ (.n 5) (.e (.tup [(.c .non), (.tup []), (.c (.int 5)), (.lst [(.tup [(.c (.int 0)), (.c (.int 1))])]), (.tup [(.tup [(.c (.int 1)), (.c (.int 0))])]), (.tup [(.tup [(.c (.int 0)), (.c (.int 0))])]), (.tup [(.tup [(.c (.int 0)), (.c (.int 10))])]), (.tup [(.tup [(.neg (.c (.int 1))), (.c (.int 2))])]), (.tup [(.tup [(.c (.int 0)), (.c (.int 1))]), (.tup [(.c (.int 1)), (.c (.int 2))])])])) b__law_wrong_2_1, .for_ (.n 5) (.e (.tup [(.tup [(.tup [(.c (.int 2)), (.c (.int 3))]), (.tup [(.c (.int 0)), (.c (.int 1))])]), (.tup [(.tup [(.c (.int 0)), (.c (.int 1))]), (.tup [(.c (.int 0)), (.c (.int 1))])]), (.tup [(.tup [(.c (.int 0)), (.c (.int 1)), (.c (.int 2))])]), (.tup [(.c (.int 0)), (.c (.int 1))]), (.tup [(.tup [(.c (.int 0)), (.c (.int 1))]), (.tup [(.c (.int 2)), (.c (.int 3))]), (.tup [(.c (.int 4)), (.c (.int 5))]), (.tup [(.c (.int 6)), (.c (.int 7))]), (.tup [(.c (.int 8)), (.c (.int 9))])])])) b__law_wrong_2_2, .for_ (.n 5) (.e (.tup [(.c .non), (.c (.int 5)), (.lst [(.tup [(.c (.int 0)), (.c (.int 0))])]), (.tup [(.tup [(.c (.int 2)), (.c (.int 0))])]), (.tup [(.tup [(.c (.int 0)), (.c (.int 3))])]), (.tup [(.tup [(.neg (.c (.int 1))), (.c (.int 0))])]), (.tup [(.tup [(.c (.int 0)), (.c (.int 0))]), (.tup [(.c (.int 0)), (.c (.int 0))])]), (.tup [(.tup [(.c (.int 0)), (.c (.int 1))]), (.tup [(.c (.int 0)), (.c (.int 0))])]), (.tup [(.tup [(.c (.int 0))])])])) b__law_wrong_2_3, .new 4 (.bin .add (.m 4) (.lst [(.tup [(.v 1), (.tup [(.v 0), (.v 2), (.tup [(.tup [(.c (.int 0)), (.c (.bl true))])])]), (.c (.str [99, 101, 108, 108]))]), (.tup [(.v 1), (.tup [(.v 0), (.tup [(.tup [(.c (.int 0)), (.v 3)])]), (.c (.str [99, 101, 108, 108, 115]))]), (.c (.str [99, 101, 108, 108]))])]))]
def f__law_wrong_2 : Fn := ⟨1, 6, [], [.par [(2, false), (3, false), (4, true)] [(.tup [(.tup [(.c (.int 0)), (.c (.int 1))])]), (.c (.int 9)), (.lst [])], .for_ (.n 1) (.e (.tup [(.c (.int 0)), (.c (.int 1))])) b__law_wrong_2_4, .ret (.mv 4)]⟩
def f__law_place : Fn := ⟨4, 9, [], [.asg (.n 4) (.bin .add (.comp [8] (.tup [(.c (.int 0)), (.v 8)]) (.n 8) (.r1 (.v 1)) none) (.comp [8] (.tup [(.c (.int 1)), (.v 8)]) (.n 8) (.r1 (.v 2)) none)), .asg (.n 5) (.comp [8] (.tup [(.c (.int 1)), (.bin .add (.v 2) (.v 8))]) (.n 8) (.r1 (.v 0)) none), .asg (.n 6) (.bin .add (.comp [8] (.tup [(.c (.int 1)), (.bin .add (.bin .add (.v 2) (.v 0)) (.v 8))]) (.n 8) (.r1 (.v 2)) none) (.comp [8] (.tup [(.c (.int 0)), (.bin .add (.bin .add (.v 1) (.v 0)) (.v 8))]) (.n 8) (.r1 (.v 1)) none)), .asg (.n 7) (.comp [8] (.tup [(.c (.int 0)), (.bin .add (.bin .add (.bin .mul (.c (.int 2)) (.v 1)) (.v 0)) (.v 8))]) (.n 8) (.r1 (.v 0)) none), .ret (.ix (.bin .add (.bin .add (.bin .add (.v 4) (.v 5)) (.v 6)) (.v 7)) (.v 3))]⟩
def b__law_joined_1 : List S := [.asg (.t [11, 12]) (.ix (.ix (.tup [(.v 2), (.v 4)]) (.ix (.v 9) (.c (.int 0)))) (.ix (.v 9) (.c (.int 1)))), .asg (.n 10) (.bin .add (.v 10) (.v 12)), .ife (.or (.cmp .is_ (.v 11) (.c .non)) (.cmp .in_ (.tup [(.ix (.v 9) (.c (.int 0))), (.v 11)]) (.v 5))) [.app 6 (.tup [(.ifx (.cmp .is_ (.v 11) (.c .non)) (.c .non) (.mt .index (.v 5) [(.tup [(.ix (.v 9) (.c (.int 0))), (.v 11)])])), (.v 10)]), .asg (.n 9) (.c .non)] [.ife (.cmp .eq (.ix (.v 9) (.c (.int 0))) (.c (.int 0))) [.asg (.n 9) (.tup [(.c (.int 1)), (.bin .sub (.bin .sub (.bin .mul (.c (.int 2)) (.bin .add (.v 0) (.v 3))) (.c (.int 1))) (.bin .sub (.v 11) (.v 1)))])] [.asg (.n 9) (.tup [(.c (.int 0)), (.bin .sub (.bin .sub (.bin .add (.v 1) (.bin .mul (.c (.int 2)) (.bin .add (.v 0) (.v 3)))) (.c (.int 1))) (.v 11))])]]]
def b__law_joined_2 : List S := [.par [(9, false), (10, false)] [(.v 7), (.c (.int 0))], .whl (.cmp .isnot (.v 9) (.c .non)) b__law_joined_1]
def f__law_joined : Fn := ⟨5, 13, [], [.asg (.n 5) (.comp [8] (.call 164 [(.v 0), (.v 1), (.v 3), (.v 8)]) (.n 8) (.r1 (.bin .mul (.c (.int 2)) (.bin .add (.bin .add (.v 0) (.v 1)) (.v 3)))) none), .new 6 (.lst []), .for_ (.n 7) (.e (.v 5)) b__law_joined_2, .ret (.bi .tuple [(.m 6)])]⟩
def b__law_exchanged_1 : List S := [.asg (.t [7, 8]) (.ix (.v 2) (.v 6)), .seti 5 (.ix (.v 4) (.v 6)) (.tup [(.ifx (.cmp .is_ (.v 7) (.c .non)) (.c .non) (.ix (.v 4) (.v 7))), (.v 8)])]
def f__law_exchanged : Fn := ⟨3, 9, [], [.asg (.n 3) (.bin .mul (.tup [(.bin .mul (.c (.str [46])) (.v 1))]) (.v 0)), .asg (.n 4) (.comp [6] (.call 56 [(.v 3), (.c (.int 4)), (.v 6)]) (.n 6) (.r1 (.bi .len [(.v 2)])) none), .new 5 (.bin .mul (.lst [(.ix (.v 2) (.c (.int 0)))]) (.bi .len [(.v 2)])), .for_ (.n 6) (.r1 (.bi .len [(.v 2)])) b__law_exchanged_1, .ret (.bi .tuple [(.m 5)])]⟩
def b__law_quarter_1 : List S := [.app 2 (.mt .join (.c (.str [])) [(.comp [6] (.tix (.v 1) (.ix (.ix (.v 0) (.bin .sub (.bin .sub (.v 4) (.c (.int 1))) (.v 6))) (.v 3))) (.n 6) (.r1 (.v 4)) none)])]
def f__law_quarter : Fn := ⟨1, 7, [], [.par [(4, false), (5, false)] [(.bi .len [(.v 0)]), (.bi .len [(.ix (.v 0) (.c (.int 0)))])], .asg (.n 1) (.tdp [([46], [46]), ([35], [35]), ([114], [102]), ([102], [114]), ([82], [70]), ([70], [82])]), .new 2 (.lst []), .for_ (.n 3) (.r1 (.v 5)) b__law_quarter_1, .ret (.bi .tuple [(.m 2)])]⟩
def b__law_turned_1 : List S := [.asg (.n 3) (.call 167 [(.v 3)])]
def f__law_turned : Fn := ⟨2, 7, [], [.asg (.n 2) (.tdp [([46], [46]), ([35], [35]), ([114], [102]), ([102], [114]), ([82], [70]), ([70], [82])]), .asg (.n 3) (.v 0), .ife (.cmp .ge (.v 1) (.c (.int 4))) [.asg (.n 3) (.bi .tuple [(.comp [5] (.rev (.mt .join (.c (.str [])) [(.comp [6] (.tix (.v 2) (.v 6)) (.n 6) (.e (.v 5)) none)])) (.n 5) (.e (.v 0)) none)])] [], .for_ (.n 4) (.r1 (.bin .mod (.v 1) (.c (.int 4)))) b__law_turned_1, .ret (.v 3)]⟩
def b__law_fraction_1 : List S := [.par [(2, false), (3, false)] [(.v 3), (.bin .mod (.v 2) (.v 3))]]
def f__law_fraction : Fn := ⟨2, 4, [], [.par [(2, false), (3, false)] [(.bi .abs [(.v 0)]), (.v 1)], .whl (.cmp .ne (.v 3) (.c (.int 0))) b__law_fraction_1, .ret (.tup [(.bin .fdiv (.v 0) (.v 2)), (.bin .fdiv (.v 1) (.v 2))])]⟩
def f__law_plus : Fn := ⟨2, 2, [], [.ret (.call 169 [(.bin .add (.bin .mul (.ix (.v 0) (.c (.int 0))) (.ix (.v 1) (.c (.int 1)))) (.bin .mul (.ix (.v 1) (.c (.int 0))) (.ix (.v 0) (.c (.int 1))))), (.bin .mul (.ix (.v 0) (.c (.int 1))) (.ix (.v 1) (.c (.int 1))))])]⟩
def f__law_times : Fn := ⟨2, 2, [], [.ret (.call 169 [(.bin .mul (.ix (.v 0) (.c (.int 0))) (.ix (.v 1) (.c (.int 0)))), (.bin .mul (.ix (.v 0) (.c (.int 1))) (.ix (.v 1) (.c (.int 1))))])]⟩
def f__law_parts : Fn := ⟨4, 6, [], [.asg (.n 4) (.ix (.ix (.v 0) (.v 1)) (.v 2)), .ife (.cmp .eq (.v 4) (.c (.str [35]))) [.ret (.lst [])] [], .ife (.cmp .in_ (.v 4) (.c (.str [82, 70]))) [.asg (.n 5) (.or (.cmp .eq (.v 3) (.c (.int 2))) (.cmp .in_ (.tup [(.v 4), (.v 3)]) (.tup [(.tup [(.c (.str [82])), (.c (.int 1))]), (.tup [(.c (.str [70])), (.c (.int 3))])]))), .ret (.lst [(.tup [(.v 3), (.tup [(.c (.int 3)), (.c (.int 5))])]), (.tup [(.call 130 [(.v 4), (.v 3)]), (.tup [(.ifx (.v 5) (.c (.int 4)) (.neg (.c (.int 4)))), (.c (.int 5))])])])] [], .ret (.lst [(.tup [(.call 130 [(.v 4), (.v 3)]), (.tup [(.c (.int 1)), (.c (.int 1))])])])]⟩
def b__law_split_1 : List S := [.asg (.n 5) (.call 88 [(.v 5), (.v 6), (.v 7), (.call 83 [(.v 0), (.m 1), (.lst [(.c (.str [46])), (.c (.str [114])), (.c (.str [102]))])])])]
def f__law_split : Fn := ⟨5, 8, [1], [.asg (.n 5) (.call 92 [(.v 0), (.m 1), (.v 2), (.v 3), (.call 83 [(.v 0), (.m 1), (.lst [(.c (.str [46, 114, 102, 82, 70])), (.c (.str [114, 102, 82, 70])), (.c (.str [46, 114, 102, 35, 82, 70])), (.c (.str [82, 70, 46])), (.c (.str [82, 70, 82, 70, 35, 46]))])])]), .for_ (.t [6, 7]) (.e (.sl (.call 89 [(.v 5), (.c (.str [82, 70]))]) (some (.v 4)) none)) b__law_split_1, .ret (.v 5)]⟩
def f__law_less : Fn := ⟨3, 6, [], [.asg (.n 3) (.tup [(.bin .sub (.c (.int 0)) (.ix (.v 2) (.c (.int 0)))), (.ix (.v 2) (.c (.int 1)))]), .ret (.comp [4, 5] (.ifx (.cmp .eq (.ix (.v 5) (.c (.int 0))) (.c (.int 0))) (.v 4) (.call 170 [(.v 4), (.call 171 [(.v 3), (.v 5)])])) (.t [4, 5]) (.zp (.v 0) (.v 1)) none)]⟩
def b__law_rolled_1 : List S := [.asg (.n 6) (.ix (.ix (.v 0) (.v 3)) (.v 4)), .ife (.cmp .eq (.v 6) (.c (.str [35]))) [.ret (.tup [(.c .non), (.v 0)])] [], .ife (.cmp .in_ (.v 6) (.c (.str [114, 102]))) [.asg (.n 8) (.ifx (.cmp .eq (.v 6) (.c (.str [114]))) (.c (.str [102])) (.c (.str [114]))), .asg (.n 0) (.call 88 [(.v 0), (.v 3), (.v 4), (.v 8)]), .asg (.n 5) (.call 130 [(.ifx (.v 2) (.v 8) (.v 6)), (.v 5)])] [], .asg (.n 7) (.call 96 [(.v 3), (.v 4), (.v 5)]), .ife (.call 95 [(.v 0), (.ix (.v 7) (.c (.int 0))), (.ix (.v 7) (.c (.int 1)))]) [.asg (.n 9) (.tup [(.v 3), (.v 4), (.bin .mod (.bin .add (.v 5) (.c (.int 2))) (.c (.int 4)))]), .ret (.tup [(.ix (.comp [10] (.v 10) (.n 10) (.e (.call 93 [(.v 0)])) (some (.cmp .eq (.call 94 [(.v 0), (.v 10)]) (.v 9)))) (.c (.int 0))), (.v 0)])] [], .asg (.t [3, 4]) (.v 7)]
def f__law_rolled : Fn := ⟨3, 11, [], [.asg (.t [3, 4, 5]) (.call 94 [(.v 0), (.v 1)]), .whl (.c (.bl true)) b__law_rolled_1]⟩
def b_naive_recurrence_1 : List S := [.app 2 (.ix (.call 74 [(.ix (.m 2) (.neg (.c (.int 1)))), (.v 1), (.c (.bl false))]) (.c (.int 1)))]
def f_naive_recurrence : Fn := ⟨2, 4, [], [.ex (.call 73 [(.v 0)]), .ex (.call 12 [(.v 0), (.v 1)]), .new 2 (.lst [(.v 0)]), .whl (.cmp .notin (.ix (.m 2) (.neg (.c (.int 1)))) (.sl (.m 2) none (some (.neg (.c (.int 1)))))) b_naive_recurrence_1, .asg (.n 3) (.mt .index (.m 2) [(.ix (.m 2) (.neg (.c (.int 1))))]), .ret (.tup [(.v 3), (.bin .sub (.bin .sub (.bi .len [(.m 2)]) (.c (.int 1))) (.v 3))])]⟩
def f_box_text : Fn := ⟨1, 1, [], [.ret (.mt .join (.c (.str [47])) [(.v 0)])]⟩
def f_format_box : Fn := ⟨1, 1, [], [.ex (.call 6 [(.v 0)]), .ret (.call 185 [(.v 0)])]⟩
def f__law_call_8 : Fn := ⟨2, 2, [], [.ret (.ifx (.cmp .eq (.v 0) (.c (.int 0))) (.call 187 [(.v 1)]) (.call 186 [(.v 1)]))]⟩
def f__law_ring : Fn := ⟨1, 2, [], [.asg (.n 1) (.tup [(.c (.str [114, 102])), (.c (.str [102, 114]))]), .ife (.or (.cmp .ne (.call 43 [(.v 1)]) (.tup [(.tup [(.tup [(.c (.int 0)), (.c (.int 0)), (.c (.int 0))]), (.tup [(.c (.int 0)), (.c (.int 1)), (.c (.int 1))]), (.tup [(.c (.int 1)), (.c (.int 1)), (.c (.int 2))]), (.tup [(.c (.int 1)), (.c (.int 0)), (.c (.int 3))])])])) (.cmp .ne (.bi .len [(.call 40 [(.v 1)])]) (.c (.int 4)))) [.ret (.c (.bl false))] [], .ife (.or (.cmp .ne (.call 31 [(.v 1)]) (.tup [(.c (.int 7)), (.c (.int 2)), (.c (.int 1)), (.c (.int 4)), (.c (.int 3)), (.c (.int 6)), (.c (.int 5)), (.c (.int 0))])) (.cmp .ne (.call 36 [(.v 1)]) (.tup [(.tup [(.c (.int 0)), (.c (.int 0))]), (.tup [(.c (.int 0)), (.c (.int 1))]), (.tup [(.c (.int 1)), (.c (.int 0))]), (.tup [(.c (.int 1)), (.c (.int 1))])]))) [.ret (.c (.bl false))] [], .ife (.or (.cmp .ne (.call 57 [(.v 1)]) (.bi .tuple [(.lrg (.c (.int 8)))])) (.cmp .ne (.call 43 [(.call 20 [(.v 1), (.c (.int 0)), (.c (.int 0)), (.v 0)])]) (.tup []))) [.ret (.c (.bl false))] [], .ife (.cmp .ne (.call 142 [(.c (.int 2)), (.c (.int 2)), (.tup [(.tup [(.c (.int 0)), (.c (.int 7))]), (.tup [(.c (.int 1)), (.c (.int 2))]), (.tup [(.c (.int 3)), (.c (.int 4))]), (.tup [(.c (.int 5)), (.c (.int 6))])])]) (.tup [(.c (.str [46, 102])), (.c (.str [102, 114]))])) [.ret (.c (.bl false))] [], .ife (.or (.cmp .ne (.call 78 [(.tup [(.c (.str [114, 114])), (.c (.str [114, 102]))]), (.c (.int 0))]) (.tup [(.c (.int 3)), (.c (.int 13))])) (.cmp .ne (.call 78 [(.tup [(.c (.str [114, 114])), (.c (.str [102, 102]))]), (.c (.int 6))]) (.tup [(.c (.int 1)), (.c (.int 13))]))) [.ret (.c (.bl false))] [], .ret (.and (.cmp .eq (.call 80 [(.tup [(.c (.str [114])), (.c (.str [35]))])]) (.c (.int 2))) (.cmp .eq (.call 58 [(.v 1)]) (.v 1)))]⟩
def f__law_results : Fn := ⟨3, 4, [], [.asg (.n 3) (.lst [(.call 31 [(.v 0)]), (.call 29 [(.v 0)]), (.call 26 [(.v 0), (.v 1)]), (.call 27 [(.v 0), (.v 1)]), (.call 36 [(.v 0)]), (.call 40 [(.v 0)]), (.call 43 [(.v 0)])]), .asg (.n 3) (.bin .add (.v 3) (.lst [(.call 57 [(.v 0)]), (.call 58 [(.v 0)]), (.call 69 [(.v 0), (.v 1)]), (.call 70 [(.v 0), (.v 1)]), (.call 71 [(.v 0), (.v 1)])])), .asg (.n 3) (.bin .add (.v 3) (.lst [(.call 75 [(.v 0), (.v 1)]), (.call 76 [(.v 0), (.v 1)]), (.call 78 [(.v 0), (.v 1)]), (.call 80 [(.v 0)])])), .ret (.bin .add (.v 3) (.lst [(.call 72 [(.v 0), (.v 1), (.v 2), (.c (.int 9))]), (.call 32 [(.v 0), (.c (.int 0)), (.c (.int 0))]), (.call 186 [(.v 0)])]))]⟩
def FN : Nat → Option Fn
  | 1 => some f_is_between
  | 2 => some f_is_box
  | 3 => some f_has_signs
  | 4 => some f_is_plain
  | 5 => some f_is_free
  | 6 => some f_check_box
  | 7 => some f_check_plain
  | 8 => some f_check_free
  | 9 => some f_size_of
  | 10 => some f_check_pair
  | 11 => some f_doors_of
  | 12 => some f_check_door
  | 13 => some f_check_cell
  | 14 => some f_count_doors
  | 15 => some f_begin
  | 16 => some f_entrance
  | 17 => some f_beyond
  | 18 => some f_door_behind
  | 19 => some f_with_sign
  | 20 => some f_changed
  | 21 => some f_check_sign
  | 22 => some f_cells_with
  | 23 => some f_next_triple
  | 24 => some f_turn_at
  | 25 => some f_lit
  | 26 => some f_way
  | 27 => some f_leads
  | 28 => some f_rays_of
  | 29 => some f_rays
  | 30 => some f_table_of
  | 31 => some f_table
  | 32 => some f_doors_through
  | 33 => some f_same
  | 35 => some f_without
  | 36 => some f_needless
  | 37 => some f_greatest_needless
  | 38 => some f_side_of
  | 40 => some f_dark_sides
  | 41 => some f_behind
  | 42 => some f_round_from
  | 44 => some f_is_reverse
  | 45 => some f_borders_of
  | 46 => some f_moved_doors
  | 47 => some f_beside
  | 48 => some f_above
  | 49 => some f_put_in
  | 50 => some f_check_turn
  | 51 => some f_quarter
  | 52 => some f_exchanged
  | 53 => some f_turned_box
  | 54 => some f_turned
  | 55 => some f_door_after
  | 56 => some f_turned_door
  | 57 => some f_symmetries
  | 58 => some f_least_turned
  | 59 => some f_check_split
  | 60 => some f_fraction
  | 61 => some f_plus
  | 62 => some f_times
  | 63 => some f_goes_on
  | 64 => some f_run_on
  | 65 => some f_next_ends
  | 70 => some f_lost
  | 71 => some f_dark_doors
  | 73 => some f_check_mirrors
  | 74 => some f_rolled
  | 75 => some f_ball
  | 76 => some f_back_ball
  | 77 => some f_after_balls
  | 80 => some f_count_reached
  | 81 => some f__law_town
  | 82 => some f__law_draw
  | 83 => some f__law_pick
  | 86 => some f__law_raises
  | 87 => some f__law_sized
  | 88 => some f__law_with
  | 89 => some f__law_cells
  | 91 => some f__law_wrong
  | 92 => some f__law_box
  | 93 => some f__law_doors
  | 94 => some f__law_first
  | 95 => some f__law_out
  | 96 => some f__law_move
  | 97 => some f_check_size
  | 98 => some f_check_signs
  | 99 => some f_check_shots
  | 100 => some f_does_agree
  | 101 => some f_all_boxes
  | 102 => some f_found_boxes
  | 103 => some f_check_asked
  | 105 => some f_tables
  | 106 => some f_check_boxes
  | 107 => some f_agreeing
  | 110 => some f_tables_in
  | 111 => some f_fewest_for
  | 112 => some f_in_sequence
  | 113 => some f_plan_for
  | 115 => some f_does_part
  | 116 => some f_is_answer
  | 117 => some f_is_shot_plan
  | 118 => some f_are_wishes
  | 119 => some f_are_cells
  | 122 => some f_are_rays
  | 123 => some f_check_length
  | 124 => some f_check_rays
  | 125 => some f_place_of
  | 126 => some f_joined_rays
  | 127 => some f_across
  | 128 => some f_can_part
  | 129 => some f_naive_fewest_shots
  | 130 => some f__law_turn
  | 131 => some f__law_walk
  | 133 => some f__law_cells_and_sizes
  | 134 => some f__law_table
  | 135 => some f__law_emptied
  | 136 => some f__law_side
  | 137 => some f__law_next
  | 138 => some f__law_round
  | 139 => some f__law_cells_of
  | 140 => some f_check_asked_2
  | 141 => some f_boxes_for_2
  | 142 => some f_fewest_mirrors
  | 143 => some f_naive_boxes_for
  | 144 => some f__law_all
  | 145 => some f__law_longer
  | 147 => some f_sure_cells
  | 148 => some f_best_shot
  | 153 => some f__law_candidates
  | 154 => some f__law_least
  | 155 => some f__law_once
  | 156 => some f__law_depth
  | 157 => some f__law_first_door
  | 158 => some f_fewest_changes_2
  | 159 => some f_all_changes_2
  | 160 => some f__law_choices
  | 162 => some f__law_wrong_2
  | 164 => some f__law_place
  | 165 => some f__law_joined
  | 166 => some f__law_exchanged
  | 167 => some f__law_quarter
  | 168 => some f__law_turned
  | 169 => some f__law_fraction
  | 170 => some f__law_plus
  | 171 => some f__law_times
  | 172 => some f__law_parts
  | 173 => some f__law_split
  | 176 => some f__law_less
  | 180 => some f__law_rolled
  | 181 => some f_naive_recurrence
  | 185 => some f_box_text
  | 186 => some f_format_box
  | 188 => some f__law_call_8
  | 193 => some f__law_ring
  | 194 => some f__law_results
  | _ => none
def withLaw (l : Fn) : Nat → Option Fn
  | 0 => some l
  | n + 1 => FN (n + 1)
def GL (n : Str) : Option D := if n = "SIGNS" then some (.str [46, 114, 102, 35, 82, 70]) else if n = "STEPS" then some (.tup [(.tup [(.int (-1)), (.int 0)]), (.tup [(.int 0), (.int 1)]), (.tup [(.int 1), (.int 0)]), (.tup [(.int 0), (.int (-1))])]) else if n = "OTHER" then some (.dic [(.str [46], .tup [(.str [46])]), (.str [35], .tup [(.str [35])]), (.str [114], .tup [(.str [102])]), (.str [102], .tup [(.str [114])]), (.str [82], .tup [(.str [70])]), (.str [70], .tup [(.str [82])])]) else if n = "SLANTS" then some (.dic [(.str [114], .tup [(.str [102])]), (.str [102], .tup [(.str [114])]), (.str [46], .tup []), (.str [35], .tup []), (.str [82], .tup []), (.str [70], .tup [])]) else none
def WF : Nat := 128 ^ 30
def TT (l : Fn) : Pg := ⟨withLaw l, GL, WF⟩
@[simp] theorem cfn_is_between {l : Fn} {c : Nat → List D → Out} {io : List Nat} : (cfg (TT l) c io).fn 1 = some ([], c 1) := (rfl)
@[simp] theorem cfn_is_box {l : Fn} {c : Nat → List D → Out} {io : List Nat} : (cfg (TT l) c io).fn 2 = some ([], c 2) := (rfl)
@[simp] theorem cfn_has_signs {l : Fn} {c : Nat → List D → Out} {io : List Nat} : (cfg (TT l) c io).fn 3 = some ([], c 3) := (rfl)
@[simp] theorem cfn_is_plain {l : Fn} {c : Nat → List D → Out} {io : List Nat} : (cfg (TT l) c io).fn 4 = some ([], c 4) := (rfl)
@[simp] theorem cfn_is_free {l : Fn} {c : Nat → List D → Out} {io : List Nat} : (cfg (TT l) c io).fn 5 = some ([], c 5) := (rfl)
@[simp] theorem cfn_check_box {l : Fn} {c : Nat → List D → Out} {io : List Nat} : (cfg (TT l) c io).fn 6 = some ([], c 6) := (rfl)
@[simp] theorem cfn_check_plain {l : Fn} {c : Nat → List D → Out} {io : List Nat} : (cfg (TT l) c io).fn 7 = some ([], c 7) := (rfl)
@[simp] theorem cfn_check_free {l : Fn} {c : Nat → List D → Out} {io : List Nat} : (cfg (TT l) c io).fn 8 = some ([], c 8) := (rfl)
@[simp] theorem cfn_size_of {l : Fn} {c : Nat → List D → Out} {io : List Nat} : (cfg (TT l) c io).fn 9 = some ([], c 9) := (rfl)
@[simp] theorem cfn_check_pair {l : Fn} {c : Nat → List D → Out} {io : List Nat} : (cfg (TT l) c io).fn 10 = some ([], c 10) := (rfl)
@[simp] theorem cfn_doors_of {l : Fn} {c : Nat → List D → Out} {io : List Nat} : (cfg (TT l) c io).fn 11 = some ([], c 11) := (rfl)
@[simp] theorem cfn_check_door {l : Fn} {c : Nat → List D → Out} {io : List Nat} : (cfg (TT l) c io).fn 12 = some ([], c 12) := (rfl)
@[simp] theorem cfn_check_cell {l : Fn} {c : Nat → List D → Out} {io : List Nat} : (cfg (TT l) c io).fn 13 = some ([], c 13) := (rfl)
@[simp] theorem cfn_count_doors {l : Fn} {c : Nat → List D → Out} {io : List Nat} : (cfg (TT l) c io).fn 14 = some ([], c 14) := (rfl)
@[simp] theorem cfn_begin {l : Fn} {c : Nat → List D → Out} {io : List Nat} : (cfg (TT l) c io).fn 15 = some ([], c 15) := (rfl)
@[simp] theorem cfn_entrance {l : Fn} {c : Nat → List D → Out} {io : List Nat} : (cfg (TT l) c io).fn 16 = some ([], c 16) := (rfl)
@[simp] theorem cfn_beyond {l : Fn} {c : Nat → List D → Out} {io : List Nat} : (cfg (TT l) c io).fn 17 = some ([], c 17) := (rfl)
@[simp] theorem cfn_door_behind {l : Fn} {c : Nat → List D → Out} {io : List Nat} : (cfg (TT l) c io).fn 18 = some ([], c 18) := (rfl)
@[simp] theorem cfn_with_sign {l : Fn} {c : Nat → List D → Out} {io : List Nat} : (cfg (TT l) c io).fn 19 = some ([], c 19) := (rfl)
@[simp] theorem cfn_changed {l : Fn} {c : Nat → List D → Out} {io : List Nat} : (cfg (TT l) c io).fn 20 = some ([], c 20) := (rfl)
@[simp] theorem cfn_check_sign {l : Fn} {c : Nat → List D → Out} {io : List Nat} : (cfg (TT l) c io).fn 21 = some ([], c 21) := (rfl)
@[simp] theorem cfn_cells_with {l : Fn} {c : Nat → List D → Out} {io : List Nat} : (cfg (TT l) c io).fn 22 = some ([], c 22) := (rfl)
@[simp] theorem cfn_next_triple {l : Fn} {c : Nat → List D → Out} {io : List Nat} : (cfg (TT l) c io).fn 23 = some ([], c 23) := (rfl)
@[simp] theorem cfn_turn_at {l : Fn} {c : Nat → List D → Out} {io : List Nat} : (cfg (TT l) c io).fn 24 = some ([], c 24) := (rfl)
@[simp] theorem cfn_lit {l : Fn} {c : Nat → List D → Out} {io : List Nat} : (cfg (TT l) c io).fn 25 = some ([], c 25) := (rfl)
@[simp] theorem cfn_way {l : Fn} {c : Nat → List D → Out} {io : List Nat} : (cfg (TT l) c io).fn 26 = some ([], c 26) := (rfl)
@[simp] theorem cfn_leads {l : Fn} {c : Nat → List D → Out} {io : List Nat} : (cfg (TT l) c io).fn 27 = some ([], c 27) := (rfl)
@[simp] theorem cfn_rays_of {l : Fn} {c : Nat → List D → Out} {io : List Nat} : (cfg (TT l) c io).fn 28 = some ([], c 28) := (rfl)
@[simp] theorem cfn_rays {l : Fn} {c : Nat → List D → Out} {io : List Nat} : (cfg (TT l) c io).fn 29 = some ([], c 29) := (rfl)
@[simp] theorem cfn_table_of {l : Fn} {c : Nat → List D → Out} {io : List Nat} : (cfg (TT l) c io).fn 30 = some ([], c 30) := (rfl)
@[simp] theorem cfn_table {l : Fn} {c : Nat → List D → Out} {io : List Nat} : (cfg (TT l) c io).fn 31 = some ([], c 31) := (rfl)
@[simp] theorem cfn_doors_through {l : Fn} {c : Nat → List D → Out} {io : List Nat} : (cfg (TT l) c io).fn 32 = some ([], c 32) := (rfl)
@[simp] theorem cfn_same {l : Fn} {c : Nat → List D → Out} {io : List Nat} : (cfg (TT l) c io).fn 33 = some ([], c 33) := (rfl)
@[simp] theorem cfn_without {l : Fn} {c : Nat → List D → Out} {io : List Nat} : (cfg (TT l) c io).fn 35 = some ([], c 35) := (rfl)
@[simp] theorem cfn_needless {l : Fn} {c : Nat → List D → Out} {io : List Nat} : (cfg (TT l) c io).fn 36 = some ([], c 36) := (rfl)
@[simp] theorem cfn_greatest_needless {l : Fn} {c : Nat → List D → Out} {io : List Nat} : (cfg (TT l) c io).fn 37 = some ([], c 37) := (rfl)
@[simp] theorem cfn_side_of {l : Fn} {c : Nat → List D → Out} {io : List Nat} : (cfg (TT l) c io).fn 38 = some ([], c 38) := (rfl)
@[simp] theorem cfn_dark_sides {l : Fn} {c : Nat → List D → Out} {io : List Nat} : (cfg (TT l) c io).fn 40 = some ([], c 40) := (rfl)
@[simp] theorem cfn_behind {l : Fn} {c : Nat → List D → Out} {io : List Nat} : (cfg (TT l) c io).fn 41 = some ([], c 41) := (rfl)
@[simp] theorem cfn_round_from {l : Fn} {c : Nat → List D → Out} {io : List Nat} : (cfg (TT l) c io).fn 42 = some ([], c 42) := (rfl)
@[simp] theorem cfn_is_reverse {l : Fn} {c : Nat → List D → Out} {io : List Nat} : (cfg (TT l) c io).fn 44 = some ([], c 44) := (rfl)
@[simp] theorem cfn_borders_of {l : Fn} {c : Nat → List D → Out} {io : List Nat} : (cfg (TT l) c io).fn 45 = some ([], c 45) := (rfl)
@[simp] theorem cfn_moved_doors {l : Fn} {c : Nat → List D → Out} {io : List Nat} : (cfg (TT l) c io).fn 46 = some ([], c 46) := (rfl)
@[simp] theorem cfn_beside {l : Fn} {c : Nat → List D → Out} {io : List Nat} : (cfg (TT l) c io).fn 47 = some ([], c 47) := (rfl)
@[simp] theorem cfn_above {l : Fn} {c : Nat → List D → Out} {io : List Nat} : (cfg (TT l) c io).fn 48 = some ([], c 48) := (rfl)
@[simp] theorem cfn_put_in {l : Fn} {c : Nat → List D → Out} {io : List Nat} : (cfg (TT l) c io).fn 49 = some ([], c 49) := (rfl)
@[simp] theorem cfn_check_turn {l : Fn} {c : Nat → List D → Out} {io : List Nat} : (cfg (TT l) c io).fn 50 = some ([], c 50) := (rfl)
@[simp] theorem cfn_quarter {l : Fn} {c : Nat → List D → Out} {io : List Nat} : (cfg (TT l) c io).fn 51 = some ([], c 51) := (rfl)
@[simp] theorem cfn_exchanged {l : Fn} {c : Nat → List D → Out} {io : List Nat} : (cfg (TT l) c io).fn 52 = some ([], c 52) := (rfl)
@[simp] theorem cfn_turned_box {l : Fn} {c : Nat → List D → Out} {io : List Nat} : (cfg (TT l) c io).fn 53 = some ([], c 53) := (rfl)
@[simp] theorem cfn_turned {l : Fn} {c : Nat → List D → Out} {io : List Nat} : (cfg (TT l) c io).fn 54 = some ([], c 54) := (rfl)
@[simp] theorem cfn_door_after {l : Fn} {c : Nat → List D → Out} {io : List Nat} : (cfg (TT l) c io).fn 55 = some ([], c 55) := (rfl)
@[simp] theorem cfn_turned_door {l : Fn} {c : Nat → List D → Out} {io : List Nat} : (cfg (TT l) c io).fn 56 = some ([], c 56) := (rfl)
@[simp] theorem cfn_symmetries {l : Fn} {c : Nat → List D → Out} {io : List Nat} : (cfg (TT l) c io).fn 57 = some ([], c 57) := (rfl)
@[simp] theorem cfn_least_turned {l : Fn} {c : Nat → List D → Out} {io : List Nat} : (cfg (TT l) c io).fn 58 = some ([], c 58) := (rfl)
@[simp] theorem cfn_check_split {l : Fn} {c : Nat → List D → Out} {io : List Nat} : (cfg (TT l) c io).fn 59 = some ([], c 59) := (rfl)
@[simp] theorem cfn_fraction {l : Fn} {c : Nat → List D → Out} {io : List Nat} : (cfg (TT l) c io).fn 60 = some ([], c 60) := (rfl)
@[simp] theorem cfn_plus {l : Fn} {c : Nat → List D → Out} {io : List Nat} : (cfg (TT l) c io).fn 61 = some ([], c 61) := (rfl)
@[simp] theorem cfn_times {l : Fn} {c : Nat → List D → Out} {io : List Nat} : (cfg (TT l) c io).fn 62 = some ([], c 62) := (rfl)
@[simp] theorem cfn_goes_on {l : Fn} {c : Nat → List D → Out} {io : List Nat} : (cfg (TT l) c io).fn 63 = some ([], c 63) := (rfl)
@[simp] theorem cfn_run_on {l : Fn} {c : Nat → List D → Out} {io : List Nat} : (cfg (TT l) c io).fn 64 = some ([], c 64) := (rfl)
@[simp] theorem cfn_next_ends {l : Fn} {c : Nat → List D → Out} {io : List Nat} : (cfg (TT l) c io).fn 65 = some ([], c 65) := (rfl)
@[simp] theorem cfn_lost {l : Fn} {c : Nat → List D → Out} {io : List Nat} : (cfg (TT l) c io).fn 70 = some ([], c 70) := (rfl)
@[simp] theorem cfn_dark_doors {l : Fn} {c : Nat → List D → Out} {io : List Nat} : (cfg (TT l) c io).fn 71 = some ([], c 71) := (rfl)
@[simp] theorem cfn_check_mirrors {l : Fn} {c : Nat → List D → Out} {io : List Nat} : (cfg (TT l) c io).fn 73 = some ([], c 73) := (rfl)
@[simp] theorem cfn_rolled {l : Fn} {c : Nat → List D → Out} {io : List Nat} : (cfg (TT l) c io).fn 74 = some ([], c 74) := (rfl)
@[simp] theorem cfn_ball {l : Fn} {c : Nat → List D → Out} {io : List Nat} : (cfg (TT l) c io).fn 75 = some ([], c 75) := (rfl)
@[simp] theorem cfn_back_ball {l : Fn} {c : Nat → List D → Out} {io : List Nat} : (cfg (TT l) c io).fn 76 = some ([], c 76) := (rfl)
@[simp] theorem cfn_after_balls {l : Fn} {c : Nat → List D → Out} {io : List Nat} : (cfg (TT l) c io).fn 77 = some ([], c 77) := (rfl)
@[simp] theorem cfn_count_reached {l : Fn} {c : Nat → List D → Out} {io : List Nat} : (cfg (TT l) c io).fn 80 = some ([], c 80) := (rfl)
@[simp] theorem cfn__law_town {l : Fn} {c : Nat → List D → Out} {io : List Nat} : (cfg (TT l) c io).fn 81 = some ([], c 81) := (rfl)
@[simp] theorem cfn__law_draw {l : Fn} {c : Nat → List D → Out} {io : List Nat} : (cfg (TT l) c io).fn 82 = some ([1], c 82) := (rfl)
@[simp] theorem cfn__law_pick {l : Fn} {c : Nat → List D → Out} {io : List Nat} : (cfg (TT l) c io).fn 83 = some ([1], c 83) := (rfl)
@[simp] theorem cfn__law_raises {l : Fn} {c : Nat → List D → Out} {io : List Nat} : (cfg (TT l) c io).fn 86 = some ([], c 86) := (rfl)
@[simp] theorem cfn__law_sized {l : Fn} {c : Nat → List D → Out} {io : List Nat} : (cfg (TT l) c io).fn 87 = some ([1], c 87) := (rfl)
@[simp] theorem cfn__law_with {l : Fn} {c : Nat → List D → Out} {io : List Nat} : (cfg (TT l) c io).fn 88 = some ([], c 88) := (rfl)
@[simp] theorem cfn__law_cells {l : Fn} {c : Nat → List D → Out} {io : List Nat} : (cfg (TT l) c io).fn 89 = some ([], c 89) := (rfl)
@[simp] theorem cfn__law_wrong {l : Fn} {c : Nat → List D → Out} {io : List Nat} : (cfg (TT l) c io).fn 91 = some ([], c 91) := (rfl)
@[simp] theorem cfn__law_box {l : Fn} {c : Nat → List D → Out} {io : List Nat} : (cfg (TT l) c io).fn 92 = some ([1], c 92) := (rfl)
@[simp] theorem cfn__law_doors {l : Fn} {c : Nat → List D → Out} {io : List Nat} : (cfg (TT l) c io).fn 93 = some ([], c 93) := (rfl)
@[simp] theorem cfn__law_first {l : Fn} {c : Nat → List D → Out} {io : List Nat} : (cfg (TT l) c io).fn 94 = some ([], c 94) := (rfl)
@[simp] theorem cfn__law_out {l : Fn} {c : Nat → List D → Out} {io : List Nat} : (cfg (TT l) c io).fn 95 = some ([], c 95) := (rfl)
@[simp] theorem cfn__law_move {l : Fn} {c : Nat → List D → Out} {io : List Nat} : (cfg (TT l) c io).fn 96 = some ([], c 96) := (rfl)
@[simp] theorem cfn_check_size {l : Fn} {c : Nat → List D → Out} {io : List Nat} : (cfg (TT l) c io).fn 97 = some ([], c 97) := (rfl)
@[simp] theorem cfn_check_signs {l : Fn} {c : Nat → List D → Out} {io : List Nat} : (cfg (TT l) c io).fn 98 = some ([], c 98) := (rfl)
@[simp] theorem cfn_check_shots {l : Fn} {c : Nat → List D → Out} {io : List Nat} : (cfg (TT l) c io).fn 99 = some ([], c 99) := (rfl)
@[simp] theorem cfn_does_agree {l : Fn} {c : Nat → List D → Out} {io : List Nat} : (cfg (TT l) c io).fn 100 = some ([], c 100) := (rfl)
@[simp] theorem cfn_all_boxes {l : Fn} {c : Nat → List D → Out} {io : List Nat} : (cfg (TT l) c io).fn 101 = some ([], c 101) := (rfl)
@[simp] theorem cfn_found_boxes {l : Fn} {c : Nat → List D → Out} {io : List Nat} : (cfg (TT l) c io).fn 102 = some ([], c 102) := (rfl)
@[simp] theorem cfn_check_asked {l : Fn} {c : Nat → List D → Out} {io : List Nat} : (cfg (TT l) c io).fn 103 = some ([], c 103) := (rfl)
@[simp] theorem cfn_tables {l : Fn} {c : Nat → List D → Out} {io : List Nat} : (cfg (TT l) c io).fn 105 = some ([], c 105) := (rfl)
@[simp] theorem cfn_check_boxes {l : Fn} {c : Nat → List D → Out} {io : List Nat} : (cfg (TT l) c io).fn 106 = some ([], c 106) := (rfl)
@[simp] theorem cfn_agreeing {l : Fn} {c : Nat → List D → Out} {io : List Nat} : (cfg (TT l) c io).fn 107 = some ([], c 107) := (rfl)
@[simp] theorem cfn_tables_in {l : Fn} {c : Nat → List D → Out} {io : List Nat} : (cfg (TT l) c io).fn 110 = some ([], c 110) := (rfl)
@[simp] theorem cfn_fewest_for {l : Fn} {c : Nat → List D → Out} {io : List Nat} : (cfg (TT l) c io).fn 111 = some ([1], c 111) := (rfl)
@[simp] theorem cfn_in_sequence {l : Fn} {c : Nat → List D → Out} {io : List Nat} : (cfg (TT l) c io).fn 112 = some ([], c 112) := (rfl)
@[simp] theorem cfn_plan_for {l : Fn} {c : Nat → List D → Out} {io : List Nat} : (cfg (TT l) c io).fn 113 = some ([1], c 113) := (rfl)
@[simp] theorem cfn_does_part {l : Fn} {c : Nat → List D → Out} {io : List Nat} : (cfg (TT l) c io).fn 115 = some ([], c 115) := (rfl)
@[simp] theorem cfn_is_answer {l : Fn} {c : Nat → List D → Out} {io : List Nat} : (cfg (TT l) c io).fn 116 = some ([], c 116) := (rfl)
@[simp] theorem cfn_is_shot_plan {l : Fn} {c : Nat → List D → Out} {io : List Nat} : (cfg (TT l) c io).fn 117 = some ([], c 117) := (rfl)
@[simp] theorem cfn_are_wishes {l : Fn} {c : Nat → List D → Out} {io : List Nat} : (cfg (TT l) c io).fn 118 = some ([], c 118) := (rfl)
@[simp] theorem cfn_are_cells {l : Fn} {c : Nat → List D → Out} {io : List Nat} : (cfg (TT l) c io).fn 119 = some ([], c 119) := (rfl)
@[simp] theorem cfn_are_rays {l : Fn} {c : Nat → List D → Out} {io : List Nat} : (cfg (TT l) c io).fn 122 = some ([], c 122) := (rfl)
@[simp] theorem cfn_check_length {l : Fn} {c : Nat → List D → Out} {io : List Nat} : (cfg (TT l) c io).fn 123 = some ([], c 123) := (rfl)
@[simp] theorem cfn_check_rays {l : Fn} {c : Nat → List D → Out} {io : List Nat} : (cfg (TT l) c io).fn 124 = some ([], c 124) := (rfl)
@[simp] theorem cfn_place_of {l : Fn} {c : Nat → List D → Out} {io : List Nat} : (cfg (TT l) c io).fn 125 = some ([], c 125) := (rfl)
@[simp] theorem cfn_joined_rays {l : Fn} {c : Nat → List D → Out} {io : List Nat} : (cfg (TT l) c io).fn 126 = some ([], c 126) := (rfl)
@[simp] theorem cfn_across {l : Fn} {c : Nat → List D → Out} {io : List Nat} : (cfg (TT l) c io).fn 127 = some ([], c 127) := (rfl)
@[simp] theorem cfn_can_part {l : Fn} {c : Nat → List D → Out} {io : List Nat} : (cfg (TT l) c io).fn 128 = some ([], c 128) := (rfl)
@[simp] theorem cfn_naive_fewest_shots {l : Fn} {c : Nat → List D → Out} {io : List Nat} : (cfg (TT l) c io).fn 129 = some ([], c 129) := (rfl)
@[simp] theorem cfn__law_turn {l : Fn} {c : Nat → List D → Out} {io : List Nat} : (cfg (TT l) c io).fn 130 = some ([], c 130) := (rfl)
@[simp] theorem cfn__law_walk {l : Fn} {c : Nat → List D → Out} {io : List Nat} : (cfg (TT l) c io).fn 131 = some ([], c 131) := (rfl)
@[simp] theorem cfn__law_cells_and_sizes {l : Fn} {c : Nat → List D → Out} {io : List Nat} : (cfg (TT l) c io).fn 133 = some ([], c 133) := (rfl)
@[simp] theorem cfn__law_table {l : Fn} {c : Nat → List D → Out} {io : List Nat} : (cfg (TT l) c io).fn 134 = some ([], c 134) := (rfl)
@[simp] theorem cfn__law_emptied {l : Fn} {c : Nat → List D → Out} {io : List Nat} : (cfg (TT l) c io).fn 135 = some ([], c 135) := (rfl)
@[simp] theorem cfn__law_side {l : Fn} {c : Nat → List D → Out} {io : List Nat} : (cfg (TT l) c io).fn 136 = some ([], c 136) := (rfl)
@[simp] theorem cfn__law_next {l : Fn} {c : Nat → List D → Out} {io : List Nat} : (cfg (TT l) c io).fn 137 = some ([], c 137) := (rfl)
@[simp] theorem cfn__law_round {l : Fn} {c : Nat → List D → Out} {io : List Nat} : (cfg (TT l) c io).fn 138 = some ([], c 138) := (rfl)
@[simp] theorem cfn__law_cells_of {l : Fn} {c : Nat → List D → Out} {io : List Nat} : (cfg (TT l) c io).fn 139 = some ([], c 139) := (rfl)
@[simp] theorem cfn_check_asked_2 {l : Fn} {c : Nat → List D → Out} {io : List Nat} : (cfg (TT l) c io).fn 140 = some ([], c 140) := (rfl)
@[simp] theorem cfn_boxes_for_2 {l : Fn} {c : Nat → List D → Out} {io : List Nat} : (cfg (TT l) c io).fn 141 = some ([], c 141) := (rfl)
@[simp] theorem cfn_fewest_mirrors {l : Fn} {c : Nat → List D → Out} {io : List Nat} : (cfg (TT l) c io).fn 142 = some ([], c 142) := (rfl)
@[simp] theorem cfn_naive_boxes_for {l : Fn} {c : Nat → List D → Out} {io : List Nat} : (cfg (TT l) c io).fn 143 = some ([], c 143) := (rfl)
@[simp] theorem cfn__law_all {l : Fn} {c : Nat → List D → Out} {io : List Nat} : (cfg (TT l) c io).fn 144 = some ([], c 144) := (rfl)
@[simp] theorem cfn__law_longer {l : Fn} {c : Nat → List D → Out} {io : List Nat} : (cfg (TT l) c io).fn 145 = some ([], c 145) := (rfl)
@[simp] theorem cfn_sure_cells {l : Fn} {c : Nat → List D → Out} {io : List Nat} : (cfg (TT l) c io).fn 147 = some ([], c 147) := (rfl)
@[simp] theorem cfn_best_shot {l : Fn} {c : Nat → List D → Out} {io : List Nat} : (cfg (TT l) c io).fn 148 = some ([], c 148) := (rfl)
@[simp] theorem cfn__law_candidates {l : Fn} {c : Nat → List D → Out} {io : List Nat} : (cfg (TT l) c io).fn 153 = some ([1], c 153) := (rfl)
@[simp] theorem cfn__law_least {l : Fn} {c : Nat → List D → Out} {io : List Nat} : (cfg (TT l) c io).fn 154 = some ([], c 154) := (rfl)
@[simp] theorem cfn__law_once {l : Fn} {c : Nat → List D → Out} {io : List Nat} : (cfg (TT l) c io).fn 155 = some ([], c 155) := (rfl)
@[simp] theorem cfn__law_depth {l : Fn} {c : Nat → List D → Out} {io : List Nat} : (cfg (TT l) c io).fn 156 = some ([], c 156) := (rfl)
@[simp] theorem cfn__law_first_door {l : Fn} {c : Nat → List D → Out} {io : List Nat} : (cfg (TT l) c io).fn 157 = some ([], c 157) := (rfl)
@[simp] theorem cfn_fewest_changes_2 {l : Fn} {c : Nat → List D → Out} {io : List Nat} : (cfg (TT l) c io).fn 158 = some ([], c 158) := (rfl)
@[simp] theorem cfn_all_changes_2 {l : Fn} {c : Nat → List D → Out} {io : List Nat} : (cfg (TT l) c io).fn 159 = some ([], c 159) := (rfl)
@[simp] theorem cfn__law_choices {l : Fn} {c : Nat → List D → Out} {io : List Nat} : (cfg (TT l) c io).fn 160 = some ([], c 160) := (rfl)
@[simp] theorem cfn__law_wrong_2 {l : Fn} {c : Nat → List D → Out} {io : List Nat} : (cfg (TT l) c io).fn 162 = some ([], c 162) := (rfl)
@[simp] theorem cfn__law_place {l : Fn} {c : Nat → List D → Out} {io : List Nat} : (cfg (TT l) c io).fn 164 = some ([], c 164) := (rfl)
@[simp] theorem cfn__law_joined {l : Fn} {c : Nat → List D → Out} {io : List Nat} : (cfg (TT l) c io).fn 165 = some ([], c 165) := (rfl)
@[simp] theorem cfn__law_exchanged {l : Fn} {c : Nat → List D → Out} {io : List Nat} : (cfg (TT l) c io).fn 166 = some ([], c 166) := (rfl)
@[simp] theorem cfn__law_quarter {l : Fn} {c : Nat → List D → Out} {io : List Nat} : (cfg (TT l) c io).fn 167 = some ([], c 167) := (rfl)
@[simp] theorem cfn__law_turned {l : Fn} {c : Nat → List D → Out} {io : List Nat} : (cfg (TT l) c io).fn 168 = some ([], c 168) := (rfl)
@[simp] theorem cfn__law_fraction {l : Fn} {c : Nat → List D → Out} {io : List Nat} : (cfg (TT l) c io).fn 169 = some ([], c 169) := (rfl)
@[simp] theorem cfn__law_plus {l : Fn} {c : Nat → List D → Out} {io : List Nat} : (cfg (TT l) c io).fn 170 = some ([], c 170) := (rfl)
@[simp] theorem cfn__law_times {l : Fn} {c : Nat → List D → Out} {io : List Nat} : (cfg (TT l) c io).fn 171 = some ([], c 171) := (rfl)
@[simp] theorem cfn__law_parts {l : Fn} {c : Nat → List D → Out} {io : List Nat} : (cfg (TT l) c io).fn 172 = some ([], c 172) := (rfl)
@[simp] theorem cfn__law_split {l : Fn} {c : Nat → List D → Out} {io : List Nat} : (cfg (TT l) c io).fn 173 = some ([1], c 173) := (rfl)
@[simp] theorem cfn__law_less {l : Fn} {c : Nat → List D → Out} {io : List Nat} : (cfg (TT l) c io).fn 176 = some ([], c 176) := (rfl)
@[simp] theorem cfn__law_rolled {l : Fn} {c : Nat → List D → Out} {io : List Nat} : (cfg (TT l) c io).fn 180 = some ([], c 180) := (rfl)
@[simp] theorem cfn_naive_recurrence {l : Fn} {c : Nat → List D → Out} {io : List Nat} : (cfg (TT l) c io).fn 181 = some ([], c 181) := (rfl)
@[simp] theorem cfn_box_text {l : Fn} {c : Nat → List D → Out} {io : List Nat} : (cfg (TT l) c io).fn 185 = some ([], c 185) := (rfl)
@[simp] theorem cfn_format_box {l : Fn} {c : Nat → List D → Out} {io : List Nat} : (cfg (TT l) c io).fn 186 = some ([], c 186) := (rfl)
@[simp] theorem cfn__law_call_8 {l : Fn} {c : Nat → List D → Out} {io : List Nat} : (cfg (TT l) c io).fn 188 = some ([], c 188) := (rfl)
@[simp] theorem cfn__law_ring {l : Fn} {c : Nat → List D → Out} {io : List Nat} : (cfg (TT l) c io).fn 193 = some ([], c 193) := (rfl)
@[simp] theorem cfn__law_results {l : Fn} {c : Nat → List D → Out} {io : List Nat} : (cfg (TT l) c io).fn 194 = some ([], c 194) := (rfl)
@[simp] theorem GL_SIGNS : GL "SIGNS" = some (.str [46, 114, 102, 35, 82, 70]) := (rfl)
@[simp] theorem GL_STEPS : GL "STEPS" = some (.tup [(.tup [(.int (-1)), (.int 0)]), (.tup [(.int 0), (.int 1)]), (.tup [(.int 1), (.int 0)]), (.tup [(.int 0), (.int (-1))])]) := (rfl)
@[simp] theorem GL_OTHER : GL "OTHER" = some (.dic [(.str [46], .tup [(.str [46])]), (.str [35], .tup [(.str [35])]), (.str [114], .tup [(.str [102])]), (.str [102], .tup [(.str [114])]), (.str [82], .tup [(.str [70])]), (.str [70], .tup [(.str [82])])]) := (rfl)
@[simp] theorem GL_SLANTS : GL "SLANTS" = some (.dic [(.str [114], .tup [(.str [102])]), (.str [102], .tup [(.str [114])]), (.str [46], .tup []), (.str [35], .tup []), (.str [82], .tup []), (.str [70], .tup [])]) := (rfl)
end Ev

/-! the evaluator by equations -/
namespace Ev.Q
open PySem
theorem call_at {T : Pg} {n f : Nat} {ds : List D} (fn : Fn) (h : T.fns f = some fn) (hl : ds.length = fn.np) : call T (n + 1) f ds = fin fn.io (evSs (cfg T (call T n) fn.io) fn.body (entry fn ds)) := by
  show (match T.fns f with | none => Out.bad | some fn => if ds.length = fn.np then fin fn.io (evSs (cfg T (call T n) fn.io) fn.body (entry fn ds)) else .bad) = _
  rw [h]
  simp only [hl, if_true]
section
variable {C : Cfg} {r : Env} {α β : Type}
@[simp] theorem lift_some {a : α} : lift (some a) r = .ok a r := (rfl)
@[simp] theorem quiet_ok {a : α} : quiet (R.ok a r) = .ok a r := (rfl)
@[simp] theorem fin_next {io : List Nat} : fin io (.next r) = .ret .non false (outsOf io r) := (rfl)
@[simp] theorem fin_ret {io : List Nat} {d : D} {f : Bool} : fin io (.ret d f r) = .ret d f (outsOf io r) := (rfl)
@[simp] theorem fin_exc {io : List Nat} {c : Nat} : fin io (.exc c r) = .exc c (outsOf io r) := (rfl)
@[simp] theorem outs_nil : outsOf [] r = [] := (rfl)
@[simp] theorem outs_cons {i : Nat} {io : List Nat} : outsOf (i :: io) r = (getM r i).getD .non :: outsOf io r := (rfl)
@[simp] theorem cfg_io {T : Pg} {c : Nat → List D → Out} {io : List Nat} : (cfg T c io).io = io := (rfl)
@[simp] theorem cfg_wf {l : Fn} {c : Nat → List D → Out} {io : List Nat} : (cfg (TT l) c io).wf = WF := (rfl)
theorem WF_big : 1000000 ≤ WF ∧ 128 ^ 25 * 100 + 10 ≤ WF := by decide
@[simp] theorem cfg_glb {l : Fn} {c : Nat → List D → Out} {io : List Nat} {n : Str} : (cfg (TT l) c io).glb n = GL n := (rfl)
/-! slots -/
def slV : Option Sl → Option D
  | some (.va d) => some d
  | _ => none
def slM : Option Sl → Option D
  | some (.mu d) => some d
  | _ => none
@[simp] theorem slV_va {d : D} : slV (some (.va d)) = some d := (rfl)
@[simp] theorem slM_mu {d : D} : slM (some (.mu d)) = some d := (rfl)
@[simp] theorem getV_def {i : Nat} : getV r i = slV r[i]? := by unfold getV slV; split <;> simp_all
@[simp] theorem getM_def {i : Nat} : getM r i = slM r[i]? := by unfold getM slM; split <;> simp_all
@[simp] theorem setV_def {io : List Nat} {i : Nat} {d : D} : setV io i d r = if io.contains i || decide (r.length ≤ i) then none else some (r.set i (.va d)) := (rfl)
@[simp] theorem setM_def {io : List Nat} {i : Nat} {d : D} : setM io i d r = if io.contains i || decide (r.length ≤ i) then none else some (r.set i (.mu d)) := (rfl)
@[simp] theorem setT_n {io : List Nat} {i : Nat} {d : D} : setT io (.n i) d r = setV io i d r := (rfl)
@[simp] theorem setT_t {io is : List Nat} {xs : List D} : setT io (.t is) (.tup xs) r = setVs io is xs r := (rfl)
def k_setVs (io is : List Nat) (ds : List D) (x : Option Env) : Option Env := x.bind (setVs io is ds)
@[simp] theorem k_setVs1 {io is : List Nat} {ds : List D} : k_setVs io is ds (some r) = setVs io is ds r := (rfl)
@[simp] theorem setVs_nil {io : List Nat} : setVs io [] [] r = some r := (rfl)
@[simp] theorem setVs_cons {io is : List Nat} {i : Nat} {d : D} {ds : List D} : setVs io (i :: is) (d :: ds) r = k_setVs io is ds (setV io i d r) := (rfl)
@[simp] theorem op_d {x : D} : (Op.d x).get r = some x := (rfl)
@[simp] theorem op_m {i : Nat} : (Op.m i).get r = getM r i := (rfl)
def k_gets : Option D → Option (List D) → Option (List D)
  | some d, some ds => some (d :: ds)
  | _, _ => none
@[simp] theorem k_gets1 {d : D} {ds : List D} : k_gets (some d) (some ds) = some (d :: ds) := (rfl)
@[simp] theorem gets_nil : gets r [] = some [] := (rfl)
@[simp] theorem gets_cons {o : Op} {os : List Op} : gets r (o :: os) = k_gets (o.get r) (gets r os) := by
  show (match o.get r, gets r os with | some d, some ds => some (d :: ds) | _, _ => none) = _
  cases o.get r <;> cases gets r os <;> rfl
@[simp] theorem refs_nil {k : Nat} : refsAt k [] = [] := (rfl)
@[simp] theorem refs_d {k : Nat} {x : D} {os : List Op} : refsAt k (.d x :: os) = refsAt (k + 1) os := (rfl)
@[simp] theorem refs_m {k i : Nat} {os : List Op} : refsAt k (.m i :: os) = (k, i) :: refsAt (k + 1) os := (rfl)
@[simp] theorem put_nil {ds : List D} : putMs [] ds r = r := (rfl)
@[simp] theorem put_cons {i : Nat} {is : List Nat} {d : D} {ds : List D} : putMs (i :: is) (d :: ds) r = putMs is ds (r.set i (.mu d)) := (rfl)
@[simp] theorem after_ret {is : List Nat} {d : D} {f : Bool} {outs : List D} : after is r (.ret d f outs) = if outs.length = is.length then .ok (d, f) (putMs is outs r) else .bad := (rfl)
@[simp] theorem after_exc {is : List Nat} {c : Nat} {outs : List D} : after is r (.exc c outs) = if outs.length = is.length then .exc c (putMs is outs r) else .bad := (rfl)
/-! operands -/
def k_om (i : Nat) (r : Env) : Option D → R Op
  | some _ => .ok (.m i) r
  | none => .bad
@[simp] theorem k_om1 {i : Nat} {d : D} : k_om i r (some d) = .ok (.m i) r := (rfl)
def k_od (x : R (D × Bool)) : R Op := x.map fun y => .d y.1
@[simp] theorem k_od1 {x : D × Bool} : k_od (.ok x r) = .ok (.d x.1) r := (rfl)
@[simp] theorem k_od2 {c : Nat} : k_od (.exc c r) = .exc c r := (rfl)
@[simp] theorem opOf_m {i : Nat} {x : R (D × Bool)} : opOf (.m i) r x = k_om i r (getM r i) := by
  show (match getM r i with | some _ => R.ok (Op.m i) r | none => .bad) = _
  cases getM r i <;> rfl
@[simp] theorem opOf_c {d : D} {x : R (D × Bool)} : opOf (.c d) r x = k_od x := (rfl)
@[simp] theorem opOf_v {i : Nat} {x : R (D × Bool)} : opOf (.v i) r x = k_od x := (rfl)
@[simp] theorem opOf_g {n : Str} {x : R (D × Bool)} : opOf (.g n) r x = k_od x := (rfl)
@[simp] theorem opOf_mv {i : Nat} {x : R (D × Bool)} : opOf (.mv i) r x = k_od x := (rfl)
@[simp] theorem opOf_tup {es : List E} {x : R (D × Bool)} : opOf (.tup es) r x = k_od x := (rfl)
@[simp] theorem opOf_lst {es : List E} {x : R (D × Bool)} : opOf (.lst es) r x = k_od x := (rfl)
@[simp] theorem opOf_bin {o : Bop} {a b : E} {x : R (D × Bool)} : opOf (.bin o a b) r x = k_od x := (rfl)
@[simp] theorem opOf_neg {a : E} {x : R (D × Bool)} : opOf (.neg a) r x = k_od x := (rfl)
@[simp] theorem opOf_cmp {o : Cop} {a b : E} {x : R (D × Bool)} : opOf (.cmp o a b) r x = k_od x := (rfl)
@[simp] theorem opOf_chain {o o' : Cop} {a b c : E} {x : R (D × Bool)} : opOf (.chain o o' a b c) r x = k_od x := (rfl)
@[simp] theorem opOf_and {a b : E} {x : R (D × Bool)} : opOf (.and a b) r x = k_od x := (rfl)
@[simp] theorem opOf_or {a b : E} {x : R (D × Bool)} : opOf (.or a b) r x = k_od x := (rfl)
@[simp] theorem opOf_not {a : E} {x : R (D × Bool)} : opOf (.not a) r x = k_od x := (rfl)
@[simp] theorem opOf_ifx {t a b : E} {x : R (D × Bool)} : opOf (.ifx t a b) r x = k_od x := (rfl)
@[simp] theorem opOf_ix {a b : E} {x : R (D × Bool)} : opOf (.ix a b) r x = k_od x := (rfl)
@[simp] theorem opOf_sl {a : E} {l h : Option E} {x : R (D × Bool)} : opOf (.sl a l h) r x = k_od x := (rfl)
@[simp] theorem opOf_bi {f : Bi} {as : List E} {x : R (D × Bool)} : opOf (.bi f as) r x = k_od x := (rfl)
@[simp] theorem opOf_mt {f : Mt} {o : E} {as : List E} {x : R (D × Bool)} : opOf (.mt f o as) r x = k_od x := (rfl)
@[simp] theorem opOf_call {f : Nat} {as : List E} {x : R (D × Bool)} : opOf (.call f as) r x = k_od x := (rfl)
@[simp] theorem opOf_comp {own : List Nat} {e : E} {t : Tg} {it : It} {q : Option E} {x : R (D × Bool)} : opOf (.comp own e t it q) r x = k_od x := (rfl)
@[simp] theorem opOf_comp2 {own own1 : List Nat} {e : E} {t t1 : Tg} {it it1 : It} {q : Option E} {x : R (D × Bool)} : opOf (.comp2 own own1 e t it t1 it1 q) r x = k_od x := (rfl)
@[simp] theorem opOf_lrg {a : E} {x : R (D × Bool)} : opOf (.lrg a) r x = k_od x := (rfl)
@[simp] theorem opOf_gd {n : Str} {a : E} {x : R (D × Bool)} : opOf (.gd n a) r x = k_od x := (rfl)
@[simp] theorem opOf_gc {n : Str} {a : E} {x : R (D × Bool)} : opOf (.gc n a) r x = k_od x := (rfl)
@[simp] theorem opOf_rev {a : E} {x : R (D × Bool)} : opOf (.rev a) r x = k_od x := (rfl)
@[simp] theorem opOf_popAt {i : Nat} {a : E} {x : R (D × Bool)} : opOf (.popAt i a) r x = k_od x := (rfl)
@[simp] theorem opOf_tdp {ts : List (List Nat × List Nat)} {x : R (D × Bool)} : opOf (.tdp ts) r x = k_od x := (rfl)
@[simp] theorem opOf_sset {a : E} {x : R (D × Bool)} : opOf (.sset a) r x = k_od x := (rfl)
@[simp] theorem opOf_lset {a : E} {x : R (D × Bool)} : opOf (.lset a) r x = k_od x := (rfl)
@[simp] theorem opOf_tix {a b : E} {x : R (D × Bool)} : opOf (.tix a b) r x = k_od x := (rfl)
@[simp] theorem opOf_dsp {ks : List Int} {vs : List E} {a : E} {x : R (D × Bool)} : opOf (.dsp ks vs a) r x = k_od x := (rfl)
/-! ### expressions -/
@[simp] theorem ev_c {d : D} : evX C (.c d) r = .ok (d, false) r := (rfl)
def k_v (r : Env) : Option D → R (D × Bool)
  | some d => .ok (d, false) r
  | none => .bad
@[simp] theorem k_v1 {d : D} : k_v r (some d) = .ok (d, false) r := (rfl)
@[simp] theorem ev_v {i : Nat} : evX C (.v i) r = k_v r (getV r i) := by
  show lift ((getV r i).map (·, false)) r = _
  cases getV r i <;> rfl
@[simp] theorem ev_g {n : Str} : evX C (.g n) r = k_v r (C.glb n) := by
  show lift ((C.glb n).map (·, false)) r = _
  cases C.glb n <;> rfl
def k_mv (io : List Nat) (i : Nat) (r : Env) : Option D → R (D × Bool)
  | some d => if io.contains i then .bad else .ok (d, isLst d) (r.set i .un)
  | none => .bad
@[simp] theorem k_mv1 {io : List Nat} {i : Nat} {d : D} : k_mv io i r (some d) = if io.contains i then .bad else .ok (d, isLst d) (r.set i .un) := (rfl)
@[simp] theorem ev_mv {i : Nat} : evX C (.mv i) r = k_mv C.io i r (getM r i) := by
  show (match getM r i with | some d => if C.io.contains i then R.bad else .ok (d, isLst d) (r.set i .un) | none => .bad) = _
  cases getM r i <;> rfl
def k_tup (x : R (List D)) : R (D × Bool) := x.bind fun ds r => if ds.length ≤ cap then .ok (.tup ds, false) r else .bad
@[simp] theorem k_tup1 {ds : List D} : k_tup (.ok ds r) = if ds.length ≤ cap then .ok (.tup ds, false) r else .bad := (rfl)
@[simp] theorem k_tup2 {c : Nat} : k_tup (.exc c r) = .exc c r := (rfl)
@[simp] theorem ev_tup {es : List E} : evX C (.tup es) r = k_tup (evEs C es r) := (rfl)
def k_lst (x : R (List D)) : R (D × Bool) := x.bind fun ds r => if ds.length ≤ cap then .ok (.lst ds, true) r else .bad
@[simp] theorem k_lst1 {ds : List D} : k_lst (.ok ds r) = if ds.length ≤ cap then .ok (.lst ds, true) r else .bad := (rfl)
@[simp] theorem k_lst2 {c : Nat} : k_lst (.exc c r) = .exc c r := (rfl)
@[simp] theorem ev_lst {es : List E} : evX C (.lst es) r = k_lst (evEs C es r) := (rfl)
def k_bin3 (o : Bop) (r : Env) : Option D → Option D → R (D × Bool)
  | some x, some y => lift ((binD o x y).map (·, binF o x y)) r
  | _, _ => .bad
def k_val (f : Bool) (r : Env) : Option D → R (D × Bool)
  | some d => .ok (d, f) r
  | none => .bad
@[simp] theorem k_val1 {f : Bool} {d : D} : k_val f r (some d) = .ok (d, f) r := (rfl)
@[simp] theorem k_bin31 {o : Bop} {x y : D} : k_bin3 o r (some x) (some y) = k_val (binF o x y) r (binD o x y) := by
  show lift ((binD o x y).map (·, binF o x y)) r = _
  cases binD o x y <;> rfl
def k_bin2 (o : Bop) (x : Op) (y : R Op) : R (D × Bool) := y.bind fun y r => k_bin3 o r (x.get r) (y.get r)
@[simp] theorem k_bin21 {o : Bop} {x y : Op} : k_bin2 o x (.ok y r) = k_bin3 o r (x.get r) (y.get r) := (rfl)
@[simp] theorem k_bin22 {o : Bop} {x : Op} {c : Nat} : k_bin2 o x (.exc c r) = .exc c r := (rfl)
def k_bin1 (C : Cfg) (o : Bop) (b : E) (x : R Op) : R (D × Bool) := x.bind fun x r => k_bin2 o x (opOf b r (evX C b r))
@[simp] theorem k_bin11 {o : Bop} {b : E} {x : Op} : k_bin1 C o b (.ok x r) = k_bin2 o x (opOf b r (evX C b r)) := (rfl)
@[simp] theorem k_bin12 {o : Bop} {b : E} {c : Nat} : k_bin1 C o b (.exc c r) = .exc c r := (rfl)
@[simp] theorem ev_bin {o : Bop} {a b : E} : evX C (.bin o a b) r = k_bin1 C o b (opOf a r (evX C a r)) := (rfl)
def k_neg (x : R (D × Bool)) : R (D × Bool) := x.bind fun x r => match x.1 with
  | .int i => .ok (.int (-i), false) r
  | _ => .bad
@[simp] theorem k_neg1 {i : Int} {f : Bool} : k_neg (.ok (.int i, f) r) = .ok (.int (-i), false) r := (rfl)
@[simp] theorem ev_neg {a : E} : evX C (.neg a) r = k_neg (evX C a r) := (rfl)
def k_cmp3 (o : Cop) (r : Env) : Option D → Option D → R Bool
  | some x, some y => lift (cmpD o x y) r
  | _, _ => .bad
@[simp] theorem k_cmp31 {o : Cop} {x y : D} : k_cmp3 o r (some x) (some y) = lift (cmpD o x y) r := (rfl)
def k_cmp2 (o : Cop) (x : Op) (y : R Op) : R Bool := y.bind fun y r => k_cmp3 o r (x.get r) (y.get r)
@[simp] theorem k_cmp21 {o : Cop} {x y : Op} : k_cmp2 o x (.ok y r) = k_cmp3 o r (x.get r) (y.get r) := (rfl)
@[simp] theorem k_cmp22 {o : Cop} {x : Op} {c : Nat} : k_cmp2 o x (.exc c r) = .exc c r := (rfl)
def k_cmp1 (C : Cfg) (o : Cop) (b : E) (x : R Op) : R Bool := x.bind fun x r => k_cmp2 o x (opOf b r (evX C b r))
@[simp] theorem k_cmp11 {o : Cop} {b : E} {x : Op} : k_cmp1 C o b (.ok x r) = k_cmp2 o x (opOf b r (evX C b r)) := (rfl)
@[simp] theorem k_cmp12 {o : Cop} {b : E} {c : Nat} : k_cmp1 C o b (.exc c r) = .exc c r := (rfl)
def k_bl (x : R Bool) : R (D × Bool) := x.map fun b => (.bl b, false)
@[simp] theorem k_bl1 {b : Bool} : k_bl (.ok b r) = .ok (.bl b, false) r := (rfl)
@[simp] theorem k_bl2 {c : Nat} : k_bl (.exc c r) = .exc c r := (rfl)
@[simp] theorem et_cmp {o : Cop} {a b : E} : evT C (.cmp o a b) r = k_cmp1 C o b (opOf a r (evX C a r)) := (rfl)
@[simp] theorem ev_cmp {o : Cop} {a b : E} : evX C (.cmp o a b) r = k_bl (k_cmp1 C o b (opOf a r (evX C a r))) := by
  show (opOf a r (evX C a r)).bind (fun x r => (opOf b r (evX C b r)).bind fun y r => match x.get r, y.get r with
    | some x, some y => lift ((cmpD o x y).map (D.bl ·, false)) r
    | _, _ => .bad) = _
  unfold k_bl k_cmp1 k_cmp2 k_cmp3
  cases opOf a r (evX C a r) with
  | ok x r1 =>
    simp only [R.bind]
    cases opOf b r1 (evX C b r1) with
    | ok y r2 =>
      simp only
      cases x.get r2 <;> cases y.get r2 <;> try rfl
      rename_i u v
      simp only
      cases cmpD o u v <;> rfl
    | exc => rfl
    | bad => rfl
  | exc => rfl
  | bad => rfl
def k_ch3 (o' : Cop) (y : D) (z : R (D × Bool)) : R Bool := z.bind fun z r => lift (cmpD o' y z.1) r
@[simp] theorem k_ch31 {o' : Cop} {y : D} {z : D × Bool} : k_ch3 o' y (.ok z r) = lift (cmpD o' y z.1) r := (rfl)
@[simp] theorem k_ch32 {o' : Cop} {y : D} {c : Nat} : k_ch3 o' y (.exc c r) = .exc c r := (rfl)
def k_ch2 (C : Cfg) (o' : Cop) (c : E) (y : D) (r : Env) : Option Bool → R Bool
  | some true => k_ch3 o' y (evX C c r)
  | some false => .ok false r
  | none => .bad
@[simp] theorem k_ch2t {o' : Cop} {c : E} {y : D} : k_ch2 C o' c y r (some true) = k_ch3 o' y (evX C c r) := (rfl)
@[simp] theorem k_ch2f {o' : Cop} {c : E} {y : D} : k_ch2 C o' c y r (some false) = .ok false r := (rfl)
def k_ch1 (C : Cfg) (o o' : Cop) (c : E) (x : D) (y : R (D × Bool)) : R Bool := y.bind fun y r => k_ch2 C o' c y.1 r (cmpD o x y.1)
@[simp] theorem k_ch11 {o o' : Cop} {c : E} {x : D} {y : D × Bool} : k_ch1 C o o' c x (.ok y r) = k_ch2 C o' c y.1 r (cmpD o x y.1) := (rfl)
@[simp] theorem k_ch12 {o o' : Cop} {c : E} {x : D} {e : Nat} : k_ch1 C o o' c x (.exc e r) = .exc e r := (rfl)
def k_ch0 (C : Cfg) (o o' : Cop) (b c : E) (x : R (D × Bool)) : R Bool := x.bind fun x r => k_ch1 C o o' c x.1 (evX C b r)
@[simp] theorem k_ch01 {o o' : Cop} {b c : E} {x : D × Bool} : k_ch0 C o o' b c (.ok x r) = k_ch1 C o o' c x.1 (evX C b r) := (rfl)
@[simp] theorem k_ch02 {o o' : Cop} {b c : E} {e : Nat} : k_ch0 C o o' b c (.exc e r) = .exc e r := (rfl)
theorem chain_eq {o o' : Cop} {c : E} {γ : Type} {g : Bool → γ} {x : D} {y : D × Bool} : (match cmpD o x y.1 with
    | some true => (evX C c r).bind fun z r => lift ((cmpD o' y.1 z.1).map g) r
    | some false => R.ok (g false) r
    | none => .bad) = (k_ch2 C o' c y.1 r (cmpD o x y.1)).map g := by
  cases cmpD o x y.1 with
  | none => rfl
  | some b =>
    cases b with
    | false => rfl
    | true =>
      show (evX C c r).bind _ = (k_ch3 o' y.1 (evX C c r)).map g
      cases evX C c r with
      | ok z r1 =>
        simp only [R.bind, k_ch31]
        cases cmpD o' y.1 z.1 <;> rfl
      | exc => rfl
      | bad => rfl
@[simp] theorem et_chain {o o' : Cop} {a b c : E} : evT C (.chain o o' a b c) r = k_ch0 C o o' b c (evX C a r) := by
  show (evX C a r).bind (fun x r => (evX C b r).bind fun y r => match cmpD o x.1 y.1 with
    | some true => (evX C c r).bind fun z r => lift (cmpD o' y.1 z.1) r
    | some false => .ok false r
    | none => .bad) = _
  cases evX C a r with
  | ok x r1 =>
    simp only [R.bind, k_ch01]
    cases evX C b r1 with
    | ok y r2 =>
      simp only [k_ch11]
      cases cmpD o x.1 y.1 with
      | none => rfl
      | some b => cases b <;> rfl
    | exc => rfl
    | bad => rfl
  | exc => rfl
  | bad => rfl
@[simp] theorem ev_chain {o o' : Cop} {a b c : E} : evX C (.chain o o' a b c) r = k_bl (k_ch0 C o o' b c (evX C a r)) := by
  show (evX C a r).bind (fun x r => (evX C b r).bind fun y r => match cmpD o x.1 y.1 with
    | some true => (evX C c r).bind fun z r => lift ((cmpD o' y.1 z.1).map (D.bl ·, false)) r
    | some false => .ok (.bl false, false) r
    | none => .bad) = _
  cases evX C a r with
  | ok x r1 =>
    simp only [R.bind, k_ch01]
    cases evX C b r1 with
    | ok y r2 =>
      simp only [k_ch11]
      exact chain_eq (g := fun b => (D.bl b, false))
    | exc => rfl
    | bad => rfl
  | exc => rfl
  | bad => rfl
def k_rev (x : R (D × Bool)) : R (D × Bool) := x.bind fun x r => match x.1 with
  | .str s => if s.length ≤ cap then .ok (.str s.reverse, false) r else .bad
  | .lst s => if s.length ≤ cap then .ok (.lst s.reverse, true) r else .bad
  | _ => .bad
@[simp] theorem k_rev2 {s : List D} {f : Bool} : k_rev (.ok (.lst s, f) r) = if s.length ≤ cap then .ok (.lst s.reverse, true) r else .bad := (rfl)
def k_set (g : D → Option (D × Bool)) (r : Env) : Option D → R (D × Bool)
  | some x => lift (g x) r
  | none => .bad
@[simp] theorem k_set1 {g : D → Option (D × Bool)} {x : D} : k_set g r (some x) = lift (g x) r := (rfl)
def k_set0 (g : D → Option (D × Bool)) (x : R Op) : R (D × Bool) := x.bind fun x r => k_set g r (x.get r)
@[simp] theorem k_set01 {g : D → Option (D × Bool)} {x : Op} : k_set0 g (.ok x r) = k_set g r (x.get r) := (rfl)
theorem set_eq {g : D → Option (D × Bool)} {x : R Op} : (x.bind fun x r => match x.get r with | some x => lift (g x) r | none => .bad) = k_set0 g x := by
  cases x with
  | ok x r => show (match x.get r with | some x => lift (g x) r | none => R.bad) = k_set g r (x.get r); cases x.get r <;> rfl
  | exc => rfl
  | bad => rfl
@[simp] theorem ev_sset {a : E} : evX C (.sset a) r = k_set0 ssetD (opOf a r (evX C a r)) := set_eq
@[simp] theorem ev_lset {a : E} : evX C (.lset a) r = k_set0 lsetD (opOf a r (evX C a r)) := set_eq
@[simp] theorem k_rev1 {s : List Nat} {f : Bool} : k_rev (.ok (.str s, f) r) = if s.length ≤ cap then .ok (.str s.reverse, false) r else .bad := (rfl)
@[simp] theorem ev_rev {a : E} : evX C (.rev a) r = k_rev (evX C a r) := (rfl)
def k_en (x : R (D × Bool)) : R (List D) := x.bind fun x r => match x.1 with
  | .lst xs => .ok (enumD xs) r
  | .tup xs => .ok (enumD xs) r
  | _ => .bad
@[simp] theorem k_en1 {xs : List D} {f : Bool} : k_en (.ok (.tup xs, f) r) = .ok (enumD xs) r := (rfl)
@[simp] theorem k_en2 {xs : List D} {f : Bool} : k_en (.ok (.lst xs, f) r) = .ok (enumD xs) r := (rfl)
@[simp] theorem it_en {a : E} : evIt C (.en a) r = k_en (evX C a r) := (rfl)
def k_r33 (x y : D) (z : R (D × Bool)) : R (List D) := z.bind fun z r => match x, y, z.1 with
  | .int i, .int j, .int k => if -big ≤ i ∧ i < big ∧ -big ≤ j ∧ j < big ∧ k = -1 then .ok (downD i j) r else .bad
  | _, _, _ => .bad
@[simp] theorem k_r331 {i j k : Int} {f : Bool} : k_r33 (.int i) (.int j) (.ok (.int k, f) r) = if -big ≤ i ∧ i < big ∧ -big ≤ j ∧ j < big ∧ k = -1 then .ok (downD i j) r else .bad := (rfl)
def k_r32 (C : Cfg) (c : E) (x : D) (y : R (D × Bool)) : R (List D) := y.bind fun y r => k_r33 x y.1 (evX C c r)
@[simp] theorem k_r321 {c : E} {x : D} {y : D × Bool} : k_r32 C c x (.ok y r) = k_r33 x y.1 (evX C c r) := (rfl)
def k_r31 (C : Cfg) (b c : E) (x : R (D × Bool)) : R (List D) := x.bind fun x r => k_r32 C c x.1 (evX C b r)
@[simp] theorem k_r311 {b c : E} {x : D × Bool} : k_r31 C b c (.ok x r) = k_r32 C c x.1 (evX C b r) := (rfl)
@[simp] theorem it_r3 {a b c : E} : evIt C (.r3 a b c) r = k_r31 C b c (evX C a r) := (rfl)
def k_po5 (i : Nat) (r : Env) (xs : List D) (j : Nat) : Option D → R (D × Bool)
  | some y => .ok (y, false) (r.set i (.mu (.lst (xs.eraseIdx j))))
  | none => .bad
def k_po4 (i : Nat) (r : Env) (xs : List D) : Option Nat → R (D × Bool)
  | some j => k_po5 i r xs j xs[j]?
  | none => .bad
def k_po3 (i : Nat) (r : Env) : Option D → D → R (D × Bool)
  | some (.lst xs), .int k => k_po4 i r xs (if -big ≤ k ∧ k < big then ixOf xs.length k else none)
  | _, _ => .bad
theorem k_po30 {i : Nat} {xs : List D} {k : Int} : k_po3 i r (some (.lst xs)) (.int k) = k_po4 i r xs (if -big ≤ k ∧ k < big then ixOf xs.length k else none) := (rfl)
theorem k_po40 {i j : Nat} {xs : List D} : k_po4 i r xs (some j) = k_po5 i r xs j xs[j]? := (rfl)
theorem k_po50 {i j : Nat} {xs : List D} {y : D} : k_po5 i r xs j (some y) = .ok (y, false) (r.set i (.mu (.lst (xs.eraseIdx j)))) := (rfl)
theorem k_po31 {i j : Nat} {xs : List D} {y : D} (hj : xs[j]? = some y) (hb : (j : Int) < big) : k_po3 i r (some (.lst xs)) (.int j) = .ok (y, false) (r.set i (.mu (.lst (xs.eraseIdx j)))) := by
  have hl := (List.getElem?_eq_some_iff.mp hj).1
  have e : ixOf xs.length (j : Int) = some j := by
    unfold ixOf
    rw [if_pos (by omega), if_pos (by omega)]
    simp
  have h0 : -big ≤ (0 : Int) := by decide
  rw [k_po30, if_pos ⟨by omega, hb⟩, e, k_po40, hj, k_po50]
def k_po2 (i : Nat) (x : R (D × Bool)) : R (D × Bool) := x.bind fun k r => k_po3 i r (getM r i) k.1
@[simp] theorem k_po21 {i : Nat} {x : D × Bool} : k_po2 i (.ok x r) = k_po3 i r (getM r i) x.1 := (rfl)
def k_po1 (C : Cfg) (i : Nat) (e : E) (r : Env) : Option D → R (D × Bool)
  | some _ => k_po2 i (evX C e r)
  | none => .bad
@[simp] theorem k_po11 {i : Nat} {e : E} {d : D} : k_po1 C i e r (some d) = k_po2 i (evX C e r) := (rfl)
@[simp] theorem ev_popAt {i : Nat} {e : E} : evX C (.popAt i e) r = k_po1 C i e r (getM r i) := by
  show (match getM r i with
    | none => R.bad
    | some _ => (evX C e r).bind fun k r => match getM r i, k.1 with
      | some (.lst xs), .int k => match (if -big ≤ k ∧ k < big then ixOf xs.length k else none) with
        | some j => match xs[j]? with
          | some y => R.ok (y, false) (r.set i (.mu (.lst (xs.eraseIdx j))))
          | none => .bad
        | none => .bad
      | _, _ => .bad) = _
  cases getM r i with
  | none => rfl
  | some d =>
    show R.bind (evX C e r) _ = R.bind (evX C e r) (fun k r => k_po3 i r (getM r i) k.1)
    refine congrArg _ (funext fun k => funext fun r => ?_)
    cases hg : getM r i with
    | none => rfl
    | some d =>
      cases d with
      | lst xs =>
        cases hk : k.1 with
        | int n =>
          show (match (if -big ≤ n ∧ n < big then ixOf xs.length n else none) with
            | some j => match xs[j]? with
              | some y => R.ok (y, false) (r.set i (.mu (.lst (xs.eraseIdx j))))
              | none => .bad
            | none => .bad) = k_po4 i r xs (if -big ≤ n ∧ n < big then ixOf xs.length n else none)
          cases (if -big ≤ n ∧ n < big then ixOf xs.length n else none) with
          | none => rfl
          | some j =>
            show (match xs[j]? with
              | some y => R.ok (y, false) (r.set i (.mu (.lst (xs.eraseIdx j))))
              | none => .bad) = k_po5 i r xs j xs[j]?
            cases xs[j]? <;> rfl
        | _ => rfl
      | _ => rfl
@[simp] theorem ev_tdp {ts : List (List Nat × List Nat)} : evX C (.tdp ts) r = .ok (.dic (dts ts), false) r := (rfl)
def k_tix2 (x : D) (y : R (D × Bool)) : R (D × Bool) := y.bind fun y r => lift (tabI (some x) y.1) r
@[simp] theorem k_tix21 {x : D} {y : D × Bool} : k_tix2 x (.ok y r) = lift (tabI (some x) y.1) r := (rfl)
def k_tix1 (C : Cfg) (b : E) (x : R (D × Bool)) : R (D × Bool) := x.bind fun x r => k_tix2 x.1 (evX C b r)
@[simp] theorem k_tix11 {b : E} {x : D × Bool} : k_tix1 C b (.ok x r) = k_tix2 x.1 (evX C b r) := (rfl)
@[simp] theorem ev_tix {a b : E} : evX C (.tix a b) r = k_tix1 C b (evX C a r) := (rfl)
def k_gd (o : Option D) (x : R (D × Bool)) : R (D × Bool) := x.bind fun x r => lift (tabI o x.1) r
@[simp] theorem k_gd1 {o : Option D} {x : D × Bool} : k_gd o (.ok x r) = lift (tabI o x.1) r := (rfl)
@[simp] theorem ev_gd {n : Str} {a : E} : evX C (.gd n a) r = k_gd (C.glb n) (evX C a r) := (rfl)
def k_gc (o : Option D) (x : R (D × Bool)) : R Bool := x.bind fun x r => lift (tabC o x.1) r
@[simp] theorem k_gc1 {o : Option D} {x : D × Bool} : k_gc o (.ok x r) = lift (tabC o x.1) r := (rfl)
@[simp] theorem et_gc {n : Str} {a : E} : evT C (.gc n a) r = k_gc (C.glb n) (evX C a r) := (rfl)
def k_fst (x : R (D × Bool)) : R (D × Bool) := x.map fun y => (y.1, false)
@[simp] theorem k_fst1 {x : D × Bool} : k_fst (.ok x r) = .ok (x.1, false) r := (rfl)
@[simp] theorem k_fst2 {c : Nat} : k_fst (.exc c r) = .exc c r := (rfl)
def k_and2 (C : Cfg) (b : E) (r : Env) : D → R (D × Bool)
  | .bl true => k_fst (evX C b r)
  | .bl false => .ok (.bl false, false) r
  | _ => .bad
@[simp] theorem k_and2t {b : E} : k_and2 C b r (.bl true) = k_fst (evX C b r) := (rfl)
@[simp] theorem k_and2f {b : E} : k_and2 C b r (.bl false) = .ok (.bl false, false) r := (rfl)
def k_and1 (C : Cfg) (b : E) (x : R (D × Bool)) : R (D × Bool) := x.bind fun x r => k_and2 C b r x.1
@[simp] theorem k_and11 {b : E} {x : D × Bool} : k_and1 C b (.ok x r) = k_and2 C b r x.1 := (rfl)
@[simp] theorem k_and12 {b : E} {c : Nat} : k_and1 C b (.exc c r) = .exc c r := (rfl)
@[simp] theorem ev_and {a b : E} : evX C (.and a b) r = k_and1 C b (evX C a r) := by
  show (evX C a r).bind (fun x r => match x.1 with
    | .bl true => (evX C b r).map fun y => (y.1, false)
    | .bl false => .ok (.bl false, false) r
    | _ => .bad) = _
  cases evX C a r with
  | ok x r1 =>
    obtain ⟨d, f⟩ := x
    cases d with
    | bl v => cases v <;> rfl
    | _ => rfl
  | exc => rfl
  | bad => rfl
def k_or2 (C : Cfg) (b : E) (r : Env) : D → R (D × Bool)
  | .bl true => .ok (.bl true, false) r
  | .bl false => k_fst (evX C b r)
  | _ => .bad
@[simp] theorem k_or2t {b : E} : k_or2 C b r (.bl true) = .ok (.bl true, false) r := (rfl)
@[simp] theorem k_or2f {b : E} : k_or2 C b r (.bl false) = k_fst (evX C b r) := (rfl)
def k_or1 (C : Cfg) (b : E) (x : R (D × Bool)) : R (D × Bool) := x.bind fun x r => k_or2 C b r x.1
@[simp] theorem k_or11 {b : E} {x : D × Bool} : k_or1 C b (.ok x r) = k_or2 C b r x.1 := (rfl)
@[simp] theorem k_or12 {b : E} {c : Nat} : k_or1 C b (.exc c r) = .exc c r := (rfl)
@[simp] theorem ev_or {a b : E} : evX C (.or a b) r = k_or1 C b (evX C a r) := by
  show (evX C a r).bind (fun x r => match x.1 with
    | .bl true => .ok (.bl true, false) r
    | .bl false => (evX C b r).map fun y => (y.1, false)
    | _ => .bad) = _
  cases evX C a r with
  | ok x r1 =>
    obtain ⟨d, f⟩ := x
    cases d with
    | bl v => cases v <;> rfl
    | _ => rfl
  | exc => rfl
  | bad => rfl
def k_not (x : R (D × Bool)) : R (D × Bool) := x.bind fun x r => match x.1 with
  | .bl b => .ok (.bl (!b), false) r
  | _ => .bad
@[simp] theorem k_not1 {b f : Bool} : k_not (.ok (.bl b, f) r) = .ok (.bl (!b), false) r := (rfl)
@[simp] theorem k_not2 {c : Nat} : k_not (.exc c r) = .exc c r := (rfl)
@[simp] theorem ev_not {a : E} : evX C (.not a) r = k_not (evX C a r) := (rfl)
def k_ifx2 (C : Cfg) (a b : E) (r : Env) : Bool → R (D × Bool)
  | true => k_fst (evX C a r)
  | false => k_fst (evX C b r)
@[simp] theorem k_ifx2t {a b : E} : k_ifx2 C a b r true = k_fst (evX C a r) := (rfl)
@[simp] theorem k_ifx2f {a b : E} : k_ifx2 C a b r false = k_fst (evX C b r) := (rfl)
def k_ifx1 (C : Cfg) (a b : E) (x : R Bool) : R (D × Bool) := x.bind fun c r => k_ifx2 C a b r c
@[simp] theorem k_ifx11 {a b : E} {c : Bool} : k_ifx1 C a b (.ok c r) = k_ifx2 C a b r c := (rfl)
@[simp] theorem ev_ifx {t a b : E} : evX C (.ifx t a b) r = k_ifx1 C a b (evT C t r) := by
  show (evT C t r).bind (fun c r => if c then (evX C a r).map (fun y => (y.1, false)) else (evX C b r).map fun y => (y.1, false)) = _
  cases evT C t r with
  | ok c r1 => cases c <;> rfl
  | exc => rfl
  | bad => rfl
def k_ix3 (y : D) (r : Env) : Option D → R (D × Bool)
  | some x => lift ((ixD x y).map (·, false)) r
  | none => .bad
@[simp] theorem k_ix31 {x y : D} : k_ix3 y r (some x) = k_val false r (ixD x y) := by
  show lift ((ixD x y).map (·, false)) r = _
  cases ixD x y <;> rfl
def k_ix2 (x : Op) (y : R (D × Bool)) : R (D × Bool) := y.bind fun y r => k_ix3 y.1 r (x.get r)
@[simp] theorem k_ix21 {x : Op} {y : D × Bool} : k_ix2 x (.ok y r) = k_ix3 y.1 r (x.get r) := (rfl)
@[simp] theorem k_ix22 {x : Op} {c : Nat} : k_ix2 x (.exc c r) = .exc c r := (rfl)
def k_ix1 (C : Cfg) (b : E) (x : R Op) : R (D × Bool) := x.bind fun x r => k_ix2 x (evX C b r)
@[simp] theorem k_ix11 {b : E} {x : Op} : k_ix1 C b (.ok x r) = k_ix2 x (evX C b r) := (rfl)
@[simp] theorem k_ix12 {b : E} {c : Nat} : k_ix1 C b (.exc c r) = .exc c r := (rfl)
@[simp] theorem ev_ix {a b : E} : evX C (.ix a b) r = k_ix1 C b (opOf a r (evX C a r)) := (rfl)
def k_sl4 (l h : Option Int) (r : Env) : Option D → R (D × Bool)
  | some x => lift ((slD x l h).map (·, isLst x)) r
  | none => .bad
@[simp] theorem k_sl41 {x : D} {l h : Option Int} : k_sl4 l h r (some x) = k_val (isLst x) r (slD x l h) := by
  show lift ((slD x l h).map (·, isLst x)) r = _
  cases slD x l h <;> rfl
def k_sl3 (x : Op) (l : Option Int) (h : R (Option Int)) : R (D × Bool) := h.bind fun h r => k_sl4 l h r (x.get r)
@[simp] theorem k_sl31 {x : Op} {l h : Option Int} : k_sl3 x l (.ok h r) = k_sl4 l h r (x.get r) := (rfl)
def k_sl2 (C : Cfg) (x : Op) (hi : Option E) (l : R (Option Int)) : R (D × Bool) := l.bind fun l r => k_sl3 x l (evI C hi r)
@[simp] theorem k_sl21 {x : Op} {hi : Option E} {l : Option Int} : k_sl2 C x hi (.ok l r) = k_sl3 x l (evI C hi r) := (rfl)
def k_sl1 (C : Cfg) (lo hi : Option E) (x : R Op) : R (D × Bool) := x.bind fun x r => k_sl2 C x hi (evI C lo r)
@[simp] theorem k_sl11 {lo hi : Option E} {x : Op} : k_sl1 C lo hi (.ok x r) = k_sl2 C x hi (evI C lo r) := (rfl)
@[simp] theorem ev_sl {a : E} {lo hi : Option E} : evX C (.sl a lo hi) r = k_sl1 C lo hi (opOf a r (evX C a r)) := (rfl)
def k_bi2 (f : Bi) (r : Env) : Option (List D) → R (D × Bool)
  | some ds => lift (biD f ds) r
  | none => .bad
@[simp] theorem k_bi21 {f : Bi} {ds : List D} : k_bi2 f r (some ds) = lift (biD f ds) r := (rfl)
def k_bi1 (f : Bi) (os : R (List Op)) : R (D × Bool) := os.bind fun os r => k_bi2 f r (gets r os)
@[simp] theorem k_bi11 {f : Bi} {os : List Op} : k_bi1 f (.ok os r) = k_bi2 f r (gets r os) := (rfl)
@[simp] theorem k_bi12 {f : Bi} {c : Nat} : k_bi1 f (.exc c r) = .exc c r := (rfl)
@[simp] theorem ev_bi {f : Bi} {as : List E} : evX C (.bi f as) r = k_bi1 f (evOs C as r) := (rfl)
def k_tst (x : R (D × Bool)) : R Bool := x.bind fun x r => match x.1 with
  | .bl b => .ok b r
  | _ => .bad
@[simp] theorem k_tst1 {b f : Bool} : k_tst (.ok (.bl b, f) r) = .ok b r := (rfl)
@[simp] theorem k_tst2 {c : Nat} : k_tst (.exc c r) = .exc c r := (rfl)
@[simp] theorem et_bi {f : Bi} {as : List E} : evT C (.bi f as) r = k_tst (k_bi1 f (evOs C as r)) := by
  show (evOs C as r).bind (fun os r => match gets r os with
    | some ds => match biD f ds with
      | some (.bl b, _) => R.ok b r
      | _ => .bad
    | none => .bad) = _
  unfold k_tst k_bi1
  cases evOs C as r with
  | ok os r1 =>
    simp only [R.bind]
    cases gets r1 os with
    | none => rfl
    | some ds =>
      simp only [k_bi2]
      cases biD f ds with
      | none => rfl
      | some y =>
        obtain ⟨d, g⟩ := y
        cases d <;> rfl
  | exc => rfl
  | bad => rfl
def k_mt3 (f : Mt) (r : Env) : Option D → Option (List D) → R (D × Bool)
  | some x, some ds => lift (mtD f x ds) r
  | _, _ => .bad
@[simp] theorem k_mt31 {f : Mt} {x : D} {ds : List D} : k_mt3 f r (some x) (some ds) = lift (mtD f x ds) r := (rfl)
def k_mt2 (f : Mt) (x : Op) (os : R (List Op)) : R (D × Bool) := os.bind fun os r => k_mt3 f r (x.get r) (gets r os)
@[simp] theorem k_mt21 {f : Mt} {x : Op} {os : List Op} : k_mt2 f x (.ok os r) = k_mt3 f r (x.get r) (gets r os) := (rfl)
def k_mt1 (C : Cfg) (f : Mt) (as : List E) (x : Op) (r : Env) : Option D → R (D × Bool)
  | none => .bad
  | some d => if recvOk f d then k_mt2 f x (evOs C as r) else .bad
@[simp] theorem k_mt1s {x : Op} {s : List Nat} {as : List E} : k_mt1 C .join as x r (some (.str s)) = k_mt2 .join x (evOs C as r) := (rfl)
@[simp] theorem k_mt1i {x : Op} {s : List D} {as : List E} : k_mt1 C .index as x r (some (.lst s)) = k_mt2 .index x (evOs C as r) := (rfl)
@[simp] theorem k_mt1c {x : Op} {s : List D} {as : List E} : k_mt1 C .count as x r (some (.lst s)) = k_mt2 .count x (evOs C as r) := (rfl)
def k_mt0 (C : Cfg) (f : Mt) (as : List E) (x : R Op) : R (D × Bool) := x.bind fun x r => k_mt1 C f as x r (x.get r)
@[simp] theorem k_mt01 {f : Mt} {as : List E} {x : Op} : k_mt0 C f as (.ok x r) = k_mt1 C f as x r (x.get r) := (rfl)
@[simp] theorem ev_mt {f : Mt} {o : E} {as : List E} : evX C (.mt f o as) r = k_mt0 C f as (opOf o r (evX C o r)) := by
  show (opOf o r (evX C o r)).bind (fun x r => match x.get r with
    | none => R.bad
    | some x0 => if recvOk f x0 then (evOs C as r).bind (fun os r => match x.get r, gets r os with
        | some x1, some ds => lift (mtD f x1 ds) r
        | _, _ => .bad)
      else .bad) = _
  cases opOf o r (evX C o r) with
  | exc => rfl
  | bad => rfl
  | ok x r =>
    show (match x.get r with
      | none => R.bad
      | some x0 => if recvOk f x0 then (evOs C as r).bind (fun os r => match x.get r, gets r os with
          | some x1, some ds => lift (mtD f x1 ds) r
          | _, _ => .bad)
        else .bad) = k_mt1 C f as x r (x.get r)
    cases x.get r with
    | none => rfl
    | some d =>
      show (if recvOk f d then (evOs C as r).bind (fun os r => match x.get r, gets r os with
          | some x1, some ds => lift (mtD f x1 ds) r
          | _, _ => .bad) else R.bad) = if recvOk f d then k_mt2 f x (evOs C as r) else .bad
      cases evOs C as r with
      | exc => rfl
      | bad => rfl
      | ok os r =>
        show (if recvOk f d then (match x.get r, gets r os with
          | some x1, some ds => lift (mtD f x1 ds) r
          | _, _ => R.bad) else R.bad) = if recvOk f d then k_mt3 f r (x.get r) (gets r os) else .bad
        cases x.get r <;> cases gets r os <;> rfl
def k_call3 (io : List Nat) (sem : List D → Out) (os : List Op) (r : Env) : Option (List D) → R (D × Bool)
  | some ds => if (refsAt 0 os).map (·.1) = io ∧ ((refsAt 0 os).map (·.2)).Nodup then after ((refsAt 0 os).map (·.2)) r (sem ds) else .bad
  | none => .bad
@[simp] theorem k_call31 {io : List Nat} {sem : List D → Out} {os : List Op} {ds : List D} : k_call3 io sem os r (some ds) = if (refsAt 0 os).map (·.1) = io ∧ ((refsAt 0 os).map (·.2)).Nodup then after ((refsAt 0 os).map (·.2)) r (sem ds) else .bad := (rfl)
def k_call2 (io : List Nat) (sem : List D → Out) (os : R (List Op)) : R (D × Bool) := os.bind fun os r => k_call3 io sem os r (gets r os)
@[simp] theorem k_call21 {io : List Nat} {sem : List D → Out} {os : List Op} : k_call2 io sem (.ok os r) = k_call3 io sem os r (gets r os) := (rfl)
@[simp] theorem k_call22 {io : List Nat} {sem : List D → Out} {c : Nat} : k_call2 io sem (.exc c r) = .exc c r := (rfl)
def k_call1 : Option (List Nat × (List D → Out)) → R (List Op) → R (D × Bool)
  | some (io, sem), os => k_call2 io sem os
  | none, _ => .bad
@[simp] theorem k_call11 {io : List Nat} {sem : List D → Out} {os : R (List Op)} : k_call1 (some (io, sem)) os = k_call2 io sem os := (rfl)
@[simp] theorem ev_call {f : Nat} {as : List E} : evX C (.call f as) r = k_call1 (C.fn f) (evOs C as r) := by
  show (match C.fn f with | none => R.bad | some _ => (evOs C as r).bind fun os r => callE C f os r) = _
  cases h : C.fn f with
  | none => rfl
  | some q =>
    obtain ⟨io, sem⟩ := q
    simp only [k_call11, k_call2]
    cases evOs C as r with
    | ok os r1 =>
      simp only [R.bind, callE, h, k_call3]
      cases gets r1 os <;> rfl
    | exc => rfl
    | bad => rfl
@[simp] theorem et_call {f : Nat} {as : List E} : evT C (.call f as) r = k_tst (k_call1 (C.fn f) (evOs C as r)) := by
  rw [← ev_call]
  show (match C.fn f with | none => R.bad | some _ => ((evOs C as r).bind fun os r => callE C f os r).bind fun x r => match x.1 with
    | .bl b => .ok b r
    | _ => .bad) = k_tst (match C.fn f with | none => R.bad | some _ => (evOs C as r).bind fun os r => callE C f os r)
  cases C.fn f <;> rfl
def comF (C : Cfg) (own : List Nat) (elt : E) (t : Tg) (ifs : Option E) (x : D) (r : Env) : R (Option D) := match setT C.io t x r with
  | none => .bad
  | some r => match ifs with
    | none => (evX C elt r).bind fun y r1 => .ok (some y.1) (hide own r1)
    | some c => (evT C c r).bind fun b r => if b then (evX C elt r).bind fun y r1 => .ok (some y.1) (hide own r1) else .ok none (hide own r)
def k_comp2 (own : List Nat) (r0 : Env) (x : R (List D)) : R (D × Bool) := (quiet x).bind fun ds r1 => .ok (.lst ds, true) (back r0 own r1)
@[simp] theorem k_comp21 {own : List Nat} {r0 : Env} {ds : List D} : k_comp2 own r0 (.ok ds r) = .ok (.lst ds, true) (back r0 own r) := (rfl)
def k_comp1 (C : Cfg) (own : List Nat) (elt : E) (t : Tg) (ifs : Option E) (x : R (List D)) : R (D × Bool) := x.bind fun xs r0 => if canHide C.io r0 own then k_comp2 own r0 (compLoop (comF C own elt t ifs) xs [] (hide own r0)) else .bad
@[simp] theorem k_comp11 {own : List Nat} {elt : E} {t : Tg} {ifs : Option E} {xs : List D} : k_comp1 C own elt t ifs (.ok xs r) = if canHide C.io r own then k_comp2 own r (compLoop (comF C own elt t ifs) xs [] (hide own r)) else .bad := (rfl)
@[simp] theorem ev_comp {own : List Nat} {elt : E} {t : Tg} {it : It} {ifs : Option E} : evX C (.comp own elt t it ifs) r = k_comp1 C own elt t ifs (evIt C it r) := by
  cases ifs with
  | none => rfl
  | some q => rfl
def k_some (own : List Nat) (x : R (D × Bool)) : R (Option D) := x.bind fun y r1 => .ok (some y.1) (hide own r1)
@[simp] theorem k_some1 {own : List Nat} {x : D × Bool} : k_some own (.ok x r) = .ok (some x.1) (hide own r) := (rfl)
def k_cfi (C : Cfg) (own : List Nat) (elt : E) (r : Env) : Bool → R (Option D)
  | true => k_some own (evX C elt r)
  | false => .ok none (hide own r)
@[simp] theorem k_cfit {own : List Nat} {elt : E} : k_cfi C own elt r true = k_some own (evX C elt r) := (rfl)
@[simp] theorem k_cfif {own : List Nat} {elt : E} : k_cfi C own elt r false = .ok none (hide own r) := (rfl)
def k_cf2 (C : Cfg) (own : List Nat) (elt : E) (x : R Bool) : R (Option D) := x.bind fun b r => k_cfi C own elt r b
@[simp] theorem k_cf21 {own : List Nat} {elt : E} {b : Bool} : k_cf2 C own elt (.ok b r) = k_cfi C own elt r b := (rfl)
def k_cf1 (C : Cfg) (own : List Nat) (elt : E) (ifs : Option E) : Option Env → R (Option D)
  | none => .bad
  | some r => match ifs with
    | none => k_some own (evX C elt r)
    | some c => k_cf2 C own elt (evT C c r)
@[simp] theorem k_cf1n {own : List Nat} {elt : E} : k_cf1 C own elt none (some r) = k_some own (evX C elt r) := (rfl)
@[simp] theorem k_cf1s {own : List Nat} {elt c : E} : k_cf1 C own elt (some c) (some r) = k_cf2 C own elt (evT C c r) := (rfl)
/-- one round of a comprehension -/
theorem comF_at {own : List Nat} {elt : E} {t : Tg} {ifs : Option E} {x : D} : comF C own elt t ifs x r = k_cf1 C own elt ifs (setT C.io t x r) := by
  unfold comF
  cases setT C.io t x r with
  | none => rfl
  | some r1 =>
    cases ifs with
    | none => rfl
    | some c =>
      simp only [k_cf1s]
      cases evT C c r1 with
      | ok b r2 => cases b <;> rfl
      | exc => rfl
      | bad => rfl
def com2I (C : Cfg) (own1 : List Nat) (elt : E) (t1 : Tg) (ifs : Option E) (y : D) (acc : List D) (r : Env) : R (List D) := match setT C.io t1 y r with
  | none => .bad
  | some r => match ifs with
    | none => (evX C elt r).bind fun z r1 => if acc.length < cap then .ok (acc ++ [z.1]) (hide own1 r1) else .bad
    | some c => (evT C c r).bind fun b r => if b then (evX C elt r).bind fun z r1 => if acc.length < cap then .ok (acc ++ [z.1]) (hide own1 r1) else .bad else .ok acc (hide own1 r)
def com2O (C : Cfg) (own own1 : List Nat) (elt : E) (t : Tg) (t1 : Tg) (it1 : It) (ifs : Option E) (x : D) (acc : List D) (r : Env) : R (List D) := match setT C.io t x r with
  | none => .bad
  | some r => (evIt C it1 r).bind fun ys r => (loopAcc (com2I C own1 elt t1 ifs) ys acc (hide own1 r)).bind fun acc r => .ok acc (hide own r)
def k_cp1 (C : Cfg) (own own1 : List Nat) (elt : E) (t : Tg) (t1 : Tg) (it1 : It) (ifs : Option E) (x : R (List D)) : R (D × Bool) := x.bind fun xs r0 => if canHide C.io r0 own then k_comp2 own r0 (loopAcc (com2O C own own1 elt t t1 it1 ifs) xs [] (hide own r0)) else .bad
@[simp] theorem k_cp11 {own own1 : List Nat} {elt : E} {t t1 : Tg} {it1 : It} {ifs : Option E} {xs : List D} : k_cp1 C own own1 elt t t1 it1 ifs (.ok xs r) = if canHide C.io r own then k_comp2 own r (loopAcc (com2O C own own1 elt t t1 it1 ifs) xs [] (hide own r)) else .bad := (rfl)
@[simp] theorem ev_comp2 {own own1 : List Nat} {elt : E} {t t1 : Tg} {it it1 : It} {ifs : Option E} : evX C (.comp2 own own1 elt t it t1 it1 ifs) r = k_cp1 C own own1 elt t t1 it1 ifs (evIt C it r) := by
  cases ifs with
  | none => rfl
  | some q => rfl
def k_push (own : List Nat) (acc : List D) (x : R (D × Bool)) : R (List D) := x.bind fun z r1 => if acc.length < cap then .ok (acc ++ [z.1]) (hide own r1) else .bad
theorem k_push1 {own : List Nat} {acc : List D} {x : D × Bool} : k_push own acc (.ok x r) = if acc.length < cap then .ok (acc ++ [x.1]) (hide own r) else .bad := rfl
def k_p2 (C : Cfg) (own : List Nat) (acc : List D) (elt : E) (r : Env) : Bool → R (List D)
  | true => k_push own acc (evX C elt r)
  | false => .ok acc (hide own r)
@[simp] theorem k_p2t {own : List Nat} {acc : List D} {elt : E} : k_p2 C own acc elt r true = k_push own acc (evX C elt r) := (rfl)
@[simp] theorem k_p2f {own : List Nat} {acc : List D} {elt : E} : k_p2 C own acc elt r false = .ok acc (hide own r) := (rfl)
def k_p1 (C : Cfg) (own : List Nat) (acc : List D) (elt : E) (x : R Bool) : R (List D) := x.bind fun b r => k_p2 C own acc elt r b
@[simp] theorem k_p11 {own : List Nat} {acc : List D} {elt : E} {b : Bool} : k_p1 C own acc elt (.ok b r) = k_p2 C own acc elt r b := (rfl)
def k_ci1 (C : Cfg) (own : List Nat) (acc : List D) (elt : E) (ifs : Option E) : Option Env → R (List D)
  | none => .bad
  | some r => match ifs with
    | none => k_push own acc (evX C elt r)
    | some c => k_p1 C own acc elt (evT C c r)
@[simp] theorem k_ci1n {own : List Nat} {acc : List D} {elt : E} : k_ci1 C own acc elt none (some r) = k_push own acc (evX C elt r) := (rfl)
@[simp] theorem k_ci1s {own : List Nat} {acc : List D} {elt c : E} : k_ci1 C own acc elt (some c) (some r) = k_p1 C own acc elt (evT C c r) := (rfl)
theorem com2I_at {own1 : List Nat} {elt : E} {t1 : Tg} {ifs : Option E} {y : D} {acc : List D} : com2I C own1 elt t1 ifs y acc r = k_ci1 C own1 acc elt ifs (setT C.io t1 y r) := by
  unfold com2I
  cases setT C.io t1 y r with
  | none => rfl
  | some r1 =>
    cases ifs with
    | none => rfl
    | some c =>
      simp only [k_ci1s]
      cases evT C c r1 with
      | ok b r2 => cases b <;> rfl
      | exc => rfl
      | bad => rfl
def k_hid (own : List Nat) (x : R (List D)) : R (List D) := x.bind fun acc r => .ok acc (hide own r)
@[simp] theorem k_hid1 {own : List Nat} {acc : List D} : k_hid own (.ok acc r) = .ok acc (hide own r) := (rfl)
def k_co2 (C : Cfg) (own own1 : List Nat) (acc : List D) (elt : E) (t1 : Tg) (ifs : Option E) (x : R (List D)) : R (List D) := x.bind fun ys r => k_hid own (loopAcc (com2I C own1 elt t1 ifs) ys acc (hide own1 r))
@[simp] theorem k_co21 {own own1 : List Nat} {acc : List D} {elt : E} {t1 : Tg} {ifs : Option E} {ys : List D} : k_co2 C own own1 acc elt t1 ifs (.ok ys r) = k_hid own (loopAcc (com2I C own1 elt t1 ifs) ys acc (hide own1 r)) := (rfl)
def k_co1 (C : Cfg) (own own1 : List Nat) (acc : List D) (elt : E) (t1 : Tg) (it1 : It) (ifs : Option E) : Option Env → R (List D)
  | none => .bad
  | some r => k_co2 C own own1 acc elt t1 ifs (evIt C it1 r)
@[simp] theorem k_co11 {own own1 : List Nat} {acc : List D} {elt : E} {t1 : Tg} {it1 : It} {ifs : Option E} : k_co1 C own own1 acc elt t1 it1 ifs (some r) = k_co2 C own own1 acc elt t1 ifs (evIt C it1 r) := (rfl)
theorem com2O_at {own own1 : List Nat} {elt : E} {t t1 : Tg} {it1 : It} {ifs : Option E} {x : D} {acc : List D} : com2O C own own1 elt t t1 it1 ifs x acc r = k_co1 C own own1 acc elt t1 it1 ifs (setT C.io t x r) := by
  unfold com2O
  cases setT C.io t x r <;> rfl
def k_lrg (x : R (D × Bool)) : R (D × Bool) := x.bind fun x r => match x.1 with
  | .int i => if -big ≤ i ∧ i ≤ 65536 then .ok (.lst (rangeD 0 i), true) r else .bad
  | _ => .bad
theorem k_lrg1 {i : Int} {f : Bool} : k_lrg (.ok (.int i, f) r) = if -big ≤ i ∧ i ≤ 65536 then .ok (.lst (rangeD 0 i), true) r else .bad := rfl
@[simp] theorem ev_lrg {a : E} : evX C (.lrg a) r = k_lrg (evX C a r) := (rfl)
def k_dsp2 (ks : List Int) (ds : List D) (x : R (D × Bool)) : R (D × Bool) := x.bind fun x r => match x.1 with
  | .int i => lift ((lookI ks ds i).map (·, false)) r
  | _ => .bad
@[simp] theorem k_dsp21 {ks : List Int} {ds : List D} {i : Int} {f : Bool} : k_dsp2 ks ds (.ok (.int i, f) r) = k_val false r (lookI ks ds i) := by
  show lift ((lookI ks ds i).map (·, false)) r = _
  cases lookI ks ds i <;> rfl
def k_dsp1 (C : Cfg) (ks : List Int) (a : E) (x : R (List D)) : R (D × Bool) := x.bind fun ds r => k_dsp2 ks ds (evX C a r)
@[simp] theorem k_dsp11 {ks : List Int} {a : E} {ds : List D} : k_dsp1 C ks a (.ok ds r) = k_dsp2 ks ds (evX C a r) := (rfl)
@[simp] theorem ev_dsp {ks : List Int} {vs : List E} {a : E} : evX C (.dsp ks vs a) r = k_dsp1 C ks a (evEs C vs r) := (rfl)
/-! ### tests -/
def k_nt (x : R Bool) : R Bool := x.map (!·)
@[simp] theorem k_nt1 {b : Bool} : k_nt (.ok b r) = .ok (!b) r := (rfl)
@[simp] theorem k_nt2 {c : Nat} : k_nt (.exc c r) = .exc c r := (rfl)
@[simp] theorem et_not {a : E} : evT C (.not a) r = k_nt (evT C a r) := (rfl)
def k_ta2 (C : Cfg) (b : E) (r : Env) : Bool → R Bool
  | true => evT C b r
  | false => .ok false r
@[simp] theorem k_ta2t {b : E} : k_ta2 C b r true = evT C b r := (rfl)
@[simp] theorem k_ta2f {b : E} : k_ta2 C b r false = .ok false r := (rfl)
def k_ta1 (C : Cfg) (b : E) (x : R Bool) : R Bool := x.bind fun x r => k_ta2 C b r x
@[simp] theorem k_ta11 {b : E} {x : Bool} : k_ta1 C b (.ok x r) = k_ta2 C b r x := (rfl)
@[simp] theorem k_ta12 {b : E} {c : Nat} : k_ta1 C b (.exc c r) = .exc c r := (rfl)
@[simp] theorem et_and {a b : E} : evT C (.and a b) r = k_ta1 C b (evT C a r) := by
  show (evT C a r).bind (fun x r => if x then evT C b r else .ok false r) = _
  cases evT C a r with
  | ok x r1 => cases x <;> rfl
  | exc => rfl
  | bad => rfl
def k_to2 (C : Cfg) (b : E) (r : Env) : Bool → R Bool
  | true => .ok true r
  | false => evT C b r
@[simp] theorem k_to2t {b : E} : k_to2 C b r true = .ok true r := (rfl)
@[simp] theorem k_to2f {b : E} : k_to2 C b r false = evT C b r := (rfl)
def k_to1 (C : Cfg) (b : E) (x : R Bool) : R Bool := x.bind fun x r => k_to2 C b r x
@[simp] theorem k_to11 {b : E} {x : Bool} : k_to1 C b (.ok x r) = k_to2 C b r x := (rfl)
@[simp] theorem k_to12 {b : E} {c : Nat} : k_to1 C b (.exc c r) = .exc c r := (rfl)
@[simp] theorem et_or {a b : E} : evT C (.or a b) r = k_to1 C b (evT C a r) := by
  show (evT C a r).bind (fun x r => if x then .ok true r else evT C b r) = _
  cases evT C a r with
  | ok x r1 => cases x <;> rfl
  | exc => rfl
  | bad => rfl
@[simp] theorem et_c {b : Bool} : evT C (.c (.bl b)) r = .ok b r := (rfl)
@[simp] theorem et_v {i : Nat} : evT C (.v i) r = k_tst (k_v r (getV r i)) := by
  show (match getV r i with | some (.bl b) => R.ok b r | _ => .bad) = _
  cases getV r i with
  | none => rfl
  | some d => cases d <;> rfl
@[simp] theorem ei_none : evI C none r = .ok none r := (rfl)
def k_i (x : R (D × Bool)) : R (Option Int) := x.bind fun x r => match x.1 with
  | .int i => .ok (some i) r
  | _ => .bad
@[simp] theorem k_i1 {i : Int} {f : Bool} : k_i (.ok (.int i, f) r) = .ok (some i) r := (rfl)
@[simp] theorem ei_some {e : E} : evI C (some e) r = k_i (evX C e r) := (rfl)
def k_es2 (d : D) (x : R (List D)) : R (List D) := x.map (d :: ·)
@[simp] theorem k_es21 {d : D} {ds : List D} : k_es2 d (.ok ds r) = .ok (d :: ds) r := (rfl)
@[simp] theorem k_es22 {d : D} {c : Nat} : k_es2 d (.exc c r) = .exc c r := (rfl)
def k_es1 (C : Cfg) (es : List E) (x : R (D × Bool)) : R (List D) := x.bind fun d r => k_es2 d.1 (evEs C es r)
@[simp] theorem k_es11 {es : List E} {x : D × Bool} : k_es1 C es (.ok x r) = k_es2 x.1 (evEs C es r) := (rfl)
@[simp] theorem k_es12 {es : List E} {c : Nat} : k_es1 C es (.exc c r) = .exc c r := (rfl)
@[simp] theorem es_nil' : evEs C [] r = .ok [] r := (rfl)
@[simp] theorem es_cons' {e : E} {es : List E} : evEs C (e :: es) r = k_es1 C es (evX C e r) := (rfl)
def k_os2 (d : Op) (x : R (List Op)) : R (List Op) := x.map (d :: ·)
@[simp] theorem k_os21 {d : Op} {ds : List Op} : k_os2 d (.ok ds r) = .ok (d :: ds) r := (rfl)
@[simp] theorem k_os22 {d : Op} {c : Nat} : k_os2 d (.exc c r) = .exc c r := (rfl)
def k_os1 (C : Cfg) (es : List E) (x : R Op) : R (List Op) := x.bind fun d r => k_os2 d (evOs C es r)
@[simp] theorem k_os11 {es : List E} {x : Op} : k_os1 C es (.ok x r) = k_os2 x (evOs C es r) := (rfl)
@[simp] theorem k_os12 {es : List E} {c : Nat} : k_os1 C es (.exc c r) = .exc c r := (rfl)
@[simp] theorem eo_nil : evOs C [] r = .ok [] r := (rfl)
@[simp] theorem eo_cons {e : E} {es : List E} : evOs C (e :: es) r = k_os1 C es (opOf e r (evX C e r)) := (rfl)
def k_ite (x : R (D × Bool)) : R (List D) := x.bind fun x r => lift (itemsOf x.1) r
@[simp] theorem k_ite1 {x : D × Bool} : k_ite (.ok x r) = lift (itemsOf x.1) r := (rfl)
@[simp] theorem k_ite2 {c : Nat} : k_ite (.exc c r) = .exc c r := (rfl)
@[simp] theorem it_e {a : E} : evIt C (.e a) r = k_ite (evX C a r) := (rfl)
def k_r1 (x : R (D × Bool)) : R (List D) := x.bind fun x r => match x.1 with
  | .int i => if -big ≤ i ∧ i < big then .ok (rangeD 0 i) r else .bad
  | _ => .bad
theorem k_r11 {i : Int} {f : Bool} : k_r1 (.ok (.int i, f) r) = if -big ≤ i ∧ i < big then .ok (rangeD 0 i) r else .bad := rfl
theorem k_r1_nat {w : Nat} {f : Bool} (h : w ≤ 1000000) : k_r1 (.ok (.int w, f) r) = .ok (rangeD 0 w) r := by
  rw [k_r11, if_pos (by unfold big; omega)]
@[simp] theorem it_r1 {a : E} : evIt C (.r1 a) r = k_r1 (evX C a r) := (rfl)
def k_r22 (x : D) (y : R (D × Bool)) : R (List D) := y.bind fun y r => match x, y.1 with
  | .int i, .int j => if -big ≤ i ∧ i < big ∧ -big ≤ j ∧ j < big then .ok (rangeD i j) r else .bad
  | _, _ => .bad
theorem k_r221 {i j : Int} {f : Bool} : k_r22 (.int i) (.ok (.int j, f) r) = if -big ≤ i ∧ i < big ∧ -big ≤ j ∧ j < big then .ok (rangeD i j) r else .bad := rfl
def k_r21 (C : Cfg) (b : E) (x : R (D × Bool)) : R (List D) := x.bind fun x r => k_r22 x.1 (evX C b r)
@[simp] theorem k_r211 {b : E} {x : D × Bool} : k_r21 C b (.ok x r) = k_r22 x.1 (evX C b r) := (rfl)
@[simp] theorem it_r2 {a b : E} : evIt C (.r2 a b) r = k_r21 C b (evX C a r) := (rfl)
/-! ### statements -/
def k_seq (C : Cfg) (ss : List S) : RS → RS
  | .next r => evSs C ss r
  | o => o
@[simp] theorem k_seqn {ss : List S} : k_seq C ss (.next r) = evSs C ss r := (rfl)
@[simp] theorem k_seqr {ss : List S} {d : D} {f : Bool} : k_seq C ss (.ret d f r) = .ret d f r := (rfl)
@[simp] theorem k_seqe {ss : List S} {c : Nat} : k_seq C ss (.exc c r) = .exc c r := (rfl)
@[simp] theorem ss_nil : evSs C [] r = .next r := (rfl)
@[simp] theorem ss_cons {s : S} {ss : List S} : evSs C (s :: ss) r = k_seq C ss (evS C s r) := by
  show (match evS C s r with | .next r1 => evSs C ss r1 | o => o) = _
  cases evS C s r <;> rfl
def k_next : Option Env → RS
  | some r => .next r
  | none => .bad
@[simp] theorem k_next1 : k_next (some r) = .next r := (rfl)
def k_asg (io : List Nat) (t : Tg) (x : R (D × Bool)) : RS := x.toS fun x r => k_next (setT io t x.1 r)
@[simp] theorem k_asg1 {io : List Nat} {t : Tg} {x : D × Bool} : k_asg io t (.ok x r) = k_next (setT io t x.1 r) := (rfl)
@[simp] theorem k_asg2 {io : List Nat} {t : Tg} {c : Nat} : k_asg io t (.exc c r) = .exc c r := (rfl)
theorem nextO_eq : nextO = k_next := by
  funext x
  cases x <;> rfl
@[simp] theorem st_asg {t : Tg} {e : E} : evS C (.asg t e) r = k_asg C.io t (evX C e r) := by
  show (evX C e r).toS (fun x r => nextO (setT C.io t x.1 r)) = _
  rw [nextO_eq]
  rfl
def k_new (io : List Nat) (i : Nat) (x : R (D × Bool)) : RS := x.toS fun x r => if x.2 then k_next (setM io i x.1 r) else .bad
@[simp] theorem k_new1 {io : List Nat} {i : Nat} {d : D} : k_new io i (.ok (d, true) r) = k_next (setM io i d r) := (rfl)
@[simp] theorem st_new {i : Nat} {e : E} : evS C (.new i e) r = k_new C.io i (evX C e r) := by
  show (evX C e r).toS (fun x r => if x.2 then nextO (setM C.io i x.1 r) else .bad) = _
  rw [nextO_eq]
  rfl
def k_par (io : List Nat) (ts : List (Nat × Bool)) (x : R (List D)) : RS := x.toS fun ds r => k_next (setP io ts ds r)
@[simp] theorem k_par1 {io : List Nat} {ts : List (Nat × Bool)} {ds : List D} : k_par io ts (.ok ds r) = k_next (setP io ts ds r) := (rfl)
@[simp] theorem st_par {ts : List (Nat × Bool)} {es : List E} : evS C (.par ts es) r = k_par C.io ts (evPar C (ts.map (·.2)) es r) := by
  show (evPar C (ts.map (·.2)) es r).toS (fun ds r => nextO (setP C.io ts ds r)) = _
  rw [nextO_eq]
  rfl
def k_pc1 (C : Cfg) (f : Bool) (fs : List Bool) (es : List E) (x : R (D × Bool)) : R (List D) := x.bind fun x r => if f = false ∨ x.2 = true then k_es2 x.1 (evPar C fs es r) else .bad
@[simp] theorem k_pc11 {fs : List Bool} {es : List E} {x : D × Bool} : k_pc1 C false fs es (.ok x r) = k_es2 x.1 (evPar C fs es r) := (rfl)
@[simp] theorem k_pc12 {fs : List Bool} {es : List E} {d : D} : k_pc1 C true fs es (.ok (d, true) r) = k_es2 d (evPar C fs es r) := (rfl)
@[simp] theorem par_nil : evPar C [] [] r = .ok [] r := (rfl)
@[simp] theorem par_cons {f : Bool} {fs : List Bool} {e : E} {es : List E} : evPar C (f :: fs) (e :: es) r = k_pc1 C f fs es (evX C e r) := (rfl)
def k_setP (io : List Nat) (ts : List (Nat × Bool)) (ds : List D) (x : Option Env) : Option Env := x.bind (setP io ts ds)
@[simp] theorem k_setP1 {io : List Nat} {ts : List (Nat × Bool)} {ds : List D} : k_setP io ts ds (some r) = setP io ts ds r := (rfl)
@[simp] theorem setP_nil {io : List Nat} : setP io [] [] r = some r := (rfl)
@[simp] theorem setP_f {io : List Nat} {i : Nat} {ts : List (Nat × Bool)} {d : D} {ds : List D} : setP io ((i, false) :: ts) (d :: ds) r = k_setP io ts ds (setV io i d r) := (rfl)
@[simp] theorem setP_t {io : List Nat} {i : Nat} {ts : List (Nat × Bool)} {d : D} {ds : List D} : setP io ((i, true) :: ts) (d :: ds) r = k_setP io ts ds (setM io i d r) := (rfl)
def k_si4 (i : Nat) (x : D) (xs : List D) (r : Env) : Option Nat → RS
  | some j => .next (r.set i (.mu (.lst (xs.set j x))))
  | none => .bad
@[simp] theorem k_si41 {i j : Nat} {x : D} {xs : List D} : k_si4 i x xs r (some j) = .next (r.set i (.mu (.lst (xs.set j x)))) := (rfl)
def k_si3 (i : Nat) (x : D) (r : Env) : Option D → D → RS
  | some (.lst xs), .int k => k_si4 i x xs r (ixOf xs.length k)
  | _, _ => .bad
@[simp] theorem k_si31 {i : Nat} {x : D} {xs : List D} {k : Int} : k_si3 i x r (some (.lst xs)) (.int k) = k_si4 i x xs r (ixOf xs.length k) := (rfl)
def k_si2 (i : Nat) (x : D) (y : R (D × Bool)) : RS := y.toS fun y r => k_si3 i x r (getM r i) y.1
@[simp] theorem k_si21 {i : Nat} {x : D} {y : D × Bool} : k_si2 i x (.ok y r) = k_si3 i x r (getM r i) y.1 := (rfl)
def k_si1 (C : Cfg) (i : Nat) (k : E) (x : D) (r : Env) : Option D → RS
  | some _ => k_si2 i x (evX C k r)
  | none => .bad
@[simp] theorem k_si11 {i : Nat} {k : E} {x d : D} : k_si1 C i k x r (some d) = k_si2 i x (evX C k r) := (rfl)
def k_si0 (C : Cfg) (i : Nat) (k : E) (x : R (D × Bool)) : RS := x.toS fun x r => k_si1 C i k x.1 r (getM r i)
@[simp] theorem k_si01 {i : Nat} {k : E} {x : D × Bool} : k_si0 C i k (.ok x r) = k_si1 C i k x.1 r (getM r i) := (rfl)
@[simp] theorem st_seti {i : Nat} {k e : E} : evS C (.seti i k e) r = k_si0 C i k (evX C e r) := by
  show (evX C e r).toS (fun x r => match getM r i with
    | none => .bad
    | some _ => (evX C k r).toS fun y r => match getM r i, y.1 with
      | some (.lst xs), .int k => match ixOf xs.length k with
        | some j => .next (r.set i (.mu (.lst (xs.set j x.1))))
        | none => .bad
      | _, _ => .bad) = _
  cases evX C e r with
  | ok x r1 =>
    show (match getM r1 i with
    | none => RS.bad
    | some _ => (evX C k r1).toS fun y r => match getM r i, y.1 with
      | some (.lst xs), .int k => match ixOf xs.length k with
        | some j => .next (r.set i (.mu (.lst (xs.set j x.1))))
        | none => .bad
      | _, _ => .bad) = k_si1 C i k x.1 r1 (getM r1 i)
    cases getM r1 i with
    | none => rfl
    | some d =>
      show (evX C k r1).toS _ = k_si2 i x.1 (evX C k r1)
      cases evX C k r1 with
      | ok y r2 =>
        show (match getM r2 i, y.1 with
          | some (.lst xs), .int k => match ixOf xs.length k with
            | some j => RS.next (r2.set i (.mu (.lst (xs.set j x.1))))
            | none => .bad
          | _, _ => .bad) = k_si3 i x.1 r2 (getM r2 i) y.1
        cases getM r2 i with
        | none => rfl
        | some d2 =>
          obtain ⟨y1, y2⟩ := y
          cases d2 <;> cases y1 <;> rfl
      | exc => rfl
      | bad => rfl
  | exc => rfl
  | bad => rfl
def k_ap2 (i : Nat) (x : D) (r : Env) : Option D → RS
  | some (.lst xs) => if xs.length < cap then .next (r.set i (.mu (.lst (xs ++ [x])))) else .bad
  | _ => .bad
theorem k_ap21 {i : Nat} {x : D} {xs : List D} : k_ap2 i x r (some (.lst xs)) = if xs.length < cap then .next (r.set i (.mu (.lst (xs ++ [x])))) else .bad := rfl
theorem k_ap2p {i : Nat} {x : D} {xs : List D} (h : xs.length < cap) : k_ap2 i x r (some (.lst xs)) = .next (r.set i (.mu (.lst (xs ++ [x])))) := by rw [k_ap21, if_pos h]
def k_ap1 (i : Nat) (x : R (D × Bool)) : RS := x.toS fun x r => k_ap2 i x.1 r (getM r i)
@[simp] theorem k_ap11 {i : Nat} {x : D × Bool} : k_ap1 i (.ok x r) = k_ap2 i x.1 r (getM r i) := (rfl)
def k_ap0 (C : Cfg) (i : Nat) (e : E) (r : Env) : Option D → RS
  | some _ => k_ap1 i (evX C e r)
  | none => .bad
@[simp] theorem k_ap01 {i : Nat} {e : E} {d : D} : k_ap0 C i e r (some d) = k_ap1 i (evX C e r) := (rfl)
@[simp] theorem st_app {i : Nat} {e : E} : evS C (.app i e) r = k_ap0 C i e r (getM r i) := by
  show (match getM r i with
    | none => RS.bad
    | some _ => (evX C e r).toS fun x r => match getM r i with
      | some (.lst xs) => if xs.length < cap then .next (r.set i (.mu (.lst (xs ++ [x.1])))) else .bad
      | _ => .bad) = _
  cases getM r i with
  | none => rfl
  | some d =>
    show (evX C e r).toS _ = k_ap1 i (evX C e r)
    cases evX C e r with
    | ok x r1 =>
      show (match getM r1 i with
      | some (.lst xs) => if xs.length < cap then RS.next (r1.set i (.mu (.lst (xs ++ [x.1])))) else .bad
      | _ => .bad) = k_ap2 i x.1 r1 (getM r1 i)
      cases getM r1 i with
      | none => rfl
      | some d2 => cases d2 <;> rfl
    | exc => rfl
    | bad => rfl
def k_ex (x : R (D × Bool)) : RS := x.toS fun _ r => .next r
@[simp] theorem k_ex1 {x : D × Bool} : k_ex (.ok x r) = .next r := (rfl)
@[simp] theorem k_ex2 {c : Nat} : k_ex (.exc c r) = .exc c r := (rfl)
@[simp] theorem st_ex {e : E} : evS C (.ex e) r = k_ex (evX C e r) := (rfl)
def k_ret (x : R (D × Bool)) : RS := x.toS fun x r => .ret x.1 x.2 r
@[simp] theorem k_ret1 {x : D × Bool} : k_ret (.ok x r) = .ret x.1 x.2 r := (rfl)
@[simp] theorem k_ret2 {c : Nat} : k_ret (.exc c r) = .exc c r := (rfl)
@[simp] theorem st_ret {e : E} : evS C (.ret e) r = k_ret (evX C e r) := (rfl)
def k_if2 (C : Cfg) (a b : List S) (r : Env) : Bool → RS
  | true => evSs C a r
  | false => evSs C b r
@[simp] theorem k_if2t {a b : List S} : k_if2 C a b r true = evSs C a r := (rfl)
@[simp] theorem k_if2f {a b : List S} : k_if2 C a b r false = evSs C b r := (rfl)
def k_if1 (C : Cfg) (a b : List S) (x : R Bool) : RS := x.toS fun c r => k_if2 C a b r c
@[simp] theorem k_if11 {a b : List S} {c : Bool} : k_if1 C a b (.ok c r) = k_if2 C a b r c := (rfl)
@[simp] theorem k_if12 {a b : List S} {c : Nat} : k_if1 C a b (.exc c r) = .exc c r := (rfl)
@[simp] theorem st_ife {t : E} {a b : List S} : evS C (.ife t a b) r = k_if1 C a b (evT C t r) := by
  show (evT C t r).toS (fun c r => if c then evSs C a r else evSs C b r) = _
  cases evT C t r with
  | ok x r1 => cases x <;> rfl
  | exc => rfl
  | bad => rfl
def forF (C : Cfg) (t : Tg) (b : List S) (x : D) (r : Env) : RS := match setT C.io t x r with
  | some r => evSs C b r
  | none => .bad
def k_ff (C : Cfg) (b : List S) : Option Env → RS
  | some r => evSs C b r
  | none => .bad
@[simp] theorem k_ff1 {b : List S} : k_ff C b (some r) = evSs C b r := (rfl)
theorem forF_at {t : Tg} {b : List S} {x : D} : forF C t b x r = k_ff C b (setT C.io t x r) := by
  unfold forF
  cases setT C.io t x r <;> rfl
def k_for (C : Cfg) (t : Tg) (b : List S) (x : R (List D)) : RS := x.toS fun xs r => forLoop (forF C t b) xs r
@[simp] theorem k_for1 {t : Tg} {b : List S} {xs : List D} : k_for C t b (.ok xs r) = forLoop (forF C t b) xs r := (rfl)
@[simp] theorem st_for {t : Tg} {it : It} {b : List S} : evS C (.for_ t it b) r = k_for C t b (evIt C it r) := (rfl)
def whlT (C : Cfg) (t : E) (r : Env) : R Bool := evT C t r
def whlB (C : Cfg) (b : List S) (r : Env) : RS := evSs C b r
@[simp] theorem st_whl {t : E} {b : List S} : evS C (.whl t b) r = whileLoop (whlT C t) (whlB C b) C.wf r := (rfl)
@[simp] theorem st_rais {c : Nat} : evS C (.rais c) r = .exc c r := (rfl)
def k_frz (io : List Nat) (i : Nat) (r : Env) : Option D → RS
  | some d => if io.contains i then .bad else .next (r.set i (.va d))
  | none => .bad
@[simp] theorem k_frz1 {io : List Nat} {i : Nat} {d : D} : k_frz io i r (some d) = if io.contains i then .bad else .next (r.set i (.va d)) := (rfl)
@[simp] theorem st_frz {i : Nat} : evS C (.frz i) r = k_frz C.io i r (getM r i) := by
  show (match getM r i with | some d => if C.io.contains i then RS.bad else .next (r.set i (.va d)) | none => .bad) = _
  cases getM r i <;> rfl
end
/-! ### data -/
@[simp] theorem bin_add {i j : Int} : binD .add (.int i) (.int j) = some (.int (i + j)) := (rfl)
@[simp] theorem bin_sub {i j : Int} : binD .sub (.int i) (.int j) = some (.int (i - j)) := (rfl)
theorem bin_mul {i j : Int} (h : (-M64 < i ∧ i < M64) ∨ (-M64 < j ∧ j < M64)) : binD .mul (.int i) (.int j) = some (.int (i * j)) := by
  show (if (-M64 < i ∧ i < M64) ∨ (-M64 < j ∧ j < M64) then some (D.int (i * j)) else none) = _
  rw [if_pos h]
theorem bin_fdiv {i j : Int} (h : 0 < j ∧ j < 1073741824) : binD .fdiv (.int i) (.int j) = some (.int (i / j)) := by
  show (if 0 < j ∧ j < 1073741824 then some (D.int (i / j)) else none) = _
  rw [if_pos h]
theorem bin_mod {i j : Int} (h : 0 < j) : binD .mod (.int i) (.int j) = some (.int (i % j)) := by
  show (if 0 < j then some (D.int (i % j)) else none) = _
  rw [if_pos h]
@[simp] theorem binF_int {o : Bop} {i : Int} {d : D} : binF o (.int i) d = false := by cases o <;> rfl
@[simp] theorem binF_str {o : Bop} {s : List Nat} {d : D} : binF o (.str s) d = false := by cases o <;> rfl
@[simp] theorem binF_tup {o : Bop} {s : List D} {d : D} : binF o (.tup s) d = false := by cases o <;> rfl
@[simp] theorem binF_lst {x y : List D} : binF .add (.lst x) (.lst y) = true := (rfl)
theorem bin_lst {x y : List D} (h : x.length + y.length ≤ cap) : binD .add (.lst x) (.lst y) = some (.lst (x ++ y)) := by
  show (if x.length + y.length ≤ cap then some (D.lst (x ++ y)) else none) = _
  rw [if_pos h]
theorem bin_tup {x y : List D} (h : x.length + y.length ≤ cap) : binD .add (.tup x) (.tup y) = some (.tup (x ++ y)) := by
  show (if x.length + y.length ≤ cap then some (D.tup (x ++ y)) else none) = _
  rw [if_pos h]
theorem bin_str {x y : List Nat} (h : x.length + y.length ≤ cap) : binD .add (.str x) (.str y) = some (.str (x ++ y)) := by
  show (if x.length + y.length ≤ cap then some (D.str (x ++ y)) else none) = _
  rw [if_pos h]
@[simp] theorem cmp_lt {i j : Int} : cmpD .lt (.int i) (.int j) = some (decide (i < j)) := (rfl)
@[simp] theorem cmp_le {i j : Int} : cmpD .le (.int i) (.int j) = some (decide (i ≤ j)) := (rfl)
@[simp] theorem cmp_gt {i j : Int} : cmpD .gt (.int i) (.int j) = some (decide (j < i)) := (rfl)
@[simp] theorem cmp_ge {i j : Int} : cmpD .ge (.int i) (.int j) = some (decide (j ≤ i)) := (rfl)
theorem cmp_eq {a b : D} (ha : D.okd dep a = true) (hb : D.okd dep b = true) : cmpD .eq a b = some (D.eqv a b) := by
  show (if D.okd dep a && D.okd dep b then some (D.eqv a b) else none) = _
  rw [ha, hb]
  rfl
theorem cmp_ne {a b : D} (ha : D.okd dep a = true) (hb : D.okd dep b = true) : cmpD .ne a b = some (!D.eqv a b) := by
  show (if D.okd dep a && D.okd dep b then some (!D.eqv a b) else none) = _
  rw [ha, hb]
  rfl
@[simp] theorem cmp_eqi {i j : Int} : cmpD .eq (.int i) (.int j) = some (decide (i = j)) := (rfl)
@[simp] theorem cmp_nei {i j : Int} : cmpD .ne (.int i) (.int j) = some (!decide (i = j)) := (rfl)
@[simp] theorem cmp_isnon {a : D} : cmpD .is_ a .non = some (isNon a) := (rfl)
@[simp] theorem cmp_isnotnon {a : D} : cmpD .isnot a .non = some (!isNon a) := (rfl)
@[simp] theorem ix_tup {xs : List D} {i : Int} : ixD (.tup xs) (.int i) = at? xs i := (rfl)
@[simp] theorem ix_lst {xs : List D} {i : Int} : ixD (.lst xs) (.int i) = at? xs i := (rfl)
@[simp] theorem ix_str {s : List Nat} {i : Int} : ixD (.str s) (.int i) = (at? s i).map fun c => .str [c] := (rfl)
@[simp] theorem sl_tup {xs : List D} {a b : Option Int} : slD (.tup xs) a b = some (.tup (cut xs a b)) := (rfl)
@[simp] theorem sl_lst {xs : List D} {a b : Option Int} : slD (.lst xs) a b = some (.lst (cut xs a b)) := (rfl)
@[simp] theorem sl_str {xs : List Nat} {a b : Option Int} : slD (.str xs) a b = some (.str (cut xs a b)) := (rfl)
theorem at_nat {α : Type} {xs : List α} {i : Int} {k : Nat} {x : α} (h : i = k) (e : xs[k]? = some x) : at? xs i = some x := by
  subst h
  have hl := (List.getElem?_eq_some_iff.mp e).1
  unfold at? ixOf
  rw [if_pos (by omega), if_pos (by omega)]
  simpa using e
theorem ixOf_nat {n k : Nat} {i : Int} (h : i = k) (e : k < n) : ixOf n i = some k := by
  subst h
  unfold ixOf
  rw [if_pos (by omega), if_pos (by omega)]
  simp
/-! ### loops -/
theorem for_nil {f : D → Env → RS} {r : Env} : forLoop f [] r = .next r := rfl
theorem for_cons {f : D → Env → RS} {x : D} {xs : List D} {r r1 : Env} (h : f x r = .next r1) : forLoop f (x :: xs) r = forLoop f xs r1 := by
  simp only [forLoop, h]
theorem for_inv {f : D → Env → RS} (P : Nat → Env → Prop) : ∀ {xs : List D} {r : Env} (k : Nat), P k r → (∀ i x r, xs[i]? = some x → P (k + i) r → ∃ r', f x r = .next r' ∧ P (k + i + 1) r') → ∃ r', forLoop f xs r = .next r' ∧ P (k + xs.length) r'
  | [], r, k, h0, _ => ⟨r, rfl, h0⟩
  | x :: xs, r, k, h0, st => by
    obtain ⟨r1, e1, h1⟩ := st 0 x r rfl h0
    obtain ⟨r2, e2, h2⟩ := for_inv P (xs := xs) (k + 1) h1 fun i y r' hy hp => by
      obtain ⟨r3, e3, h3⟩ := st (i + 1) y r' (by simpa using hy) (by rw [← Nat.add_assoc, Nat.add_right_comm]; exact hp)
      exact ⟨r3, e3, by rw [← Nat.add_assoc] at h3; rw [Nat.add_right_comm k 1 i]; exact h3⟩
    refine ⟨r2, by rw [for_cons e1]; exact e2, ?_⟩
    rw [List.length_cons, ← Nat.add_assoc, Nat.add_right_comm]
    exact h2
/-- a loop that only looks: the same frame at every round, but for the target's slots -/
theorem for_all {f : D → Env → RS} (P : Env → Prop) {xs : List D} {r : Env} (h0 : P r) (st : ∀ x r, x ∈ xs → P r → ∃ r', f x r = .next r' ∧ P r') : ∃ r', forLoop f xs r = .next r' ∧ P r' :=
  for_inv (fun _ => P) 0 h0 fun i x r hx hp => st x r (List.mem_of_getElem? hx) hp
theorem comp_map {f : D → Env → R (Option D)} {g : D → D} {r : Env} : ∀ {xs : List D} {acc : List D}, (∀ x, x ∈ xs → f x r = .ok (some (g x)) r) → acc.length + xs.length ≤ cap → compLoop f xs acc r = .ok (acc ++ xs.map g) r
  | [], acc, _, _ => by simp [compLoop]
  | x :: xs, acc, h, hl => by
    rw [List.length_cons] at hl
    simp only [compLoop, h x (List.mem_cons_self ..), R.bind]
    rw [if_pos (by omega), comp_map (fun y hy => h y (List.mem_cons_of_mem _ hy)) (by rw [List.length_append, List.length_singleton]; omega)]
    simp
theorem comp_filter {f : D → Env → R (Option D)} {g : D → Option D} {r : Env} : ∀ {xs : List D} {acc : List D}, (∀ x, x ∈ xs → f x r = .ok (g x) r) → acc.length + xs.length ≤ cap → compLoop f xs acc r = .ok (acc ++ xs.filterMap g) r
  | [], acc, _, _ => by simp [compLoop]
  | x :: xs, acc, h, hl => by
    rw [List.length_cons] at hl
    simp only [compLoop, h x (List.mem_cons_self ..), R.bind]
    cases e : g x with
    | none =>
      simp only
      rw [comp_filter (fun y hy => h y (List.mem_cons_of_mem _ hy)) (by omega), List.filterMap_cons, e]
    | some y =>
      simp only
      rw [if_pos (by omega), comp_filter (fun y hy => h y (List.mem_cons_of_mem _ hy)) (by rw [List.length_append, List.length_singleton]; omega), List.filterMap_cons, e]
      simp
theorem acc_all {f : D → List D → Env → R (List D)} {g : D → List D} {r : Env} : ∀ {xs : List D} {acc : List D}, (∀ x, x ∈ xs → ∀ acc : List D, acc.length + (g x).length ≤ cap → f x acc r = .ok (acc ++ g x) r) → acc.length + (xs.flatMap g).length ≤ cap → loopAcc f xs acc r = .ok (acc ++ xs.flatMap g) r
  | [], acc, _, _ => by simp [loopAcc]
  | x :: xs, acc, h, hl => by
    rw [List.flatMap_cons, List.length_append] at hl
    simp only [loopAcc, h x (List.mem_cons_self ..) acc (by omega), R.bind]
    rw [acc_all (fun y hy => h y (List.mem_cons_of_mem _ hy)) (by rw [List.length_append]; omega), List.flatMap_cons, List.append_assoc]
mutual
theorem eqv_refl : ∀ {n : Nat} {d : D}, D.okd n d = true → D.eqv d d = true
  | _, .non, _ => rfl
  | _, .bl b, _ => by simp [D.eqv]
  | _, .int i, _ => by simp [D.eqv]
  | _, .str s, _ => by simp [D.eqv]
  | n + 1, .tup xs, h => by
    rw [D.eqv]
    exact eqvs_refl (n := n) (by simpa [D.okd] using h)
  | n + 1, .lst xs, h => by
    rw [D.eqv]
    exact eqvs_refl (n := n) (by simpa [D.okd] using h)
  | 0, .tup xs, h => by simp [D.okd] at h
  | 0, .lst xs, h => by simp [D.okd] at h
  | 0, .dic xs, h => by simp [D.okd] at h
  | n + 1, .dic xs, h => by simp [D.okd] at h
theorem eqvs_refl : ∀ {n : Nat} {ds : List D}, D.okds n ds = true → D.eqvs ds ds = true
  | _, [], _ => rfl
  | n, d :: ds, h => by
    simp only [D.okds, Bool.and_eq_true] at h
    rw [D.eqvs, eqv_refl h.1, eqvs_refl h.2]
    rfl
end
theorem cmp_eq_same {d : D} (h : D.okd dep d = true) : cmpD .eq d d = some true := by rw [cmp_eq h h, eqv_refl h]
theorem cmp_ne_same {d : D} (h : D.okd dep d = true) : cmpD .ne d d = some false := by rw [cmp_ne h h, eqv_refl h]; rfl
@[simp] theorem cmp_eqb {a b : Bool} : cmpD .eq (.bl a) (.bl b) = some (a == b) := (rfl)
@[simp] theorem cmp_neb {a b : Bool} : cmpD .ne (.bl a) (.bl b) = some (!(a == b)) := (rfl)
theorem cut_take {α : Type} {xs : List α} {k : Nat} (h : k ≤ xs.length) : cut xs none (some (k : Int)) = xs.take k := by
  unfold cut sIx
  simp only
  rw [if_neg (by omega)]
  simp [Nat.min_eq_left h]
theorem cut_drop {α : Type} {xs : List α} {k : Nat} {i : Int} (e : i = k) (h : k ≤ xs.length) : cut xs (some i) none = xs.drop k := by
  subst e
  unfold cut sIx
  simp only
  rw [if_neg (by omega)]
  simp only [Int.toNat_natCast, Nat.min_eq_left h]
  rw [List.take_of_length_le (by simp)]
theorem set_cut {α : Type} {xs : List α} {k : Nat} {x : α} (h : k < xs.length) : xs.take k ++ [x] ++ xs.drop (k + 1) = xs.set k x := by
  rw [List.set_eq_take_append_cons_drop, if_pos h]
  simp
theorem comp_inv {f : D → Env → R (Option D)} (P : Nat → List D → Env → Prop) : ∀ {xs acc : List D} {r : Env} (k : Nat), P k acc r → acc.length + xs.length ≤ cap → (∀ i x acc r, xs[i]? = some x → P (k + i) acc r → ∃ y r', f x r = .ok (some y) r' ∧ P (k + i + 1) (acc ++ [y]) r') → ∃ acc' r', compLoop f xs acc r = .ok acc' r' ∧ P (k + xs.length) acc' r'
  | [], acc, r, k, h0, _, _ => ⟨acc, r, rfl, h0⟩
  | x :: xs, acc, r, k, h0, hl, st => by
    rw [List.length_cons] at hl
    obtain ⟨y, r1, e1, h1⟩ := st 0 x acc r rfl h0
    obtain ⟨a2, r2, e2, h2⟩ := comp_inv P (xs := xs) (k + 1) h1 (by rw [List.length_append, List.length_singleton]; omega) fun i y acc r' hy hp => by
      obtain ⟨z, r3, e3, h3⟩ := st (i + 1) y acc r' (by simpa using hy) (by rw [← Nat.add_assoc, Nat.add_right_comm]; exact hp)
      exact ⟨z, r3, e3, by rw [← Nat.add_assoc] at h3; rw [Nat.add_right_comm k 1 i]; exact h3⟩
    refine ⟨a2, r2, ?_, ?_⟩
    · simp only [compLoop, e1, R.bind]
      rw [if_pos (by omega)]
      exact e2
    · rw [List.length_cons, ← Nat.add_assoc, Nat.add_right_comm]
      exact h2
theorem acc_map {f : D → List D → Env → R (List D)} {g : D → D} {r : Env} : ∀ {xs acc : List D}, (∀ x, x ∈ xs → ∀ acc : List D, acc.length < cap → f x acc r = .ok (acc ++ [g x]) r) → acc.length + xs.length ≤ cap → loopAcc f xs acc r = .ok (acc ++ xs.map g) r
  | [], acc, _, _ => by simp [loopAcc]
  | x :: xs, acc, h, hl => by
    rw [List.length_cons] at hl
    simp only [loopAcc, h x (List.mem_cons_self ..) acc (by omega), R.bind]
    rw [acc_map (fun y hy => h y (List.mem_cons_of_mem _ hy)) (by rw [List.length_append, List.length_singleton]; omega)]
    simp
theorem k_pushp {own : List Nat} {acc : List D} {x : D × Bool} {r : Env} (h : acc.length < cap) : k_push own acc (.ok x r) = .ok (acc ++ [x.1]) (hide own r) := by rw [k_push1, if_pos h]
@[simp] theorem hide_nil {r : Env} : hide [] r = r := (rfl)
@[simp] theorem hide_cons {i : Nat} {is : List Nat} {r : Env} : hide (i :: is) r = (hide is r).set i .un := (rfl)
@[simp] theorem back_nil {o r : Env} : back o [] r = r := (rfl)
@[simp] theorem back_cons {i : Nat} {is : List Nat} {o r : Env} : back o (i :: is) r = (back o is r).set i (o[i]?.getD .un) := (rfl)
def noMu : Option Sl → Bool
  | some (.mu _) => false
  | _ => true
@[simp] theorem noMu_va {d : D} : noMu (some (.va d)) = true := (rfl)
@[simp] theorem noMu_un : noMu (some .un) = true := (rfl)
@[simp] theorem can_nil {io : List Nat} {r : Env} : canHide io r [] = true := (rfl)
@[simp] theorem can_cons {io : List Nat} {r : Env} {i : Nat} {own : List Nat} : canHide io r (i :: own) = (decide (i < r.length) && !io.contains i && noMu r[i]? && canHide io r own) := by
  unfold canHide noMu
  rfl
theorem range_len {a b : Int} : (rangeD a b).length = (b - a).toNat := by unfold rangeD; simp
theorem range_at {a b : Int} {i : Nat} {x : D} (h : (rangeD a b)[i]? = some x) : x = .int (a + i) ∧ (i : Int) < b - a := by
  have hl := (List.getElem?_eq_some_iff.mp h).1
  rw [range_len] at hl
  unfold rangeD at h
  rw [List.getElem?_map, List.getElem?_range hl] at h
  cases h
  exact ⟨rfl, by omega⟩
theorem range_nat {n : Nat} : rangeD 0 n = (List.range n).map fun k : Nat => D.int k := by
  unfold rangeD
  simp
theorem strs_map : ∀ cs : List (List Nat), strs? (cs.map D.str) = some cs
  | [] => rfl
  | c :: cs => by simp [strs?, strs_map cs]
theorem joinS_nil : ∀ cs : List Nat, joinS [] (cs.map fun c => [c]) = cs
  | [] => rfl
  | [c] => rfl
  | c :: d :: cs => by
    have := joinS_nil (d :: cs)
    simp only [List.map_cons, joinS, List.nil_append] at this ⊢
    rw [this]
    rfl
theorem sum_ones : ∀ cs : List Nat, ((cs.map fun c => [c]).map List.length).sum = cs.length
  | [] => rfl
  | c :: cs => by
    simp only [List.map_cons, List.sum_cons, sum_ones cs, List.length_cons, List.length_nil]
    omega
/-- ''.join of single signs -/
theorem join_chars {cs : List Nat} (h : cs.length ≤ cap) : mtD .join (.str []) [.lst (cs.map fun c => .str [c])] = some (.str cs, false) := by
  show joinD [] (cs.map fun c => .str [c]) = _
  have e : (cs.map fun c => D.str [c]) = (cs.map fun c => [c]).map D.str := by simp
  unfold joinD
  rw [e, strs_map]
  simp only
  rw [if_pos (by rw [sum_ones]; simpa using h), joinS_nil]
theorem range_mem {n : Nat} {x : D} (h : x ∈ rangeD 0 (n : Int)) : ∃ k : Nat, k < n ∧ x = .int k := by
  rw [range_nat] at h
  obtain ⟨k, h1, h2⟩ := List.mem_map.mp h
  exact ⟨k, List.mem_range.mp h1, h2.symm⟩
theorem comp_range {f : D → Env → R (Option D)} {n : Nat} {g : Nat → D} {r : Env} (hn : n ≤ 65536) (h : ∀ k, k < n → f (.int (k : Int)) r = .ok (some (g k)) r) : compLoop f (rangeD 0 (n : Int)) [] r = .ok ((List.range n).map g) r := by
  rw [comp_map (g := fun x => match x with | .int i => g i.toNat | _ => .non) ?_ ?_]
  · rw [range_nat]
    simp
  · intro x hx
    obtain ⟨k, hk, rfl⟩ := range_mem hx
    simpa using h k hk
  · rw [range_len]
    unfold cap
    simp
    omega
theorem for_range {f : D → Env → RS} {n : Nat} {r : Env} (P : Nat → Env → Prop) (h0 : P 0 r) (st : ∀ k r, k < n → P k r → ∃ r', f (.int (k : Int)) r = .next r' ∧ P (k + 1) r') : ∃ r', forLoop f (rangeD 0 (n : Int)) r = .next r' ∧ P n r' := by
  obtain ⟨r', e, q⟩ := for_inv P (xs := rangeD 0 (n : Int)) 0 h0 fun i x r hx hp => by
    obtain ⟨rfl, hi⟩ := range_at hx
    rw [Nat.zero_add] at hp ⊢
    rw [Int.zero_add]
    exact st i r (by omega) hp
  refine ⟨r', e, ?_⟩
  rw [range_len] at q
  simpa using q
end Ev.Q

/-! the script's draws -/
namespace Ev.Q
open PySem
/-- the town: a count of draws, and a copy of the script -/
def Tn (ns : List Int) (k : Nat) (d : D) : Prop := ∃ (c : Int) (cs : List Int), d = .lst (.int c :: cs.map D.int) ∧ cs.length = ns.length ∧ 0 ≤ c ∧ c ≤ k
def scr (ns : List Int) : D := .lst (ns.map D.int)
theorem Tn.mono {ns : List Int} {k m : Nat} {d : D} (h : Tn ns k d) (hk : k ≤ m) : Tn ns m d := by
  obtain ⟨c, cs, h1, h2, h3, h4⟩ := h
  exact ⟨c, cs, h1, h2, h3, by omega⟩
theorem okds_ints {n : Nat} : ∀ ns : List Int, D.okds n (ns.map D.int) = true
  | [] => rfl
  | i :: is => by
    have h : D.okd n (.int i) = true := by cases n <;> rfl
    simp only [List.map_cons, D.okds, h, okds_ints is, Bool.and_self]
theorem c_town {l : Fn} {n : Nat} {ns : List Int} (h : ns.length ≤ 63) : ∃ d, call (TT l) (n + 1) 81 [scr ns] = .ret d true [] ∧ Tn ns 0 d := by
  refine ⟨.lst (.int 0 :: ns.map D.int), ?_, 0, ns, rfl, rfl, Int.le_refl _, Int.le_refl _⟩
  rw [call_at f__law_town rfl rfl]
  simp [f__law_town, ss_cons, entry, argsFrom, scr, biD, one, listD, cap]
  rw [bin_lst (by simp [cap]; omega)]
  rfl
theorem eqvs_nil {ns : List Int} : D.eqvs (ns.map D.int) [] = ns.isEmpty := by cases ns <;> rfl
/-- town[0] = c + 1 -/
theorem c_draw {l : Fn} {n : Nat} {ns : List Int} {k : Nat} {d : D} {m : Int} (hk : k < 1000000000) (t : Tn ns k d) (m0 : 0 < m) (m1 : m < 1000000) : ∃ (x : Nat) (d' : D), call (TT l) (n + 1) 82 [scr ns, d, .int m] = .ret (.int x) false [d'] ∧ (x : Int) < m ∧ Tn ns (k + 1) d' := by
  obtain ⟨c, cs, rfl, hl, c0, c1⟩ := t
  have md : ∀ x : Int, ∃ y : Nat, x % m = y ∧ (y : Int) < m := fun x => ⟨(x % m).toNat, by rw [Int.toNat_of_nonneg (Int.emod_nonneg _ (by omega))], by rw [Int.toNat_of_nonneg (Int.emod_nonneg _ (by omega))]; exact Int.emod_lt_of_pos _ m0⟩
  have at0 : ∀ (a : D) (xs : List D), at? (a :: xs) 0 = some a := fun a xs => at_nat (k := 0) rfl rfl
  have ix0 : ∀ (k : Nat), ixOf (k + 1) 0 = some 0 := fun k => ixOf_nat (k := 0) rfl (by omega)
  have tw : ∀ cs' : List Int, cs'.length = cs.length → Tn ns (k + 1) (.lst (.int (c + 1) :: cs'.map D.int)) := fun cs' h => ⟨c + 1, cs', rfl, by rw [h, hl], by omega, by omega⟩
  rw [call_at f__law_draw rfl rfl]
  by_cases h0 : ns = []
  · subst h0
    obtain ⟨y, e, hy⟩ := md ((c + 1) * (c + 1) * 7 / 3)
    refine ⟨y, .lst (.int (c + 1) :: cs.map D.int), ?_, hy, tw cs rfl⟩
    have b1 : binD .mul (.int (c + 1)) (.int (c + 1)) = some (.int ((c + 1) * (c + 1))) := bin_mul (.inl (by unfold M64; omega))
    have b2 : binD .mul (.int ((c + 1) * (c + 1))) (.int 7) = some (.int ((c + 1) * (c + 1) * 7)) := bin_mul (.inr (by unfold M64; omega))
    have b3 : binD .fdiv (.int ((c + 1) * (c + 1) * 7)) (.int 3) = some (.int ((c + 1) * (c + 1) * 7 / 3)) := bin_fdiv (by omega)
    have b4 : binD .mod (.int ((c + 1) * (c + 1) * 7 / 3)) (.int m) = some (.int y) := by rw [bin_mod m0, e]
    have q : cmpD .eq (.lst []) (.lst []) = some true := rfl
    simp [f__law_draw, ss_cons, entry, argsFrom, scr, at0, ix0, b1, b2, b3, b4, q, cap]
  · have hL : 0 < ns.length := List.length_pos_iff.mpr h0
    obtain ⟨a, ea, ha⟩ : ∃ a : Nat, (c + 1) % (ns.length : Int) = a ∧ a < ns.length := by
      have h1 := Int.emod_nonneg (c + 1) (show (ns.length : Int) ≠ 0 by omega)
      have h2 := Int.emod_lt_of_pos (c + 1) (show (0 : Int) < ns.length by omega)
      exact ⟨((c + 1) % (ns.length : Int)).toNat, by omega, by omega⟩
    have q : cmpD .eq (.lst (ns.map D.int)) (.lst []) = some false := by
      rw [cmp_eq (show D.okd dep (.lst (ns.map D.int)) = true from okds_ints (n := 59) ns) rfl]
      cases ns with
      | nil => exact absurd rfl h0
      | cons => rfl
    have b1 : binD .mod (.int (c + 1)) (.int (ns.length : Int)) = some (.int a) := by rw [bin_mod (by omega), ea]
    obtain ⟨z, ez⟩ : ∃ z, ns[a]? = some z := ⟨ns[a], List.getElem?_eq_getElem ha⟩
    obtain ⟨u, eu⟩ : ∃ u, cs[a]? = some u := ⟨cs[a]'(by omega), List.getElem?_eq_getElem _⟩
    have a1 : at? (D.int (c + 1) :: cs.map D.int) (1 + (a : Int)) = some (.int u) := at_nat (k := a + 1) (by omega) (by rw [List.getElem?_cons_succ, List.getElem?_map, eu]; rfl)
    have a2 : at? (ns.map D.int) (a : Int) = some (.int z) := at_nat (k := a) rfl (by rw [List.getElem?_map, ez]; rfl)
    have p1 : binD .pow (.int 10) (.int 18) = some (.int 1000000000000000000) := rfl
    by_cases hb : 1000000000000000000 ≤ z ∧ 0 < u
    · obtain ⟨y, e, hy⟩ := md u
      refine ⟨y, .lst (.int (c + 1) :: (cs.set a (u / m)).map D.int), ?_, hy, tw _ (by rw [List.length_set])⟩
      have b2 : binD .fdiv (.int u) (.int m) = some (.int (u / m)) := bin_fdiv (by omega)
      have b3 : binD .mod (.int u) (.int m) = some (.int y) := by rw [bin_mod m0, e]
      have i1 : ixOf (cs.length + 1) (1 + (a : Int)) = some (a + 1) := ixOf_nat (k := a + 1) (by omega) (by omega)
      simp [f__law_draw, entry, argsFrom, scr, at0, ix0, q, cap, biD, one, lenD, b1, a1, a2, p1, hb.1, hb.2, b2, b3, i1, List.map_set]
    · have hb' : decide ((1000000000000000000 : Int) ≤ z) = true → decide (0 < u) = false := fun h => decide_eq_false fun h2 => hb ⟨of_decide_eq_true h, h2⟩
      have m1 : binD .mul (.int 104729) (.int (c + 1)) = some (.int (104729 * (c + 1))) := bin_mul (.inl (by unfold M64; omega))
      generalize en : (z + 104729 * (c + 1)) % 4294967291 = w
      have hw : 0 ≤ w ∧ w < 4294967291 := by omega
      have m2 : binD .mod (.int (z + 104729 * (c + 1))) (.int 4294967291) = some (.int w) := by rw [bin_mod (by omega), en]
      have m3 : binD .pow (.int w) (.int 5) = some (.int (w ^ 5)) := by
        show (if 0 ≤ (5 : Int) ∧ (5 : Int) ≤ 1000 ∧ -M64 < w ∧ w < M64 then some (D.int (w ^ (5 : Int).toNat)) else none) = _
        rw [if_pos (by unfold M64; omega)]
        rfl
      generalize ev : w ^ 5 % 4294967279 = v
      have m4 : binD .mod (.int (w ^ 5)) (.int 4294967279) = some (.int v) := by rw [bin_mod (by omega), ev]
      have m5 : binD .fdiv (.int v) (.int 64) = some (.int (v / 64)) := bin_fdiv (by omega)
      have m6 : binD .mul (.int (v / 64)) (.int 69621) = some (.int (v / 64 * 69621)) := bin_mul (.inr (by unfold M64; omega))
      have m7 : binD .mod (.int (v / 64 * 69621 + v)) (.int 4294967231) = some (.int ((v / 64 * 69621 + v) % 4294967231)) := bin_mod (by omega)
      have m8 : binD .fdiv (.int ((v / 64 * 69621 + v) % 4294967231)) (.int 8) = some (.int ((v / 64 * 69621 + v) % 4294967231 / 8)) := bin_fdiv (by omega)
      obtain ⟨y, e, hy⟩ := md ((v / 64 * 69621 + v) % 4294967231 / 8)
      have m9 : binD .mod (.int ((v / 64 * 69621 + v) % 4294967231 / 8)) (.int m) = some (.int y) := by rw [bin_mod m0, e]
      refine ⟨y, .lst (.int (c + 1) :: cs.map D.int), ?_, hy, tw cs rfl⟩
      cases h1 : decide ((1000000000000000000 : Int) ≤ z) with
      | false => simp [f__law_draw, entry, argsFrom, scr, at0, ix0, q, cap, biD, one, lenD, b1, a1, a2, p1, h1, m1, m2, m3, m4, m5, m6, m7, m8, m9]
      | true =>
        have h2 : decide (0 < u) = false := hb' h1
        simp [f__law_draw, entry, argsFrom, scr, at0, ix0, q, cap, biD, one, lenD, b1, a1, a2, p1, h1, h2, m1, m2, m3, m4, m5, m6, m7, m8, m9]
/-- a pick out of a list -/
theorem c_pick {l : Fn} {n : Nat} {ns : List Int} {k : Nat} {d : D} {cs : List D} (hk : k < 1000000000) (t : Tn ns k d) (h0 : cs ≠ []) (h1 : cs.length < 1000000) : ∃ (i : Nat) (x d' : D), call (TT l) (n + 2) 83 [scr ns, d, .lst cs] = .ret x false [d'] ∧ cs[i]? = some x ∧ Tn ns (k + 1) d' := by
  have hp := List.length_pos_iff.mpr h0
  obtain ⟨y, d', e, hy, t'⟩ := c_draw (l := l) (n := n) (m := cs.length) hk t (by omega) (by omega)
  have hy' : y < cs.length := by omega
  refine ⟨y, cs[y], d', ?_, List.getElem?_eq_getElem hy', t'⟩
  rw [call_at f__law_pick rfl rfl]
  have a1 : at? cs (y : Int) = some cs[y] := at_nat rfl (List.getElem?_eq_getElem hy')
  simp [f__law_pick, entry, argsFrom, biD, one, lenD, e, a1]
/-! ### boxes -/
abbrev Bx := List (List Nat)
def boxD (b : Bx) : D := .tup (b.map D.str)
/-- h rows of w signs out of s -/
structure BoxOf (s : List Nat) (h w : Nat) (b : Bx) : Prop where
  rows : b.length = h
  cols : ∀ row, row ∈ b → row.length = w
  sgn : ∀ row, row ∈ b → ∀ c, c ∈ row → c ∈ s
theorem sized_row {l : Fn} {n : Nat} {ns : List Int} {h w : Nat} {s : List Nat} (h0 : s ≠ []) (h1 : s.length < 1000000) (hw : w ≤ 1000) (kk : Nat) (d : D) (fs : List D) (r6 : Sl) (hkk : kk + w < 1000000000) (t : Tn ns kk d) : ∃ (cs : List Nat) (d' : D), compLoop (comF (cfg (TT l) (call (TT l) (n + 2)) [1]) [7] (.call 83 [.v 0, .m 1, .bi .list [.v 4]]) (.n 7) none) (rangeD 0 (w : Int)) [] [.va (scr ns), .mu d, .va (.int h), .va (.int w), .va (.str s), .mu (.lst fs), r6, .un] = .ok (cs.map fun c => .str [c]) [.va (scr ns), .mu d', .va (.int h), .va (.int w), .va (.str s), .mu (.lst fs), r6, .un] ∧ cs.length = w ∧ (∀ c, c ∈ cs → c ∈ s) ∧ Tn ns (kk + w) d' := by
  obtain ⟨acc, r', e, q⟩ := comp_inv (f := comF (cfg (TT l) (call (TT l) (n + 2)) [1]) [7] (.call 83 [.v 0, .m 1, .bi .list [.v 4]]) (.n 7) none)
    (fun i acc r => i ≤ w ∧ ∃ (cs : List Nat) (d' : D), acc = cs.map (fun c => D.str [c]) ∧ r = [.va (scr ns), .mu d', .va (.int h), .va (.int w), .va (.str s), .mu (.lst fs), r6, .un] ∧ cs.length = i ∧ (∀ c, c ∈ cs → c ∈ s) ∧ Tn ns (kk + i) d')
    (xs := rangeD 0 (w : Int)) (acc := []) 0 ⟨Nat.zero_le _, [], d, rfl, rfl, rfl, fun _ z => by simp at z, t⟩ (by rw [range_len]; unfold cap; simp; omega) fun i x acc r hx hp => by
      obtain ⟨hi, cs, d1, rfl, rfl, h3, h4, h5⟩ := hp
      obtain ⟨rfl, hlt⟩ := range_at hx
      obtain ⟨j, y, d2, e, ej, t2⟩ := c_pick (l := l) (n := n) (cs := s.map fun c => D.str [c]) (by omega) h5 (by simpa using h0) (by rw [List.length_map]; exact h1)
      rw [List.getElem?_map] at ej
      obtain ⟨c, ec, rfl⟩ := Option.map_eq_some_iff.mp ej
      refine ⟨.str [c], [.va (scr ns), .mu d2, .va (.int h), .va (.int w), .va (.str s), .mu (.lst fs), r6, .un], ?_, by omega, cs ++ [c], d2, by simp, rfl, by simp [h3], fun z hz => ?_, t2⟩
      · rw [comF_at]
        simp [biD, one, listD, e]
      · rcases List.mem_append.mp hz with hz | hz
        · exact h4 z hz
        · rw [List.mem_singleton.mp hz]
          exact List.mem_of_getElem? ec
  rw [range_len] at q
  obtain ⟨_, cs, d', rfl, rfl, q3, q4, q5⟩ := q
  have ew : 0 + ((w : Int) - 0).toNat = w := by simp
  rw [ew] at q3 q5
  exact ⟨cs, d', e, q3, q4, q5⟩
theorem sized_loop {l : Fn} {n : Nat} {ns : List Int} {k h w : Nat} {d : D} {s : List Nat} (hk : k + h * w < 1000000000) (t : Tn ns k d) (h0 : s ≠ []) (h1 : s.length < 1000000) (hh : h ≤ 1000) (hw : w ≤ 1000) :
    ∃ (b : Bx) (d' : D) (r6 : Sl), forLoop (forF (cfg (TT l) (call (TT l) (n + 2)) [1]) (.n 6) b__law_sized_1) (rangeD 0 (h : Int)) [.va (scr ns), .mu d, .va (.int h), .va (.int w), .va (.str s), .mu (.lst []), .un, .un] = .next [.va (scr ns), .mu d', .va (.int h), .va (.int w), .va (.str s), .mu (.lst (b.map D.str)), r6, .un] ∧ BoxOf s h w b ∧ Tn ns (k + h * w) d' := by
  obtain ⟨r', e, q⟩ := for_inv (f := forF (cfg (TT l) (call (TT l) (n + 2)) [1]) (.n 6) b__law_sized_1)
    (fun i r => i ≤ h ∧ ∃ (b : Bx) (d' : D) (r6 : Sl), r = [.va (scr ns), .mu d', .va (.int h), .va (.int w), .va (.str s), .mu (.lst (b.map D.str)), r6, .un] ∧ BoxOf s i w b ∧ Tn ns (k + i * w) d')
    (xs := rangeD 0 (h : Int)) (r := [.va (scr ns), .mu d, .va (.int h), .va (.int w), .va (.str s), .mu (.lst []), .un, .un]) 0 ⟨Nat.zero_le _, [], d, .un, rfl, ⟨rfl, fun _ z => by simp at z, fun _ z => by simp at z⟩, by simpa using t⟩ fun i x r hx hp => by
      obtain ⟨hi, b, d1, r6, rfl, hb, ht⟩ := hp
      obtain ⟨rfl, hlt⟩ := range_at hx
      have hlt' : i < h := by omega
      have hm : (0 + i) * w + w ≤ h * w := by
        rw [← Nat.succ_mul]
        exact Nat.mul_le_mul_right _ (by omega)
      obtain ⟨cs, d2, e2, q1, q2, q3⟩ := sized_row (l := l) (n := n) (h := h) h0 h1 hw (k + (0 + i) * w) d1 (b.map D.str) (.va (.int (0 + (i : Int)))) (by omega) ht
      refine ⟨[.va (scr ns), .mu d2, .va (.int h), .va (.int w), .va (.str s), .mu (.lst ((b ++ [cs]).map D.str)), .va (.int (0 + (i : Int))), .un], ?_, by omega, b ++ [cs], d2, .va (.int (0 + (i : Int))), rfl, ⟨by simp [hb.rows], fun row hz => ?_, fun row hz => ?_⟩, ?_⟩
      · rw [forF_at]
        have hbg : ∀ f r, k_r1 (.ok (.int (w : Int), f) r) = .ok (rangeD 0 w) r := fun f r => k_r1_nat (by omega)
        have hj := join_chars (cs := cs) (by unfold cap; omega)
        have hlen : ∀ (x : D) r, k_ap2 5 x r (some (.lst (b.map D.str))) = .next (r.set 5 (.mu (.lst (b.map D.str ++ [x])))) := fun x r => k_ap2p (by rw [List.length_map, hb.rows]; unfold cap; omega)
        rw [Int.zero_add] at e2
        simp [b__law_sized_1, hbg, e2, hj, hlen]
      · rcases List.mem_append.mp hz with hz | hz
        · exact hb.cols row hz
        · rw [List.mem_singleton.mp hz]
          exact q1
      · rcases List.mem_append.mp hz with hz | hz
        · exact hb.sgn row hz
        · rw [List.mem_singleton.mp hz]
          exact q2
      · rw [Nat.add_mul, Nat.one_mul, ← Nat.add_assoc]
        exact q3
  rw [range_len] at q
  obtain ⟨_, b, d', r6, rfl, q1, q2⟩ := q
  have eh : 0 + ((h : Int) - 0).toNat = h := by simp
  rw [eh] at q1 q2
  exact ⟨b, d', r6, e, q1, q2⟩
theorem c_sized {l : Fn} {n : Nat} {ns : List Int} {k h w : Nat} {d : D} {s : List Nat} (hk : k + h * w < 1000000000) (t : Tn ns k d) (h0 : s ≠ []) (h1 : s.length < 1000000) (hh : h ≤ 1000) (hw : w ≤ 1000) :
    ∃ (b : Bx) (d' : D), call (TT l) (n + 3) 87 [scr ns, d, .int h, .int w, .str s] = .ret (boxD b) false [d'] ∧ BoxOf s h w b ∧ Tn ns (k + h * w) d' := by
  rw [call_at f__law_sized rfl rfl]
  obtain ⟨b, d', r6, e, q1, q2⟩ := sized_loop (l := l) (n := n) hk t h0 h1 hh hw
  refine ⟨b, d', ?_, q1, q2⟩
  have hbg : ∀ f r, k_r1 (.ok (.int (h : Int), f) r) = .ok (rangeD 0 h) r := fun f r => k_r1_nat (by omega)
  simp [f__law_sized, entry, argsFrom, hbg, e, biD, one, tupleD, boxD, cap]
theorem c_box {l : Fn} {n : Nat} {ns : List Int} {k th tw : Nat} {d : D} {s : List Nat} (hk : k + th * tw + 2 < 1000000000) (t : Tn ns k d) (h0 : s ≠ []) (h1 : s.length < 1000000) (p1 : 0 < th) (p2 : 0 < tw) (hh : th ≤ 1000) (hw : tw ≤ 1000) :
    ∃ (h w : Nat) (b : Bx) (d' : D), call (TT l) (n + 4) 92 [scr ns, d, .int th, .int tw, .str s] = .ret (boxD b) false [d'] ∧ 0 < h ∧ h ≤ th ∧ 0 < w ∧ w ≤ tw ∧ BoxOf s h w b ∧ Tn ns (k + th * tw + 2) d' := by
  obtain ⟨x, d1, e1, hx, t1⟩ := c_draw (l := l) (n := n + 2) (m := th) (by omega) t (by omega) (by omega)
  obtain ⟨y, d2, e2, hy, t2⟩ := c_draw (l := l) (n := n + 2) (m := tw) (by omega) t1 (by omega) (by omega)
  have hm : (1 + x) * (1 + y) ≤ th * tw := Nat.mul_le_mul (by omega) (by omega)
  obtain ⟨b, d3, e3, hb, t3⟩ := c_sized (l := l) (n := n) (h := 1 + x) (w := 1 + y) (by omega) t2 h0 h1 (by omega) (by omega)
  refine ⟨1 + x, 1 + y, b, d3, ?_, by omega, by omega, by omega, by omega, hb, t3.mono (by omega)⟩
  rw [call_at f__law_box rfl rfl]
  have c1 : ((1 + x : Nat) : Int) = 1 + (x : Int) := by omega
  have c2 : ((1 + y : Nat) : Int) = 1 + (y : Int) := by omega
  rw [c1, c2] at e3
  simp [f__law_box, entry, argsFrom, e1, e2, e3]
end Ev.Q

/-! boxes, doors, cells -/
namespace Ev.Q
open PySem
def S6 : List Nat := [46, 114, 102, 35, 82, 70]
/-- a box -/
structure Wf (h w : Nat) (b : Bx) : Prop where
  bx : BoxOf S6 h w b
  h0 : 0 < h
  h5 : h ≤ 5
  w0 : 0 < w
  w5 : w ≤ 5
theorem bools_true : ∀ {ds : List D}, (∀ d, d ∈ ds → d = .bl true) → bools ds = some (ds.map fun _ => true)
  | [], _ => rfl
  | d :: ds, h => by
    have e := h d (List.mem_cons_self ..)
    subst e
    simp [bools, bools_true (ds := ds) fun d hd => h d (List.mem_cons_of_mem _ hd)]
theorem bi_all {ds : List D} (h : ∀ d, d ∈ ds → d = .bl true) : biD .all [.lst ds] = some (.bl true, false) := by
  show (bools ds).map (fun bs => (D.bl (bs.all id), false)) = _
  rw [bools_true h]
  simp
@[simp] theorem bi_len_l {s : List D} : biD .len [.lst s] = some (.int s.length, false) := rfl
@[simp] theorem bi_len_t {s : List D} : biD .len [.tup s] = some (.int s.length, false) := rfl
@[simp] theorem bi_len_s {s : List Nat} : biD .len [.str s] = some (.int s.length, false) := rfl
@[simp] theorem bi_tuple_l {s : List D} : biD .tuple [.lst s] = some (.tup s, false) := rfl
@[simp] theorem bi_tuple_t {s : List D} : biD .tuple [.tup s] = some (.tup s, false) := rfl
@[simp] theorem bi_list_l {s : List D} : biD .list [.lst s] = some (.lst s, true) := rfl
@[simp] theorem bi_list_t {s : List D} : biD .list [.tup s] = some (.lst s, true) := rfl
@[simp] theorem bi_list_s {s : List Nat} : biD .list [.str s] = some (.lst (s.map fun c => .str [c]), true) := rfl
@[simp] theorem bi_int_b {b : Bool} : biD .int [.bl b] = some (.int (b2i b), false) := rfl
@[simp] theorem bi_int_i {i : Int} : biD .int [.int i] = some (.int i, false) := rfl
theorem Wf.row {h w : Nat} {b : Bx} (q : Wf h w b) {i : Nat} (hi : i < h) : ∃ row, b[i]? = some row ∧ row.length = w := by
  have hl : i < b.length := by rw [q.bx.rows]; exact hi
  exact ⟨b[i], List.getElem?_eq_getElem hl, q.bx.cols _ (List.getElem_mem hl)⟩
theorem Wf.at0 {h w : Nat} {b : Bx} (q : Wf h w b) : ∃ row, at? (b.map D.str) 0 = some (.str row) ∧ row.length = w := by
  obtain ⟨row, e1, e2⟩ := q.row q.h0
  exact ⟨row, at_nat (k := 0) rfl (by rw [List.getElem?_map, e1]; rfl), e2⟩
theorem Wf.len {h w : Nat} {b : Bx} (q : Wf h w b) : b.length = h := q.bx.rows
theorem c_is_between {l : Fn} {n : Nat} {v lo hi : Int} : call (TT l) (n + 1) 1 [.int v, .int lo, .int hi] = .ret (.bl (decide (lo ≤ v) && decide (v ≤ hi))) false [] := by
  rw [call_at f_is_between rfl rfl]
  have t1 : biD (.isa "int") [.int v] = some (.bl true, false) := rfl
  have t2 : biD (.isa "bool") [.int v] = some (.bl false, false) := rfl
  cases h : decide (lo ≤ v) <;> simp [f_is_between, entry, argsFrom, h, t1, t2]
theorem c_is_box {l : Fn} {n h w : Nat} {b : Bx} (q : Wf h w b) : call (TT l) (n + 1) 2 [boxD b] = .ret (.bl true) false [] := by
  rw [call_at f_is_box rfl rfl]
  obtain ⟨row0, a0, l0⟩ := q.at0
  have hl := q.len
  have h0 := q.h0; have h5 := q.h5; have w0 := q.w0; have w5 := q.w5
  have t1 : biD (.isa "tuple") [.tup (b.map D.str)] = some (.bl true, false) := rfl
  have t2 : ∀ z, biD (.isa "str") [.str z] = some (.bl true, false) := fun z => rfl
  have e1 : compLoop (comF (cfg (TT l) (call (TT l) n) []) [1] (.bi (.isa "str") [.v 1]) (.n 1) none) (b.map D.str) [] [.va (.tup (b.map D.str)), .un, .un] = .ok ((b.map D.str).map fun _ => .bl true) [.va (.tup (b.map D.str)), .un, .un] := by
    rw [comp_map (g := fun _ => .bl true) _ (by simp [cap]; omega)]
    · simp
    · intro x hx
      obtain ⟨row, _, rfl⟩ := List.mem_map.mp hx
      rw [comF_at]
      simp [t2]
  have e2 : compLoop (comF (cfg (TT l) (call (TT l) n) []) [1] (.cmp .eq (.bi .len [.v 1]) (.bi .len [.ix (.v 0) (.c (.int 0))])) (.n 1) none) (b.map D.str) [] [.va (.tup (b.map D.str)), .un, .un] = .ok ((b.map D.str).map fun _ => .bl true) [.va (.tup (b.map D.str)), .un, .un] := by
    rw [comp_map (g := fun _ => .bl true) _ (by simp [cap]; omega)]
    · simp
    · intro x hx
      obtain ⟨row, hr, rfl⟩ := List.mem_map.mp hx
      rw [comF_at]
      simp [a0, l0, q.bx.cols row hr]
  have e3 : ∃ ds, loopAcc (com2O (cfg (TT l) (call (TT l) n) []) [1, 2] [2] (.cmp .in_ (.v 2) (.g "SIGNS")) (.n 1) (.n 2) (.e (.v 1)) none) (b.map D.str) [] [.va (.tup (b.map D.str)), .un, .un] = .ok ds [.va (.tup (b.map D.str)), .un, .un] ∧ ∀ d, d ∈ ds → d = .bl true := by
    refine ⟨[] ++ (b.map D.str).flatMap (fun x => match x with | .str row => row.map fun _ => .bl true | _ => []), acc_all ?_ ?_, ?_⟩
    · intro x hx acc ha
      obtain ⟨row, hr, rfl⟩ := List.mem_map.mp hx
      have ha : acc.length + (row.map fun _ => D.bl true).length ≤ cap := ha
      show _ = R.ok (acc ++ row.map fun _ => D.bl true) _
      rw [com2O_at]
      have in1 : loopAcc (com2I (cfg (TT l) (call (TT l) n) []) [2] (.cmp .in_ (.v 2) (.g "SIGNS")) (.n 2) none) (row.map fun c => .str [c]) acc [.va (.tup (b.map D.str)), .va (.str row), .un] = .ok (acc ++ (row.map fun c => D.str [c]).map fun _ => .bl true) [.va (.tup (b.map D.str)), .va (.str row), .un] := by
        refine acc_map ?_ (by simpa using ha)
        intro y hy acc ha
        obtain ⟨c, hc, rfl⟩ := List.mem_map.mp hy
        have hcs := q.bx.sgn row hr c hc
        have cm : cmpD .in_ (.str [c]) (.str S6) = some true := by
          show some (S6.contains c) = some true
          simpa using hcs
        rw [com2I_at]
        unfold S6 at cm
        simp [cm, k_pushp ha]
      simp only [List.map_map, Function.comp_def] at in1
      simp [itemsOf, in1]
    · have : ∀ bb : Bx, (∀ row, row ∈ bb → row.length = w) → ((bb.map D.str).flatMap (fun x => match x with | .str row => row.map fun _ => D.bl true | _ => [])).length = bb.length * w := by
        intro bb
        induction bb with
        | nil => intro _; simp
        | cons r rs ih =>
          intro hr
          simp only [List.map_cons, List.flatMap_cons, List.length_append, List.length_map, List.length_cons, Nat.succ_mul] at ih ⊢
          rw [ih fun row hrow => hr row (List.mem_cons_of_mem _ hrow), hr r (List.mem_cons_self ..)]
          omega
      rw [this b q.bx.cols, hl]
      have : h * w ≤ 5 * 5 := Nat.mul_le_mul h5 w5
      simp [cap]
      omega
    · intro d hd
      simp only [List.nil_append, List.mem_flatMap] at hd
      obtain ⟨x, hx, hd⟩ := hd
      obtain ⟨row, hr, rfl⟩ := List.mem_map.mp hx
      obtain ⟨_, _, rfl⟩ := List.mem_map.mp hd
      rfl
  obtain ⟨ds, e3, e4⟩ := e3
  have al1 : biD .all [.lst ((b.map D.str).map fun _ => .bl true)] = some (.bl true, false) := bi_all fun d hd => by
    obtain ⟨_, _, rfl⟩ := List.mem_map.mp hd
    rfl
  have al2 := bi_all e4
  have c1 : decide ((1 : Int) ≤ (h : Int)) = true := decide_eq_true (by omega)
  have c2 : decide ((h : Int) ≤ 5) = true := decide_eq_true (by omega)
  have c3 : decide ((1 : Int) ≤ (w : Int)) = true := decide_eq_true (by omega)
  have c4 : decide ((w : Int) ≤ 5) = true := decide_eq_true (by omega)
  simp only [List.map_map, Function.comp_def] at e1 e2 al1
  simp [f_is_box, entry, argsFrom, boxD, t1, hl, c1, c2, e1, al1, a0, l0, c3, c4, e2, itemsOf, e3, al2]
theorem c_check_box {l : Fn} {n h w : Nat} {b : Bx} (q : Wf h w b) : call (TT l) (n + 2) 6 [boxD b] = .ret .non false [] := by
  rw [call_at f_check_box rfl rfl]
  simp [f_check_box, entry, argsFrom, c_is_box q]
theorem c_doors_of {l : Fn} {n : Nat} {h w : Int} : call (TT l) (n + 1) 11 [.int h, .int w] = .ret (.int (2 * (h + w))) false [] := by
  rw [call_at f_doors_of rfl rfl]
  simp [f_doors_of, entry, argsFrom, bin_mul (i := 2) (.inl (by unfold M64; omega))]
theorem c_count_doors {l : Fn} {n h w : Nat} {b : Bx} (q : Wf h w b) : call (TT l) (n + 3) 14 [boxD b] = .ret (.int (2 * ((h : Int) + w))) false [] := by
  rw [call_at f_count_doors rfl rfl]
  obtain ⟨row0, a0, l0⟩ := q.at0
  have e := c_check_box (l := l) (n := n) q
  unfold boxD at e
  simp [f_count_doors, entry, argsFrom, boxD, e, c_doors_of, q.len, a0, l0]
theorem c_check_door {l : Fn} {n h w : Nat} {b : Bx} {door : Int} (q : Wf h w b) (h0 : 0 ≤ door) (h1 : door < 2 * ((h : Int) + w)) : call (TT l) (n + 2) 12 [boxD b, .int door] = .ret .non false [] := by
  rw [call_at f_check_door rfl rfl]
  obtain ⟨row0, a0, l0⟩ := q.at0
  have d1 : decide (0 ≤ door) = true := decide_eq_true h0
  have d2 : decide (door ≤ 2 * ((h : Int) + w) - 1) = true := decide_eq_true (by omega)
  simp [f_check_door, entry, argsFrom, boxD, c_doors_of, c_is_between, q.len, a0, l0, d1, d2]
theorem c_check_cell {l : Fn} {n h w : Nat} {b : Bx} {r c : Int} (q : Wf h w b) (r0 : 0 ≤ r) (r1 : r < h) (c0 : 0 ≤ c) (c1 : c < w) : call (TT l) (n + 2) 13 [boxD b, .int r, .int c] = .ret .non false [] := by
  rw [call_at f_check_cell rfl rfl]
  obtain ⟨row0, a0, l0⟩ := q.at0
  have d1 : decide (0 ≤ r) = true := decide_eq_true r0
  have d2 : decide (r ≤ (h : Int) - 1) = true := decide_eq_true (by omega)
  have d3 : decide (0 ≤ c) = true := decide_eq_true c0
  have d4 : decide (c ≤ (w : Int) - 1) = true := decide_eq_true (by omega)
  simp [f_check_cell, entry, argsFrom, boxD, c_is_between, q.len, a0, l0, d1, d2, d3, d4]
def trD (p : Int × Int × Int) : D := .tup [.int p.1, .int p.2.1, .int p.2.2]
def beginM (h w door : Int) : Int × Int × Int :=
  if door < w then (0, door, 2) else if door < w + h then (door - w, w - 1, 3) else if door < 2 * w + h then (h - 1, 2 * w + h - 1 - door, 0) else (2 * w + 2 * h - 1 - door, 0, 1)
theorem c_begin {l : Fn} {n : Nat} {h w door : Int} : call (TT l) (n + 1) 15 [.int h, .int w, .int door] = .ret (trD (beginM h w door)) false [] := by
  rw [call_at f_begin rfl rfl]
  have m1 : binD .mul (.int 2) (.int w) = some (.int (2 * w)) := bin_mul (.inl (by unfold M64; omega))
  have m2 : binD .mul (.int 2) (.int h) = some (.int (2 * h)) := bin_mul (.inl (by unfold M64; omega))
  unfold beginM trD
  by_cases h1 : door < w
  · simp [f_begin, entry, argsFrom, h1, cap]
  · by_cases h2 : door < w + h
    · simp [f_begin, entry, argsFrom, h1, h2, cap]
    · by_cases h3 : door < 2 * w + h
      · simp [f_begin, entry, argsFrom, h1, h2, h3, m1, m2, cap]
      · simp [f_begin, entry, argsFrom, h1, h2, h3, m1, m2, cap]
theorem c_entrance {l : Fn} {n h w : Nat} {b : Bx} {door : Int} (q : Wf h w b) (h0 : 0 ≤ door) (h1 : door < 2 * ((h : Int) + w)) : call (TT l) (n + 3) 16 [boxD b, .int door] = .ret (trD (beginM h w door)) false [] := by
  rw [call_at f_entrance rfl rfl]
  obtain ⟨row0, a0, l0⟩ := q.at0
  have e := c_check_box (l := l) (n := n) q
  have e2 := c_check_door (l := l) (n := n) q h0 h1
  unfold boxD at e e2
  simp [f_entrance, entry, argsFrom, boxD, e, e2, c_begin, q.len, a0, l0]
def optD : Option Int → D
  | some i => .int i
  | none => .non
def beyondM (h w row col dir : Int) : Option Int :=
  if dir = 0 ∧ row = 0 then some col else if dir = 1 ∧ col = w - 1 then some (w + row) else if dir = 2 ∧ row = h - 1 then some (2 * w + h - 1 - col) else if dir = 3 ∧ col = 0 then some (2 * w + 2 * h - 1 - row) else none
theorem c_beyond {l : Fn} {n : Nat} {h w row col dir : Int} : call (TT l) (n + 1) 17 [.int h, .int w, .int row, .int col, .int dir] = .ret (optD (beyondM h w row col dir)) false [] := by
  rw [call_at f_beyond rfl rfl]
  have m1 : binD .mul (.int 2) (.int w) = some (.int (2 * w)) := bin_mul (.inl (by unfold M64; omega))
  have m2 : binD .mul (.int 2) (.int h) = some (.int (2 * h)) := bin_mul (.inl (by unfold M64; omega))
  unfold beyondM
  by_cases h0 : dir = 0
  · subst h0
    by_cases h1 : row = 0 <;> simp [f_beyond, entry, argsFrom, h1, optD]
  · by_cases h2 : dir = 1
    · subst h2
      by_cases h1 : col = w - 1
      · subst h1
        simp [f_beyond, entry, argsFrom, optD]
      · simp [f_beyond, entry, argsFrom, h1, optD]
    · by_cases h3 : dir = 2
      · subst h3
        by_cases h1 : row = h - 1
        · subst h1
          simp [f_beyond, entry, argsFrom, m1, m2, optD]
        · simp [f_beyond, entry, argsFrom, h1, optD]
      · by_cases h4 : dir = 3
        · subst h4
          by_cases h1 : col = 0 <;> simp [f_beyond, entry, argsFrom, h1, m1, m2, optD]
        · simp [f_beyond, entry, argsFrom, h0, h2, h3, h4, optD]
theorem c_door_behind {l : Fn} {n h w : Nat} {b : Bx} {r c dir : Int} (q : Wf h w b) (r0 : 0 ≤ r) (r1 : r < h) (c0 : 0 ≤ c) (c1 : c < w) (d0 : 0 ≤ dir) (d1 : dir ≤ 3) : call (TT l) (n + 3) 18 [boxD b, .int r, .int c, .int dir] = .ret (optD (beyondM h w r c dir)) false [] := by
  rw [call_at f_door_behind rfl rfl]
  obtain ⟨row0, a0, l0⟩ := q.at0
  have e := c_check_box (l := l) (n := n) q
  have e2 := c_check_cell (l := l) (n := n) q r0 r1 c0 c1
  have h1 : decide (0 ≤ dir) = true := decide_eq_true d0
  have h2 : decide (dir ≤ 3) = true := decide_eq_true d1
  unfold boxD at e e2
  simp [f_door_behind, entry, argsFrom, boxD, e, e2, c_is_between, h1, h2, c_beyond, q.len, a0, l0]
/-! ### one cell changed -/
def withM (b : Bx) (i j c : Nat) : Bx := b.set i ((b[i]?.getD []).set j c)
theorem Wf.with {h w : Nat} {b : Bx} (q : Wf h w b) {i j c : Nat} (hi : i < h) (hj : j < w) (hc : c ∈ S6) : Wf h w (withM b i j c) := by
  obtain ⟨row, er, lr⟩ := q.row hi
  have hm : row ∈ b := List.mem_of_getElem? er
  refine ⟨⟨by rw [withM, List.length_set, q.bx.rows], fun x hx => ?_, fun x hx => ?_⟩, q.h0, q.h5, q.w0, q.w5⟩
  · rcases List.mem_or_eq_of_mem_set hx with hx | hx
    · exact q.bx.cols x hx
    · rw [hx, er, List.length_set]
      exact lr
  · rcases List.mem_or_eq_of_mem_set hx with hx | hx
    · exact q.bx.sgn x hx
    · intro z hz
      rw [hx, er] at hz
      rcases List.mem_or_eq_of_mem_set hz with hz | hz
      · exact q.bx.sgn row hm z hz
      · rw [hz]
        exact hc
theorem with_body {C : Cfg} {h w : Nat} {b : Bx} {i j c : Nat} (q : Wf h w b) (hi : i < h) (hj : j < w) (hio : C.io = []) : evSs C f_with_sign.body [.va (boxD b), .va (.int i), .va (.int j), .va (.str [c]), .un] = .ret (boxD (withM b i j c)) false [.va (boxD b), .va (.int i), .va (.int j), .va (.str [c]), .va (.str ((b[i]?.getD []).set j c))] := by
  obtain ⟨row, er, lr⟩ := q.row hi
  have hl := q.len
  have w5 := q.w5
  have h5 := q.h5
  have a1 : at? (b.map D.str) (i : Int) = some (.str row) := at_nat rfl (by rw [List.getElem?_map, er]; rfl)
  have u1 : cut row none (some (j : Int)) = row.take j := cut_take (by omega)
  have u2 : cut row (some ((j : Int) + 1)) none = row.drop (j + 1) := cut_drop (by omega) (by omega)
  have u3 : cut (b.map D.str) none (some (i : Int)) = (b.map D.str).take i := cut_take (by rw [List.length_map]; omega)
  have u4 : cut (b.map D.str) (some ((i : Int) + 1)) none = (b.map D.str).drop (i + 1) := cut_drop (by omega) (by rw [List.length_map]; omega)
  have s1 : binD .add (.str (row.take j)) (.str [c]) = some (.str (row.take j ++ [c])) := bin_str (by simp [cap]; omega)
  have s2 : binD .add (.str (row.take j ++ [c])) (.str (row.drop (j + 1))) = some (.str (row.set j c)) := by
    rw [bin_str (by simp [cap]; omega), set_cut (by omega)]
  have s3 : binD .add (.tup ((b.map D.str).take i)) (.tup [.str (row.set j c)]) = some (.tup ((b.map D.str).take i ++ [.str (row.set j c)])) := bin_tup (by simp [cap]; omega)
  have s4 : binD .add (.tup ((b.map D.str).take i ++ [.str (row.set j c)])) (.tup ((b.map D.str).drop (i + 1))) = some (.tup ((withM b i j c).map D.str)) := by
    rw [bin_tup (by simp [cap]; omega), set_cut (by rw [List.length_map]; omega)]
    unfold withM
    rw [er, List.map_set]
    rfl
  simp [f_with_sign, boxD, a1, u1, u2, u3, u4, s1, s2, s3, s4, er, cap, hio]
theorem c_with_sign {l : Fn} {n h w : Nat} {b : Bx} {i j c : Nat} (q : Wf h w b) (hi : i < h) (hj : j < w) : call (TT l) (n + 1) 19 [boxD b, .int i, .int j, .str [c]] = .ret (boxD (withM b i j c)) false [] := by
  rw [call_at f_with_sign rfl rfl]
  show fin [] (evSs _ f_with_sign.body [.va (boxD b), .va (.int i), .va (.int j), .va (.str [c]), .un]) = _
  rw [with_body q hi hj rfl]
  rfl
theorem c__law_with {l : Fn} {n h w : Nat} {b : Bx} {i j c : Nat} (q : Wf h w b) (hi : i < h) (hj : j < w) : call (TT l) (n + 1) 88 [boxD b, .int i, .int j, .str [c]] = .ret (boxD (withM b i j c)) false [] := by
  rw [call_at f__law_with rfl rfl]
  show fin [] (evSs _ f_with_sign.body [.va (boxD b), .va (.int i), .va (.int j), .va (.str [c]), .un]) = _
  rw [with_body q hi hj rfl]
  rfl
theorem c_check_sign {l : Fn} {n c : Nat} (hc : c ∈ S6) : call (TT l) (n + 1) 21 [.str [c]] = .ret .non false [] := by
  rw [call_at f_check_sign rfl rfl]
  have cm : cmpD .notin (.str [c]) (.str S6) = some false := by
    show some (!S6.contains c) = some false
    simpa using hc
  have t : biD (.isa "str") [.str [c]] = some (.bl true, false) := rfl
  unfold S6 at cm
  simp [f_check_sign, entry, argsFrom, t, cm]
theorem c_changed {l : Fn} {n h w : Nat} {b : Bx} {i j c : Nat} (q : Wf h w b) (hi : i < h) (hj : j < w) (hc : c ∈ S6) : call (TT l) (n + 3) 20 [boxD b, .int i, .int j, .str [c]] = .ret (boxD (withM b i j c)) false [] := by
  rw [call_at f_changed rfl rfl]
  have e := c_check_box (l := l) (n := n) q
  have e2 := c_check_cell (l := l) (n := n) (r := i) (c := j) q (by omega) (by omega) (by omega) (by omega)
  have e3 := c_check_sign (l := l) (n := n + 1) hc
  have e4 := c_with_sign (l := l) (n := n + 1) (c := c) q hi hj
  simp [f_changed, entry, argsFrom, e, e2, e3, e4]
theorem okd_box {n : Nat} {b : Bx} : D.okd (n + 1) (boxD b) = true := by
  show D.okds n (b.map D.str) = true
  induction b with
  | nil => rfl
  | cons r b ih =>
    have : D.okd n (.str r) = true := by cases n <;> rfl
    simp only [List.map_cons, D.okds, this, ih, Bool.and_self]
theorem okd_tr {n : Nat} {p : Int × Int × Int} : D.okd (n + 1) (trD p) = true := by
  cases n <;> rfl
/-! ### the laws' own -/
theorem c__law_doors {l : Fn} {n h w : Nat} {b : Bx} (q : Wf h w b) : call (TT l) (n + 1) 93 [boxD b] = .ret (.lst (rangeD 0 ((2 * (h + w) : Nat) : Int))) true [] := by
  rw [call_at f__law_doors rfl rfl]
  obtain ⟨row0, a0, l0⟩ := q.at0
  have h5 := q.h5
  have w5 := q.w5
  have m1 : binD .mul (.int 2) (.int ((h : Int) + w)) = some (.int (2 * ((h : Int) + w))) := bin_mul (.inl (by unfold M64; omega))
  have k1 : ∀ f r, k_lrg (.ok (.int (2 * ((h : Int) + w)), f) r) = .ok (.lst (rangeD 0 ((2 * (h + w) : Nat) : Int)), true) r := fun f r => by
    rw [k_lrg1, if_pos (by unfold big; omega)]
    have : (2 * ((h : Int) + w)) = ((2 * (h + w) : Nat) : Int) := by omega
    rw [this]
  simp [f__law_doors, entry, argsFrom, boxD, q.len, a0, l0, m1, k1]
theorem c__law_out {l : Fn} {n h w : Nat} {b : Bx} {r c : Int} (q : Wf h w b) : call (TT l) (n + 1) 95 [boxD b, .int r, .int c] = .ret (.bl (!(decide (0 ≤ r) && decide (r < h) && (decide (0 ≤ c) && decide (c < w))))) false [] := by
  rw [call_at f__law_out rfl rfl]
  obtain ⟨row0, a0, l0⟩ := q.at0
  cases h1 : decide (0 ≤ r) <;> cases h2 : decide (r < (h : Int)) <;> cases h3 : decide (0 ≤ c) <;> simp [f__law_out, entry, argsFrom, boxD, q.len, a0, l0, h1, h2, h3]
def moveM (r c dir : Int) : Int × Int := if dir = 0 then (r - 1, c) else if dir = 1 then (r, c + 1) else if dir = 2 then (r + 1, c) else (r, c - 1)
theorem c__law_move {l : Fn} {n : Nat} {r c dir : Int} (d0 : 0 ≤ dir) (d1 : dir ≤ 3) : call (TT l) (n + 1) 96 [.int r, .int c, .int dir] = .ret (.tup [.int (moveM r c dir).1, .int (moveM r c dir).2]) false [] := by
  rw [call_at f__law_move rfl rfl]
  have hd : dir = 0 ∨ dir = 1 ∨ dir = 2 ∨ dir = 3 := by omega
  rcases hd with rfl | rfl | rfl | rfl <;> simp [f__law_move, entry, argsFrom, cap, lookI, moveM]
theorem c__law_first {l : Fn} {n h w : Nat} {b : Bx} {door : Nat} (q : Wf h w b) (h1 : door < 2 * (h + w)) : call (TT l) (n + 1) 94 [boxD b, .int door] = .ret (trD (beginM h w door)) false [] := by
  rw [call_at f__law_first rfl rfl]
  obtain ⟨row0, a0, l0⟩ := q.at0
  have h5 := q.h5
  have w5 := q.w5
  have hr : ∀ f r, k_r1 (.ok (.int (h : Int), f) r) = .ok (rangeD 0 h) r := fun f r => k_r1_nat (by omega)
  have wr : ∀ f r, k_r1 (.ok (.int (w : Int), f) r) = .ok (rangeD 0 w) r := fun f r => k_r1_nat (by omega)
  have e1 : ∀ (v2 : Sl), compLoop (comF (cfg (TT l) (call (TT l) n) []) [5] (.tup [.c (.int 0), .v 5, .c (.int 2)]) (.n 5) none) (rangeD 0 (w : Int)) [] [.va (.tup (b.map D.str)), .va (.int door), v2, .va (.int h), .va (.int w), .un, .un, .un] = .ok ((List.range w).map fun k : Nat => trD (0, k, 2)) [.va (.tup (b.map D.str)), .va (.int door), v2, .va (.int h), .va (.int w), .un, .un, .un] := fun v2 => comp_range (by omega) fun k hk => by
    rw [comF_at]
    simp [cap, trD]
  have e2 : ∀ (v2 : Sl), compLoop (comF (cfg (TT l) (call (TT l) n) []) [6] (.tup [.v 6, .bin .sub (.v 4) (.c (.int 1)), .c (.int 3)]) (.n 6) none) (rangeD 0 (h : Int)) [] [.va (.tup (b.map D.str)), .va (.int door), v2, .va (.int h), .va (.int w), .un, .un, .un] = .ok ((List.range h).map fun k : Nat => trD (k, (w : Int) - 1, 3)) [.va (.tup (b.map D.str)), .va (.int door), v2, .va (.int h), .va (.int w), .un, .un, .un] := fun v2 => comp_range (by omega) fun k hk => by
    rw [comF_at]
    simp [cap, trD]
  have e3 : ∀ (v2 : Sl), compLoop (comF (cfg (TT l) (call (TT l) n) []) [7] (.tup [.bin .sub (.v 3) (.c (.int 1)), .bin .sub (.bin .sub (.v 4) (.c (.int 1))) (.v 7), .c (.int 0)]) (.n 7) none) (rangeD 0 (w : Int)) [] [.va (.tup (b.map D.str)), .va (.int door), v2, .va (.int h), .va (.int w), .un, .un, .un] = .ok ((List.range w).map fun k : Nat => trD ((h : Int) - 1, (w : Int) - 1 - k, 0)) [.va (.tup (b.map D.str)), .va (.int door), v2, .va (.int h), .va (.int w), .un, .un, .un] := fun v2 => comp_range (by omega) fun k hk => by
    rw [comF_at]
    simp [cap, trD]
  have e4 : ∀ (v2 : Sl), compLoop (comF (cfg (TT l) (call (TT l) n) []) [7] (.tup [.bin .sub (.bin .sub (.v 3) (.c (.int 1))) (.v 7), .c (.int 0), .c (.int 1)]) (.n 7) none) (rangeD 0 (h : Int)) [] [.va (.tup (b.map D.str)), .va (.int door), v2, .va (.int h), .va (.int w), .un, .un, .un] = .ok ((List.range h).map fun k : Nat => trD ((h : Int) - 1 - k, 0, 1)) [.va (.tup (b.map D.str)), .va (.int door), v2, .va (.int h), .va (.int w), .un, .un, .un] := fun v2 => comp_range (by omega) fun k hk => by
    rw [comF_at]
    simp [cap, trD]
  generalize hA : ((List.range w).map fun k : Nat => trD (0, k, 2)) = A at e1
  generalize hB : ((List.range h).map fun k : Nat => trD (k, (w : Int) - 1, 3)) = B at e2
  generalize hC : ((List.range w).map fun k : Nat => trD ((h : Int) - 1, (w : Int) - 1 - k, 0)) = Cc at e3
  generalize hD : ((List.range h).map fun k : Nat => trD ((h : Int) - 1 - k, 0, 1)) = Dd at e4
  have lA : A.length = w := by rw [← hA]; simp
  have lB : B.length = h := by rw [← hB]; simp
  have lC : Cc.length = w := by rw [← hC]; simp
  have lD : Dd.length = h := by rw [← hD]; simp
  have b1 : binD .add (.lst A) (.lst B) = some (.lst (A ++ B)) := bin_lst (by unfold cap; omega)
  have b2 : binD .add (.lst (A ++ B)) (.lst Cc) = some (.lst (A ++ B ++ Cc)) := bin_lst (by rw [List.length_append]; unfold cap; omega)
  have b3 : binD .add (.lst (A ++ B ++ Cc)) (.lst Dd) = some (.lst (A ++ B ++ Cc ++ Dd)) := bin_lst (by rw [List.length_append, List.length_append]; unfold cap; omega)
  have a1 : at? (A ++ B ++ Cc ++ Dd) (door : Int) = some (trD (beginM h w door)) := by
    refine at_nat rfl ?_
    unfold beginM
    by_cases c1 : door < w
    · rw [if_pos (by omega), List.getElem?_append_left (by rw [List.length_append, List.length_append]; omega), List.getElem?_append_left (by rw [List.length_append]; omega), List.getElem?_append_left (by omega), ← hA]
      simp [c1]
    · rw [if_neg (by omega)]
      by_cases c2 : door < w + h
      · rw [if_pos (by omega), List.getElem?_append_left (by rw [List.length_append, List.length_append]; omega), List.getElem?_append_left (by rw [List.length_append]; omega), List.getElem?_append_right (by omega), lA, ← hB, List.getElem?_map, List.getElem?_range (by omega)]
        simp only [Option.map_some]
        rw [show ((door - w : Nat) : Int) = (door : Int) - w by omega]
      · rw [if_neg (by omega)]
        by_cases c3 : door < 2 * w + h
        · rw [if_pos (by omega), List.getElem?_append_left (by rw [List.length_append, List.length_append]; omega), List.getElem?_append_right (by rw [List.length_append]; omega), List.length_append, lA, lB, ← hC, List.getElem?_map, List.getElem?_range (by omega)]
          simp only [Option.map_some]
          rw [show (w : Int) - 1 - ((door - (w + h) : Nat) : Int) = 2 * (w : Int) + h - 1 - door by omega]
        · rw [if_neg (by omega), List.getElem?_append_right (by rw [List.length_append, List.length_append]; omega), List.length_append, List.length_append, lA, lB, lC, ← hD, List.getElem?_map, List.getElem?_range (by omega)]
          simp only [Option.map_some]
          rw [show (h : Int) - 1 - ((door - (w + h + w) : Nat) : Int) = 2 * (w : Int) + 2 * h - 1 - door by omega]
  simp only [List.append_assoc] at b2 b3 a1
  simp [f__law_first, entry, argsFrom, boxD, q.len, a0, l0, hr, wr, e1, e2, e3, e4, b1, b2, b3, a1]
end Ev.Q

/-! the ways of light -/
namespace Ev.Q
open PySem
/-! ### light, step by step -/
abbrev Tr := Int × Int × Int
def sgn (b : Bx) (r c : Int) : Nat := (b[r.toNat]?.getD [])[c.toNat]?.getD 0
def turnM (s : Nat) (d : Int) : Int := if s = 114 then (if d = 0 then 1 else if d = 1 then 0 else if d = 2 then 3 else 2) else if s = 102 then 3 - d else d
def insd (h w : Nat) (r c : Int) : Prop := 0 ≤ r ∧ r < h ∧ 0 ≤ c ∧ c < w
def okDir (d : Int) : Prop := 0 ≤ d ∧ d ≤ 3
def opp (d : Int) : Int := (d + 2) % 4
def nxt (b : Bx) (p : Tr) : Tr := ((moveM p.1 p.2.1 (turnM (sgn b p.1 p.2.1) p.2.2)).1, (moveM p.1 p.2.1 (turnM (sgn b p.1 p.2.1) p.2.2)).2, turnM (sgn b p.1 p.2.1) p.2.2)
def rv (b : Bx) (p : Tr) : Tr := (p.1, p.2.1, opp (turnM (sgn b p.1 p.2.1) p.2.2))
theorem dir4 {d : Int} (h : okDir d) : d = 0 ∨ d = 1 ∨ d = 2 ∨ d = 3 := by
  obtain ⟨h1, h2⟩ := h
  omega
theorem opp_ok {d : Int} : okDir (opp d) := by unfold opp okDir; omega
theorem opp_opp {d : Int} (h : okDir d) : opp (opp d) = d := by
  rcases dir4 h with rfl | rfl | rfl | rfl <;> rfl
theorem opp_ne {d : Int} (h : okDir d) : opp d ≠ d := by
  rcases dir4 h with rfl | rfl | rfl | rfl <;> decide
theorem turn_ok {s : Nat} {d : Int} (h : okDir d) : okDir (turnM s d) := by
  unfold turnM okDir at *
  by_cases h1 : s = 114
  · rw [if_pos h1]; repeat (first | omega | split)
  · rw [if_neg h1]; split <;> omega
theorem turn_rv {s : Nat} {d : Int} (h : okDir d) : turnM s (opp (turnM s d)) = opp d := by
  unfold turnM
  by_cases h1 : s = 114
  · simp only [h1, if_true]
    rcases dir4 h with rfl | rfl | rfl | rfl <;> decide
  · by_cases h2 : s = 102
    · simp only [h2, if_true]
      rcases dir4 h with rfl | rfl | rfl | rfl <;> decide
    · simp only [h1, h2, if_false]
theorem turn_nb {s : Nat} {d : Int} (h : okDir d) : opp (turnM s d) ≠ d := by
  unfold turnM
  by_cases h1 : s = 114
  · simp only [h1, if_true]
    rcases dir4 h with rfl | rfl | rfl | rfl <;> decide
  · by_cases h2 : s = 102
    · simp only [h2, if_true]
      rcases dir4 h with rfl | rfl | rfl | rfl <;> decide
    · simp only [h1, h2, if_false]
      exact opp_ne h
theorem move_opp {r c d : Int} (h : okDir d) : moveM (moveM r c d).1 (moveM r c d).2 (opp d) = (r, c) := by
  rcases dir4 h with rfl | rfl | rfl | rfl <;> simp [moveM, opp] <;> omega
theorem move_ne {r c d : Int} (h : okDir d) : moveM r c d ≠ (r, c) := by
  rcases dir4 h with rfl | rfl | rfl | rfl <;> simp [moveM] <;> omega
theorem rv_rv {b : Bx} {p : Tr} (h : okDir p.2.2) : rv b (rv b p) = p := by
  obtain ⟨r, c, d⟩ := p
  show (r, c, opp (turnM (sgn b r c) (opp (turnM (sgn b r c) d)))) = _
  rw [turn_rv h, opp_opp h]
theorem nxt_rv {b : Bx} {p : Tr} (h : okDir p.2.2) : nxt b (rv b (nxt b p)) = rv b p := by
  obtain ⟨r, c, d⟩ := p
  have h : okDir d := h
  have h1 : okDir (turnM (sgn b r c) d) := turn_ok h
  unfold nxt rv
  simp only
  generalize hs : turnM (sgn b r c) d = e at *
  generalize hc : sgn b (moveM r c e).1 (moveM r c e).2 = s
  rw [turn_rv h1, move_opp h1]
theorem nxt_inj {b : Bx} {p q : Tr} (hp : okDir p.2.2) (hq : okDir q.2.2) (h : nxt b p = nxt b q) : p = q := by
  have := nxt_rv (b := b) hp
  rw [h, nxt_rv hq] at this
  rw [← rv_rv (b := b) hp, ← rv_rv (b := b) hq, this]
def it (b : Bx) (t : Tr) : Nat → Tr
  | 0 => t
  | n + 1 => nxt b (it b t n)
theorem it_dir {b : Bx} {t : Tr} (h : okDir t.2.2) : ∀ n, okDir (it b t n).2.2
  | 0 => h
  | n + 1 => turn_ok (it_dir h n)
theorem no_rev {b : Bx} {t : Tr} (h : okDir t.2.2) : ∀ (k i : Nat), it b t i ≠ rv b (it b t (i + k))
  | 0, i, e => by
    have := congrArg (fun p : Tr => p.2.2) e
    exact turn_nb (it_dir h i) this.symm
  | 1, i, e => by
    have e1 := congrArg (fun p : Tr => p.1) e
    have e2 := congrArg (fun p : Tr => p.2.1) e
    exact move_ne (r := (it b t i).1) (c := (it b t i).2.1) (turn_ok (it_dir h i)) (Prod.ext e1.symm e2.symm)
  | k + 2, i, e => by
    refine no_rev (b := b) h k (i + 1) ?_
    show nxt b (it b t i) = _
    rw [e]
    have : i + 1 + k = i + (k + 1) := by omega
    rw [this]
    exact nxt_rv (it_dir h (i + (k + 1)))
theorem back_rep {b : Bx} {t : Tr} (h : okDir t.2.2) : ∀ (i k : Nat), it b t i = it b t (i + k) → t = it b t k
  | 0, k, e => by simpa [it] using e
  | i + 1, k, e => by
    refine back_rep h i k (nxt_inj (b := b) (it_dir h _) (it_dir h _) ?_)
    have : i + 1 + k = (i + k) + 1 := by omega
    rw [this] at e
    exact e
theorem no_rep {h w : Nat} {b : Bx} {t : Tr} (hd : okDir t.2.2) (ho : ¬ insd h w (moveM t.1 t.2.1 (opp t.2.2)).1 (moveM t.1 t.2.1 (opp t.2.2)).2) {i k : Nat} (hin : insd h w (it b t k).1 (it b t k).2.1) : it b t i ≠ it b t (i + (k + 1)) := by
  intro e
  have e1 : t = nxt b (it b t k) := back_rep hd i (k + 1) e
  apply ho
  have hk := it_dir (b := b) hd k
  generalize it b t k = p at *
  subst e1
  have := move_opp (r := p.1) (c := p.2.1) (turn_ok (s := sgn b p.1 p.2.1) hk)
  show insd h w (moveM (moveM p.1 p.2.1 (turnM (sgn b p.1 p.2.1) p.2.2)).1 (moveM p.1 p.2.1 (turnM (sgn b p.1 p.2.1) p.2.2)).2 (opp (turnM (sgn b p.1 p.2.1) p.2.2))).1 (moveM (moveM p.1 p.2.1 (turnM (sgn b p.1 p.2.1) p.2.2)).1 (moveM p.1 p.2.1 (turnM (sgn b p.1 p.2.1) p.2.2)).2 (opp (turnM (sgn b p.1 p.2.1) p.2.2))).2
  rw [this]
  exact hin
def cls (s : Nat) (d : Int) : Nat := if s = 114 then (if d = 0 ∨ d = 3 then 0 else 1) else if s = 102 then (if d ≤ 1 then 0 else 1) else (if d % 2 = 0 then 0 else 1)
theorem cls_lt {s : Nat} {d : Int} : cls s d < 2 := by
  unfold cls
  repeat (first | omega | split)
theorem cls_eq {s : Nat} {d e : Int} (hd : okDir d) (he : okDir e) (h : cls s d = cls s e) : d = e ∨ d = opp (turnM s e) := by
  unfold cls turnM at *
  by_cases h1 : s = 114
  · simp only [h1, if_true] at *
    rcases dir4 hd with rfl | rfl | rfl | rfl <;> rcases dir4 he with rfl | rfl | rfl | rfl <;> revert h <;> decide
  · by_cases h2 : s = 102
    · simp only [h2, if_true] at *
      rcases dir4 hd with rfl | rfl | rfl | rfl <;> rcases dir4 he with rfl | rfl | rfl | rfl <;> revert h <;> decide
    · simp only [h1, h2, if_false] at *
      rcases dir4 hd with rfl | rfl | rfl | rfl <;> rcases dir4 he with rfl | rfl | rfl | rfl <;> revert h <;> decide
def code (w : Nat) (b : Bx) (p : Tr) : Nat := (p.1.toNat * w + p.2.1.toNat) * 2 + cls (sgn b p.1 p.2.1) p.2.2
theorem cell_eq {w r c r' c' : Nat} (hc : c < w) (hc' : c' < w) (h : r * w + c = r' * w + c') : r = r' ∧ c = c' := by
  have h1 : (r * w + c) / w = r := by
    rw [Nat.mul_comm, Nat.mul_add_div (by omega), Nat.div_eq_of_lt hc]; omega
  have h2 : (r' * w + c') / w = r' := by
    rw [Nat.mul_comm, Nat.mul_add_div (by omega), Nat.div_eq_of_lt hc']; omega
  have : r = r' := by rw [← h1, ← h2, h]
  subst this
  exact ⟨rfl, by omega⟩
theorem code_lt {h w : Nat} {b : Bx} {p : Tr} (hp : insd h w p.1 p.2.1) : code w b p < 2 * h * w := by
  unfold code
  have := cls_lt (s := sgn b p.1 p.2.1) (d := p.2.2)
  obtain ⟨h1, h2, h3, h4⟩ := hp
  have a : p.1.toNat + 1 ≤ h := by omega
  have b' : p.2.1.toNat < w := by omega
  have e : (p.1.toNat + 1) * w ≤ h * w := Nat.mul_le_mul_right w a
  rw [Nat.add_mul] at e
  rw [Nat.mul_assoc]
  omega
theorem code_eq {h w : Nat} {b : Bx} {p q : Tr} (hp : insd h w p.1 p.2.1) (hq : insd h w q.1 q.2.1) (dp : okDir p.2.2) (dq : okDir q.2.2) (e : code w b p = code w b q) : p = q ∨ p = rv b q := by
  obtain ⟨r, c, d⟩ := p
  obtain ⟨r', c', d'⟩ := q
  unfold code at e
  obtain ⟨h1, h2, h3, h4⟩ := hp
  obtain ⟨k1, k2, k3, k4⟩ := hq
  simp only at *
  have l1 := cls_lt (s := sgn b r c) (d := d)
  have l2 := cls_lt (s := sgn b r' c') (d := d')
  obtain ⟨z1, z2⟩ := cell_eq (w := w) (r := r.toNat) (c := c.toNat) (r' := r'.toNat) (c' := c'.toNat) (by omega) (by omega) (by omega)
  have er : r = r' := by omega
  have ec : c = c' := by omega
  subst er ec
  rcases cls_eq dp dq (by omega : cls (sgn b r c) d = cls (sgn b r c) d') with z | z
  · exact .inl (by rw [z])
  · exact .inr (by rw [z]; rfl)
theorem pigeon : ∀ (N : Nat) (l : List Nat), l.Nodup → (∀ x, x ∈ l → x < N) → l.length ≤ N
  | 0, l, _, h => by
    cases l with
    | nil => simp
    | cons x _ => exact absurd (h x (List.mem_cons_self ..)) (by omega)
  | N + 1, l, nd, h => by
    have h1 := pigeon N (l.erase N) (nd.erase N) fun x hx => by
      have h2 := h x (List.mem_of_mem_erase hx)
      have h3 : x ≠ N := fun z => by subst z; exact nd.not_mem_erase hx
      omega
    rw [List.length_erase] at h1
    split at h1 <;> omega
theorem pigeonF {N n : Nat} {f : Nat → Nat} (h1 : ∀ i, i < n → f i < N) (h2 : ∀ i j, i < j → j < n → f i ≠ f j) : n ≤ N := by
  have := pigeon N ((List.range n).map f) ?_ fun x hx => ?_
  · simpa using this
  · refine List.pairwise_map.mpr ?_
    exact List.Pairwise.imp_of_mem (fun {a c} ha hc hac => h2 a c hac (List.mem_range.mp hc)) (List.pairwise_lt_range)
  · obtain ⟨i, hi, rfl⟩ := List.mem_map.mp hx
    exact h1 i (List.mem_range.mp hi)
/-- where light ends: at a block, or where it goes on outside -/
def stp (h w : Nat) (b : Bx) (p : Tr) : Prop := sgn b p.1 p.2.1 = 35 ∨ ¬ insd h w (nxt b p).1 (nxt b p).2.1
/-- the light of an entrance -/
structure Ent (h w : Nat) (t : Tr) : Prop where
  inn : insd h w t.1 t.2.1
  dir : okDir t.2.2
  out : ¬ insd h w (moveM t.1 t.2.1 (opp t.2.2)).1 (moveM t.1 t.2.1 (opp t.2.2)).2
theorem all_in {h w : Nat} {b : Bx} {t : Tr} (e : Ent h w t) {n : Nat} (hs : ∀ m, m < n → ¬ stp h w b (it b t m)) : ∀ m, m ≤ n → insd h w (it b t m).1 (it b t m).2.1
  | 0, _ => e.inn
  | m + 1, hm => Classical.byContradiction fun z => hs m (by omega) (.inr z)
theorem few {h w : Nat} {b : Bx} {t : Tr} (e : Ent h w t) {n : Nat} (hs : ∀ m, m < n → ¬ stp h w b (it b t m)) : n + 1 ≤ 2 * h * w := by
  have hi := all_in e hs
  refine pigeonF (f := fun i => code w b (it b t i)) (fun i hi' => code_lt (hi i (by omega))) fun i j hij hj z => ?_
  obtain ⟨k, rfl⟩ : ∃ k, j = i + (k + 1) := ⟨j - i - 1, by omega⟩
  rcases code_eq (hi i (by omega)) (hi _ (by omega)) (it_dir e.dir _) (it_dir e.dir _) z with z | z
  · exact no_rep (h := h) (w := w) e.dir e.out (hi k (by omega)) z
  · exact no_rev e.dir _ _ z
structure End (h w : Nat) (b : Bx) (t : Tr) (N : Nat) : Prop where
  lt : N + 1 ≤ 2 * h * w
  stop : stp h w b (it b t N)
  non : ∀ m, m < N → ¬ stp h w b (it b t m)
  inn : ∀ m, m ≤ N → insd h w (it b t m).1 (it b t m).2.1
theorem ends {h w : Nat} {b : Bx} {t : Tr} (e : Ent h w t) : ∃ N, End h w b t N := by
  have key : ∀ k, (∃ N, N < k ∧ stp h w b (it b t N) ∧ ∀ m, m < N → ¬ stp h w b (it b t m)) ∨ ∀ m, m < k → ¬ stp h w b (it b t m) := by
    intro k
    induction k with
    | zero => exact .inr fun m hm => absurd hm (by omega)
    | succ k ih =>
      rcases ih with ⟨N, h1, h2, h3⟩ | ih
      · exact .inl ⟨N, by omega, h2, h3⟩
      · by_cases hk : stp h w b (it b t k)
        · exact .inl ⟨k, by omega, hk, ih⟩
        · refine .inr fun m hm => ?_
          by_cases z : m = k
          · rw [z]; exact hk
          · exact ih m (by omega)
  rcases key (2 * h * w) with ⟨N, h1, h2, h3⟩ | h
  · exact ⟨N, by omega, h2, h3, all_in e h3⟩
  · have := few e h
    omega
theorem End.uniq {h w : Nat} {b : Bx} {t : Tr} {N M : Nat} (a : End h w b t N) (c : End h w b t M) : N = M := by
  rcases Nat.lt_trichotomy N M with z | z | z
  · exact (c.non N z a.stop).elim
  · exact z
  · exact (a.non M z c.stop).elim

open Classical in
noncomputable def wN (h w : Nat) (b : Bx) (t : Tr) : Nat := if e : ∃ N, End h w b t N then Classical.choose e else 0
theorem wN_end {h w : Nat} {b : Bx} {t : Tr} (e : Ent h w t) : End h w b t (wN h w b t) := by
  unfold wN
  rw [dif_pos (ends e)]
  exact Classical.choose_spec (ends e)
theorem wN_eq {h w : Nat} {b : Bx} {t : Tr} {N : Nat} (a : End h w b t N) : wN h w b t = N := by
  unfold wN
  rw [dif_pos ⟨N, a⟩]
  exact End.uniq (Classical.choose_spec (⟨N, a⟩ : ∃ N, End h w b t N)) a
/-- where light comes out that is last at p -/
def outAt (h w : Nat) (b : Bx) (p : Tr) : Option Int := if sgn b p.1 p.2.1 = 35 then none else beyondM h w p.1 p.2.1 (turnM (sgn b p.1 p.2.1) p.2.2)
noncomputable def wtr (h w : Nat) (b : Bx) (t : Tr) : List Tr := (List.range (wN h w b t + 1)).map (it b t)
noncomputable def wout (h w : Nat) (b : Bx) (t : Tr) : Option Int := outAt h w b (it b t (wN h w b t))
/-! ### doors -/
theorem ff1 : ∀ h : _root_.Fin 6, ∀ w : _root_.Fin 6, ∀ d : _root_.Fin 20, 0 < h.val → 0 < w.val → d.val < 2 * (h.val + w.val) → 0 ≤ (beginM h.val w.val d.val).1 ∧ (beginM h.val w.val d.val).1 < h.val ∧ 0 ≤ (beginM h.val w.val d.val).2.1 ∧ (beginM h.val w.val d.val).2.1 < w.val ∧ 0 ≤ (beginM h.val w.val d.val).2.2 ∧ (beginM h.val w.val d.val).2.2 ≤ 3 ∧ beyondM h.val w.val (beginM h.val w.val d.val).1 (beginM h.val w.val d.val).2.1 (((beginM h.val w.val d.val).2.2 + 2) % 4) = some (d.val : Int) := by decide +kernel
def inB (h w : Nat) (r c : Int) : Bool := decide (0 ≤ r) && decide (r < h) && (decide (0 ≤ c) && decide (c < w))
theorem ff2 : ∀ h : _root_.Fin 6, ∀ w : _root_.Fin 6, ∀ r : _root_.Fin 5, ∀ c : _root_.Fin 5, ∀ d : _root_.Fin 4, r.val < h.val → c.val < w.val → (match beyondM h.val w.val r.val c.val d.val with
  | none => inB h.val w.val (moveM r.val c.val d.val).1 (moveM r.val c.val d.val).2
  | some o => !inB h.val w.val (moveM r.val c.val d.val).1 (moveM r.val c.val d.val).2 && (decide (0 ≤ o) && decide (o < 2 * (h.val + w.val) ∧ beginM h.val w.val o = ((r.val : Int), (c.val : Int), ((d.val : Int) + 2) % 4)))) = true := by decide +kernel
theorem inB_iff {h w : Nat} {r c : Int} : inB h w r c = true ↔ insd h w r c := by
  unfold inB insd
  simp only [Bool.and_eq_true, decide_eq_true_eq, and_assoc]
section
variable {h w : Nat} {b : Bx}
theorem beyond_in (q : Wf h w b) {r c d : Int} (i : insd h w r c) (hd : okDir d) (m : insd h w (moveM r c d).1 (moveM r c d).2) : beyondM h w r c d = none := by
  obtain ⟨i1, i2, i3, i4⟩ := i
  obtain ⟨d1, d2⟩ := hd
  obtain ⟨r, rfl⟩ := Int.eq_ofNat_of_zero_le i1
  obtain ⟨c, rfl⟩ := Int.eq_ofNat_of_zero_le i3
  obtain ⟨d, rfl⟩ := Int.eq_ofNat_of_zero_le d1
  have h5 := q.h5; have w5 := q.w5
  have f := ff2 ⟨h, by omega⟩ ⟨w, by omega⟩ ⟨r, by omega⟩ ⟨c, by omega⟩ ⟨d, by omega⟩ (by simp; omega) (by simp; omega)
  simp only at f
  cases e : beyondM (h : Int) w r c d with
  | none => rfl
  | some o =>
    rw [e] at f
    simp only [Bool.and_eq_true] at f
    rw [inB_iff.mpr m] at f
    exact absurd f.1 (by decide)
theorem beyond_out (q : Wf h w b) {r c d : Int} (i : insd h w r c) (hd : okDir d) (m : ¬ insd h w (moveM r c d).1 (moveM r c d).2) : ∃ o : Nat, beyondM h w r c d = some (o : Int) ∧ o < 2 * (h + w) ∧ beginM h w o = (r, c, opp d) := by
  obtain ⟨i1, i2, i3, i4⟩ := i
  obtain ⟨d1, d2⟩ := hd
  obtain ⟨r, rfl⟩ := Int.eq_ofNat_of_zero_le i1
  obtain ⟨c, rfl⟩ := Int.eq_ofNat_of_zero_le i3
  obtain ⟨d, rfl⟩ := Int.eq_ofNat_of_zero_le d1
  have h5 := q.h5; have w5 := q.w5
  have f := ff2 ⟨h, by omega⟩ ⟨w, by omega⟩ ⟨r, by omega⟩ ⟨c, by omega⟩ ⟨d, by omega⟩ (by simp; omega) (by simp; omega)
  simp only at f
  cases e : beyondM (h : Int) w r c d with
  | none =>
    rw [e] at f
    exact absurd (inB_iff.mp f) m
  | some o =>
    rw [e] at f
    simp only [Bool.and_eq_true, decide_eq_true_eq] at f
    obtain ⟨_, f1, f2, f3⟩ := f
    obtain ⟨o, rfl⟩ := Int.eq_ofNat_of_zero_le f1
    exact ⟨o, rfl, by omega, f3⟩
theorem beg_ent (q : Wf h w b) {k : Nat} (hk : k < 2 * (h + w)) : Ent h w (beginM h w k) ∧ beyondM h w (beginM h w k).1 (beginM h w k).2.1 (opp (beginM h w k).2.2) = some (k : Int) := by
  have h5 := q.h5; have w5 := q.w5
  obtain ⟨g1, g2, g3, g4, g5, g6, g7⟩ := ff1 ⟨h, by omega⟩ ⟨w, by omega⟩ ⟨k, by omega⟩ q.h0 q.w0 hk
  simp only at g1 g2 g3 g4 g5 g6 g7
  refine ⟨⟨⟨g1, g2, g3, g4⟩, ⟨g5, g6⟩, fun z => ?_⟩, g7⟩
  have := beyond_in q ⟨g1, g2, g3, g4⟩ opp_ok z
  unfold opp at this
  rw [this] at g7
  cases g7
theorem beg_inj (q : Wf h w b) {k j : Nat} (hk : k < 2 * (h + w)) (hj : j < 2 * (h + w)) (e : beginM h w k = beginM h w j) : k = j := by
  have h1 := (beg_ent q hk).2
  have h2 := (beg_ent q hj).2
  rw [e, h2] at h1
  injection h1 with h1
  omega
/-! ### signs -/
theorem sg_at (q : Wf h w b) {r c : Int} (i : insd h w r c) : ∃ row, at? (b.map D.str) r = some (.str row) ∧ at? row c = some (sgn b r c) ∧ row ∈ b := by
  obtain ⟨i1, i2, i3, i4⟩ := i
  obtain ⟨r, rfl⟩ := Int.eq_ofNat_of_zero_le i1
  obtain ⟨c, rfl⟩ := Int.eq_ofNat_of_zero_le i3
  obtain ⟨row, er, lr⟩ := q.row (i := r) (by omega)
  refine ⟨row, at_nat rfl (by rw [List.getElem?_map, er]; rfl), at_nat rfl ?_, List.mem_of_getElem? er⟩
  unfold sgn
  simp only [Int.toNat_natCast]
  rw [er]
  simp only [Option.getD_some]
  rw [List.getElem?_eq_getElem (by omega)]
  rfl
/-- no splitters -/
def P4 (b : Bx) : Prop := ∀ row, row ∈ b → ∀ c, c ∈ row → c = 46 ∨ c = 114 ∨ c = 102 ∨ c = 35
theorem P4.sg (p : P4 b) (q : Wf h w b) {r c : Int} (i : insd h w r c) : sgn b r c = 46 ∨ sgn b r c = 114 ∨ sgn b r c = 102 ∨ sgn b r c = 35 := by
  obtain ⟨row, _, e2, m⟩ := sg_at q i
  refine p row m _ ?_
  unfold at? at e2
  obtain ⟨j, _, e⟩ := Option.bind_eq_some_iff.mp e2
  exact List.mem_of_getElem? e
end
/-! ### contracts -/
@[simp] theorem cmp_eqs {x y : List Nat} : cmpD .eq (.str x) (.str y) = some (x == y) := (rfl)
@[simp] theorem cmp_nes {x y : List Nat} : cmpD .ne (.str x) (.str y) = some (!(x == y)) := (rfl)
@[simp] theorem cmp_ins {c : Nat} {y : List Nat} : cmpD .in_ (.str [c]) (.str y) = some (y.contains c) := (rfl)
theorem c_turn_at {l : Fn} {n s : Nat} {d : Int} (hd : okDir d) : call (TT l) (n + 1) 24 [.str [s], .int d] = .ret (.int (turnM s d)) false [] := by
  rw [call_at f_turn_at rfl rfl]
  unfold turnM
  by_cases h1 : s = 114
  · rcases dir4 hd with rfl | rfl | rfl | rfl <;> simp [f_turn_at, entry, argsFrom, h1, cap, at?, ixOf]
  · have h1' : (s == 114) = false := by simpa using h1
    by_cases h2 : s = 102
    · rcases dir4 hd with rfl | rfl | rfl | rfl <;> simp [f_turn_at, entry, argsFrom, h1, h2, cap, at?, ixOf]
    · have h2' : (s == 102) = false := by simpa using h2
      simp [f_turn_at, entry, argsFrom, h1, h2, h1', h2', cap]
theorem c__law_turn {l : Fn} {n s : Nat} {d : Int} (hd : okDir d) (hs : s = 46 ∨ s = 114 ∨ s = 102 ∨ s = 35) : call (TT l) (n + 1) 130 [.str [s], .int d] = .ret (.int (turnM s d)) false [] := by
  rw [call_at f__law_turn rfl rfl]
  unfold turnM
  rcases hs with rfl | rfl | rfl | rfl
  · simp [f__law_turn, entry, argsFrom, cap]
  · rcases dir4 hd with rfl | rfl | rfl | rfl <;> simp [f__law_turn, entry, argsFrom, cap, lookI]
  · rcases dir4 hd with rfl | rfl | rfl | rfl <;> simp [f__law_turn, entry, argsFrom, cap, lookI]
  · simp [f__law_turn, entry, argsFrom, cap]
theorem c_next_triple {l : Fn} {n : Nat} {r c d : Int} (hd : okDir d) : call (TT l) (n + 1) 23 [.tup [.int r, .int c, .int d]] = .ret (trD ((moveM r c d).1, (moveM r c d).2, d)) false [] := by
  rw [call_at f_next_triple rfl rfl]
  rcases dir4 hd with rfl | rfl | rfl | rfl <;> simp [f_next_triple, entry, argsFrom, cap, at?, ixOf, trD, moveM] <;> omega
/-! ### loops -/
theorem whl_ret {t : Env → R Bool} {bd : Env → RS} {n : Nat} {r r1 r2 : Env} {d : D} {f : Bool} (h1 : t r = .ok true r1) (h2 : bd r1 = .ret d f r2) : whileLoop t bd (n + 1) r = .ret d f r2 := by
  simp only [whileLoop, h1, h2]
theorem whl_retE {t : Env → R Bool} {bd : Env → RS} {n : Nat} {r r1 : Env} {d : D} {f : Bool} (h1 : t r = .ok true r1) (h2 : ∃ r2, bd r1 = .ret d f r2) : ∃ r2, whileLoop t bd (n + 1) r = .ret d f r2 := by
  obtain ⟨r2, h2⟩ := h2
  exact ⟨r2, whl_ret h1 h2⟩
theorem whl_next {t : Env → R Bool} {bd : Env → RS} {n : Nat} {r r1 r2 : Env} (h1 : t r = .ok true r1) (h2 : bd r1 = .next r2) : whileLoop t bd (n + 1) r = whileLoop t bd n r2 := by
  simp only [whileLoop, h1, h2]
theorem whl_stop {t : Env → R Bool} {bd : Env → RS} {n : Nat} {r r1 : Env} (h1 : t r = .ok false r1) : whileLoop t bd (n + 1) r = .next r1 := by
  simp only [whileLoop, h1]
theorem range_snoc {α : Type} (f : Nat → α) (i : Nat) : (List.range i).map f ++ [f i] = (List.range (i + 1)).map f := by
  rw [List.range_succ, List.map_append]
  rfl
section
variable {h w : Nat} {b : Bx}
theorem lit_loop {l : Fn} {n N : Nat} {t : Tr} {door : D} (q : Wf h w b) (en : Ent h w t) (e : End h w b t N) : ∀ (k i m : Nat), i + k = N → k < m → ∀ (s6 s7 s8 s9 : Sl), ∃ r', whileLoop (whlT (cfg (TT l) (call (TT l) (n + 1)) []) (.c (.bl true))) (whlB (cfg (TT l) (call (TT l) (n + 1)) []) b_lit_1) m
    [.va (boxD b), .va door, .va (.int h), .va (.int w), .va (trD (it b t i)), .mu (.lst ((List.range i).map fun j => trD (it b t j))), s6, s7, s8, s9] = .ret (.tup [.lst ((List.range (N + 1)).map fun j => trD (it b t j)), optD (outAt h w b (it b t N))]) false r' := by
  intro k
  induction k with
  | zero =>
    intro i m hi hm s6 s7 s8 s9
    have hi : i = N := by omega
    subst hi
    obtain ⟨m, rfl⟩ : ∃ m', m = m' + 1 := ⟨m - 1, by omega⟩
    have inn := e.inn i (by omega)
    have dr := it_dir (b := b) en.dir i
    have lt := e.lt
    have h5 := q.h5; have w5 := q.w5
    have hw : h * w ≤ 5 * 5 := Nat.mul_le_mul h5 w5
    have hc : ∀ (x : D) r, k_ap2 5 x r (some (.lst ((List.range i).map fun j => trD (it b t j)))) = .next (r.set 5 (.mu (.lst (((List.range i).map fun j => trD (it b t j)) ++ [x])))) := fun x r => k_ap2p (by rw [List.length_map, List.length_range]; rw [Nat.mul_assoc] at lt; unfold cap; omega)
    generalize hL : ((List.range i).map fun j => trD (it b t j)) = acc at *
    rw [← range_snoc, hL]
    have st := e.stop
    unfold outAt
    unfold stp at st
    generalize it b t i = p at *
    obtain ⟨pr, pc, pd⟩ := p
    simp only at inn dr st ⊢
    obtain ⟨row, a1, a2, _⟩ := sg_at q inn
    have ct := c_turn_at (l := l) (n := n) (s := sgn b pr pc) dr
    have cb := c_beyond (l := l) (n := n) (h := h) (w := w) (row := pr) (col := pc) (dir := turnM (sgn b pr pc) pd)
    by_cases hs : sgn b pr pc = 35
    · rw [if_pos hs]
      rw [hs] at a2
      refine whl_retE rfl ?_
      unfold whlB
      simp [b_lit_1, trD, boxD, hc, cap, a1, a2, optD]
    · rw [if_neg hs]
      have hs' : (sgn b pr pc == 35) = false := by simpa using hs
      obtain ⟨o, e1, _, _⟩ := beyond_out q inn (turn_ok (s := sgn b pr pc) dr) (st.resolve_left hs)
      rw [e1] at cb ⊢
      refine whl_retE rfl ?_
      unfold whlB
      simp [b_lit_1, trD, boxD, hc, cap, a1, a2, optD, hs', ct, cb, isNon]
  | succ k ih =>
    intro i m hi hm s6 s7 s8 s9
    obtain ⟨m, rfl⟩ : ∃ m', m = m' + 1 := ⟨m - 1, by omega⟩
    have inn := e.inn i (by omega)
    have inn2 := e.inn (i + 1) (by omega)
    have dr := it_dir (b := b) en.dir i
    have lt := e.lt
    have h5 := q.h5; have w5 := q.w5
    have hw : h * w ≤ 5 * 5 := Nat.mul_le_mul h5 w5
    have hc : ∀ (x : D) r, k_ap2 5 x r (some (.lst ((List.range i).map fun j => trD (it b t j)))) = .next (r.set 5 (.mu (.lst (((List.range i).map fun j => trD (it b t j)) ++ [x])))) := fun x r => k_ap2p (by rw [List.length_map, List.length_range]; rw [Nat.mul_assoc] at lt; unfold cap; omega)
    generalize hL : ((List.range i).map fun j => trD (it b t j)) = acc at *
    have st := e.non i (by omega)
    have hs : ¬ sgn b (it b t i).1 (it b t i).2.1 = 35 := fun z => st (.inl z)
    have key : ∃ s6' s7' s8' s9', whlB (cfg (TT l) (call (TT l) (n + 1)) []) b_lit_1 [.va (boxD b), .va door, .va (.int h), .va (.int w), .va (trD (it b t i)), .mu (.lst acc), s6, s7, s8, s9] = .next [.va (boxD b), .va door, .va (.int h), .va (.int w), .va (trD (it b t (i + 1))), .mu (.lst ((List.range (i + 1)).map fun j => trD (it b t j))), s6', s7', s8', s9'] := by
      rw [← range_snoc, hL]
      have inn2 : insd h w (nxt b (it b t i)).1 (nxt b (it b t i)).2.1 := inn2
      show ∃ s6' s7' s8' s9', _ = RS.next [_, _, _, _, .va (trD (nxt b (it b t i))), _, s6', s7', s8', s9']
      generalize it b t i = p at *
      obtain ⟨pr, pc, pd⟩ := p
      unfold nxt at inn2 ⊢
      simp only at inn inn2 dr hs ⊢
      obtain ⟨row, a1, a2, _⟩ := sg_at q inn
      have ct := c_turn_at (l := l) (n := n) (s := sgn b pr pc) dr
      have cb := c_beyond (l := l) (n := n) (h := h) (w := w) (row := pr) (col := pc) (dir := turnM (sgn b pr pc) pd)
      have hs' : (sgn b pr pc == 35) = false := by simpa using hs
      rw [beyond_in q inn (turn_ok (s := sgn b pr pc) dr) inn2] at cb
      have cn := c_next_triple (l := l) (n := n) (r := pr) (c := pc) (turn_ok (s := sgn b pr pc) dr)
      unfold whlB
      refine ⟨.va (.int (turnM (sgn b pr pc) pd)), .va .non, .va (.int pr), .va (.int pc), ?_⟩
      simp [b_lit_1, trD, boxD, hc, cap, a1, a2, optD, hs', ct, cb, isNon, cn]
    obtain ⟨s6', s7', s8', s9', key⟩ := key
    obtain ⟨r', e'⟩ := ih (i + 1) m (by omega) (by omega) s6' s7' s8' s9'
    exact ⟨r', (whl_next (t := whlT (cfg (TT l) (call (TT l) (n + 1)) []) (.c (.bl true))) rfl key).trans e'⟩
end
end Ev.Q

/-! the ways of light: contracts -/
namespace Ev.Q
open PySem
noncomputable def wayD (h w : Nat) (b : Bx) (t : Tr) : D := .lst ((wtr h w b t).map trD)
section
variable {h w : Nat} {b : Bx}
theorem wtr_D {t : Tr} : (List.range (wN h w b t + 1)).map (fun j => trD (it b t j)) = (wtr h w b t).map trD := by
  unfold wtr
  rw [List.map_map]
  rfl
theorem c_lit {l : Fn} {n door : Nat} (q : Wf h w b) (hd : door < 2 * (h + w)) : call (TT l) (n + 2) 25 [boxD b, .int door] = .ret (.tup [wayD h w b (beginM h w door), optD (wout h w b (beginM h w door))]) false [] := by
  rw [call_at f_lit rfl rfl]
  obtain ⟨row0, a0, l0⟩ := q.at0
  have en := (beg_ent q hd).1
  have ee := wN_end (b := b) en
  have cb := c_begin (l := l) (n := n) (h := h) (w := w) (door := door)
  have lt := ee.lt
  have h5 := q.h5; have w5 := q.w5
  have hw : h * w ≤ 5 * 5 := Nat.mul_le_mul h5 w5
  rw [Nat.mul_assoc] at lt
  obtain ⟨r', e⟩ := lit_loop (l := l) (n := n) (door := .int door) q en ee (wN h w b (beginM h w door)) 0 WF (by omega) (by have := WF_big.1; omega) .un .un .un .un
  rw [wtr_D] at e
  have e' : whileLoop (whlT (cfg (TT l) (call (TT l) (n + 1)) []) (.c (.bl true))) (whlB (cfg (TT l) (call (TT l) (n + 1)) []) b_lit_1) WF [.va (boxD b), .va (.int door), .va (.int h), .va (.int w), .va (trD (beginM h w door)), .mu (.lst []), .un, .un, .un, .un] = .ret (.tup [wayD h w b (beginM h w door), optD (wout h w b (beginM h w door))]) false r' := e
  unfold boxD at e' ⊢
  simp [f_lit, entry, argsFrom, a0, l0, q.len, cb, e', cap]
theorem bools_false : ∀ {ds : List D}, (∀ d, d ∈ ds → d = .bl false) → bools ds = some (ds.map fun _ => false)
  | [], _ => rfl
  | d :: ds, h => by
    have h1 := h d (List.mem_cons_self ..)
    subst h1
    show (bools ds).map (false :: ·) = _
    rw [bools_false fun d hd => h d (List.mem_cons_of_mem _ hd)]
    rfl
theorem bi_any_f {ds : List D} (h : ∀ d, d ∈ ds → d = .bl false) : biD .any [.lst ds] = some (.bl false, false) := by
  show (bools ds).map _ = _
  rw [bools_false h]
  simp
theorem c_has_signs {l : Fn} {n : Nat} {z : List Nat} (q : Wf h w b) (hz : ∀ row, row ∈ b → ∀ c, c ∈ row → z.contains c = false) : call (TT l) (n + 1) 3 [boxD b, .str z] = .ret (.bl false) false [] := by
  rw [call_at f_has_signs rfl rfl]
  have hl := q.len
  have h5 := q.h5; have w5 := q.w5
  have e3 : ∃ ds, loopAcc (com2O (cfg (TT l) (call (TT l) n) []) [2, 3] [3] (.cmp .in_ (.v 3) (.v 1)) (.n 2) (.n 3) (.e (.v 2)) none) (b.map D.str) [] [.va (.tup (b.map D.str)), .va (.str z), .un, .un] = .ok ds [.va (.tup (b.map D.str)), .va (.str z), .un, .un] ∧ ∀ d, d ∈ ds → d = .bl false := by
    refine ⟨[] ++ (b.map D.str).flatMap (fun x => match x with | .str row => row.map fun _ => .bl false | _ => []), acc_all ?_ ?_, ?_⟩
    · intro x hx acc ha
      obtain ⟨row, hr, rfl⟩ := List.mem_map.mp hx
      have ha : acc.length + (row.map fun _ => D.bl false).length ≤ cap := ha
      show _ = R.ok (acc ++ row.map fun _ => D.bl false) _
      rw [com2O_at]
      have in1 : loopAcc (com2I (cfg (TT l) (call (TT l) n) []) [3] (.cmp .in_ (.v 3) (.v 1)) (.n 3) none) (row.map fun c => .str [c]) acc [.va (.tup (b.map D.str)), .va (.str z), .va (.str row), .un] = .ok (acc ++ (row.map fun c => D.str [c]).map fun _ => .bl false) [.va (.tup (b.map D.str)), .va (.str z), .va (.str row), .un] := by
        refine acc_map ?_ (by simpa using ha)
        intro y hy acc ha
        obtain ⟨c, hc, rfl⟩ := List.mem_map.mp hy
        have cm : cmpD .in_ (.str [c]) (.str z) = some false := by
          rw [cmp_ins, hz row hr c hc]
        rw [com2I_at]
        simp [cm, k_pushp ha, -cmp_ins]
      simp only [List.map_map, Function.comp_def] at in1
      simp [itemsOf, in1]
    · have : ∀ bb : Bx, (∀ row, row ∈ bb → row.length = w) → ((bb.map D.str).flatMap (fun x => match x with | .str row => row.map fun _ => D.bl false | _ => [])).length = bb.length * w := by
        intro bb
        induction bb with
        | nil => intro _; simp
        | cons r rs ih =>
          intro hr
          simp only [List.map_cons, List.flatMap_cons, List.length_append, List.length_map, List.length_cons, Nat.succ_mul] at ih ⊢
          rw [ih fun row hrow => hr row (List.mem_cons_of_mem _ hrow), hr r (List.mem_cons_self ..)]
          omega
      rw [this b q.bx.cols, hl]
      have : h * w ≤ 5 * 5 := Nat.mul_le_mul h5 w5
      simp [cap]
      omega
    · intro d hd
      simp only [List.nil_append, List.mem_flatMap] at hd
      obtain ⟨x, hx, hd⟩ := hd
      obtain ⟨row, hr, rfl⟩ := List.mem_map.mp hx
      obtain ⟨_, _, rfl⟩ := List.mem_map.mp hd
      rfl
  obtain ⟨ds, e3, e4⟩ := e3
  have al2 := bi_any_f e4
  simp [f_has_signs, entry, argsFrom, boxD, itemsOf, e3, al2]
theorem P4.no (p : P4 b) : ∀ row, row ∈ b → ∀ c, c ∈ row → [82, 70].contains c = false := fun row hr c hc => by
  rcases p row hr c hc with rfl | rfl | rfl | rfl <;> rfl
theorem c_check_plain {l : Fn} {n : Nat} (q : Wf h w b) (p : P4 b) : call (TT l) (n + 3) 7 [boxD b] = .ret .non false [] := by
  rw [call_at f_check_plain rfl rfl]
  have e1 := c_check_box (l := l) (n := n) q
  have e2 := c_has_signs (l := l) (n := n + 1) (z := [82, 70]) q p.no
  simp [f_check_plain, entry, argsFrom, e1, e2]
theorem c_way {l : Fn} {n door : Nat} (q : Wf h w b) (p : P4 b) (hd : door < 2 * (h + w)) : call (TT l) (n + 4) 26 [boxD b, .int door] = .ret (.tup ((wtr h w b (beginM h w door)).map trD)) false [] := by
  rw [call_at f_way rfl rfl]
  have e1 := c_check_plain (l := l) (n := n) q p
  have e2 := c_check_door (l := l) (n := n + 1) (door := door) q (by omega) (by omega)
  have e3 := c_lit (l := l) (n := n + 1) q hd
  unfold wayD at e3
  simp [f_way, entry, argsFrom, e1, e2, e3, at?, ixOf]
theorem c_leads {l : Fn} {n door : Nat} (q : Wf h w b) (p : P4 b) (hd : door < 2 * (h + w)) : call (TT l) (n + 4) 27 [boxD b, .int door] = .ret (optD (wout h w b (beginM h w door))) false [] := by
  rw [call_at f_leads rfl rfl]
  have e1 := c_check_plain (l := l) (n := n) q p
  have e2 := c_check_door (l := l) (n := n + 1) (door := door) q (by omega) (by omega)
  have e3 := c_lit (l := l) (n := n + 1) q hd
  simp [f_leads, entry, argsFrom, e1, e2, e3, at?, ixOf]
/-- the number of doors -/
def dn (h w : Nat) : Nat := 2 * (h + w)
/-- what rays tells of a door -/
noncomputable def rayD (h w : Nat) (b : Bx) (k : Nat) : D := .tup [optD (wout h w b (beginM h w k)), .int ((wtr h w b (beginM h w k)).length : Nat)]
theorem dr {n : Nat} (q : Wf h w b) : ∀ f r, k_r1 (.ok (.int (2 * ((h : Int) + w)), f) r) = .ok (rangeD 0 (dn h w : Int)) r := fun f r => by
  have h5 := q.h5; have w5 := q.w5
  have : (2 * ((h : Int) + w)) = (dn h w : Int) := by unfold dn; omega
  rw [this]
  exact k_r1_nat (by unfold dn; omega)
theorem c_rays_of {l : Fn} {n : Nat} (q : Wf h w b) : call (TT l) (n + 3) 28 [boxD b] = .ret (.tup ((List.range (dn h w)).map (rayD h w b))) false [] := by
  rw [call_at f_rays_of rfl rfl]
  obtain ⟨row0, a0, l0⟩ := q.at0
  have h5 := q.h5; have w5 := q.w5
  have cd := c_doors_of (l := l) (n := n + 1) (h := h) (w := w)
  have hr := dr (n := 0) q
  obtain ⟨r', e, s2, s3, s4, rfl⟩ := for_range (f := forF (cfg (TT l) (call (TT l) (n + 2)) []) (.n 2) b_rays_of_1) (n := dn h w) (r := [.va (boxD b), .mu (.lst []), .un, .un, .un]) (fun k r => ∃ s2 s3 s4, r = [.va (boxD b), .mu (.lst ((List.range k).map (rayD h w b))), s2, s3, s4]) ⟨_, _, _, rfl⟩ fun k r hk hp => by
    obtain ⟨s2, s3, s4, rfl⟩ := hp
    unfold dn at hk
    have e3 := c_lit (l := l) (n := n) q hk
    have hc : ∀ (x : D) r, k_ap2 1 x r (some (.lst ((List.range k).map (rayD h w b)))) = .next (r.set 1 (.mu (.lst (((List.range k).map (rayD h w b)) ++ [x])))) := fun x r => k_ap2p (by rw [List.length_map, List.length_range]; unfold cap; omega)
    refine ⟨[.va (boxD b), .mu (.lst ((List.range (k + 1)).map (rayD h w b))), .va (.int k), .va (wayD h w b (beginM h w k)), .va (optD (wout h w b (beginM h w k)))], ?_, _, _, _, rfl⟩
    rw [forF_at, ← range_snoc]
    generalize hL : (List.range k).map (rayD h w b) = acc at *
    unfold rayD
    unfold wayD at e3 ⊢
    simp [b_rays_of_1, e3, hc, cap]
  unfold boxD at e ⊢
  simp [f_rays_of, entry, argsFrom, a0, l0, q.len, cd, hr, e, cap]
theorem c_rays {l : Fn} {n : Nat} (q : Wf h w b) (p : P4 b) : call (TT l) (n + 4) 29 [boxD b] = .ret (.tup ((List.range (dn h w)).map (rayD h w b))) false [] := by
  rw [call_at f_rays rfl rfl]
  have e1 := c_check_plain (l := l) (n := n) q p
  have e3 := c_rays_of (l := l) (n := n) q
  simp [f_rays, entry, argsFrom, e1, e3]
noncomputable def leadD (h w : Nat) (b : Bx) (k : Nat) : D := optD (wout h w b (beginM h w k))
theorem c_table_of {l : Fn} {n : Nat} (q : Wf h w b) : call (TT l) (n + 3) 30 [boxD b] = .ret (.tup ((List.range (dn h w)).map (leadD h w b))) false [] := by
  rw [call_at f_table_of rfl rfl]
  obtain ⟨row0, a0, l0⟩ := q.at0
  have h5 := q.h5; have w5 := q.w5
  have cd := c_doors_of (l := l) (n := n + 1) (h := h) (w := w)
  have hr := dr (n := 0) q
  have e1 : compLoop (comF (cfg (TT l) (call (TT l) (n + 2)) []) [1] (.ix (.call 25 [.v 0, .v 1]) (.c (.int 1))) (.n 1) none) (rangeD 0 (dn h w : Int)) [] [.va (boxD b), .un] = .ok ((List.range (dn h w)).map (leadD h w b)) [.va (boxD b), .un] := comp_range (by unfold dn; omega) fun k hk => by
    have e3 := c_lit (l := l) (n := n) q (by unfold dn at hk; exact hk)
    rw [comF_at]
    simp [e3, leadD, at?, ixOf]
  unfold boxD at e1 ⊢
  simp [f_table_of, entry, argsFrom, a0, l0, q.len, cd, hr, e1]
theorem c_table {l : Fn} {n : Nat} (q : Wf h w b) (p : P4 b) : call (TT l) (n + 4) 31 [boxD b] = .ret (.tup ((List.range (dn h w)).map (leadD h w b))) false [] := by
  rw [call_at f_table rfl rfl]
  have e1 := c_check_plain (l := l) (n := n) q p
  have e3 := c_table_of (l := l) (n := n) q
  simp [f_table, entry, argsFrom, e1, e3]
end
end Ev.Q

/-! the law's own walk -/
namespace Ev.Q
open PySem
section
variable {h w : Nat} {b : Bx}
theorem eqv_tr {p q : Tr} : D.eqv (trD p) (trD q) = decide (p = q) := by
  obtain ⟨a, c, d⟩ := p
  obtain ⟨a', c', d'⟩ := q
  show (a == a' && (c == c' && (d == d' && true))) = _
  by_cases h1 : a = a' <;> by_cases h2 : c = c' <;> by_cases h3 : d = d' <;> simp [h1, h2, h3]
theorem cmp_tr {p q : Tr} : cmpD .eq (trD p) (trD q) = some (decide (p = q)) := by
  rw [cmp_eq okd_tr okd_tr, eqv_tr]
theorem filter_one {n o : Nat} (ho : o < n) {g : D → Option D} (hg : ∀ k : Nat, k < n → g (.int (k : Int)) = if k = o then some (.int (k : Int)) else none) : (rangeD 0 (n : Int)).filterMap g = [.int o] := by
  rw [range_nat]
  induction n with
  | zero => omega
  | succ n ih =>
    rw [List.range_succ, List.map_append, List.filterMap_append]
    have h1 := hg n (by omega)
    by_cases hn : n = o
    · subst hn
      have : ((List.range n).map fun k : Nat => D.int (k : Int)).filterMap g = [] := by
        refine List.filterMap_eq_nil_iff.mpr fun x hx => ?_
        obtain ⟨k, hk, rfl⟩ := List.mem_map.mp hx
        have hk := List.mem_range.mp hk
        rw [hg k (by omega), if_neg (by omega)]
      rw [this]
      simp [h1]
    · rw [ih (by omega) fun k hk => hg k (by omega)]
      simp [h1, hn]
theorem law_loop {l : Fn} {n N : Nat} {t : Tr} {door : D} (q : Wf h w b) (p4 : P4 b) (en : Ent h w t) (e : End h w b t N) : ∀ (k i m : Nat), i + k = N → k + 1 < m →
    ((sgn b (it b t N).1 (it b t N).2.1 = 35 ∧ ∃ r', whileLoop (whlT (cfg (TT l) (call (TT l) (n + 1)) []) (.not (.call 95 [.v 0, .v 4, .v 5]))) (whlB (cfg (TT l) (call (TT l) (n + 1)) []) b__law_walk_1) m
    [.va (boxD b), .va door, .mu (.lst ((List.range i).map fun j => trD (it b t j))), .un, .va (.int (it b t i).1), .va (.int (it b t i).2.1), .va (.int (it b t i).2.2), .un] = .ret (.tup [.lst ((List.range (N + 1)).map fun j => trD (it b t j)), .non]) false r') ∨
    (¬ sgn b (it b t N).1 (it b t N).2.1 = 35 ∧ whileLoop (whlT (cfg (TT l) (call (TT l) (n + 1)) []) (.not (.call 95 [.v 0, .v 4, .v 5]))) (whlB (cfg (TT l) (call (TT l) (n + 1)) []) b__law_walk_1) m
    [.va (boxD b), .va door, .mu (.lst ((List.range i).map fun j => trD (it b t j))), .un, .va (.int (it b t i).1), .va (.int (it b t i).2.1), .va (.int (it b t i).2.2), .un] = .next [.va (boxD b), .va door, .mu (.lst ((List.range (N + 1)).map fun j => trD (it b t j))), .un, .va (.int (it b t (N + 1)).1), .va (.int (it b t (N + 1)).2.1), .va (.int (it b t (N + 1)).2.2), .un])) := by
  have tst : ∀ (a : D) (p : Tr), whlT (cfg (TT l) (call (TT l) (n + 1)) []) (.not (.call 95 [.v 0, .v 4, .v 5])) [.va (boxD b), .va door, .mu a, .un, .va (.int p.1), .va (.int p.2.1), .va (.int p.2.2), .un] = .ok (inB h w p.1 p.2.1) [.va (boxD b), .va door, .mu a, .un, .va (.int p.1), .va (.int p.2.1), .va (.int p.2.2), .un] := fun a p => by
    have e3 := c__law_out (l := l) (n := n) (r := p.1) (c := p.2.1) q
    unfold whlT
    unfold inB
    simp [e3]
  intro k
  induction k with
  | zero =>
    intro i m hi hm
    have hi : i = N := by omega
    subst hi
    obtain ⟨m, rfl⟩ : ∃ m', m = m' + 2 := ⟨m - 2, by omega⟩
    have inn := e.inn i (by omega)
    have dr := it_dir (b := b) en.dir i
    have lt := e.lt
    have h5 := q.h5; have w5 := q.w5
    have hw : h * w ≤ 5 * 5 := Nat.mul_le_mul h5 w5
    have hc : ∀ (x : D) r, k_ap2 2 x r (some (.lst ((List.range i).map fun j => trD (it b t j)))) = .next (r.set 2 (.mu (.lst (((List.range i).map fun j => trD (it b t j)) ++ [x])))) := fun x r => k_ap2p (by rw [List.length_map, List.length_range]; rw [Nat.mul_assoc] at lt; unfold cap; omega)
    generalize hL : ((List.range i).map fun j => trD (it b t j)) = acc at *
    have t1 := tst (.lst acc) (it b t i)
    rw [inB_iff.mpr inn] at t1
    rw [← range_snoc, hL]
    have st := e.stop
    unfold stp at st
    show _ ∨ (_ ∧ _ = RS.next [_, _, _, _, .va (.int (nxt b (it b t i)).1), .va (.int (nxt b (it b t i)).2.1), .va (.int (nxt b (it b t i)).2.2), _])
    generalize it b t i = p at *
    obtain ⟨pr, pc, pd⟩ := p
    simp only at inn dr st t1 ⊢
    obtain ⟨row, a1, a2, _⟩ := sg_at q inn
    have ct := c__law_turn (l := l) (n := n) (s := sgn b pr pc) dr (p4.sg q inn)
    by_cases hs : sgn b pr pc = 35
    · refine .inl ⟨hs, ?_⟩
      rw [hs] at a2
      refine whl_retE t1 ?_
      unfold whlB
      simp [b__law_walk_1, trD, boxD, hc, cap, a1, a2]
    · refine .inr ⟨hs, ?_⟩
      have hs' : (sgn b pr pc == 35) = false := by simpa using hs
      have st := st.resolve_left hs
      have td := turn_ok (s := sgn b pr pc) dr
      have cm := c__law_move (l := l) (n := n) (r := pr) (c := pc) (dir := turnM (sgn b pr pc) pd) td.1 td.2
      have key : whlB (cfg (TT l) (call (TT l) (n + 1)) []) b__law_walk_1 [.va (boxD b), .va door, .mu (.lst acc), .un, .va (.int pr), .va (.int pc), .va (.int pd), .un] = .next [.va (boxD b), .va door, .mu (.lst (acc ++ [trD (pr, pc, pd)])), .un, .va (.int (nxt b (pr, pc, pd)).1), .va (.int (nxt b (pr, pc, pd)).2.1), .va (.int (nxt b (pr, pc, pd)).2.2), .un] := by
        unfold whlB nxt
        simp [b__law_walk_1, trD, boxD, hc, cap, a1, a2, hs', ct, cm]
      rw [whl_next t1 key]
      have t2 := tst (.lst (acc ++ [trD (pr, pc, pd)])) (nxt b (pr, pc, pd))
      have : inB h w (nxt b (pr, pc, pd)).1 (nxt b (pr, pc, pd)).2.1 = false := by
        cases z : inB h w (nxt b (pr, pc, pd)).1 (nxt b (pr, pc, pd)).2.1 with
        | false => rfl
        | true => exact absurd (inB_iff.mp z) st
      rw [this] at t2
      exact whl_stop t2
  | succ k ih =>
    intro i m hi hm
    obtain ⟨m, rfl⟩ : ∃ m', m = m' + 1 := ⟨m - 1, by omega⟩
    have inn := e.inn i (by omega)
    have dr := it_dir (b := b) en.dir i
    have lt := e.lt
    have h5 := q.h5; have w5 := q.w5
    have hw : h * w ≤ 5 * 5 := Nat.mul_le_mul h5 w5
    have hc : ∀ (x : D) r, k_ap2 2 x r (some (.lst ((List.range i).map fun j => trD (it b t j)))) = .next (r.set 2 (.mu (.lst (((List.range i).map fun j => trD (it b t j)) ++ [x])))) := fun x r => k_ap2p (by rw [List.length_map, List.length_range]; rw [Nat.mul_assoc] at lt; unfold cap; omega)
    have st := e.non i (by omega)
    have hs : ¬ sgn b (it b t i).1 (it b t i).2.1 = 35 := fun z => st (.inl z)
    have t1 := tst (.lst ((List.range i).map fun j => trD (it b t j))) (it b t i)
    rw [inB_iff.mpr inn] at t1
    have key : whlB (cfg (TT l) (call (TT l) (n + 1)) []) b__law_walk_1 [.va (boxD b), .va door, .mu (.lst ((List.range i).map fun j => trD (it b t j))), .un, .va (.int (it b t i).1), .va (.int (it b t i).2.1), .va (.int (it b t i).2.2), .un] = .next [.va (boxD b), .va door, .mu (.lst ((List.range (i + 1)).map fun j => trD (it b t j))), .un, .va (.int (it b t (i + 1)).1), .va (.int (it b t (i + 1)).2.1), .va (.int (it b t (i + 1)).2.2), .un] := by
      rw [← range_snoc]
      generalize hL : ((List.range i).map fun j => trD (it b t j)) = acc at *
      show _ = RS.next [_, _, _, _, .va (.int (nxt b (it b t i)).1), .va (.int (nxt b (it b t i)).2.1), .va (.int (nxt b (it b t i)).2.2), _]
      generalize it b t i = p at *
      obtain ⟨pr, pc, pd⟩ := p
      simp only at inn dr hs ⊢
      obtain ⟨row, a1, a2, _⟩ := sg_at q inn
      have ct := c__law_turn (l := l) (n := n) (s := sgn b pr pc) dr (p4.sg q inn)
      have hs' : (sgn b pr pc == 35) = false := by simpa using hs
      have td := turn_ok (s := sgn b pr pc) dr
      have cm := c__law_move (l := l) (n := n) (r := pr) (c := pc) (dir := turnM (sgn b pr pc) pd) td.1 td.2
      unfold whlB nxt
      simp [b__law_walk_1, trD, boxD, hc, cap, a1, a2, hs', ct, cm]
    have := ih (i + 1) m (by omega) (by omega)
    rw [whl_next t1 key]
    exact this
theorem okd_opt {n : Nat} {o : Option Int} : D.okd n (optD o) = true := by
  cases o <;> cases n <;> rfl
theorem c__law_walk {l : Fn} {n door : Nat} (q : Wf h w b) (p4 : P4 b) (hd : door < 2 * (h + w)) : call (TT l) (n + 2) 131 [boxD b, .int door] = .ret (.tup [wayD h w b (beginM h w door), optD (wout h w b (beginM h w door))]) false [] := by
  rw [call_at f__law_walk rfl rfl]
  have en := (beg_ent q hd).1
  have ee := wN_end (b := b) en
  have cf := c__law_first (l := l) (n := n) q hd
  have lt := ee.lt
  have h5 := q.h5; have w5 := q.w5
  have hw : h * w ≤ 5 * 5 := Nat.mul_le_mul h5 w5
  rw [Nat.mul_assoc] at lt
  have key := law_loop (l := l) (n := n) (door := .int door) q p4 en ee (wN h w b (beginM h w door)) 0 WF (by omega) (by have := WF_big.1; omega)
  rw [wtr_D] at key
  have dN := it_dir (b := b) en.dir (wN h w b (beginM h w door))
  have iN := ee.inn _ (Nat.le_refl _)
  have sN := ee.stop
  show fin [] _ = Out.ret (.tup [.lst ((wtr h w b (beginM h w door)).map trD), optD (outAt h w b (it b (beginM h w door) (wN h w b (beginM h w door))))]) false []
  have e0 : it b (beginM h w door) 0 = beginM h w door := rfl
  rw [e0] at key
  have e1 : it b (beginM h w door) (wN h w b (beginM h w door) + 1) = nxt b (it b (beginM h w door) (wN h w b (beginM h w door))) := rfl
  rw [e1] at key
  generalize it b (beginM h w door) (wN h w b (beginM h w door)) = p at *
  generalize (wtr h w b (beginM h w door)).map trD = W at *
  unfold stp at sN
  rcases key with ⟨hs, r', e⟩ | ⟨hs, e⟩
  · unfold outAt
    rw [if_pos hs]
    simp only [List.range_zero, List.map_nil] at e
    unfold trD at cf
    unfold boxD at cf e ⊢
    simp [f__law_walk, entry, argsFrom, cf, e, optD, cap]
  · unfold outAt
    rw [if_neg hs]
    obtain ⟨pr, pc, pd⟩ := p
    simp only at dN iN sN hs e ⊢
    have sN := sN.resolve_left hs
    have td := turn_ok (s := sgn b pr pc) dN
    obtain ⟨o, eo, ho, eb⟩ := beyond_out q iN td sN
    rw [eo]
    have en2 : nxt b (pr, pc, pd) = ((moveM pr pc (turnM (sgn b pr pc) pd)).1, (moveM pr pc (turnM (sgn b pr pc) pd)).2, turnM (sgn b pr pc) pd) := rfl
    rw [en2] at e
    have m1 : binD .mod (.int (turnM (sgn b pr pc) pd + 2)) (.int 4) = some (.int (opp (turnM (sgn b pr pc) pd))) := bin_mod (by omega)
    have od := opp_ok (d := turnM (sgn b pr pc) pd)
    have cm := c__law_move (l := l) (n := n) (r := (moveM pr pc (turnM (sgn b pr pc) pd)).1) (c := (moveM pr pc (turnM (sgn b pr pc) pd)).2) (dir := opp (turnM (sgn b pr pc) pd)) od.1 od.2
    rw [move_opp td] at cm
    have b1 : binD .add (.tup [.int pr, .int pc]) (.tup [.int (opp (turnM (sgn b pr pc) pd))]) = some (trD (pr, pc, opp (turnM (sgn b pr pc) pd))) := bin_tup (by simp [cap])
    rw [← eb] at b1
    have cd := c__law_doors (l := l) (n := n) q
    have fl : ∀ v2 v4 v5 v6 : Sl, compLoop (comF (cfg (TT l) (call (TT l) (n + 1)) []) [7] (.v 7) (.n 7) (some (.cmp .eq (.call 94 [.v 0, .v 7]) (.v 3)))) (rangeD 0 (dn h w : Int)) [] [.va (boxD b), .va (.int door), v2, .va (trD (beginM h w o)), v4, v5, v6, .un] = .ok [.int o] [.va (boxD b), .va (.int door), v2, .va (trD (beginM h w o)), v4, v5, v6, .un] := fun v2 v4 v5 v6 => by
      rw [comp_filter (g := fun x => match x with | .int k => if beginM h w k = beginM h w o then some (.int k) else none | _ => none) _ (by rw [range_len]; simp [cap, dn]; omega), List.nil_append]
      · rw [filter_one (o := o) (by unfold dn; exact ho)]
        intro k hk
        unfold dn at hk
        simp only
        by_cases hko : k = o
        · rw [hko]; simp
        · rw [if_neg hko, if_neg fun z => hko (beg_inj q hk ho z)]
      · intro x hx
        obtain ⟨k, hk, rfl⟩ := range_mem hx
        unfold dn at hk
        have c1 := c__law_first (l := l) (n := n) q hk
        rw [comF_at]
        by_cases hz : beginM h w k = beginM h w o
        · simp [c1, hz, cmp_tr]
        · have c2 := cmp_tr (p := beginM h w k) (q := beginM h w o)
          simp [c1, c2, hz]
    have cd : call (TT l) (n + 1) 93 [boxD b] = .ret (.lst (rangeD 0 (dn h w : Int))) true [] := cd
    simp only [List.range_zero, List.map_nil] at e
    unfold trD at cf
    unfold boxD at cf e cd fl ⊢
    simp [f__law_walk, entry, argsFrom, cf, e, optD, cap, m1, cm, b1, cd, itemsOf, fl, at?, ixOf]
end
end Ev.Q

/-! doors through a cell -/
namespace Ev.Q
open PySem
section
variable {h w : Nat} {b : Bx}
def cellD (p : Tr) : D := .tup [.int p.1, .int p.2.1]
theorem okds_map {α : Type} {n : Nat} {f : α → D} (hf : ∀ x, D.okd n (f x) = true) : ∀ l : List α, D.okds n (l.map f) = true
  | [] => by cases n <;> rfl
  | x :: l => by
    show (D.okd n (f x) && D.okds n (l.map f)) = true
    rw [hf x, okds_map hf l]
    rfl
theorem okd_cell {n : Nat} {p : Tr} : D.okd (n + 1) (cellD p) = true := by
  show D.okds n [_, _] = true
  cases n <;> rfl
theorem okd_lst {n : Nat} {ds : List D} (h : D.okds n ds = true) : D.okd (n + 1) (.lst ds) = true := h
theorem okd_tup {n : Nat} {ds : List D} (h : D.okds n ds = true) : D.okd (n + 1) (.tup ds) = true := h
/-- does the light of a door go through the cell? -/
noncomputable def thr (h w : Nat) (b : Bx) (r c : Int) (k : Nat) : Bool := inD (.tup [.int r, .int c]) ((wtr h w b (beginM h w k)).map cellD)
theorem wtr_len (q : Wf h w b) {k : Nat} (hk : k < 2 * (h + w)) : (wtr h w b (beginM h w k)).length ≤ 2 * (h * w) ∧ 1 ≤ (wtr h w b (beginM h w k)).length ∧ h * w ≤ 25 := by
  have ee := wN_end (b := b) (beg_ent q hk).1
  have lt := ee.lt
  have hw : h * w ≤ 5 * 5 := Nat.mul_le_mul q.h5 q.w5
  rw [Nat.mul_assoc] at lt
  unfold wtr
  rw [List.length_map, List.length_range]
  exact ⟨lt, by omega, hw⟩
theorem cell_comp {C : Cfg} {o : Nat} {L : List Tr} {r : Env} (hio : C.io = []) (ho : o < r.length) (hu : r[o]? = some .un) (hl : L.length ≤ 65536) : compLoop (comF C [o] (.sl (.v o) none (some (.c (.int 2)))) (.n o) none) (L.map trD) [] r = .ok (L.map cellD) r := by
  have : L.map cellD = (L.map trD).map fun x => match x with | .tup [a, c, _] => .tup [a, c] | _ => .non := by
    rw [List.map_map]
    rfl
  rw [this, comp_map (g := fun x => match x with | .tup [a, c, _] => .tup [a, c] | _ => .non), List.nil_append]
  · intro x hx
    obtain ⟨p, _, rfl⟩ := List.mem_map.mp hx
    rw [comF_at]
    have hn : ¬ r.length ≤ o := by omega
    have g : (r.set o (.va (trD p)))[o]? = some (.va (trD p)) := by
      rw [List.getElem?_set_self ho]
    have cu : slD (trD p) none (some 2) = some (.tup [.int p.1, .int p.2.1]) := rfl
    have back : (r.set o (.va (trD p))).set o .un = r := by
      rw [List.set_set]
      refine List.ext_getElem? fun i => ?_
      by_cases hi : i = o
      · subst hi
        rw [List.getElem?_set_self ho, hu]
      · rw [List.getElem?_set_ne (fun z => hi z.symm)]
    simp [hio, hn, g, cu, back]
    rfl
  · simp [cap]; exact hl
theorem in_thr {r c : Int} {k : Nat} : cmpD .in_ (.tup [.int r, .int c]) (.lst ((wtr h w b (beginM h w k)).map cellD)) = some (thr h w b r c k) := by
  show (if D.okd dep (.tup [.int r, .int c]) && D.okd dep (.lst ((wtr h w b (beginM h w k)).map cellD)) then some _ else none) = _
  rw [show D.okd dep (.lst ((wtr h w b (beginM h w k)).map cellD)) = true from okd_lst (okds_map (fun x => okd_cell) _)]
  rfl
def pickG (f : Nat → Bool) (k : Nat) : Option D := if f k then some (.int (k : Int)) else none
theorem pick_snoc (f : Nat → Bool) (k : Nat) : (List.range (k + 1)).filterMap (pickG f) = (List.range k).filterMap (pickG f) ++ (if f k then [.int (k : Int)] else []) := by
  rw [List.range_succ, List.filterMap_append]
  congr 1
  unfold pickG
  cases h : f k <;> simp [h]
theorem pick_len (f : Nat → Bool) (k : Nat) : ((List.range k).filterMap (pickG f)).length ≤ k := by
  have := List.length_filterMap_le (pickG f) (List.range k)
  simpa using this
theorem c_doors_through {l : Fn} {n : Nat} {r c : Int} (q : Wf h w b) (p : P4 b) (i : insd h w r c) : call (TT l) (n + 4) 32 [boxD b, .int r, .int c] = .ret (.tup ((List.range (dn h w)).filterMap (pickG (thr h w b r c)))) false [] := by
  rw [call_at f_doors_through rfl rfl]
  obtain ⟨row0, a0, l0⟩ := q.at0
  have h5 := q.h5; have w5 := q.w5
  obtain ⟨i1, i2, i3, i4⟩ := i
  have e1 := c_check_plain (l := l) (n := n) q p
  have e2 := c_check_cell (l := l) (n := n + 1) q i1 i2 i3 i4
  have cd := c_doors_of (l := l) (n := n + 2) (h := h) (w := w)
  have hr := dr (n := 0) q
  obtain ⟨r', e, s4, rfl⟩ := for_range (f := forF (cfg (TT l) (call (TT l) (n + 3)) []) (.n 4) b_doors_through_1) (n := dn h w) (r := [.va (boxD b), .va (.int r), .va (.int c), .mu (.lst []), .un, .un]) (fun k z => ∃ s4, z = [.va (boxD b), .va (.int r), .va (.int c), .mu (.lst ((List.range k).filterMap (pickG (thr h w b r c)))), s4, .un]) ⟨_, rfl⟩ fun k z hk hp => by
    obtain ⟨s4, rfl⟩ := hp
    unfold dn at hk
    have e3 := c_lit (l := l) (n := n + 1) q hk
    have hl := wtr_len q hk
    have hc : ∀ (x : D) z, k_ap2 3 x z (some (.lst ((List.range k).filterMap (pickG (thr h w b r c))))) = .next (z.set 3 (.mu (.lst (((List.range k).filterMap (pickG (thr h w b r c))) ++ [x])))) := fun x z => k_ap2p (by have := pick_len (thr h w b r c) k; unfold cap; omega)
    refine ⟨[.va (boxD b), .va (.int r), .va (.int c), .mu (.lst ((List.range (k + 1)).filterMap (pickG (thr h w b r c)))), .va (.int k), .un], ?_, _, rfl⟩
    rw [forF_at, pick_snoc]
    generalize (List.range k).filterMap (pickG (thr h w b r c)) = acc at *
    have cc := cell_comp (C := cfg (TT l) (call (TT l) (n + 3)) []) (o := 5) (L := wtr h w b (beginM h w k)) (r := [.va (boxD b), .va (.int r), .va (.int c), .mu (.lst acc), .va (.int k), .un]) rfl (by simp) rfl (by omega)
    have ci := in_thr (h := h) (w := w) (b := b) (r := r) (c := c) (k := k)
    unfold wayD at e3
    cases ht : thr h w b r c k with
    | false => rw [ht] at ci; simp [b_doors_through_1, e3, at?, ixOf, itemsOf, cc, ci, cap]
    | true => rw [ht] at ci; simp [b_doors_through_1, e3, at?, ixOf, itemsOf, cc, ci, hc, cap]
  unfold boxD at e e1 e2 ⊢
  simp [f_doors_through, entry, argsFrom, a0, l0, q.len, cd, hr, e1, e2, e, cap]
end
end Ev.Q

/-! balls -/
namespace Ev.Q
open PySem
def flp (s : Nat) : Nat := if s = 114 then 102 else if s = 102 then 114 else s
theorem flp_flp (s : Nat) : flp (flp s) = s := by
  unfold flp
  by_cases h1 : s = 114
  · subst h1; decide
  · by_cases h2 : s = 102
    · subst h2; decide
    · simp [h1, h2]
def putS (b : Bx) (r c : Int) (s : Nat) : Bx := withM b r.toNat c.toNat s
structure BS where
  b : Bx
  p : Tr
section
variable {h w : Nat}
theorem sgn_put {b : Bx} (q : Wf h w b) {r c r' c' : Int} {s : Nat} (i : insd h w r c) (i' : insd h w r' c') : sgn (putS b r c s) r' c' = if r' = r ∧ c' = c then s else sgn b r' c' := by
  obtain ⟨i1, i2, i3, i4⟩ := i
  obtain ⟨k1, k2, k3, k4⟩ := i'
  obtain ⟨r, rfl⟩ := Int.eq_ofNat_of_zero_le i1
  obtain ⟨c, rfl⟩ := Int.eq_ofNat_of_zero_le i3
  obtain ⟨r', rfl⟩ := Int.eq_ofNat_of_zero_le k1
  obtain ⟨c', rfl⟩ := Int.eq_ofNat_of_zero_le k3
  obtain ⟨row, er, lr⟩ := q.row (i := r) (by omega)
  obtain ⟨row', er', lr'⟩ := q.row (i := r') (by omega)
  have hl := q.len
  unfold sgn putS withM
  simp only [Int.toNat_natCast]
  by_cases hr : r' = r
  · subst hr
    rw [er] at er'
    cases er'
    rw [List.getElem?_set_self (by omega), er]
    simp only [Option.getD_some]
    by_cases hc : c' = c
    · subst hc
      rw [List.getElem?_set_self (by omega), if_pos (by simp)]
      rfl
    · rw [List.getElem?_set_ne (fun z => hc z.symm), if_neg (by omega)]
  · rw [List.getElem?_set_ne (fun z => hr z.symm), if_neg (by omega)]
theorem box_ext {a b : Bx} (qa : Wf h w a) (qb : Wf h w b) (e : ∀ r c : Nat, r < h → c < w → sgn a r c = sgn b r c) : a = b := by
  refine List.ext_getElem? fun r => ?_
  by_cases hr : r < h
  · obtain ⟨row, er, lr⟩ := qa.row hr
    obtain ⟨row', er', lr'⟩ := qb.row hr
    rw [er, er']
    congr 1
    refine List.ext_getElem? fun c => ?_
    by_cases hc : c < w
    · have := e r c hr hc
      unfold sgn at this
      simp only [Int.toNat_natCast, er, er', Option.getD_some] at this
      rw [List.getElem?_eq_getElem (by omega), List.getElem?_eq_getElem (by omega)] at this ⊢
      simpa using this
    · rw [List.getElem?_eq_none (by omega), List.getElem?_eq_none (by omega)]
  · rw [List.getElem?_eq_none (by rw [qa.len]; omega), List.getElem?_eq_none (by rw [qb.len]; omega)]
theorem put_wf {b : Bx} (q : Wf h w b) {r c : Int} {s : Nat} (i : insd h w r c) (hs : s ∈ S6) : Wf h w (putS b r c s) := by
  obtain ⟨i1, i2, i3, i4⟩ := i
  exact q.with (by omega) (by omega) hs
theorem put_p4 {b : Bx} (p : P4 b) {i j s : Nat} (hs : s = 46 ∨ s = 114 ∨ s = 102 ∨ s = 35) : P4 (withM b i j s) := by
  intro row hr c hc
  unfold withM at hr
  rcases List.mem_or_eq_of_mem_set hr with z | z
  · exact p row z c hc
  · subst z
    rcases List.mem_or_eq_of_mem_set hc with z | z
    · cases e : b[i]? with
      | none => rw [e] at z; simp at z
      | some row =>
        rw [e] at z
        exact p row (List.mem_of_getElem? e) c (by simpa using z)
    · rw [z]; exact hs
/-- what the ball does at its cell: the box then, the direction then -/
def afB (S : BS) : Bx := putS S.b S.p.1 S.p.2.1 (flp (sgn S.b S.p.1 S.p.2.1))
def drB (bw : Bool) (S : BS) : Int := turnM (if bw then flp (sgn S.b S.p.1 S.p.2.1) else sgn S.b S.p.1 S.p.2.1) S.p.2.2
def nxB (bw : Bool) (S : BS) : BS := ⟨afB S, ((moveM S.p.1 S.p.2.1 (drB bw S)).1, (moveM S.p.1 S.p.2.1 (drB bw S)).2, drB bw S)⟩
def rvB (bw : Bool) (S : BS) : BS := ⟨afB S, (S.p.1, S.p.2.1, opp (drB bw S))⟩
/-- a good state -/
structure GB (h w : Nat) (S : BS) : Prop where
  q : Wf h w S.b
  p4 : P4 S.b
  dir : okDir S.p.2.2
  inn : insd h w S.p.1 S.p.2.1
theorem flp4 {s : Nat} (h : s = 46 ∨ s = 114 ∨ s = 102 ∨ s = 35) : flp s = 46 ∨ flp s = 114 ∨ flp s = 102 ∨ flp s = 35 := by
  rcases h with rfl | rfl | rfl | rfl <;> decide
theorem four6 {s : Nat} (h : s = 46 ∨ s = 114 ∨ s = 102 ∨ s = 35) : s ∈ S6 := by
  rcases h with rfl | rfl | rfl | rfl <;> decide
theorem GB.af {S : BS} (g : GB h w S) : Wf h w (afB S) ∧ P4 (afB S) :=
  ⟨put_wf g.q g.inn (four6 (flp4 (g.p4.sg g.q g.inn))), put_p4 g.p4 (flp4 (g.p4.sg g.q g.inn))⟩
theorem sgn_af {S : BS} (g : GB h w S) {r c : Int} (i : insd h w r c) : sgn (afB S) r c = if r = S.p.1 ∧ c = S.p.2.1 then flp (sgn S.b S.p.1 S.p.2.1) else sgn S.b r c := sgn_put g.q g.inn i
theorem drB_ok {S : BS} {bw : Bool} (g : GB h w S) : okDir (drB bw S) := turn_ok g.dir
theorem GB.nx {S : BS} {bw : Bool} (g : GB h w S) (i : insd h w (nxB bw S).p.1 (nxB bw S).p.2.1) : GB h w (nxB bw S) := ⟨g.af.1, g.af.2, drB_ok g, i⟩
theorem GB.rv {S : BS} {bw : Bool} (g : GB h w S) : GB h w (rvB bw S) := ⟨g.af.1, g.af.2, opp_ok, g.inn⟩
theorem sg_same {S : BS} (g : GB h w S) : sgn (afB S) S.p.1 S.p.2.1 = flp (sgn S.b S.p.1 S.p.2.1) := by
  rw [sgn_af g g.inn, if_pos ⟨rfl, rfl⟩]
/-- processed twice at one cell, the box is as before -/
theorem af_af {S : BS} {bw : Bool} (g : GB h w S) : afB (rvB bw S) = S.b := by
  have g2 := g.rv (bw := bw)
  refine box_ext g2.af.1 g.q fun r c hr hc => ?_
  have i : insd h w (r : Int) (c : Int) := ⟨by omega, by omega, by omega, by omega⟩
  rw [sgn_af g2 i]
  show (if (r : Int) = S.p.1 ∧ (c : Int) = S.p.2.1 then flp (sgn (afB S) S.p.1 S.p.2.1) else sgn (afB S) r c) = _
  rw [sg_same g, flp_flp, sgn_af g i]
  by_cases z : (r : Int) = S.p.1 ∧ (c : Int) = S.p.2.1
  · rw [if_pos z, z.1, z.2]
  · rw [if_neg z, if_neg z]
theorem dr_rv {S : BS} {bw : Bool} (g : GB h w S) : drB (!bw) (rvB bw S) = opp S.p.2.2 := by
  show turnM (if !bw then flp (sgn (afB S) S.p.1 S.p.2.1) else sgn (afB S) S.p.1 S.p.2.1) (opp (drB bw S)) = _
  rw [sg_same g, flp_flp]
  unfold drB
  cases bw with
  | false => simp only [Bool.not_false, if_true, Bool.false_eq_true, if_false]; exact turn_rv g.dir
  | true => simp only [Bool.not_true, if_true, Bool.false_eq_true, if_false]; exact turn_rv g.dir
theorem rvB_rvB {S : BS} {bw : Bool} (g : GB h w S) : rvB (!bw) (rvB bw S) = S := by
  show BS.mk (afB (rvB bw S)) (S.p.1, S.p.2.1, opp (drB (!bw) (rvB bw S))) = S
  rw [af_af g, dr_rv g, opp_opp g.dir]
theorem nxB_rvB {S : BS} {bw : Bool} (g : GB h w S) (g2 : GB h w (nxB bw S)) : nxB (!bw) (rvB bw (nxB bw S)) = rvB bw S := by
  have e1 : afB (rvB bw (nxB bw S)) = afB S := af_af g2
  have e2 : drB (!bw) (rvB bw (nxB bw S)) = opp (drB bw S) := dr_rv g2
  show BS.mk (afB (rvB bw (nxB bw S))) _ = BS.mk (afB S) (S.p.1, S.p.2.1, opp (drB bw S))
  rw [e1]
  congr 1
  show (((moveM (nxB bw S).p.1 (nxB bw S).p.2.1 (drB (!bw) (rvB bw (nxB bw S)))).1, (moveM (nxB bw S).p.1 (nxB bw S).p.2.1 (drB (!bw) (rvB bw (nxB bw S)))).2, drB (!bw) (rvB bw (nxB bw S))) : Tr) = _
  rw [e2]
  show (((moveM (moveM S.p.1 S.p.2.1 (drB bw S)).1 (moveM S.p.1 S.p.2.1 (drB bw S)).2 (opp (drB bw S))).1, (moveM (moveM S.p.1 S.p.2.1 (drB bw S)).1 (moveM S.p.1 S.p.2.1 (drB bw S)).2 (opp (drB bw S))).2, opp (drB bw S)) : Tr) = _
  rw [move_opp (drB_ok g)]
theorem nxB_inj {S T : BS} {bw : Bool} (g : GB h w S) (k : GB h w T) (g2 : GB h w (nxB bw S)) (e : nxB bw S = nxB bw T) : S = T := by
  have h1 := nxB_rvB g g2
  have k2 : GB h w (nxB bw T) := e ▸ g2
  rw [e, nxB_rvB k k2] at h1
  rw [← rvB_rvB (bw := bw) g, ← rvB_rvB (bw := bw) k, h1]
def itB (bw : Bool) (S : BS) : Nat → BS
  | 0 => S
  | n + 1 => nxB bw (itB bw S n)
def stB (h w : Nat) (bw : Bool) (S : BS) : Prop := sgn S.b S.p.1 S.p.2.1 = 35 ∨ ¬ insd h w (nxB bw S).p.1 (nxB bw S).p.2.1
/-- all states are good as long as the ball goes on -/
theorem all_good {S : BS} {bw : Bool} (g : GB h w S) {n : Nat} (hs : ∀ m, m < n → ¬ stB h w bw (itB bw S m)) : ∀ m, m ≤ n → GB h w (itB bw S m)
  | 0, _ => g
  | m + 1, hm => (all_good g hs m (by omega)).nx (Classical.byContradiction fun z => hs m (by omega) (.inr z))
theorem back_repB {S : BS} {bw : Bool} {n : Nat} (gd : ∀ m, m ≤ n → GB h w (itB bw S m)) : ∀ (i k : Nat), i + k ≤ n → itB bw S i = itB bw S (i + k) → S = itB bw S k
  | 0, k, _, e => by simpa [itB] using e
  | i + 1, k, hk, e => by
    refine back_repB gd i k (by omega) (nxB_inj (gd i (by omega)) (gd (i + k) (by omega)) (gd (i + 1) (by omega)) ?_)
    have : i + 1 + k = (i + k) + 1 := by omega
    rw [this] at e
    exact e
theorem no_repB {S : BS} {bw : Bool} {n : Nat} (en : Ent h w S.p) (gd : ∀ m, m ≤ n → GB h w (itB bw S m)) {i k : Nat} (hk : i + (k + 1) ≤ n) : itB bw S i ≠ itB bw S (i + (k + 1)) := by
  intro e
  have e1 : S = nxB bw (itB bw S k) := back_repB gd i (k + 1) hk e
  have gk := gd k (by omega)
  apply en.out
  generalize itB bw S k = T at *
  subst e1
  have := move_opp (r := T.p.1) (c := T.p.2.1) (drB_ok (bw := bw) gk)
  show insd h w (moveM (moveM T.p.1 T.p.2.1 (drB bw T)).1 (moveM T.p.1 T.p.2.1 (drB bw T)).2 (opp (drB bw T))).1 (moveM (moveM T.p.1 T.p.2.1 (drB bw T)).1 (moveM T.p.1 T.p.2.1 (drB bw T)).2 (opp (drB bw T))).2
  rw [this]
  exact gk.inn
/-! numbers for boxes -/
def enc : List Nat → Nat
  | [] => 0
  | x :: xs => x + 128 * enc xs
theorem enc_inj : ∀ {xs ys : List Nat}, xs.length = ys.length → (∀ x, x ∈ xs → x < 128) → (∀ y, y ∈ ys → y < 128) → enc xs = enc ys → xs = ys
  | [], [], _, _, _, _ => rfl
  | x :: xs, y :: ys, hl, hx, hy, e => by
    simp only [enc] at e
    have h1 := hx x (List.mem_cons_self ..)
    have h2 := hy y (List.mem_cons_self ..)
    have e1 : x = y := by omega
    rw [e1, enc_inj (by simpa using hl) (fun z hz => hx z (List.mem_cons_of_mem _ hz)) (fun z hz => hy z (List.mem_cons_of_mem _ hz)) (by omega)]
theorem enc_lt : ∀ {xs : List Nat} (n : Nat), xs.length ≤ n → (∀ x, x ∈ xs → x < 128) → enc xs < 128 ^ n
  | [], n, _, _ => by simp only [enc]; exact Nat.pow_pos (by decide)
  | x :: xs, 0, hl, _ => by simp at hl
  | x :: xs, n + 1, hl, hx => by
    have h1 := hx x (List.mem_cons_self ..)
    have h2 := enc_lt n (by simpa using hl) fun z hz => hx z (List.mem_cons_of_mem _ hz)
    simp only [enc, Nat.pow_succ]
    omega
theorem flat_inj {w : Nat} : ∀ {a b : Bx}, a.length = b.length → (∀ r, r ∈ a → r.length = w) → (∀ r, r ∈ b → r.length = w) → a.flatten = b.flatten → a = b
  | [], [], _, _, _, _ => rfl
  | x :: a, y :: b, hl, ha, hb, e => by
    simp only [List.flatten_cons] at e
    obtain ⟨e1, e2⟩ := List.append_inj e (by rw [ha x (List.mem_cons_self ..), hb y (List.mem_cons_self ..)])
    rw [e1, flat_inj (by simpa using hl) (fun z hz => ha z (List.mem_cons_of_mem _ hz)) (fun z hz => hb z (List.mem_cons_of_mem _ hz)) e2]
theorem flat_len {w : Nat} : ∀ {a : Bx}, (∀ r, r ∈ a → r.length = w) → a.flatten.length = a.length * w
  | [], _ => by simp
  | x :: a, ha => by
    simp only [List.flatten_cons, List.length_append, List.length_cons, Nat.succ_mul]
    rw [flat_len fun z hz => ha z (List.mem_cons_of_mem _ hz), ha x (List.mem_cons_self ..)]
    omega
def codB (w : Nat) (S : BS) : Nat := enc S.b.flatten * 100 + ((S.p.1.toNat * w + S.p.2.1.toNat) * 4 + S.p.2.2.toNat)
def bigN : Nat := 128 ^ 25 * 100
theorem p4_lt {b : Bx} (p : P4 b) : ∀ x, x ∈ b.flatten → x < 128 := by
  intro x hx
  obtain ⟨row, hr, hx⟩ := List.mem_flatten.mp hx
  rcases p row hr x hx with rfl | rfl | rfl | rfl <;> omega
theorem cell25 {r c : Int} (q5 : h ≤ 5) (w5 : w ≤ 5) (i : insd h w r c) : r.toNat * w + c.toNat < 25 := by
  obtain ⟨i1, i2, i3, i4⟩ := i
  have h1 : r.toNat * w ≤ 4 * w := Nat.mul_le_mul_right w (by omega)
  have h2 : 4 * w + c.toNat < 25 := by omega
  omega
theorem codB_lt {S : BS} (g : GB h w S) : codB w S < bigN := by
  have q5 := g.q.h5; have w5 := g.q.w5
  have h1 := cell25 q5 w5 g.inn
  have h2 : enc S.b.flatten < 128 ^ 25 := enc_lt 25 (by rw [flat_len g.q.bx.cols, g.q.len]; exact Nat.mul_le_mul q5 w5) (p4_lt g.p4)
  have h3 := g.dir
  unfold okDir at h3
  unfold codB bigN
  generalize enc S.b.flatten = E at *
  generalize 128 ^ 25 = F at *
  generalize S.p.1.toNat * w + S.p.2.1.toNat = G at *
  omega
theorem codB_inj {S T : BS} (g : GB h w S) (k : GB h w T) (e : codB w S = codB w T) : S = T := by
  have q5 := g.q.h5; have w5 := g.q.w5
  have h1 := cell25 q5 w5 g.inn
  have h2 := cell25 q5 w5 k.inn
  have d1 := g.dir; have d2 := k.dir
  unfold okDir at d1 d2
  obtain ⟨a1, a2, a3, a4⟩ := g.inn
  obtain ⟨c1, c2, c3, c4⟩ := k.inn
  unfold codB at e
  have e1 : enc S.b.flatten = enc T.b.flatten := by omega
  have e2 : S.p.1.toNat * w + S.p.2.1.toNat = T.p.1.toNat * w + T.p.2.1.toNat := by omega
  have e3 : S.p.2.2 = T.p.2.2 := by omega
  obtain ⟨e4, e5⟩ := cell_eq (by omega) (by omega) e2
  have eb : S.b = T.b := flat_inj (by rw [g.q.len, k.q.len]) g.q.bx.cols k.q.bx.cols (enc_inj (by rw [flat_len g.q.bx.cols, flat_len k.q.bx.cols, g.q.len, k.q.len]) (p4_lt g.p4) (p4_lt k.p4) e1)
  obtain ⟨b, r, c, d⟩ := S
  obtain ⟨b', r', c', d'⟩ := T
  simp only at eb e3 e4 e5 a1 a2 a3 a4 c1 c2 c3 c4
  have er : r = r' := by omega
  have ec : c = c' := by omega
  rw [eb, er, ec, e3]
theorem fewB {S : BS} {bw : Bool} (g : GB h w S) (en : Ent h w S.p) {n : Nat} (hs : ∀ m, m < n → ¬ stB h w bw (itB bw S m)) : n + 1 ≤ bigN := by
  have gd := all_good g hs
  refine pigeonF (f := fun i => codB w (itB bw S i)) (fun i hi' => codB_lt (gd i (by omega))) fun i j hij hj z => ?_
  obtain ⟨k, rfl⟩ : ∃ k, j = i + (k + 1) := ⟨j - i - 1, by omega⟩
  exact no_repB en gd (by omega) (codB_inj (gd i (by omega)) (gd _ (by omega)) z)
structure EndB (h w : Nat) (bw : Bool) (S : BS) (N : Nat) : Prop where
  lt : N + 1 ≤ bigN
  stop : stB h w bw (itB bw S N)
  non : ∀ m, m < N → ¬ stB h w bw (itB bw S m)
  good : ∀ m, m ≤ N → GB h w (itB bw S m)
theorem endsB {S : BS} {bw : Bool} (g : GB h w S) (en : Ent h w S.p) : ∃ N, EndB h w bw S N := by
  have key : ∀ k, (∃ N, N < k ∧ stB h w bw (itB bw S N) ∧ ∀ m, m < N → ¬ stB h w bw (itB bw S m)) ∨ ∀ m, m < k → ¬ stB h w bw (itB bw S m) := by
    intro k
    induction k with
    | zero => exact .inr fun m hm => absurd hm (by omega)
    | succ k ih =>
      rcases ih with ⟨N, h1, h2, h3⟩ | ih
      · exact .inl ⟨N, by omega, h2, h3⟩
      · by_cases hk : stB h w bw (itB bw S k)
        · exact .inl ⟨k, by omega, hk, ih⟩
        · refine .inr fun m hm => ?_
          by_cases z : m = k
          · rw [z]; exact hk
          · exact ih m (by omega)
  rcases key bigN with ⟨N, h1, h2, h3⟩ | hh
  · exact ⟨N, by omega, h2, h3, all_good g h3⟩
  · have := fewB g en hh
    omega
theorem EndB.uniq {S : BS} {bw : Bool} {N M : Nat} (a : EndB h w bw S N) (c : EndB h w bw S M) : N = M := by
  rcases Nat.lt_trichotomy N M with z | z | z
  · exact (c.non N z a.stop).elim
  · exact z
  · exact (a.non M z c.stop).elim
/-- where the ball comes out, and the box then -/
def resB (h w : Nat) (bw : Bool) (S : BS) : Option Int × Bx := if sgn S.b S.p.1 S.p.2.1 = 35 then (none, S.b) else (beyondM h w S.p.1 S.p.2.1 (drB bw S), afB S)
/-- the way back -/
theorem back_way {S : BS} {bw : Bool} {N : Nat} (e : EndB h w bw S N) : ∀ i, i ≤ N → itB (!bw) (rvB bw (itB bw S N)) i = rvB bw (itB bw S (N - i))
  | 0, _ => rfl
  | i + 1, hi => by
    show nxB (!bw) (itB (!bw) _ i) = _
    rw [back_way e i (by omega)]
    have : N - i = (N - (i + 1)) + 1 := by omega
    rw [this]
    exact nxB_rvB (e.good _ (by omega)) (e.good ((N - (i + 1)) + 1) (by omega))
theorem back_end {S : BS} {bw : Bool} {N : Nat} (e : EndB h w bw S N) (en : Ent h w S.p) (hs : ¬ sgn (itB bw S N).b (itB bw S N).p.1 (itB bw S N).p.2.1 = 35) : EndB h w (!bw) (rvB bw (itB bw S N)) N ∧ itB (!bw) (rvB bw (itB bw S N)) N = rvB bw S := by
  have nb : ∀ m, m ≤ N → ¬ sgn (itB bw S m).b (itB bw S m).p.1 (itB bw S m).p.2.1 = 35 := fun m hm => by
    by_cases z : m = N
    · rw [z]; exact hs
    · exact fun k => e.non m (by omega) (.inl k)
  have fl : ∀ s, ¬ s = 35 → ¬ flp s = 35 := fun s h1 h2 => by
    unfold flp at h2
    split at h2
    · omega
    · split at h2 <;> omega
  have last : itB (!bw) (rvB bw (itB bw S N)) N = rvB bw S := by
    rw [back_way e N (Nat.le_refl _), Nat.sub_self]
    rfl
  refine ⟨⟨e.lt, ?_, fun m hm => ?_, fun m hm => ?_⟩, last⟩
  · rw [last]
    refine .inr ?_
    have g0 := e.good 0 (by omega)
    have d := dr_rv (bw := bw) g0
    show ¬ insd h w (moveM S.p.1 S.p.2.1 (drB (!bw) (rvB bw S))).1 (moveM S.p.1 S.p.2.1 (drB (!bw) (rvB bw S))).2
    have d : drB (!bw) (rvB bw S) = opp S.p.2.2 := d
    rw [d]
    exact en.out
  · have h1 : nxB (!bw) (itB (!bw) (rvB bw (itB bw S N)) m) = itB (!bw) (rvB bw (itB bw S N)) (m + 1) := rfl
    intro z
    unfold stB at z
    rw [h1, back_way e m (by omega), back_way e (m + 1) (by omega)] at z
    rcases z with z | z
    · have z : sgn (afB (itB bw S (N - m))) (itB bw S (N - m)).p.1 (itB bw S (N - m)).p.2.1 = 35 := z
      rw [sg_same (e.good _ (by omega))] at z
      exact fl _ (nb _ (by omega)) z
    · exact z (e.good (N - (m + 1)) (by omega)).inn
  · rw [back_way e m hm]
    exact (e.good _ (by omega)).rv
end
end Ev.Q

/-! the cells that have some signs -/
namespace Ev.Q
open PySem
def hasS (S : List Nat) (s : Nat) : Bool := S.contains s
theorem fm_congr {α β : Type} {f g : α → Option β} : ∀ {l : List α}, (∀ x, x ∈ l → f x = g x) → l.filterMap f = l.filterMap g
  | [], _ => rfl
  | x :: l, h => by
    rw [List.filterMap_cons, List.filterMap_cons, h x (List.mem_cons_self ..), fm_congr fun y hy => h y (List.mem_cons_of_mem _ hy)]
theorem acc_fl {f : D → List D → Env → R (List D)} {g : D → List D} {r : Env} {w : Nat} : ∀ {xs acc : List D}, (∀ x, x ∈ xs → ∀ acc : List D, acc.length ≤ 1000 → f x acc r = .ok (acc ++ g x) r) → (∀ x, x ∈ xs → (g x).length ≤ w) → acc.length + xs.length * w ≤ 1000 → loopAcc f xs acc r = .ok (acc ++ xs.flatMap g) r
  | [], acc, _, _, _ => by simp [loopAcc]
  | x :: xs, acc, h, hg, hl => by
    rw [List.length_cons, Nat.succ_mul] at hl
    have h1 := hg x (List.mem_cons_self ..)
    simp only [loopAcc, h x (List.mem_cons_self ..) acc (by omega), R.bind]
    rw [acc_fl (fun y hy => h y (List.mem_cons_of_mem _ hy)) (fun y hy => hg y (List.mem_cons_of_mem _ hy)) (by rw [List.length_append]; omega)]
    simp
def rowC (b : Bx) (S : List Nat) (w r : Nat) : List (Nat × Nat) := (List.range w).filterMap fun c : Nat => if hasS S (sgn b r c) then some (r, c) else none
def cellsM (h w : Nat) (b : Bx) (S : List Nat) : List (Nat × Nat) := (List.range h).flatMap (rowC b S w)
def cD (rc : Nat × Nat) : D := .tup [.int rc.1, .int rc.2]
theorem okd_cD {n : Nat} {p : Nat × Nat} : D.okd (n + 1) (cD p) = true := by
  show D.okds n [_, _] = true
  cases n <;> rfl
theorem acc_filter {f : D → List D → Env → R (List D)} {g : D → Option D} {r : Env} : ∀ {xs acc : List D}, (∀ x, x ∈ xs → ∀ acc : List D, acc.length < cap → f x acc r = .ok (acc ++ (g x).toList) r) → acc.length + xs.length ≤ cap → loopAcc f xs acc r = .ok (acc ++ xs.filterMap g) r
  | [], acc, _, _ => by simp [loopAcc]
  | x :: xs, acc, h, hl => by
    rw [List.length_cons] at hl
    simp only [loopAcc, h x (List.mem_cons_self ..) acc (by omega), R.bind]
    rw [acc_filter (fun y hy => h y (List.mem_cons_of_mem _ hy)) (by rw [List.length_append]; cases g x <;> simp <;> omega)]
    rw [List.filterMap_cons]
    cases g x <;> simp
section
variable {h w : Nat} {b : Bx}
theorem rowC_len {S : List Nat} {r : Nat} : (rowC b S w r).length ≤ w := by
  have := List.length_filterMap_le (fun c : Nat => if hasS S (sgn b r c) then some (r, c) else none) (List.range w)
  unfold rowC
  simpa using this
theorem flat_le {α β : Type} {f : α → List β} {w : Nat} : ∀ l : List α, (∀ x, x ∈ l → (f x).length ≤ w) → (l.flatMap f).length ≤ l.length * w
  | [], _ => by simp
  | x :: l, hf => by
    have h1 := flat_le l fun y hy => hf y (List.mem_cons_of_mem _ hy)
    have h2 := hf x (List.mem_cons_self ..)
    simp only [List.flatMap_cons, List.length_append, List.length_cons, Nat.succ_mul]
    omega
theorem cells_len {S : List Nat} : (cellsM h w b S).length ≤ h * w := by
  have := flat_le (f := rowC b S w) (w := w) (List.range h) fun x _ => rowC_len
  unfold cellsM
  simpa using this
theorem cells_mem {S : List Nat} {rc : Nat × Nat} : rc ∈ cellsM h w b S ↔ rc.1 < h ∧ rc.2 < w ∧ hasS S (sgn b rc.1 rc.2) = true := by
  unfold cellsM rowC
  simp only [List.mem_flatMap, List.mem_filterMap, List.mem_range]
  constructor
  · rintro ⟨r, hr, c, hc, e⟩
    split at e
    · cases e
      exact ⟨hr, hc, by assumption⟩
    · cases e
  · rintro ⟨h1, h2, h3⟩
    exact ⟨rc.1, h1, rc.2, h2, by rw [if_pos h3]⟩
theorem cells_congr {a : Bx} {S : List Nat} (e : ∀ r c : Nat, r < h → c < w → hasS S (sgn a r c) = hasS S (sgn b r c)) : cellsM h w a S = cellsM h w b S := by
  unfold cellsM
  have : ∀ r, r ∈ List.range h → rowC a S w r = rowC b S w r := fun r hr => by
    unfold rowC
    refine fm_congr fun c hc => ?_
    rw [e r c (List.mem_range.mp hr) (List.mem_range.mp hc)]
  revert this
  generalize List.range h = l
  intro this
  induction l with
  | nil => rfl
  | cons x l ih =>
    rw [List.flatMap_cons, List.flatMap_cons, this x (List.mem_cons_self ..), ih fun r hr => this r (List.mem_cons_of_mem _ hr)]
theorem insN {r c : Nat} (hr : r < h) (hc : c < w) : insd h w (r : Int) (c : Int) := ⟨by omega, by omega, by omega, by omega⟩
theorem cmp_inc {c : Nat} {S : List Nat} : cmpD .in_ (.str [c]) (.str S) = some (hasS S c) := rfl
theorem c_size_of {l : Fn} {n : Nat} (q : Wf h w b) : call (TT l) (n + 1) 9 [boxD b] = .ret (.tup [.int h, .int w]) false [] := by
  rw [call_at f_size_of rfl rfl]
  obtain ⟨row0, a0, l0⟩ := q.at0
  simp [f_size_of, entry, argsFrom, boxD, a0, l0, q.len, cap]
theorem c_cells_with {l : Fn} {n : Nat} {S : List Nat} (q : Wf h w b) : call (TT l) (n + 2) 22 [boxD b, .str S] = .ret (.lst ((cellsM h w b S).map cD)) true [] := by
  rw [call_at f_cells_with rfl rfl]
  have cs := c_size_of (l := l) (n := n) q
  have h5 := q.h5; have w5 := q.w5
  have hr : ∀ f r, k_r1 (.ok (.int (h : Int), f) r) = .ok (rangeD 0 h) r := fun f r => k_r1_nat (by omega)
  have wr : ∀ f r, k_r1 (.ok (.int (w : Int), f) r) = .ok (rangeD 0 w) r := fun f r => k_r1_nat (by omega)
  have e3 : loopAcc (com2O (cfg (TT l) (call (TT l) (n + 1)) []) [4, 5] [5] (.tup [.v 4, .v 5]) (.n 4) (.n 5) (.r1 (.v 3)) (some (.cmp .in_ (.ix (.ix (.v 0) (.v 4)) (.v 5)) (.v 1)))) (rangeD 0 (h : Int)) [] [.va (boxD b), .va (.str S), .va (.int h), .va (.int w), .un, .un] = .ok ((cellsM h w b S).map cD) [.va (boxD b), .va (.str S), .va (.int h), .va (.int w), .un, .un] := by
    have hg : ([] : List D) ++ (rangeD 0 (h : Int)).flatMap (fun x => match x with | .int r => (rowC b S w r.toNat).map cD | _ => []) = (cellsM h w b S).map cD := by
      rw [List.nil_append, range_nat, List.flatMap_map]
      unfold cellsM
      rw [List.map_flatMap]
      rfl
    rw [← hg]
    refine acc_fl (w := w) ?_ ?_ ?_
    · intro x hx acc ha
      obtain ⟨r, hrr, rfl⟩ := range_mem hx
      show _ = R.ok (acc ++ (rowC b S w r).map cD) _
      rw [com2O_at]
      have in1 : ∀ v4 : Sl, v4 = .va (.int r) → loopAcc (com2I (cfg (TT l) (call (TT l) (n + 1)) []) [5] (.tup [.v 4, .v 5]) (.n 5) (some (.cmp .in_ (.ix (.ix (.v 0) (.v 4)) (.v 5)) (.v 1)))) (rangeD 0 (w : Int)) acc [.va (boxD b), .va (.str S), .va (.int h), .va (.int w), v4, .un] = .ok (acc ++ (rowC b S w r).map cD) [.va (boxD b), .va (.str S), .va (.int h), .va (.int w), v4, .un] := by
        rintro _ rfl
        rw [acc_filter (g := fun x => match x with | .int c => if hasS S (sgn b r c) then some (cD (r, c.toNat)) else none | _ => none)]
        · rw [range_nat, List.filterMap_map]
          congr 2
          unfold rowC
          rw [List.map_filterMap]
          refine fm_congr fun c hc => ?_
          simp only [Function.comp_apply, Int.toNat_natCast]
          split <;> rfl
        · intro y hy acc ha
          obtain ⟨c, hcc, rfl⟩ := range_mem hy
          obtain ⟨row, a1, a2, _⟩ := sg_at q (insN hrr hcc)
          rw [com2I_at]
          cases hc : hasS S (sgn b r c) with
          | false =>
            have cm : cmpD .in_ (.str [sgn b r c]) (.str S) = some false := by rw [cmp_inc, hc]
            simp [boxD, a1, a2, cm, -cmp_ins, hc]
          | true =>
            have cm : cmpD .in_ (.str [sgn b r c]) (.str S) = some true := by rw [cmp_inc, hc]
            simp [boxD, a1, a2, cm, -cmp_ins, hc, k_pushp ha, cap, cD]
        · rw [range_len]
          unfold cap
          omega
      simp [wr, in1 _ rfl]
    · intro x hx
      obtain ⟨r, hrr, rfl⟩ := range_mem hx
      show ((rowC b S w r).map cD).length ≤ w
      rw [List.length_map]
      exact rowC_len
    · rw [range_len]
      have : h * w ≤ 5 * 5 := Nat.mul_le_mul h5 w5
      simp
      omega
  simp [f_cells_with, entry, argsFrom, cs, hr, e3]
theorem cut_dropA {α : Type} {xs : List α} (k : Nat) : cut xs (some (k : Int)) none = xs.drop k := by
  unfold cut
  have e1 : sIx xs.length 0 (some (k : Int)) = min k xs.length := by
    show (if (k : Int) < 0 then ((k : Int) + (xs.length : Int)).toNat else min (k : Int).toNat xs.length) = _
    rw [if_neg (by omega)]
    simp
  have e2 : sIx xs.length xs.length none = xs.length := rfl
  rw [e1, e2]
  rw [List.take_of_length_le (by rw [List.length_drop]; omega)]
  by_cases hk : k ≤ xs.length
  · rw [Nat.min_eq_left hk]
  · rw [Nat.min_eq_right (by omega), List.drop_of_length_le (by omega), List.drop_of_length_le (by omega)]
theorem c__law_cells {l : Fn} {n : Nat} {S : List Nat} (q : Wf h w b) : call (TT l) (n + 1) 89 [boxD b, .str S] = .ret (.lst ((cellsM h w b S).map cD)) true [] := by
  rw [call_at f__law_cells rfl rfl]
  obtain ⟨row0, a0, l0⟩ := q.at0
  have h5 := q.h5; have w5 := q.w5
  have hr : ∀ f r, k_r1 (.ok (.int (h : Int), f) r) = .ok (rangeD 0 h) r := fun f r => k_r1_nat (by omega)
  have wr : ∀ f r, k_r1 (.ok (.int (w : Int), f) r) = .ok (rangeD 0 w) r := fun f r => k_r1_nat (by omega)
  obtain ⟨r', e, s3, rfl⟩ := for_range (f := forF (cfg (TT l) (call (TT l) n) []) (.n 3) b__law_cells_1) (n := h) (r := [.va (boxD b), .va (.str S), .mu (.lst []), .un, .un]) (fun k z => ∃ s3, z = [.va (boxD b), .va (.str S), .mu (.lst ((cellsM k w b S).map cD)), s3, .un]) ⟨_, rfl⟩ fun r z hrr hp => by
    obtain ⟨s3, rfl⟩ := hp
    refine ⟨[.va (boxD b), .va (.str S), .mu (.lst ((cellsM (r + 1) w b S).map cD)), .va (.int r), .un], ?_, _, rfl⟩
    have e1 : (cellsM (r + 1) w b S).map cD = (cellsM r w b S).map cD ++ (rowC b S w r).map cD := by
      unfold cellsM
      rw [List.range_succ, List.flatMap_append, List.map_append]
      simp
    have hl : (cellsM r w b S).length ≤ r * w := cells_len
    have hl2 : (rowC b S w r).length ≤ w := rowC_len
    have hm : r * w ≤ 5 * 5 := Nat.mul_le_mul (by omega) w5
    have b1 : binD .add (.lst ((cellsM r w b S).map cD)) (.lst ((rowC b S w r).map cD)) = some (.lst ((cellsM (r + 1) w b S).map cD)) := by
      rw [e1]
      exact bin_lst (by rw [List.length_map, List.length_map]; unfold cap; omega)
    have f1 : ∀ v2 : Sl, compLoop (comF (cfg (TT l) (call (TT l) n) []) [4] (.tup [.v 3, .v 4]) (.n 4) (some (.cmp .in_ (.ix (.ix (.v 0) (.v 3)) (.v 4)) (.v 1)))) (rangeD 0 (w : Int)) [] [.va (boxD b), .va (.str S), v2, .va (.int r), .un] = .ok ((rowC b S w r).map cD) [.va (boxD b), .va (.str S), v2, .va (.int r), .un] := fun v2 => by
      rw [comp_filter (g := fun x => match x with | .int c => if hasS S (sgn b r c) then some (cD (r, c.toNat)) else none | _ => none) _ (by rw [range_len]; simp [cap]; omega), List.nil_append]
      · rw [range_nat, List.filterMap_map]
        congr 1
        unfold rowC
        rw [List.map_filterMap]
        refine fm_congr fun c hc => ?_
        simp only [Function.comp_apply, Int.toNat_natCast]
        split <;> rfl
      · intro y hy
        obtain ⟨c, hcc, rfl⟩ := range_mem hy
        obtain ⟨row, a1, a2, _⟩ := sg_at q (insN hrr hcc)
        rw [comF_at]
        cases hc : hasS S (sgn b r c) with
        | false =>
          have cm : cmpD .in_ (.str [sgn b r c]) (.str S) = some false := by rw [cmp_inc, hc]
          simp [boxD, a1, a2, cm, -cmp_ins, hc]
        | true =>
          have cm : cmpD .in_ (.str [sgn b r c]) (.str S) = some true := by rw [cmp_inc, hc]
          simp [boxD, a1, a2, cm, -cmp_ins, hc, cap, cD]
    rw [forF_at]
    unfold boxD at f1 ⊢
    simp [b__law_cells_1, a0, l0, wr, f1, b1, binF]
  unfold boxD at e ⊢
  simp [f__law_cells, entry, argsFrom, q.len, hr, e, cap, isLst]
/-! ### cells emptied -/
def emptied (b : Bx) (cs : List (Nat × Nat)) : Bx := cs.foldl (fun b rc => withM b rc.1 rc.2 46) b
theorem emp_wf (q : Wf h w b) (p : P4 b) : ∀ cs : List (Nat × Nat), (∀ rc, rc ∈ cs → rc.1 < h ∧ rc.2 < w) → Wf h w (emptied b cs) ∧ P4 (emptied b cs) := by
  intro cs
  induction cs generalizing b with
  | nil => intro _; exact ⟨q, p⟩
  | cons rc cs ih =>
    intro hc
    have h1 := hc rc (List.mem_cons_self ..)
    exact ih (q.with h1.1 h1.2 (by decide)) (put_p4 p (.inl rfl)) fun x hx => hc x (List.mem_cons_of_mem _ hx)
theorem emp_sgn (q : Wf h w b) (p : P4 b) : ∀ cs : List (Nat × Nat), (∀ rc, rc ∈ cs → rc.1 < h ∧ rc.2 < w) → ∀ r c : Nat, r < h → c < w → sgn (emptied b cs) r c = if (r, c) ∈ cs then 46 else sgn b r c := by
  intro cs
  induction cs generalizing b with
  | nil => intro _ r c _ _; simp [emptied]
  | cons rc cs ih =>
    intro hc r c hr hcw
    have h1 := hc rc (List.mem_cons_self ..)
    have := ih (q.with h1.1 h1.2 (by decide)) (put_p4 p (.inl rfl)) (fun x hx => hc x (List.mem_cons_of_mem _ hx)) r c hr hcw
    show sgn (emptied (withM b rc.1 rc.2 46) cs) r c = _
    rw [this]
    have e2 : sgn (withM b rc.1 rc.2 46) r c = if (r : Int) = rc.1 ∧ (c : Int) = rc.2 then 46 else sgn b r c := sgn_put (s := 46) q (insN h1.1 h1.2) (insN hr hcw)
    rw [e2]
    by_cases hm : (r, c) ∈ cs
    · rw [if_pos hm, if_pos (List.mem_cons_of_mem _ hm)]
    · rw [if_neg hm]
      by_cases hz : (r, c) = rc
      · rw [if_pos (by rw [← hz]; simp), if_pos (by rw [hz]; exact List.mem_cons_self ..)]
      · rw [if_neg, if_neg]
        · intro z
          rcases List.mem_cons.mp z with z | z
          · exact hz z
          · exact hm z
        · intro z
          exact hz (Prod.ext (by have := z.1; show r = rc.1; omega) (by have := z.2; show c = rc.2; omega))
theorem filter_sub {α : Type} [DecidableEq α] {P : α → Bool} (l : List α) (k : Nat) (hP : ∀ x, x ∈ l.drop k → P x = false) : (l.filter P).length ≤ k := by
  have e : l = l.take k ++ l.drop k := (List.take_append_drop k l).symm
  rw [e, List.filter_append, List.length_append]
  have h1 : (l.drop k).filter P = [] := List.filter_eq_nil_iff.mpr fun x hx => by rw [hP x hx]; simp
  rw [h1]
  have h2 := List.length_filter_le P (l.take k)
  rw [List.length_take] at h2
  simp
  omega
theorem fm_filter {α β : Type} {f : α → Option β} {P : β → Bool} (l : List α) : (l.filterMap f).filter P = l.filterMap fun x => match f x with | some y => if P y then some y else none | none => none := by
  induction l with
  | nil => rfl
  | cons x l ih =>
    rw [List.filterMap_cons, List.filterMap_cons]
    cases hf : f x with
    | none => simpa using ih
    | some y =>
      simp only [List.filter_cons]
      cases hp : P y <;> simp [ih]
theorem cells_filter {a : Bx} {S : List Nat} {P : Nat × Nat → Bool} (e : ∀ r c : Nat, r < h → c < w → hasS S (sgn a r c) = (hasS S (sgn b r c) && P (r, c))) : cellsM h w a S = (cellsM h w b S).filter P := by
  unfold cellsM
  rw [List.filter_flatMap]
  have : ∀ r, r ∈ List.range h → rowC a S w r = (rowC b S w r).filter P := fun r hr => by
    unfold rowC
    rw [fm_filter]
    refine fm_congr fun c hc => ?_
    rw [e r c (List.mem_range.mp hr) (List.mem_range.mp hc)]
    cases hasS S (sgn b r c) with
    | false => rfl
    | true =>
      show (if (true && P (r, c)) = true then some (r, c) else none) = if P (r, c) = true then some (r, c) else none
      rw [Bool.true_and]
  revert this
  generalize List.range h = l
  intro this
  induction l with
  | nil => rfl
  | cons x l ih =>
    rw [List.flatMap_cons, List.flatMap_cons, this x (List.mem_cons_self ..), ih fun r hr => this r (List.mem_cons_of_mem _ hr)]
/-- all but the first k emptied: at most k are left -/
theorem emp_few (q : Wf h w b) (p : P4 b) (k : Nat) : (cellsM h w (emptied b ((cellsM h w b [114, 102]).drop k)) [114, 102]).length ≤ k := by
  have hc : ∀ rc, rc ∈ (cellsM h w b [114, 102]).drop k → rc.1 < h ∧ rc.2 < w := fun rc hrc => by
    have := cells_mem.mp (List.mem_of_mem_drop hrc)
    exact ⟨this.1, this.2.1⟩
  rw [cells_filter (b := b) (P := fun rc => !((cellsM h w b [114, 102]).drop k).contains rc)]
  · refine filter_sub _ k fun x hx => ?_
    simp only [Bool.not_eq_false']
    simpa using hx
  · intro r c hr hcw
    rw [emp_sgn q p _ hc r c hr hcw]
    by_cases hm : (r, c) ∈ (cellsM h w b [114, 102]).drop k
    · rw [if_pos hm]
      simp [hm, hasS]
    · rw [if_neg hm]
      simp [hm]
end
end Ev.Q

/-! boxes put into boxes, turned boxes -/
namespace Ev.Q
open PySem
/-- one line with another put in -/
def lineM (col : Nat) (inner line : List Nat) : List Nat := line.take col ++ inner ++ line.drop (col + inner.length)
def putRow (b : Bx) (row col : Nat) (inner : Bx) (k : Nat) : List Nat := if row ≤ k ∧ k < row + inner.length then lineM col (inner[k - row]?.getD []) (b[k]?.getD []) else b[k]?.getD []
def putM (b : Bx) (row col : Nat) (inner : Bx) : Bx := (List.range b.length).map (putRow b row col inner)
section
variable {h w h2 w2 : Nat} {b inner : Bx}
theorem putM_row {row col k : Nat} (q : Wf h w b) (qi : Wf h2 w2 inner) (hr : row + h2 ≤ h) (hc : col + w2 ≤ w) (hk : k < h) : (putM b row col inner)[k]? = some (putRow b row col inner k) ∧ (putRow b row col inner k).length = w := by
  have hl := q.len
  refine ⟨?_, ?_⟩
  · unfold putM
    rw [List.getElem?_map, List.getElem?_range (by omega)]
    rfl
  · obtain ⟨line, e1, l1⟩ := q.row hk
    unfold putRow
    rw [e1]
    simp only [Option.getD_some]
    split
    · rename_i z
      have z2 : k < row + h2 := by rw [← qi.len]; exact z.2
      obtain ⟨ir, e2, l2⟩ := qi.row (i := k - row) (by omega)
      rw [e2]
      unfold lineM
      simp [l1, l2]
      omega
    · exact l1
theorem putM_sgn {row col : Nat} (q : Wf h w b) (qi : Wf h2 w2 inner) (hr : row + h2 ≤ h) (hc : col + w2 ≤ w) {r c : Nat} (hrr : r < h) (hcc : c < w) : sgn (putM b row col inner) r c = if (row ≤ r ∧ r < row + h2) ∧ (col ≤ c ∧ c < col + w2) then sgn inner ((r - row : Nat) : Int) ((c - col : Nat) : Int) else sgn b r c := by
  obtain ⟨e1, l1⟩ := putM_row q qi hr hc hrr
  obtain ⟨line, e2, l2⟩ := q.row hrr
  unfold sgn
  simp only [Int.toNat_natCast]
  rw [e1, e2]
  simp only [Option.getD_some]
  unfold putRow
  rw [e2, qi.len]
  simp only [Option.getD_some]
  by_cases z : row ≤ r ∧ r < row + h2
  · rw [if_pos z]
    obtain ⟨ir, e3, l3⟩ := qi.row (i := r - row) (by omega)
    rw [e3]
    simp only [Option.getD_some]
    unfold lineM
    by_cases z1 : c < col
    · rw [if_neg (by omega), List.append_assoc, List.getElem?_append_left (by simp; omega), List.getElem?_take_of_lt z1]
    · by_cases z2 : c < col + w2
      · rw [if_pos ⟨z, by omega, z2⟩, List.append_assoc, List.getElem?_append_right (by simp; omega), List.getElem?_append_left (by simp; omega)]
        simp only [List.length_take]
        congr 2
        omega
      · rw [if_neg (by omega), List.getElem?_append_right (by simp; omega), List.getElem?_drop]
        simp only [List.length_append, List.length_take]
        congr 2
        omega
  · rw [if_neg z, if_neg (fun y => z y.1)]
theorem sgn6 (q : Wf h w b) {r c : Nat} (hr : r < h) (hc : c < w) : sgn b r c ∈ S6 := by
  obtain ⟨row, _, e2, m⟩ := sg_at q (insN hr hc)
  unfold at? at e2
  obtain ⟨j, _, e⟩ := Option.bind_eq_some_iff.mp e2
  exact q.bx.sgn row m _ (List.mem_of_getElem? e)
/-- rows of w signs out of six -/
theorem wf_of {a : Bx} (h0 : 0 < h) (h5 : h ≤ 5) (w0 : 0 < w) (w5 : w ≤ 5) (hl : a.length = h) (hc : ∀ k, k < h → ∃ row, a[k]? = some row ∧ row.length = w) (hs : ∀ r c : Nat, r < h → c < w → sgn a r c ∈ S6) : Wf h w a := by
  refine ⟨⟨hl, fun row hr => ?_, fun row hr c hcm => ?_⟩, h0, h5, w0, w5⟩
  · obtain ⟨k, hk⟩ := List.getElem?_of_mem hr
    have hk2 := (List.getElem?_eq_some_iff.mp hk).1
    obtain ⟨row', e, l⟩ := hc k (by omega)
    rw [hk] at e
    cases e
    exact l
  · obtain ⟨k, hk⟩ := List.getElem?_of_mem hr
    have hk2 := (List.getElem?_eq_some_iff.mp hk).1
    obtain ⟨row', e, l⟩ := hc k (by omega)
    rw [hk] at e
    cases e
    obtain ⟨j, hj⟩ := List.getElem?_of_mem hcm
    have hj2 := (List.getElem?_eq_some_iff.mp hj).1
    have := hs k j (by omega) (by omega)
    unfold sgn at this
    simp only [Int.toNat_natCast, hk, Option.getD_some, hj] at this
    exact this
theorem putM_wf {row col : Nat} (q : Wf h w b) (qi : Wf h2 w2 inner) (hr : row + h2 ≤ h) (hc : col + w2 ≤ w) : Wf h w (putM b row col inner) := by
  refine wf_of q.h0 q.h5 q.w0 q.w5 (by unfold putM; simp [q.len]) (fun k hk => ⟨_, (putM_row q qi hr hc hk).1, (putM_row q qi hr hc hk).2⟩) fun r c hrr hcc => ?_
  rw [putM_sgn q qi hr hc hrr hcc]
  split
  · exact sgn6 qi (by omega) (by omega)
  · exact sgn6 q hrr hcc
theorem cut_takeA {α : Type} {xs : List α} (k : Nat) : cut xs none (some (k : Int)) = xs.take k := by
  unfold cut
  have e1 : sIx xs.length xs.length (some (k : Int)) = min k xs.length := by
    show (if (k : Int) < 0 then ((k : Int) + (xs.length : Int)).toNat else min (k : Int).toNat xs.length) = _
    rw [if_neg (by omega)]
    simp
  have e2 : sIx xs.length 0 none = 0 := rfl
  rw [e1, e2]
  simp only [List.drop_zero, Nat.sub_zero]
  rw [← List.take_length (l := xs), List.take_take]
  simp
theorem c_put_in {l : Fn} {n row col : Nat} (q : Wf h w b) (qi : Wf h2 w2 inner) (hr : row + h2 ≤ h) (hc : col + w2 ≤ w) : call (TT l) (n + 3) 49 [boxD b, .int row, .int col, boxD inner] = .ret (boxD (putM b row col inner)) false [] := by
  rw [call_at f_put_in rfl rfl]
  obtain ⟨row0, a0, l0⟩ := q.at0
  obtain ⟨rowi, ai, li⟩ := qi.at0
  have hi0 := qi.h0; have wi0 := qi.w0; have h5 := q.h5; have w5 := q.w5
  have e1 := c_check_box (l := l) (n := n) q
  have e2 := c_check_cell (l := l) (n := n) (r := row) (c := col) q (by omega) (by omega) (by omega) (by omega)
  have e3 := c_check_box (l := l) (n := n) qi
  have ib : ∀ k : D, ixD (boxD b) k = ixD (.tup (b.map D.str)) k := fun k => rfl
  have ii : ∀ k : D, ixD (boxD inner) k = ixD (.tup (inner.map D.str)) k := fun k => rfl
  have lb : biD .len [boxD b] = some (.int (h : Int), false) := by
    show biD .len [.tup (b.map D.str)] = _
    simp [q.len]
  have lI : biD .len [boxD inner] = some (.int (h2 : Int), false) := by
    show biD .len [.tup (inner.map D.str)] = _
    simp [qi.len]
  have d1 : decide ((h : Int) < (row : Int) + h2) = false := decide_eq_false (by omega)
  have d2 : decide ((w : Int) < (col : Int) + w2) = false := decide_eq_false (by omega)
  have en : ∀ f r, k_en (.ok (boxD b, f) r) = .ok (enumD (b.map D.str)) r := fun f r => rfl
  have lp : ∃ r', forLoop (forF (cfg (TT l) (call (TT l) (n + 2)) []) (.t [5, 6]) b_put_in_1) (enumD (b.map D.str)) [.va (boxD b), .va (.int row), .va (.int col), .va (boxD inner), .mu (.lst []), .un, .un] = .next r' ∧ ∃ s5 s6, r' = [.va (boxD b), .va (.int row), .va (.int col), .va (boxD inner), .mu (.lst (((List.range (0 + (enumD (b.map D.str)).length)).map (putRow b row col inner)).map D.str)), s5, s6] := by
    refine for_inv (P := fun k r => ∃ s5 s6, r = [.va (boxD b), .va (.int row), .va (.int col), .va (boxD inner), .mu (.lst (((List.range k).map (putRow b row col inner)).map D.str)), s5, s6]) 0 ⟨_, _, rfl⟩ fun k x r hx hp => ?_
    obtain ⟨s5, s6, rfl⟩ := hp
    rw [Nat.zero_add] at *
    have hk : k < h := by
      have := (List.getElem?_eq_some_iff.mp hx).1
      unfold enumD at this
      simp [q.len] at this
      exact this
    obtain ⟨line, el, ll⟩ := q.row hk
    have ex : x = .tup [.int k, .str line] := by
      have hz : ((List.range (b.map D.str).length).zip (b.map D.str))[k]? = some (k, .str line) := List.getElem?_zip_eq_some.mpr ⟨List.getElem?_range (by simp [q.len]; exact hk), by rw [List.getElem?_map, el]; rfl⟩
      unfold enumD at hx
      rw [List.getElem?_map, hz] at hx
      cases hx
      rfl
    subst ex
    have hcap : ∀ (x : D) z, k_ap2 4 x z (some (.lst (((List.range k).map (putRow b row col inner)).map D.str))) = .next (z.set 4 (.mu (.lst (((List.range k).map (putRow b row col inner)).map D.str ++ [x])))) := fun x z => k_ap2p (by rw [List.length_map, List.length_map, List.length_range]; unfold cap; omega)
    have snoc : ((List.range (k + 1)).map (putRow b row col inner)).map D.str = ((List.range k).map (putRow b row col inner)).map D.str ++ [.str (putRow b row col inner k)] := by
      rw [← range_snoc, List.map_append]
      rfl
    refine ⟨[.va (boxD b), .va (.int row), .va (.int col), .va (boxD inner), .mu (.lst (((List.range (k + 1)).map (putRow b row col inner)).map D.str)), .va (.int k), .va (.str (putRow b row col inner k))], ?_, _, _, rfl⟩
    rw [forF_at, snoc]
    generalize ((List.range k).map (putRow b row col inner)).map D.str = acc at *
    unfold putRow
    rw [el, qi.len]
    simp only [Option.getD_some]
    by_cases z : row ≤ k ∧ k < row + h2
    · rw [if_pos z]
      obtain ⟨ir, er, lr⟩ := qi.row (i := k - row) (by omega)
      rw [er]
      simp only [Option.getD_some]
      have z1 : decide (row ≤ k) = true := decide_eq_true (by omega)
      have z2 : decide ((k : Int) < (row : Int) + h2) = true := decide_eq_true (by omega)
      have ai2 : at? (inner.map D.str) ((k : Int) - row) = some (.str ir) := at_nat (k := k - row) (by omega) (by rw [List.getElem?_map, er]; rfl)
      have t1 := cut_takeA (xs := line) col
      have t2 : cut line (some ((col : Int) + (w2 : Int))) none = line.drop (col + w2) := by
        have := cut_dropA (xs := line) (col + w2)
        simpa using this
      have b1 : binD .add (.str (line.take col)) (.str ir) = some (.str (line.take col ++ ir)) := bin_str (by simp [cap]; omega)
      have b2 : binD .add (.str (line.take col ++ ir)) (.str (line.drop (col + w2))) = some (.str (lineM col ir line)) := by
        unfold lineM
        rw [lr]
        exact bin_str (by simp [cap]; omega)
      simp [b_put_in_1, z1, z2, lI, ii, ai, ai2, li, t1, t2, b1, b2, hcap]
    · rw [if_neg z]
      by_cases z1 : row ≤ k
      · have y1 : decide (row ≤ k) = true := decide_eq_true (by omega)
        have y2 : decide ((k : Int) < (row : Int) + h2) = false := decide_eq_false (by omega)
        simp [b_put_in_1, y1, y2, lI, hcap]
      · have y1 : decide (row ≤ k) = false := decide_eq_false (by omega)
        simp [b_put_in_1, y1, lI, hcap]
  obtain ⟨r', e4, s5, s6, rfl⟩ := lp
  have el : 0 + (enumD (b.map D.str)).length = b.length := by unfold enumD; simp
  rw [el] at e4
  have ep : boxD (putM b row col inner) = .tup (((List.range b.length).map (putRow b row col inner)).map D.str) := rfl
  rw [ep]
  simp [f_put_in, entry, argsFrom, e1, e2, e3, ib, ii, lb, lI, a0, ai, l0, li, d1, d2, en, e4, cap]
end
end Ev.Q

/-! turned boxes -/
namespace Ev.Q
open PySem
def oth (s : Nat) : Nat := if s = 114 then 102 else if s = 102 then 114 else if s = 82 then 70 else if s = 70 then 82 else s
theorem oth6 {s : Nat} (h : s ∈ S6) : oth s ∈ S6 := by
  unfold S6 at *
  simp only [List.mem_cons, List.not_mem_nil, or_false] at h
  rcases h with rfl | rfl | rfl | rfl | rfl | rfl <;> decide
theorem tab_oth {s : Nat} (h : s ∈ S6) : tabI (GL "OTHER") (.str [s]) = some (.str [oth s], false) := by
  unfold S6 at h
  simp only [List.mem_cons, List.not_mem_nil, or_false] at h
  rcases h with rfl | rfl | rfl | rfl | rfl | rfl <;> rfl
def quarterM (h w : Nat) (b : Bx) : Bx := (List.range w).map fun c : Nat => (List.range h).map fun k : Nat => oth (sgn b ((h - 1 - k : Nat) : Int) (c : Int))
def exchM (b : Bx) : Bx := b.map fun row => row.reverse.map oth
section
variable {h w : Nat} {b : Bx}
theorem down_eq (h0 : 0 < h) : downD ((h : Int) - 1) (-1) = (List.range h).map fun k : Nat => D.int ((h - 1 - k : Nat) : Int) := by
  unfold downD
  have e : ((h : Int) - 1 - -1).toNat = h := by omega
  rw [e]
  refine List.map_congr_left fun k hk => ?_
  have := List.mem_range.mp hk
  congr 1
  omega
theorem quarter_wf (q : Wf h w b) : Wf w h (quarterM h w b) := by
  refine wf_of q.w0 q.w5 q.h0 q.h5 (by simp [quarterM]) (fun k hk => ⟨(List.range h).map fun j : Nat => oth (sgn b ((h - 1 - j : Nat) : Int) (k : Int)), ?_, by simp⟩) fun r c hr hc => ?_
  · unfold quarterM
    rw [List.getElem?_map, List.getElem?_range hk]
    rfl
  · have : sgn (quarterM h w b) r c = oth (sgn b ((h - 1 - c : Nat) : Int) (r : Int)) := by
      unfold sgn quarterM
      simp only [Int.toNat_natCast]
      rw [List.getElem?_map, List.getElem?_range hr]
      simp only [Option.map_some, Option.getD_some]
      rw [List.getElem?_map, List.getElem?_range hc]
      rfl
    rw [this]
    exact oth6 (sgn6 q (by omega) hr)
theorem c_quarter {l : Fn} {n : Nat} (q : Wf h w b) : call (TT l) (n + 1) 51 [boxD b] = .ret (boxD (quarterM h w b)) false [] := by
  rw [call_at f_quarter rfl rfl]
  obtain ⟨row0, a0, l0⟩ := q.at0
  have h0 := q.h0; have h5 := q.h5; have w5 := q.w5
  have wr : ∀ f r, k_r1 (.ok (.int (w : Int), f) r) = .ok (rangeD 0 w) r := fun f r => k_r1_nat (by omega)
  have ib : ∀ k : D, ixD (boxD b) k = ixD (.tup (b.map D.str)) k := fun k => rfl
  have lb : biD .len [boxD b] = some (.int (h : Int), false) := by
    show biD .len [.tup (b.map D.str)] = _
    simp [q.len]
  have dq : ∀ f r, k_r33 (.int ((h : Int) - 1)) (.int (-1)) (.ok (.int (-1), f) r) = .ok (downD ((h : Int) - 1) (-1)) r := fun f r => by
    rw [k_r331, if_pos]
    unfold big
    omega
  let rowQ : Nat → List Nat := fun c => (List.range h).map fun k : Nat => oth (sgn b ((h - 1 - k : Nat) : Int) (c : Int))
  obtain ⟨r', e, s2, rfl⟩ := for_range (f := forF (cfg (TT l) (call (TT l) n) []) (.n 2) b_quarter_1) (n := w) (r := [.va (boxD b), .mu (.lst []), .un, .un]) (fun c z => ∃ s2, z = [.va (boxD b), .mu (.lst ((List.range c).map fun c => D.str (rowQ c))), s2, .un]) ⟨_, rfl⟩ fun c z hc hp => by
    obtain ⟨s2, rfl⟩ := hp
    refine ⟨[.va (boxD b), .mu (.lst ((List.range (c + 1)).map fun c => D.str (rowQ c))), .va (.int c), .un], ?_, _, rfl⟩
    have hcap : ∀ (x : D) z, k_ap2 1 x z (some (.lst ((List.range c).map fun c => D.str (rowQ c)))) = .next (z.set 1 (.mu (.lst (((List.range c).map fun c => D.str (rowQ c)) ++ [x])))) := fun x z => k_ap2p (by rw [List.length_map, List.length_range]; unfold cap; omega)
    rw [forF_at, ← range_snoc]
    generalize ((List.range c).map fun c => D.str (rowQ c)) = acc at *
    have cp : compLoop (comF (cfg (TT l) (call (TT l) n) []) [3] (.gd "OTHER" (.ix (.ix (.v 0) (.v 3)) (.v 2))) (.n 3) none) (downD ((h : Int) - 1) (-1)) [] [.va (boxD b), .mu (.lst acc), .va (.int c), .un] = .ok ((rowQ c).map fun s => .str [s]) [.va (boxD b), .mu (.lst acc), .va (.int c), .un] := by
      rw [down_eq h0]
      rw [comp_map (g := fun x => match x with | .int k => .str [oth (sgn b k (c : Int))] | _ => .non), List.nil_append, List.map_map]
      · show _ = R.ok (((List.range h).map fun k : Nat => oth (sgn b ((h - 1 - k : Nat) : Int) (c : Int))).map fun s => D.str [s]) _
        rw [List.map_map]
        rfl
      · intro x hx
        obtain ⟨k, hk, rfl⟩ := List.mem_map.mp hx
        have hk := List.mem_range.mp hk
        obtain ⟨row, a1, a2, _⟩ := sg_at q (insN (r := h - 1 - k) (c := c) (by omega) hc)
        have to := tab_oth (sgn6 q (r := h - 1 - k) (c := c) (by omega) hc)
        generalize ((h - 1 - k : Nat) : Int) = kk at *
        rw [comF_at]
        simp [ib, a1, a2, to, -GL_OTHER]
      · simp [cap]; omega
    have jc : mtD .join (.str []) [.lst ((rowQ c).map fun s => .str [s])] = some (.str (rowQ c), false) := join_chars (by show ((List.range h).map _).length ≤ cap; simp [cap]; omega)
    have ro : recvOk .join (.str []) = true := rfl
    simp [b_quarter_1, lb, dq, cp, ro, jc, hcap]
  have ep : boxD (quarterM h w b) = .tup ((List.range w).map fun c => D.str (rowQ c)) := by
    unfold boxD quarterM
    rw [List.map_map]
    rfl
  rw [ep]
  simp [f_quarter, entry, argsFrom, ib, a0, l0, wr, e, cap]
theorem exch_wf (q : Wf h w b) : Wf h w (exchM b) := by
  refine ⟨⟨by simp [exchM, q.len], fun row hr => ?_, fun row hr c hc => ?_⟩, q.h0, q.h5, q.w0, q.w5⟩
  · obtain ⟨r0, h1, rfl⟩ := List.mem_map.mp hr
    simp [q.bx.cols r0 h1]
  · obtain ⟨r0, h1, rfl⟩ := List.mem_map.mp hr
    obtain ⟨c0, h2, rfl⟩ := List.mem_map.mp hc
    exact oth6 (q.bx.sgn r0 h1 c0 (by simpa using h2))
theorem c_exchanged {l : Fn} {n : Nat} (q : Wf h w b) : call (TT l) (n + 1) 52 [boxD b] = .ret (boxD (exchM b)) false [] := by
  rw [call_at f_exchanged rfl rfl]
  have h5 := q.h5; have w5 := q.w5
  have ro : recvOk .join (.str []) = true := rfl
  have cp : compLoop (comF (cfg (TT l) (call (TT l) n) []) [1] (.mt .join (.c (.str [])) [.comp [2] (.gd "OTHER" (.v 2)) (.n 2) (.e (.rev (.v 1))) none]) (.n 1) none) (b.map D.str) [] [.va (boxD b), .un, .un] = .ok ((exchM b).map D.str) [.va (boxD b), .un, .un] := by
    rw [comp_map (g := fun x => match x with | .str row => .str (row.reverse.map oth) | _ => .non), List.nil_append, List.map_map]
    · unfold exchM
      rw [List.map_map]
      rfl
    · intro x hx
      obtain ⟨row, hr, rfl⟩ := List.mem_map.mp hx
      have lr := q.bx.cols row hr
      have c2 : compLoop (comF (cfg (TT l) (call (TT l) n) []) [2] (.gd "OTHER" (.v 2)) (.n 2) none) (row.reverse.map fun c => .str [c]) [] [.va (boxD b), .va (.str row), .un] = .ok ((row.reverse.map oth).map fun s => .str [s]) [.va (boxD b), .va (.str row), .un] := by
        rw [comp_map (g := fun x => match x with | .str [s] => .str [oth s] | _ => .non), List.nil_append, List.map_map, List.map_map]
        · rfl
        · intro y hy
          obtain ⟨s, hs, rfl⟩ := List.mem_map.mp hy
          have to := tab_oth (q.bx.sgn row hr s (by simpa using hs))
          rw [comF_at]
          simp [to, -GL_OTHER]
        · simp [cap]; omega
      have jc : mtD .join (.str []) [.lst ((row.reverse.map oth).map fun s => .str [s])] = some (.str (row.reverse.map oth), false) := join_chars (by simp [cap]; omega)
      have lc : row.length ≤ 65536 := by omega
      rw [comF_at]
      generalize hR : row.reverse = rr at *
      generalize hO : rr.map oth = ro2 at *
      simp [cap, lc, hR, itemsOf, c2, ro, jc, hO]
    · simp [cap, q.len]; omega
  unfold boxD at cp ⊢
  simp [f_exchanged, entry, argsFrom, itemsOf, cp]
theorem c_check_turn {l : Fn} {n t : Nat} (ht : t < 8) : call (TT l) (n + 2) 50 [.int t] = .ret .non false [] := by
  rw [call_at f_check_turn rfl rfl]
  have e := c_is_between (l := l) (n := n) (v := t) (lo := 0) (hi := 7)
  have d1 : decide ((0 : Int) ≤ (t : Int)) = true := decide_eq_true (by omega)
  have d2 : decide ((t : Int) ≤ 7) = true := decide_eq_true (by omega)
  rw [d1, d2] at e
  simp [f_check_turn, entry, argsFrom, e]
theorem c_turned {l : Fn} {n t : Nat} (q : Wf h w b) (ht : t < 8) : ∃ h' w' b', call (TT l) (n + 3) 54 [boxD b, .int t] = .ret (boxD b') false [] ∧ Wf h' w' b' := by
  have e1 := c_check_box (l := l) (n := n) q
  have e2 := c_check_turn (l := l) (n := n) ht
  have e3 : ∃ h' w' b', call (TT l) (n + 2) 53 [boxD b, .int t] = .ret (boxD b') false [] ∧ Wf h' w' b' := by
    rw [call_at f_turned_box rfl rfl]
    have key : ∀ b0 h0 w0, Wf h0 w0 b0 → ∃ h' w' b' s3, Wf h' w' b' ∧ forLoop (forF (cfg (TT l) (call (TT l) (n + 1)) []) (.n 3) b_turned_box_1) (rangeD 0 ((t % 4 : Nat) : Int)) [.va (boxD b), .va (.int t), .va (boxD b0), .un] = .next [.va (boxD b), .va (.int t), .va (boxD b'), s3] := fun b0 h0 w0 q0 => by
      obtain ⟨r', e, h', w', b', s3, qq, rfl⟩ := for_range (f := forF (cfg (TT l) (call (TT l) (n + 1)) []) (.n 3) b_turned_box_1) (n := t % 4) (r := [.va (boxD b), .va (.int t), .va (boxD b0), .un]) (fun _ z => ∃ h' w' b' s3, Wf h' w' b' ∧ z = [.va (boxD b), .va (.int t), .va (boxD b'), s3]) ⟨_, _, _, _, q0, rfl⟩ fun k z hk hp => by
        obtain ⟨h', w', b', s3, qq, rfl⟩ := hp
        have cq := c_quarter (l := l) (n := n) qq
        refine ⟨[.va (boxD b), .va (.int t), .va (boxD (quarterM h' w' b')), .va (.int k)], ?_, _, _, _, _, quarter_wf qq, rfl⟩
        rw [forF_at]
        simp [b_turned_box_1, cq]
      exact ⟨h', w', b', s3, qq, e⟩
    have m1 : binD .mod (.int (t : Int)) (.int 4) = some (.int ((t % 4 : Nat) : Int)) := by
      rw [bin_mod (by omega)]
      congr 2
    have tr : ∀ f r, k_r1 (.ok (.int ((t % 4 : Nat) : Int), f) r) = .ok (rangeD 0 ((t % 4 : Nat) : Int)) r := fun f r => k_r1_nat (by omega)
    generalize hm : ((t % 4 : Nat) : Int) = tm at *
    by_cases h3 : 3 < t
    · have d3 : decide ((3 : Int) < (t : Int)) = true := decide_eq_true (by omega)
      have ce := c_exchanged (l := l) (n := n) q
      obtain ⟨h', w', b', s3, qq, e⟩ := key (exchM b) h w (exch_wf q)
      exact ⟨h', w', b', by simp [f_turned_box, entry, argsFrom, d3, ce, m1, tr, e], qq⟩
    · have d3 : decide ((3 : Int) < (t : Int)) = false := decide_eq_false (by omega)
      obtain ⟨h', w', b', s3, qq, e⟩ := key b h w q
      exact ⟨h', w', b', by simp [f_turned_box, entry, argsFrom, d3, m1, tr, e], qq⟩
  obtain ⟨h', w', b', e3, qq⟩ := e3
  refine ⟨h', w', b', ?_, qq⟩
  rw [call_at f_turned rfl rfl]
  simp [f_turned, entry, argsFrom, e1, e2, e3]
end
end Ev.Q

/-! light in turned boxes -/
namespace Ev.Q
open PySem
/-- a map of triples from a box to another one -/
structure Sym (h w h' w' : Nat) (b b' : Bx) where
  fr : Int → Int → Int
  fc : Int → Int → Int
  g : Int → Int
  dm : Nat → Nat
  area : h' * w' = h * w
  ins : ∀ r c, insd h' w' (fr r c) (fc r c) ↔ insd h w r c
  gok : ∀ d, okDir d → okDir (g d)
  gop : ∀ d, okDir d → g (opp d) = opp (g d)
  mv : ∀ r c d, okDir d → moveM (fr r c) (fc r c) (g d) = (fr (moveM r c d).1 (moveM r c d).2, fc (moveM r c d).1 (moveM r c d).2)
  tn : ∀ r c d, insd h w r c → okDir d → turnM (sgn b' (fr r c) (fc r c)) (g d) = g (turnM (sgn b r c) d)
  blk : ∀ r c, insd h w r c → (sgn b' (fr r c) (fc r c) = 35 ↔ sgn b r c = 35)
  door : ∀ k, k < 2 * (h + w) → dm k < 2 * (h' + w') ∧ beginM h' w' (dm k) = (fr (beginM h w k).1 (beginM h w k).2.1, fc (beginM h w k).1 (beginM h w k).2.1, g (beginM h w k).2.2)
section
variable {h w h' w' : Nat} {b b' : Bx}
def Sym.f (S : Sym h w h' w' b b') (p : Tr) : Tr := (S.fr p.1 p.2.1, S.fc p.1 p.2.1, S.g p.2.2)
theorem Sym.nxt (S : Sym h w h' w' b b') {p : Tr} (i : insd h w p.1 p.2.1) (d : okDir p.2.2) : Q.nxt b' (S.f p) = S.f (Q.nxt b p) := by
  obtain ⟨r, c, e⟩ := p
  unfold Q.nxt Sym.f
  simp only at i d ⊢
  rw [S.tn r c e i d, S.mv r c _ (turn_ok d)]
theorem Sym.it (S : Sym h w h' w' b b') {t : Tr} {n : Nat} (d : okDir t.2.2) (inn : ∀ m, m < n → insd h w (Q.it b t m).1 (Q.it b t m).2.1) : ∀ m, m ≤ n → Q.it b' (S.f t) m = S.f (Q.it b t m)
  | 0, _ => rfl
  | m + 1, hm => by
    show Q.nxt b' (Q.it b' (S.f t) m) = S.f (Q.nxt b (Q.it b t m))
    rw [S.it d inn m (by omega), S.nxt (inn m (by omega)) (it_dir d m)]
theorem Sym.stp (S : Sym h w h' w' b b') {p : Tr} (i : insd h w p.1 p.2.1) (d : okDir p.2.2) : Q.stp h' w' b' (S.f p) ↔ Q.stp h w b p := by
  unfold Q.stp
  rw [S.nxt i d]
  show (sgn b' (S.fr p.1 p.2.1) (S.fc p.1 p.2.1) = 35 ∨ ¬ insd h' w' (S.fr (Q.nxt b p).1 (Q.nxt b p).2.1) (S.fc (Q.nxt b p).1 (Q.nxt b p).2.1)) ↔ _
  rw [S.blk _ _ i, S.ins]
theorem Sym.end_ (S : Sym h w h' w' b b') {t : Tr} {N : Nat} (en : Ent h w t) (e : End h w b t N) : End h' w' b' (S.f t) N := by
  have ii := S.it (n := N) en.dir fun m hm => e.inn m (by omega)
  refine ⟨?_, ?_, fun m hm => ?_, fun m hm => ?_⟩
  · have := e.lt
    rw [Nat.mul_assoc] at this ⊢
    rw [S.area]
    exact this
  · rw [ii N (Nat.le_refl _)]
    exact (S.stp (e.inn N (Nat.le_refl _)) (it_dir en.dir N)).mpr e.stop
  · rw [ii m (by omega), S.stp (e.inn m (by omega)) (it_dir en.dir m)]
    exact e.non m hm
  · rw [ii m hm]
    exact (S.ins _ _).mpr (e.inn m hm)
theorem Sym.begin_ (S : Sym h w h' w' b b') {k : Nat} (hk : k < 2 * (h + w)) : beginM h' w' (S.dm k) = S.f (beginM h w k) := (S.door k hk).2
/-- light by the turned door: as long, and out by the turned door -/
theorem Sym.walk (S : Sym h w h' w' b b') (q : Wf h w b) (q' : Wf h' w' b') {k : Nat} (hk : k < 2 * (h + w)) :
    wN h' w' b' (beginM h' w' (S.dm k)) = wN h w b (beginM h w k) ∧ ((wout h w b (beginM h w k) = none ∧ wout h' w' b' (beginM h' w' (S.dm k)) = none) ∨ ∃ o : Nat, o < 2 * (h + w) ∧ wout h w b (beginM h w k) = some (o : Int) ∧ wout h' w' b' (beginM h' w' (S.dm k)) = some (S.dm o : Int)) := by
  have en := (beg_ent q hk).1
  have e := wN_end (b := b) en
  have e' := S.end_ en e
  have hb := S.begin_ hk
  have hN : wN h' w' b' (beginM h' w' (S.dm k)) = wN h w b (beginM h w k) := by
    rw [hb]
    exact wN_eq e'
  refine ⟨hN, ?_⟩
  unfold wout
  rw [hN, hb, S.it (n := wN h w b (beginM h w k)) en.dir (fun m hm => e.inn m (by omega)) _ (Nat.le_refl _)]
  have inn := e.inn _ (Nat.le_refl _)
  have dr := it_dir (b := b) en.dir (wN h w b (beginM h w k))
  have st := e.stop
  generalize Q.it b (beginM h w k) (wN h w b (beginM h w k)) = p at *
  obtain ⟨r, c, d⟩ := p
  simp only at inn dr
  unfold outAt Sym.f
  simp only
  by_cases hs : sgn b r c = 35
  · exact .inl ⟨by rw [if_pos hs], by rw [if_pos ((S.blk r c inn).mpr hs)]⟩
  · have hs' : ¬ sgn b' (S.fr r c) (S.fc r c) = 35 := fun z => hs ((S.blk r c inn).mp z)
    rw [if_neg hs, if_neg hs']
    have st := st.resolve_left hs
    have td := turn_ok (s := sgn b r c) dr
    obtain ⟨o, eo, ho, eb⟩ := beyond_out q inn td st
    have inn' := (S.ins r c).mpr inn
    have st' : ¬ insd h' w' (moveM (S.fr r c) (S.fc r c) (S.g (turnM (sgn b r c) d))).1 (moveM (S.fr r c) (S.fc r c) (S.g (turnM (sgn b r c) d))).2 := by
      rw [S.mv r c _ td]
      simp only
      rw [S.ins]
      exact st
    obtain ⟨o', eo', ho', eb'⟩ := beyond_out q' inn' (S.gok _ td) st'
    rw [S.tn r c d inn dr]
    refine .inr ⟨o, ho, eo, ?_⟩
    rw [eo']
    have h1 := (S.door o ho).2
    rw [eb] at h1
    simp only at h1
    rw [S.gop _ td, ← eb'] at h1
    rw [beg_inj q' (S.door o ho).1 ho' h1]
/-! ### quarter turns, exchanged sides -/
theorem oth35 {s : Nat} : oth s = 35 ↔ s = 35 := by
  unfold oth
  by_cases h1 : s = 114
  · subst h1; decide
  · by_cases h2 : s = 102
    · subst h2; decide
    · by_cases h3 : s = 82
      · subst h3; decide
      · by_cases h4 : s = 70
        · subst h4; decide
        · simp [h1, h2, h3, h4]
def rot (d : Int) : Int := (d + 1) % 4
def exd (d : Int) : Int := if d = 1 then 3 else if d = 3 then 1 else d
theorem turn_rot {s : Nat} {d : Int} (h : okDir d) : turnM (oth s) (rot d) = rot (turnM s d) := by
  by_cases h1 : s = 114
  · subst h1
    rcases dir4 h with rfl | rfl | rfl | rfl <;> decide
  · by_cases h2 : s = 102
    · subst h2
      rcases dir4 h with rfl | rfl | rfl | rfl <;> decide
    · have e : ∀ d, turnM s d = d := fun d => by unfold turnM; rw [if_neg h1, if_neg h2]
      have e2 : ∀ d, turnM (oth s) d = d := fun d => by
        unfold turnM oth
        rw [if_neg h1, if_neg h2]
        split
        · rfl
        · split
          · rfl
          · rfl
      rw [e, e2]
theorem turn_exd {s : Nat} {d : Int} (h : okDir d) : turnM (oth s) (exd d) = exd (turnM s d) := by
  by_cases h1 : s = 114
  · subst h1
    rcases dir4 h with rfl | rfl | rfl | rfl <;> decide
  · by_cases h2 : s = 102
    · subst h2
      rcases dir4 h with rfl | rfl | rfl | rfl <;> decide
    · have e : ∀ d, turnM s d = d := fun d => by unfold turnM; rw [if_neg h1, if_neg h2]
      have e2 : ∀ d, turnM (oth s) d = d := fun d => by
        unfold turnM oth
        rw [if_neg h1, if_neg h2]
        split
        · rfl
        · split
          · rfl
          · rfl
      rw [e, e2]
theorem quarter_sgn {r c : Nat} (hr : r < w) (hc : c < h) : sgn (quarterM h w b) r c = oth (sgn b ((h - 1 - c : Nat) : Int) (r : Int)) := by
  unfold sgn quarterM
  simp only [Int.toNat_natCast]
  rw [List.getElem?_map, List.getElem?_range hr]
  simp only [Option.map_some, Option.getD_some]
  rw [List.getElem?_map, List.getElem?_range hc]
  rfl
theorem quarter_at {r c : Int} (i : insd h w r c) : sgn (quarterM h w b) c ((h : Int) - 1 - r) = oth (sgn b r c) := by
  obtain ⟨i1, i2, i3, i4⟩ := i
  obtain ⟨r, rfl⟩ := Int.eq_ofNat_of_zero_le i1
  obtain ⟨c, rfl⟩ := Int.eq_ofNat_of_zero_le i3
  have e : (h : Int) - 1 - (r : Int) = ((h - 1 - r : Nat) : Int) := by omega
  rw [e, quarter_sgn (by omega) (by omega)]
  congr 2
  omega
theorem exch_at (q : Wf h w b) {r c : Int} (i : insd h w r c) : sgn (exchM b) r ((w : Int) - 1 - c) = oth (sgn b r c) := by
  obtain ⟨i1, i2, i3, i4⟩ := i
  obtain ⟨r, rfl⟩ := Int.eq_ofNat_of_zero_le i1
  obtain ⟨c, rfl⟩ := Int.eq_ofNat_of_zero_le i3
  have e : (w : Int) - 1 - (c : Int) = ((w - 1 - c : Nat) : Int) := by omega
  obtain ⟨row, er, lr⟩ := q.row (i := r) (by omega)
  rw [e]
  unfold sgn exchM
  simp only [Int.toNat_natCast]
  rw [List.getElem?_map, er]
  simp only [Option.map_some, Option.getD_some]
  rw [List.getElem?_map, List.getElem?_reverse (by omega), show row.length - 1 - (w - 1 - c) = c from by omega]
  rw [List.getElem?_eq_getElem (by omega)]
  rfl
def dmQ (h w k : Nat) : Nat := (k + h) % (2 * (h + w))
/-- where a door is with left and right exchanged -/
def dmE (h w k : Nat) : Nat := if k < w then w - 1 - k else if k < w + h then w + h + w + (h - 1 - (k - w)) else if k < 2 * w + h then w + h + (w - 1 - (k - w - h)) else w + (h - 1 - (k - 2 * w - h))
theorem ffQ : ∀ h : _root_.Fin 6, ∀ w : _root_.Fin 6, ∀ k : _root_.Fin 20, 0 < h.val → 0 < w.val → k.val < 2 * (h.val + w.val) → dmQ h.val w.val k.val < 2 * (w.val + h.val) ∧ beginM w.val h.val (dmQ h.val w.val k.val) = ((beginM h.val w.val k.val).2.1, (h.val : Int) - 1 - (beginM h.val w.val k.val).1, rot (beginM h.val w.val k.val).2.2) := by decide +kernel
theorem ffE : ∀ h : _root_.Fin 6, ∀ w : _root_.Fin 6, ∀ k : _root_.Fin 20, 0 < h.val → 0 < w.val → k.val < 2 * (h.val + w.val) → dmE h.val w.val k.val < 2 * (h.val + w.val) ∧ beginM h.val w.val (dmE h.val w.val k.val) = ((beginM h.val w.val k.val).1, (w.val : Int) - 1 - (beginM h.val w.val k.val).2.1, exd (beginM h.val w.val k.val).2.2) := by decide +kernel
def symQ (q : Wf h w b) : Sym h w w h b (quarterM h w b) where
  fr := fun _ c => c
  fc := fun r _ => (h : Int) - 1 - r
  g := rot
  dm := dmQ h w
  area := Nat.mul_comm w h
  ins := fun r c => by unfold insd; omega
  gok := fun d hd => by unfold okDir rot at *; omega
  gop := fun d hd => by rcases dir4 hd with rfl | rfl | rfl | rfl <;> decide
  mv := fun r c d hd => by rcases dir4 hd with rfl | rfl | rfl | rfl <;> simp [moveM, rot] <;> omega
  tn := fun r c d i hd => by rw [quarter_at i, turn_rot hd]
  blk := fun r c i => by rw [quarter_at i, oth35]
  door := fun k hk => by
    have h5 := q.h5; have w5 := q.w5
    exact ffQ ⟨h, by omega⟩ ⟨w, by omega⟩ ⟨k, by omega⟩ q.h0 q.w0 hk
def symE (q : Wf h w b) : Sym h w h w b (exchM b) where
  fr := fun r _ => r
  fc := fun _ c => (w : Int) - 1 - c
  g := exd
  dm := dmE h w
  area := rfl
  ins := fun r c => by unfold insd; omega
  gok := fun d hd => by unfold okDir exd at *; split <;> (try split) <;> omega
  gop := fun d hd => by rcases dir4 hd with rfl | rfl | rfl | rfl <;> decide
  mv := fun r c d hd => by rcases dir4 hd with rfl | rfl | rfl | rfl <;> simp [moveM, exd] <;> omega
  tn := fun r c d i hd => by rw [exch_at q i, turn_exd hd]
  blk := fun r c i => by rw [exch_at q i, oth35]
  door := fun k hk => by
    have h5 := q.h5; have w5 := q.w5
    exact ffE ⟨h, by omega⟩ ⟨w, by omega⟩ ⟨k, by omega⟩ q.h0 q.w0 hk
end
end Ev.Q

/-! all eight turns -/
namespace Ev.Q
open PySem
/-- a box with its size -/
structure SB where
  h : Nat
  w : Nat
  b : Bx
def SB.ok (s : SB) : Prop := Wf s.h s.w s.b
def qS (s : SB) : SB := ⟨s.w, s.h, quarterM s.h s.w s.b⟩
def xS (s : SB) : SB := ⟨s.h, s.w, exchM s.b⟩
def qN : Nat → SB → SB
  | 0, s => s
  | n + 1, s => qS (qN n s)
def turnS (t : Nat) (s : SB) : SB := qN (t % 4) (if 3 < t then xS s else s)
theorem qS_ok {s : SB} (h : s.ok) : (qS s).ok := quarter_wf h
theorem xS_ok {s : SB} (h : s.ok) : (xS s).ok := exch_wf h
theorem qN_ok {s : SB} (h : s.ok) : ∀ n, (qN n s).ok
  | 0 => h
  | n + 1 => qS_ok (qN_ok h n)
theorem turn_wf {s : SB} (h : s.ok) (t : Nat) : (turnS t s).ok := by
  unfold turnS
  split
  · exact qN_ok (xS_ok h) _
  · exact qN_ok h _
theorem oth_oth (s : Nat) : oth (oth s) = s := by
  unfold oth
  by_cases h1 : s = 114
  · subst h1; decide
  · by_cases h2 : s = 102
    · subst h2; decide
    · by_cases h3 : s = 82
      · subst h3; decide
      · by_cases h4 : s = 70
        · subst h4; decide
        · simp [h1, h2, h3, h4]
theorem exch_sgn {h w : Nat} {b : Bx} (q : Wf h w b) {r c : Nat} (hr : r < h) (hc : c < w) : sgn (exchM b) r c = oth (sgn b (r : Int) ((w - 1 - c : Nat) : Int)) := by
  have := exch_at q (insN (r := r) (c := w - 1 - c) hr (by omega))
  have e : (w : Int) - 1 - ((w - 1 - c : Nat) : Int) = (c : Int) := by omega
  rw [e] at this
  exact this
theorem x2 {s : SB} (h : s.ok) : xS (xS s) = s := by
  obtain ⟨hh, w, b⟩ := s
  have q : Wf hh w b := h
  show SB.mk hh w (exchM (exchM b)) = _
  congr 1
  refine box_ext (exch_wf (exch_wf q)) q fun r c hr hc => ?_
  rw [exch_sgn (exch_wf q) hr hc, exch_sgn q hr (by omega), oth_oth]
  congr 2
  omega
theorem q4 {s : SB} (h : s.ok) : qS (qS (qS (qS s))) = s := by
  obtain ⟨hh, w, b⟩ := s
  have q : Wf hh w b := h
  show SB.mk hh w (quarterM w hh (quarterM hh w (quarterM w hh (quarterM hh w b)))) = _
  congr 1
  refine box_ext (quarter_wf (quarter_wf (quarter_wf (quarter_wf q)))) q fun r c hr hc => ?_
  rw [quarter_sgn hr hc, quarter_sgn (by omega) hr, quarter_sgn (by omega) (by omega), quarter_sgn (by omega) (by omega), oth_oth, oth_oth]
  congr 2 <;> omega
/-- exchanged between two quarter turns -/
theorem qxq {s : SB} (h : s.ok) : qS (xS (qS s)) = xS s := by
  obtain ⟨hh, w, b⟩ := s
  have q : Wf hh w b := h
  show SB.mk hh w (quarterM w hh (exchM (quarterM hh w b))) = SB.mk hh w (exchM b)
  congr 1
  refine box_ext (quarter_wf (exch_wf (quarter_wf q))) (exch_wf q) fun r c hr hc => ?_
  rw [quarter_sgn hr hc, exch_sgn (quarter_wf q) (by omega) hr, quarter_sgn (by omega) (by omega), exch_sgn q hr hc, oth_oth]
  congr 3
  omega
theorem qN_add {s : SB} : ∀ m n, qN m (qN n s) = qN (m + n) s
  | 0, n => by simp [qN]
  | m + 1, n => by
    rw [show m + 1 + n = (m + n) + 1 from by omega]
    show qS (qN m (qN n s)) = qS (qN (m + n) s)
    rw [qN_add m n]
theorem qN4 {s : SB} (h : s.ok) (n : Nat) : qN (n + 4) s = qN n s := by
  rw [← qN_add]
  congr 1
  exact q4 h
theorem qN_mod {s : SB} (h : s.ok) : ∀ n, qN n s = qN (n % 4) s := fun n => by
  induction n using Nat.strongRecOn with
  | ind n ih =>
    by_cases hn : n < 4
    · rw [Nat.mod_eq_of_lt hn]
    · obtain ⟨m, rfl⟩ : ∃ m, n = m + 4 := ⟨n - 4, by omega⟩
      rw [qN4 h, ih m (by omega)]
      congr 1
      omega
/-- exchanged, ahead of quarter turns -/
theorem xq {s : SB} (h : s.ok) : ∀ n, n ≤ 4 → xS (qN n s) = qN (4 - n) (xS s)
  | 0, _ => by
    show xS s = qN 4 (xS s)
    rw [qN4 (xS_ok h) 0]
    rfl
  | n + 1, hn => by
    have h1 := qxq (qN_ok h n)
    have h2 : qN 3 (qS (xS (qS (qN n s)))) = qN 3 (xS (qN n s)) := by rw [h1]
    have h3 : qN 3 (qS (xS (qN (n + 1) s))) = xS (qN (n + 1) s) := by
      show qS (qS (qS (qS (xS (qN (n + 1) s))))) = _
      exact q4 (xS_ok (qN_ok h (n + 1)))
    have h2 : qN 3 (qS (xS (qN (n + 1) s))) = qN 3 (xS (qN n s)) := h2
    rw [h3, xq h n (by omega), qN_add, qN_mod (xS_ok h)] at h2
    rw [h2, qN_mod (xS_ok h) (4 - (n + 1))]
    congr 1
    omega
/-- one turn behind another -/
def comp2 (f s : Nat) : Nat := if 3 < s then (if 3 < f then (s % 4 + (4 - f % 4)) % 4 else (s % 4 + (4 - f % 4)) % 4 + 4) else (if 3 < f then (s % 4 + f % 4) % 4 + 4 else (s % 4 + f % 4) % 4)
theorem turn_turn {s : SB} (h : s.ok) (f t : Nat) : turnS t (turnS f s) = turnS (comp2 f t) s := by
  unfold turnS comp2
  by_cases ht : 3 < t
  · rw [if_pos ht, if_pos ht]
    by_cases hf : 3 < f
    · rw [if_pos hf, if_pos hf, if_neg (by omega), xq (xS_ok h) _ (by omega), qN_add, x2 h, qN_mod h]
      congr 1
      omega
    · rw [if_neg hf, if_neg hf, if_pos (by omega), xq h _ (by omega), qN_add, qN_mod (xS_ok h)]
      congr 1
      omega
  · rw [if_neg ht, if_neg ht]
    by_cases hf : 3 < f
    · rw [if_pos hf, if_pos hf, if_pos (by omega), qN_add, qN_mod (xS_ok h)]
      congr 1
      omega
    · rw [if_neg hf, if_neg hf, if_neg (by omega), qN_add, qN_mod h]
      congr 1
      omega
/-! ### doors -/
structure SD where
  h : Nat
  w : Nat
  k : Nat
def qD (s : SD) : SD := ⟨s.w, s.h, dmQ s.h s.w s.k⟩
def qDN : Nat → SD → SD
  | 0, s => s
  | n + 1, s => qD (qDN n s)
def doorT (t h w k : Nat) : Nat := (qDN (t % 4) ⟨h, w, if 3 < t then dmE h w k else k⟩).k
/-- doors lead as in the other box, renumbered -/
structure WR (s s' : SB) (δ : Nat → Nat) : Prop where
  lt : ∀ k, k < 2 * (s.h + s.w) → δ k < 2 * (s'.h + s'.w)
  len : ∀ k, k < 2 * (s.h + s.w) → wN s'.h s'.w s'.b (beginM s'.h s'.w (δ k)) = wN s.h s.w s.b (beginM s.h s.w k)
  out : ∀ k, k < 2 * (s.h + s.w) → (wout s.h s.w s.b (beginM s.h s.w k) = none ∧ wout s'.h s'.w s'.b (beginM s'.h s'.w (δ k)) = none) ∨ ∃ o : Nat, o < 2 * (s.h + s.w) ∧ wout s.h s.w s.b (beginM s.h s.w k) = some (o : Int) ∧ wout s'.h s'.w s'.b (beginM s'.h s'.w (δ k)) = some (δ o : Int)
theorem wout_cases {h w : Nat} {b : Bx} (q : Wf h w b) {k : Nat} (hk : k < 2 * (h + w)) : wout h w b (beginM h w k) = none ∨ ∃ o : Nat, o < 2 * (h + w) ∧ wout h w b (beginM h w k) = some (o : Int) := by
  have en := (beg_ent q hk).1
  have e := wN_end (b := b) en
  unfold wout outAt
  have inn := e.inn _ (Nat.le_refl _)
  have dr := it_dir (b := b) en.dir (wN h w b (beginM h w k))
  have st := e.stop
  generalize it b (beginM h w k) (wN h w b (beginM h w k)) = p at *
  by_cases z : sgn b p.1 p.2.1 = 35
  · exact .inl (by rw [if_pos z])
  · obtain ⟨o, e1, e2, _⟩ := beyond_out q inn (turn_ok (s := sgn b p.1 p.2.1) dr) (st.resolve_left z)
    exact .inr ⟨o, e2, by rw [if_neg z]; exact e1⟩
theorem WR.refl (s : SB) (hs : s.ok) : WR s s (fun k => k) := ⟨fun k h => h, fun k h => rfl, fun k h => by
  rcases wout_cases hs h with z | ⟨o, h1, h2⟩
  · exact .inl ⟨z, z⟩
  · exact .inr ⟨o, h1, h2, h2⟩⟩
theorem WR.trans {s s' s'' : SB} {δ ε : Nat → Nat} (a : WR s s' δ) (b : WR s' s'' ε) : WR s s'' (fun k => ε (δ k)) := by
  refine ⟨fun k h => b.lt _ (a.lt k h), fun k h => (b.len _ (a.lt k h)).trans (a.len k h), fun k h => ?_⟩
  rcases a.out k h with ⟨h1, h2⟩ | ⟨o, h1, h2, h3⟩
  · rcases b.out _ (a.lt k h) with ⟨k1, k2⟩ | ⟨o', k1, k2, k3⟩
    · exact .inl ⟨h1, k2⟩
    · rw [h2] at k2; cases k2
  · rcases b.out _ (a.lt k h) with ⟨k1, k2⟩ | ⟨o', k1, k2, k3⟩
    · rw [h3] at k1; cases k1
    · rw [h3] at k2
      have : δ o = o' := by injection k2 with k2; omega
      exact .inr ⟨o, h1, h2, by rw [k3, this]⟩
theorem WR.q (s : SB) (hs : s.ok) : WR s (qS s) (dmQ s.h s.w) := ⟨fun k h => ((symQ hs).door k h).1, fun k h => ((symQ hs).walk hs (quarter_wf hs) h).1, fun k h => ((symQ hs).walk hs (quarter_wf hs) h).2⟩
theorem WR.x (s : SB) (hs : s.ok) : WR s (xS s) (dmE s.h s.w) := ⟨fun k h => ((symE hs).door k h).1, fun k h => ((symE hs).walk hs (exch_wf hs) h).1, fun k h => ((symE hs).walk hs (exch_wf hs) h).2⟩
theorem qDN_size {h w k k' : Nat} : ∀ n, (qDN n ⟨h, w, k⟩).h = (qDN n ⟨h, w, k'⟩).h ∧ (qDN n ⟨h, w, k⟩).w = (qDN n ⟨h, w, k'⟩).w
  | 0 => ⟨rfl, rfl⟩
  | n + 1 => ⟨(qDN_size n).2, (qDN_size n).1⟩
theorem qDN_box {s : SB} {k : Nat} : ∀ n, (qDN n ⟨s.h, s.w, k⟩).h = (qN n s).h ∧ (qDN n ⟨s.h, s.w, k⟩).w = (qN n s).w
  | 0 => ⟨rfl, rfl⟩
  | n + 1 => ⟨(qDN_box n).2, (qDN_box n).1⟩
theorem WR.qn (s : SB) (hs : s.ok) : ∀ n, WR s (qN n s) (fun k => (qDN n ⟨s.h, s.w, k⟩).k)
  | 0 => WR.refl s hs
  | n + 1 => by
    have := (WR.qn s hs n).trans (WR.q _ (qN_ok hs n))
    have e : (fun k => (qDN (n + 1) ⟨s.h, s.w, k⟩).k) = fun k => dmQ (qN n s).h (qN n s).w (qDN n ⟨s.h, s.w, k⟩).k := by
      funext k
      show dmQ (qDN n ⟨s.h, s.w, k⟩).h (qDN n ⟨s.h, s.w, k⟩).w (qDN n ⟨s.h, s.w, k⟩).k = _
      rw [(qDN_box n).1, (qDN_box n).2]
    rw [e]
    exact this
theorem WR.turn (s : SB) (hs : s.ok) (t : Nat) : WR s (turnS t s) (fun k => doorT t s.h s.w k) := by
  unfold turnS doorT
  by_cases h : 3 < t
  · simp only [if_pos h]
    exact (WR.x s hs).trans (WR.qn (xS s) (xS_ok hs) _)
  · simp only [if_neg h]
    exact WR.qn s hs _
end Ev.Q

/-! turns: contracts -/
namespace Ev.Q
open PySem
theorem mod4 {t : Nat} : binD .mod (.int (t : Int)) (.int 4) = some (.int ((t % 4 : Nat) : Int)) := by
  rw [bin_mod (by omega)]
  congr 2
theorem r4 {t : Nat} : ∀ f r, k_r1 (.ok (.int ((t % 4 : Nat) : Int), f) r) = .ok (rangeD 0 ((t % 4 : Nat) : Int)) r := fun f r => k_r1_nat (by omega)
theorem c_turned_box {l : Fn} {n t : Nat} {s : SB} (hs : s.ok) (ht : t < 8) : call (TT l) (n + 2) 53 [boxD s.b, .int t] = .ret (boxD (turnS t s).b) false [] := by
  rw [call_at f_turned_box rfl rfl]
  have key : ∀ s0 : SB, s0.ok → ∃ s3, forLoop (forF (cfg (TT l) (call (TT l) (n + 1)) []) (.n 3) b_turned_box_1) (rangeD 0 ((t % 4 : Nat) : Int)) [.va (boxD s.b), .va (.int t), .va (boxD s0.b), .un] = .next [.va (boxD s.b), .va (.int t), .va (boxD (qN (t % 4) s0).b), s3] := fun s0 q0 => by
    obtain ⟨r', e, s3, rfl⟩ := for_range (f := forF (cfg (TT l) (call (TT l) (n + 1)) []) (.n 3) b_turned_box_1) (n := t % 4) (r := [.va (boxD s.b), .va (.int t), .va (boxD s0.b), .un]) (fun k z => ∃ s3, z = [.va (boxD s.b), .va (.int t), .va (boxD (qN k s0).b), s3]) ⟨_, rfl⟩ fun k z hk hp => by
      obtain ⟨s3, rfl⟩ := hp
      have cq := c_quarter (l := l) (n := n) (qN_ok q0 k)
      refine ⟨[.va (boxD s.b), .va (.int t), .va (boxD (quarterM (qN k s0).h (qN k s0).w (qN k s0).b)), .va (.int k)], ?_, _, rfl⟩
      rw [forF_at]
      simp [b_turned_box_1, cq]
    exact ⟨s3, e⟩
  have m1 := mod4 (t := t)
  have tr := r4 (t := t)
  unfold turnS
  generalize hm : ((t % 4 : Nat) : Int) = tm at *
  by_cases h3 : 3 < t
  · have d3 : decide ((3 : Int) < (t : Int)) = true := decide_eq_true (by omega)
    have ce := c_exchanged (l := l) (n := n) hs
    obtain ⟨s3, e⟩ := key (xS s) (xS_ok hs)
    have e : forLoop (forF (cfg (TT l) (call (TT l) (n + 1)) []) (.n 3) b_turned_box_1) (rangeD 0 tm) [.va (boxD s.b), .va (.int t), .va (boxD (exchM s.b)), .un] = _ := e
    rw [if_pos h3]
    simp [f_turned_box, entry, argsFrom, d3, ce, m1, tr, e]
  · have d3 : decide ((3 : Int) < (t : Int)) = false := decide_eq_false (by omega)
    obtain ⟨s3, e⟩ := key s hs
    rw [if_neg h3]
    simp [f_turned_box, entry, argsFrom, d3, m1, tr, e]
theorem c_turnedS {l : Fn} {n t : Nat} {s : SB} (hs : s.ok) (ht : t < 8) : call (TT l) (n + 3) 54 [boxD s.b, .int t] = .ret (boxD (turnS t s).b) false [] := by
  rw [call_at f_turned rfl rfl]
  have e1 := c_check_box (l := l) (n := n) hs
  have e2 := c_check_turn (l := l) (n := n) ht
  have e3 := c_turned_box (l := l) (n := n) hs ht
  simp [f_turned, entry, argsFrom, e1, e2, e3]
/-! ### the law's own -/
def OT : List (List Nat × List Nat) := [([46], [46]), ([35], [35]), ([114], [102]), ([102], [114]), ([82], [70]), ([70], [82])]
theorem tab_OT {s : Nat} (h : s ∈ S6) : tabI (some (.dic (dts OT))) (.str [s]) = some (.str [oth s], false) := by
  unfold S6 at h
  simp only [List.mem_cons, List.not_mem_nil, or_false] at h
  rcases h with rfl | rfl | rfl | rfl | rfl | rfl <;> rfl
section
variable {h w : Nat} {b : Bx}
theorem c__law_quarter {l : Fn} {n : Nat} (q : Wf h w b) : call (TT l) (n + 1) 167 [boxD b] = .ret (boxD (quarterM h w b)) false [] := by
  rw [call_at f__law_quarter rfl rfl]
  obtain ⟨row0, a0, l0⟩ := q.at0
  have h0 := q.h0; have h5 := q.h5; have w5 := q.w5
  have hr : ∀ f r, k_r1 (.ok (.int (h : Int), f) r) = .ok (rangeD 0 h) r := fun f r => k_r1_nat (by omega)
  have wr : ∀ f r, k_r1 (.ok (.int (w : Int), f) r) = .ok (rangeD 0 w) r := fun f r => k_r1_nat (by omega)
  have ib : ∀ k : D, ixD (boxD b) k = ixD (.tup (b.map D.str)) k := fun k => rfl
  have lb : biD .len [boxD b] = some (.int (h : Int), false) := by
    show biD .len [.tup (b.map D.str)] = _
    simp [q.len]
  let rowQ : Nat → List Nat := fun c => (List.range h).map fun k : Nat => oth (sgn b ((h - 1 - k : Nat) : Int) (c : Int))
  obtain ⟨r', e, s3, rfl⟩ := for_range (f := forF (cfg (TT l) (call (TT l) n) []) (.n 3) b__law_quarter_1) (n := w) (r := [.va (boxD b), .va (.dic (dts OT)), .mu (.lst []), .un, .va (.int h), .va (.int w), .un]) (fun c z => ∃ s3, z = [.va (boxD b), .va (.dic (dts OT)), .mu (.lst ((List.range c).map fun c => D.str (rowQ c))), s3, .va (.int h), .va (.int w), .un]) ⟨_, rfl⟩ fun c z hc hp => by
    obtain ⟨s3, rfl⟩ := hp
    refine ⟨[.va (boxD b), .va (.dic (dts OT)), .mu (.lst ((List.range (c + 1)).map fun c => D.str (rowQ c))), .va (.int c), .va (.int h), .va (.int w), .un], ?_, _, rfl⟩
    have hcap : ∀ (x : D) z, k_ap2 2 x z (some (.lst ((List.range c).map fun c => D.str (rowQ c)))) = .next (z.set 2 (.mu (.lst (((List.range c).map fun c => D.str (rowQ c)) ++ [x])))) := fun x z => k_ap2p (by rw [List.length_map, List.length_range]; unfold cap; omega)
    rw [forF_at, ← range_snoc]
    generalize ((List.range c).map fun c => D.str (rowQ c)) = acc at *
    have cp : compLoop (comF (cfg (TT l) (call (TT l) n) []) [6] (.tix (.v 1) (.ix (.ix (.v 0) (.bin .sub (.bin .sub (.v 4) (.c (.int 1))) (.v 6))) (.v 3))) (.n 6) none) (rangeD 0 (h : Int)) [] [.va (boxD b), .va (.dic (dts OT)), .mu (.lst acc), .va (.int c), .va (.int h), .va (.int w), .un] = .ok ((List.range h).map fun k : Nat => D.str [oth (sgn b ((h - 1 - k : Nat) : Int) (c : Int))]) [.va (boxD b), .va (.dic (dts OT)), .mu (.lst acc), .va (.int c), .va (.int h), .va (.int w), .un] := comp_range (by omega) fun k hk => by
      obtain ⟨row, a1, a2, _⟩ := sg_at q (insN (r := h - 1 - k) (c := c) (by omega) hc)
      have to := tab_OT (sgn6 q (r := h - 1 - k) (c := c) (by omega) hc)
      have ek : (h : Int) - 1 - (k : Int) = ((h - 1 - k : Nat) : Int) := by omega
      generalize ((h - 1 - k : Nat) : Int) = kk at *
      rw [comF_at]
      simp [ib, ek, a1, a2, to]
    have eq2 : ((List.range h).map fun k : Nat => D.str [oth (sgn b ((h - 1 - k : Nat) : Int) (c : Int))]) = (rowQ c).map fun s => .str [s] := by
      show _ = ((List.range h).map fun k : Nat => oth (sgn b ((h - 1 - k : Nat) : Int) (c : Int))).map fun s => D.str [s]
      rw [List.map_map]
      rfl
    rw [eq2] at cp
    have jc : mtD .join (.str []) [.lst ((rowQ c).map fun s => .str [s])] = some (.str (rowQ c), false) := join_chars (by show ((List.range h).map _).length ≤ cap; simp [cap]; omega)
    have ro : recvOk .join (.str []) = true := rfl
    simp [b__law_quarter_1, hr, cp, ro, jc, hcap]
  have ep : boxD (quarterM h w b) = .tup ((List.range w).map fun c => D.str (rowQ c)) := by
    unfold boxD quarterM
    rw [List.map_map]
    rfl
  rw [ep]
  have e : forLoop (forF (cfg (TT l) (call (TT l) n) []) (.n 3) b__law_quarter_1) (rangeD 0 (w : Int)) [.va (boxD b), .va (.dic (dts [([46], [46]), ([35], [35]), ([114], [102]), ([102], [114]), ([82], [70]), ([70], [82])])), .mu (.lst []), .un, .va (.int h), .va (.int w), .un] = _ := e
  simp [f__law_quarter, entry, argsFrom, ib, lb, a0, l0, wr, e, cap]
end
theorem c__law_turned {l : Fn} {n t : Nat} {s : SB} (hs : s.ok) (ht : t < 8) : call (TT l) (n + 2) 168 [boxD s.b, .int t] = .ret (boxD (turnS t s).b) false [] := by
  rw [call_at f__law_turned rfl rfl]
  have q : Wf s.h s.w s.b := hs
  have h5 := q.h5; have w5 := q.w5
  have key : ∀ s0 : SB, s0.ok → ∃ s4, forLoop (forF (cfg (TT l) (call (TT l) (n + 1)) []) (.n 4) b__law_turned_1) (rangeD 0 ((t % 4 : Nat) : Int)) [.va (boxD s.b), .va (.int t), .va (.dic (dts OT)), .va (boxD s0.b), .un, .un, .un] = .next [.va (boxD s.b), .va (.int t), .va (.dic (dts OT)), .va (boxD (qN (t % 4) s0).b), s4, .un, .un] := fun s0 q0 => by
    obtain ⟨r', e, s4, rfl⟩ := for_range (f := forF (cfg (TT l) (call (TT l) (n + 1)) []) (.n 4) b__law_turned_1) (n := t % 4) (r := [.va (boxD s.b), .va (.int t), .va (.dic (dts OT)), .va (boxD s0.b), .un, .un, .un]) (fun k z => ∃ s4, z = [.va (boxD s.b), .va (.int t), .va (.dic (dts OT)), .va (boxD (qN k s0).b), s4, .un, .un]) ⟨_, rfl⟩ fun k z hk hp => by
      obtain ⟨s4, rfl⟩ := hp
      have cq := c__law_quarter (l := l) (n := n) (qN_ok q0 k)
      refine ⟨[.va (boxD s.b), .va (.int t), .va (.dic (dts OT)), .va (boxD (quarterM (qN k s0).h (qN k s0).w (qN k s0).b)), .va (.int k), .un, .un], ?_, _, rfl⟩
      rw [forF_at]
      simp [b__law_turned_1, cq]
    exact ⟨s4, e⟩
  have ro : recvOk .join (.str []) = true := rfl
  have cp : compLoop (comF (cfg (TT l) (call (TT l) (n + 1)) []) [5] (.rev (.mt .join (.c (.str [])) [.comp [6] (.tix (.v 2) (.v 6)) (.n 6) (.e (.v 5)) none])) (.n 5) none) (s.b.map D.str) [] [.va (boxD s.b), .va (.int t), .va (.dic (dts OT)), .va (boxD s.b), .un, .un, .un] = .ok ((exchM s.b).map D.str) [.va (boxD s.b), .va (.int t), .va (.dic (dts OT)), .va (boxD s.b), .un, .un, .un] := by
    rw [comp_map (g := fun x => match x with | .str row => .str (row.reverse.map oth) | _ => .non), List.nil_append, List.map_map]
    · unfold exchM
      rw [List.map_map]
      rfl
    · intro x hx
      obtain ⟨row, hr, rfl⟩ := List.mem_map.mp hx
      have lr := q.bx.cols row hr
      have c2 : compLoop (comF (cfg (TT l) (call (TT l) (n + 1)) []) [6] (.tix (.v 2) (.v 6)) (.n 6) none) (row.map fun c => .str [c]) [] [.va (boxD s.b), .va (.int t), .va (.dic (dts OT)), .va (boxD s.b), .un, .va (.str row), .un] = .ok ((row.map oth).map fun s => .str [s]) [.va (boxD s.b), .va (.int t), .va (.dic (dts OT)), .va (boxD s.b), .un, .va (.str row), .un] := by
        rw [comp_map (g := fun x => match x with | .str [s] => .str [oth s] | _ => .non), List.nil_append, List.map_map, List.map_map]
        · rfl
        · intro y hy
          obtain ⟨c, hc, rfl⟩ := List.mem_map.mp hy
          have to := tab_OT (q.bx.sgn row hr c hc)
          rw [comF_at]
          simp [to]
        · simp [cap]; omega
      have jc : mtD .join (.str []) [.lst ((row.map oth).map fun s => .str [s])] = some (.str (row.map oth), false) := join_chars (by simp [cap]; omega)
      have lc : (row.map oth).length ≤ 65536 := by simp; omega
      have er : row.reverse.map oth = (row.map oth).reverse := by rw [List.map_reverse]
      show _ = R.ok (some (D.str (row.reverse.map oth))) _
      rw [er]
      generalize row.map oth = ro2 at *
      rw [comF_at]
      simp [cap, lc, itemsOf, c2, ro, jc]
    · simp [cap, q.len]; omega
  have m1 := mod4 (t := t)
  have tr := r4 (t := t)
  unfold turnS
  have ibx : itemsOf (boxD s.b) = some (s.b.map D.str) := rfl
  have tx : biD .tuple [.lst ((exchM s.b).map D.str)] = some (boxD (exchM s.b), false) := rfl
  have OTe : dts [([46], [46]), ([35], [35]), ([114], [102]), ([102], [114]), ([82], [70]), ([70], [82])] = dts OT := rfl
  generalize hm : ((t % 4 : Nat) : Int) = tm at *
  by_cases h3 : 3 < t
  · have d3 : decide ((4 : Int) ≤ (t : Int)) = true := decide_eq_true (by omega)
    obtain ⟨s4, e⟩ := key (xS s) (xS_ok hs)
    have e : forLoop (forF (cfg (TT l) (call (TT l) (n + 1)) []) (.n 4) b__law_turned_1) (rangeD 0 tm) [.va (boxD s.b), .va (.int t), .va (.dic (dts OT)), .va (boxD (exchM s.b)), .un, .un, .un] = _ := e
    rw [if_pos h3]
    simp [f__law_turned, entry, argsFrom, OTe, d3, ibx, cp, tx, m1, tr, e]
  · have d3 : decide ((4 : Int) ≤ (t : Int)) = false := decide_eq_false (by omega)
    obtain ⟨s4, e⟩ := key s hs
    rw [if_neg h3]
    simp [f__law_turned, entry, argsFrom, OTe, d3, m1, tr, e]
end Ev.Q

/-! turned doors: contracts -/
namespace Ev.Q
open PySem
section
variable {h w : Nat} {b : Bx}
theorem find_door {l : Fn} {n o : Nat} {tu s4 : Sl} (q : Wf h w b) (ho : o < 2 * (h + w)) : ∀ (k i m : Nat), i + k = o → k < m → whileLoop (whlT (cfg (TT l) (call (TT l) (n + 1)) []) (.cmp .ne (.call 15 [.v 0, .v 1, .v 3]) (.tup [.v 7, .v 6, .v 5]))) (whlB (cfg (TT l) (call (TT l) (n + 1)) []) b_door_after_1) m
    [.va (.int h), .va (.int w), tu, .va (.int i), s4, .va (.int (beginM h w o).2.2), .va (.int (beginM h w o).2.1), .va (.int (beginM h w o).1)] = .next [.va (.int h), .va (.int w), tu, .va (.int o), s4, .va (.int (beginM h w o).2.2), .va (.int (beginM h w o).2.1), .va (.int (beginM h w o).1)] := by
  have cne : ∀ p q : Tr, cmpD .ne (trD p) (trD q) = some (!decide (p = q)) := fun p q => by rw [cmp_ne okd_tr okd_tr, eqv_tr]
  have tst : ∀ i : Nat, whlT (cfg (TT l) (call (TT l) (n + 1)) []) (.cmp .ne (.call 15 [.v 0, .v 1, .v 3]) (.tup [.v 7, .v 6, .v 5])) [.va (.int h), .va (.int w), tu, .va (.int i), s4, .va (.int (beginM h w o).2.2), .va (.int (beginM h w o).2.1), .va (.int (beginM h w o).1)] = .ok (!decide (beginM h w i = beginM h w o)) [.va (.int h), .va (.int w), tu, .va (.int i), s4, .va (.int (beginM h w o).2.2), .va (.int (beginM h w o).2.1), .va (.int (beginM h w o).1)] := fun i => by
    have cb := c_begin (l := l) (n := n) (h := h) (w := w) (door := i)
    have c1 := cne (beginM h w i) (beginM h w o)
    have et : trD (beginM h w o) = .tup [.int (beginM h w o).1, .int (beginM h w o).2.1, .int (beginM h w o).2.2] := rfl
    rw [et] at c1
    unfold whlT
    simp [cb, c1, cap]
  intro k
  induction k with
  | zero =>
    intro i m hi hm
    have hi : i = o := by omega
    subst hi
    obtain ⟨m, rfl⟩ : ∃ m', m = m' + 1 := ⟨m - 1, by omega⟩
    have t1 := tst i
    rw [decide_eq_true rfl] at t1
    exact whl_stop t1
  | succ k ih =>
    intro i m hi hm
    obtain ⟨m, rfl⟩ : ∃ m', m = m' + 1 := ⟨m - 1, by omega⟩
    have t1 := tst i
    rw [decide_eq_false (fun z => by have := beg_inj q (by omega) ho z; omega)] at t1
    have key : whlB (cfg (TT l) (call (TT l) (n + 1)) []) b_door_after_1 [.va (.int h), .va (.int w), tu, .va (.int i), s4, .va (.int (beginM h w o).2.2), .va (.int (beginM h w o).2.1), .va (.int (beginM h w o).1)] = .next [.va (.int h), .va (.int w), tu, .va (.int ((i + 1 : Nat) : Int)), s4, .va (.int (beginM h w o).2.2), .va (.int (beginM h w o).2.1), .va (.int (beginM h w o).1)] := by
      unfold whlB
      simp [b_door_after_1]
    rw [whl_next t1 key]
    exact ih (i + 1) m (by omega) (by omega)
theorem qD_loop {l : Fn} {n t k : Nat} {tu : Sl} (h0 : 0 < h) (w0 : 0 < w) (s5 s6 s7 : Sl) : ∃ s4, forLoop (forF (cfg (TT l) (call (TT l) (n + 1)) []) (.n 4) b_door_after_2) (rangeD 0 ((t % 4 : Nat) : Int)) [.va (.int h), .va (.int w), tu, .va (.int k), .un, s5, s6, s7] = .next [.va (.int (qDN (t % 4) ⟨h, w, k⟩).h), .va (.int (qDN (t % 4) ⟨h, w, k⟩).w), tu, .va (.int (qDN (t % 4) ⟨h, w, k⟩).k), s4, s5, s6, s7] := by
  have pos : ∀ j, 0 < (qDN j ⟨h, w, k⟩).h ∧ 0 < (qDN j ⟨h, w, k⟩).w := fun j => by
    induction j with
    | zero => exact ⟨h0, w0⟩
    | succ j ih => exact ⟨ih.2, ih.1⟩
  obtain ⟨r', e, s4, rfl⟩ := for_range (f := forF (cfg (TT l) (call (TT l) (n + 1)) []) (.n 4) b_door_after_2) (n := t % 4) (r := [.va (.int h), .va (.int w), tu, .va (.int k), .un, s5, s6, s7]) (fun j z => ∃ s4, z = [.va (.int (qDN j ⟨h, w, k⟩).h), .va (.int (qDN j ⟨h, w, k⟩).w), tu, .va (.int (qDN j ⟨h, w, k⟩).k), s4, s5, s6, s7]) ⟨_, rfl⟩ fun j z hj hp => by
    obtain ⟨s4, rfl⟩ := hp
    have p := pos j
    refine ⟨[.va (.int (qDN j ⟨h, w, k⟩).w), .va (.int (qDN j ⟨h, w, k⟩).h), tu, .va (.int (dmQ (qDN j ⟨h, w, k⟩).h (qDN j ⟨h, w, k⟩).w (qDN j ⟨h, w, k⟩).k)), .va (.int j), s5, s6, s7], ?_, _, rfl⟩
    generalize qDN j ⟨h, w, k⟩ = s at *
    have cd := c_doors_of (l := l) (n := n) (h := s.h) (w := s.w)
    have m1 : binD .mod (.int ((s.k : Int) + s.h)) (.int (2 * ((s.h : Int) + s.w))) = some (.int (dmQ s.h s.w s.k : Int)) := by
      rw [bin_mod (by omega)]
      congr 2
    rw [forF_at]
    simp [b_door_after_2, cd, m1]
  exact ⟨s4, e⟩
theorem c_door_after {l : Fn} {n t k : Nat} (q : Wf h w b) (ht : t < 8) (hk : k < 2 * (h + w)) : call (TT l) (n + 2) 55 [.int h, .int w, .int t, .int k] = .ret (.int (doorT t h w k)) false [] := by
  rw [call_at f_door_after rfl rfl]
  have h5 := q.h5; have w5 := q.w5
  have wfb := WF_big.1
  have m1 := mod4 (t := t)
  have tr := r4 (t := t)
  unfold doorT
  by_cases h3 : 3 < t
  · have d3 : decide ((3 : Int) < (t : Int)) = true := decide_eq_true (by omega)
    rw [if_pos h3]
    obtain ⟨lt, eb⟩ := (symE q).door k hk
    have lt : dmE h w k < 2 * (h + w) := lt
    have eb : beginM h w (dmE h w k) = ((beginM h w k).1, (w : Int) - 1 - (beginM h w k).2.1, exd (beginM h w k).2.2) := eb
    have cb := c_begin (l := l) (n := n) (h := h) (w := w) (door := k)
    have fd := find_door (l := l) (n := n) (tu := .va (.int t)) (s4 := .un) q lt (dmE h w k) 0 WF (by omega) (by omega)
    rw [eb] at fd
    simp only at fd
    obtain ⟨s4, e⟩ := qD_loop (l := l) (n := n) (t := t) (k := dmE h w k) (tu := .va (.int t)) q.h0 q.w0 (.va (.int (exd (beginM h w k).2.2))) (.va (.int ((w : Int) - 1 - (beginM h w k).2.1))) (.va (.int (beginM h w k).1))
    have dr := (beg_ent q hk).1.dir
    have ix : ∀ d : Int, okDir d → at? [D.int 0, .int 3, .int 2, .int 1] d = some (.int (exd d)) := fun d hd => by
      rcases dir4 hd with rfl | rfl | rfl | rfl <;> rfl
    have ix := ix _ dr
    have z0 : ((0 : Nat) : Int) = 0 := rfl
    rw [z0] at fd
    generalize hm : ((t % 4 : Nat) : Int) = tm at *
    unfold trD at cb
    simp [f_door_after, entry, argsFrom, d3, cb, ix, cap, fd, m1, tr, e]
  · have d3 : decide ((3 : Int) < (t : Int)) = false := decide_eq_false (by omega)
    rw [if_neg h3]
    obtain ⟨s4, e⟩ := qD_loop (l := l) (n := n) (t := t) (k := k) (tu := .va (.int t)) q.h0 q.w0 .un .un .un
    generalize hm : ((t % 4 : Nat) : Int) = tm at *
    simp [f_door_after, entry, argsFrom, d3, m1, tr, e]
theorem c_turned_door {l : Fn} {n t k : Nat} (q : Wf h w b) (ht : t < 8) (hk : k < 2 * (h + w)) : call (TT l) (n + 3) 56 [boxD b, .int t, .int k] = .ret (.int (doorT t h w k)) false [] := by
  rw [call_at f_turned_door rfl rfl]
  obtain ⟨row0, a0, l0⟩ := q.at0
  have e1 := c_check_box (l := l) (n := n) q
  have e2 := c_check_turn (l := l) (n := n) ht
  have e3 := c_check_door (l := l) (n := n) (door := k) q (by omega) (by omega)
  have e4 := c_door_after (l := l) (n := n) q ht hk
  have ib : ∀ k : D, ixD (boxD b) k = ixD (.tup (b.map D.str)) k := fun k => rfl
  have lb : biD .len [boxD b] = some (.int (h : Int), false) := by
    show biD .len [.tup (b.map D.str)] = _
    simp [q.len]
  simp [f_turned_door, entry, argsFrom, e1, e2, e3, ib, lb, a0, l0, e4]
end
end Ev.Q

/-! the order of data, the least of many, each once -/
namespace Ev.Q
open PySem
/-- data that can be compared with one another -/
structure Ord (S : List D) : Prop where
  ok : ∀ x ∈ S, D.okd 40 x = true
  al : ∀ x ∈ S, ∀ y ∈ S, D.alike x y = true
section
variable {S : List D}
theorem Ord.py (o : Ord S) {a b : D} (ha : a ∈ S) (hb : b ∈ S) : PySem.W.dataLt (toPy a) (toPy b) = D.lt a b := py_lt a b 40 40 (o.ok a ha) (o.ok b hb) (o.al a ha b hb)
theorem Ord.irrefl (o : Ord S) {a : D} (ha : a ∈ S) : D.lt a a = false := by
  rw [← o.py ha ha]
  exact (PyProof.Rows.listOrd PyProof.Rows.itemOrd).irrefl _
theorem Ord.trans (o : Ord S) {a b c : D} (ha : a ∈ S) (hb : b ∈ S) (hc : c ∈ S) (h1 : D.lt a b = true) (h2 : D.lt b c = true) : D.lt a c = true := by
  rw [← o.py ha hb] at h1
  rw [← o.py hb hc] at h2
  rw [← o.py ha hc]
  exact (PyProof.Rows.listOrd PyProof.Rows.itemOrd).trans _ _ _ h1 h2
theorem Ord.anti (o : Ord S) {a b : D} (ha : a ∈ S) (hb : b ∈ S) (h1 : D.lt a b = false) (h2 : D.lt b a = false) : a = b := by
  rw [← o.py ha hb] at h1
  rw [← o.py hb ha] at h2
  exact anti_py (o.ok a ha) (o.ok b hb) (o.al a ha b hb) h1 h2
theorem Ord.asymm (o : Ord S) {a b : D} (ha : a ∈ S) (hb : b ∈ S) (h : D.lt a b = true) : D.lt b a = false := by
  cases e : D.lt b a with
  | false => rfl
  | true =>
    have := o.trans ha hb ha h e
    rw [o.irrefl ha] at this
    cases this
theorem Ord.least (o : Ord S) : ∀ (xs : List D) (x : D), x ∈ S → (∀ y ∈ xs, y ∈ S) → (xs.foldl (fun a y => if D.lt y a then y else a) x) ∈ x :: xs ∧ ∀ y ∈ x :: xs, D.lt y (xs.foldl (fun a y => if D.lt y a then y else a) x) = false
  | [], x, hx, _ => ⟨List.mem_cons_self .., fun y hy => by
    rw [List.mem_singleton.mp hy]
    exact o.irrefl hx⟩
  | z :: xs, x, hx, hs => by
    have hz := hs z (List.mem_cons_self ..)
    show (xs.foldl (fun a y => if D.lt y a then y else a) (if D.lt z x then z else x)) ∈ _ ∧ _
    by_cases h : D.lt z x = true
    · rw [if_pos h]
      obtain ⟨h1, h2⟩ := o.least xs z hz fun y hy => hs y (List.mem_cons_of_mem _ hy)
      have mS : xs.foldl (fun a y => if D.lt y a then y else a) z ∈ S := by
        rcases List.mem_cons.mp h1 with e | e
        · rw [e]; exact hz
        · exact hs _ (List.mem_cons_of_mem _ e)
      refine ⟨List.mem_cons_of_mem _ h1, fun y hy => ?_⟩
      show D.lt y (xs.foldl (fun a y => if D.lt y a then y else a) (if D.lt z x then z else x)) = false
      rw [if_pos h]
      rcases List.mem_cons.mp hy with rfl | hy
      · cases e : D.lt y (xs.foldl (fun a y => if D.lt y a then y else a) z) with
        | false => rfl
        | true =>
          have := o.trans hz hx mS h e
          rw [h2 z (List.mem_cons_self ..)] at this
          cases this
      · exact h2 y hy
    · rw [if_neg h]
      obtain ⟨h1, h2⟩ := o.least xs x hx fun y hy => hs y (List.mem_cons_of_mem _ hy)
      have mS : xs.foldl (fun a y => if D.lt y a then y else a) x ∈ S := by
        rcases List.mem_cons.mp h1 with e | e
        · rw [e]; exact hx
        · exact hs _ (List.mem_cons_of_mem _ e)
      refine ⟨?_, fun y hy => ?_⟩
      · rcases List.mem_cons.mp h1 with e | e
        · rw [e]; exact List.mem_cons_self ..
        · exact List.mem_cons_of_mem _ (List.mem_cons_of_mem _ e)
      · show D.lt y (xs.foldl (fun a y => if D.lt y a then y else a) (if D.lt z x then z else x)) = false
        rw [if_neg h]
        rcases List.mem_cons.mp hy with rfl | hy
        · exact h2 y (List.mem_cons_self ..)
        · rcases List.mem_cons.mp hy with rfl | hy
          · cases e : D.lt y (xs.foldl (fun a y => if D.lt y a then y else a) x) with
            | false => rfl
            | true =>
              -- x is not less than the least, y is: so y is less than x
              exfalso
              have ne := h2 x (List.mem_cons_self ..)
              cases e2 : D.lt (xs.foldl (fun a y => if D.lt y a then y else a) x) x with
              | true => exact h (o.trans hz mS hx e e2)
              | false =>
                have := o.anti hx mS ne e2
                rw [← this] at e
                exact h e
          · exact h2 y (List.mem_cons_of_mem _ hy)
theorem minG_of (o : Ord S) {xs : List D} (h0 : xs ≠ []) (hs : ∀ y ∈ xs, y ∈ S) (hn : ∀ y ∈ xs, isNon y = false) : ∃ m, minG xs = some (m, false) ∧ m ∈ xs ∧ ∀ y ∈ xs, D.lt y m = false := by
  cases xs with
  | nil => exact absurd rfl h0
  | cons x xs =>
    have bo : bestOk (x :: xs) = true := by
      unfold bestOk
      simp only [Bool.and_eq_true, List.all_eq_true, Bool.not_eq_true']
      exact ⟨⟨okds_of fun y hy => o.ok y (hs y hy), fun a ha b hb => o.al a (hs a ha) b (hs b hb)⟩, hn⟩
    obtain ⟨h1, h2⟩ := o.least xs x (hs x (List.mem_cons_self ..)) fun y hy => hs y (List.mem_cons_of_mem _ hy)
    refine ⟨_, ?_, h1, h2⟩
    show (if bestOk (x :: xs) then _ else _) = _
    rw [if_pos bo]
/-- the least of the same things -/
theorem min_same (o : Ord S) {xs ys : List D} {m m' : D} (hs : ∀ y ∈ xs, y ∈ S) (hm : m ∈ xs) (hl : ∀ y ∈ xs, D.lt y m = false) (hm' : m' ∈ ys) (hl' : ∀ y ∈ ys, D.lt y m' = false) (e : ∀ y, y ∈ xs ↔ y ∈ ys) : m = m' :=
  o.anti (hs m hm) (hs m' ((e m').mpr hm')) (hl' m ((e m).mp hm)) (hl m' ((e m').mpr hm'))
end
theorem alikes_strs : ∀ a b : List (List Nat), D.alikes (a.map D.str) (b.map D.str) = true
  | [], _ => rfl
  | _ :: _, [] => rfl
  | x :: a, y :: b => by
    show (D.alike (.str x) (.str y) && D.alikes (a.map D.str) (b.map D.str)) = true
    rw [alikes_strs a b]
    rfl
theorem alike_box (a b : Bx) : D.alike (boxD a) (boxD b) = true := alikes_strs a b
theorem okds_strs : ∀ (n : Nat) (a : List (List Nat)), D.okds n (a.map D.str) = true
  | _, [] => rfl
  | n, x :: a => by
    show (true && D.okds n (a.map D.str)) = true
    rw [okds_strs n a]
    rfl
theorem ord_box (l : List Bx) : Ord (l.map boxD) := ⟨fun x hx => by
    obtain ⟨b, _, rfl⟩ := List.mem_map.mp hx
    exact okds_strs 39 b, fun x hx y hy => by
    obtain ⟨a, _, rfl⟩ := List.mem_map.mp hx
    obtain ⟨b, _, rfl⟩ := List.mem_map.mp hy
    exact alike_box a b⟩
/-- dedup by a relation -/
def dedupR {α : Type} (e : α → α → Bool) : List α → List α
  | [] => []
  | x :: xs => x :: (dedupR e xs).filter fun y => !e y x
theorem dedupR_sub {α : Type} (e : α → α → Bool) : ∀ (xs : List α) (x : α), x ∈ dedupR e xs → x ∈ xs
  | [], _, h => h
  | y :: xs, x, h => by
    rcases List.mem_cons.mp h with rfl | h
    · exact List.mem_cons_self ..
    · exact List.mem_cons_of_mem _ (dedupR_sub e xs x (List.mem_filter.mp h).1)
theorem dedup_map {α : Type} {e : α → α → Bool} {f : α → D} : ∀ {l : List α}, (∀ a ∈ l, ∀ b ∈ l, D.eqv (f a) (f b) = e a b) → dedupD (l.map f) = (dedupR e l).map f
  | [], _ => rfl
  | x :: l, h => by
    show f x :: (dedupD (l.map f)).filter (fun y => !D.eqv y (f x)) = f x :: ((dedupR e l).filter fun y => !e y x).map f
    rw [dedup_map fun a ha b hb => h a (List.mem_cons_of_mem _ ha) b (List.mem_cons_of_mem _ hb), List.filter_map]
    congr 2
    refine List.filter_congr fun y hy => ?_
    show (!D.eqv (f y) (f x)) = !e y x
    rw [h y (List.mem_cons_of_mem _ (dedupR_sub e l y hy)) x (List.mem_cons_self ..)]
end Ev.Q

/-! which turns leave a box as it is -/
namespace Ev.Q
open PySem
theorem eqv_strs : ∀ a b : List (List Nat), D.eqvs (a.map D.str) (b.map D.str) = decide (a = b)
  | [], [] => rfl
  | [], _ :: _ => rfl
  | _ :: _, [] => rfl
  | x :: a, y :: b => by
    show ((x == y) && D.eqvs (a.map D.str) (b.map D.str)) = decide (x :: a = y :: b)
    rw [eqv_strs a b]
    by_cases h1 : x = y <;> by_cases h2 : a = b <;> simp [h1, h2]
theorem eqv_box (a b : Bx) : D.eqv (boxD a) (boxD b) = decide (a = b) := eqv_strs a b
theorem cmp_box_eq (a b : Bx) : cmpD .eq (boxD a) (boxD b) = some (decide (a = b)) := by rw [cmp_eq okd_box okd_box, eqv_box]
theorem cmp_box_ne (a b : Bx) : cmpD .ne (boxD a) (boxD b) = some (!decide (a = b)) := by rw [cmp_ne okd_box okd_box, eqv_box]
theorem sb_ext {s s' : SB} (h : s.ok) (h' : s'.ok) (e : s.b = s'.b) : s = s' := by
  obtain ⟨hh, w, b⟩ := s
  obtain ⟨hh', w', b'⟩ := s'
  have q : Wf hh w b := h
  have q' : Wf hh' w' b' := h'
  simp only at e
  subst e
  have e1 : hh = hh' := by rw [← q.len, q'.len]
  obtain ⟨row, a0, l0⟩ := q.at0
  obtain ⟨row', a0', l0'⟩ := q'.at0
  have e2 : w = w' := by
    rw [a0] at a0'
    cases a0'
    have := congrArg (fun x => x) l0
    rw [l0] at l0'
    simpa using l0'
  subst e1 e2
  rfl
def invT (t : Nat) : Nat := if 3 < t then t else (4 - t) % 4
def hb (s : SB) (t : Nat) : Bool := decide ((turnS t s).b = s.b)
def symL (s : SB) : List Nat := (List.range 8).filter (hb s)
theorem comp8 (a b : Nat) : comp2 a b < 8 := by
  unfold comp2
  split <;> split <;> omega
theorem inv8 {t : Nat} (h : t < 8) : invT t < 8 := by
  unfold invT
  split <;> omega
theorem inv_r : ∀ t : _root_.Fin 8, comp2 t.1 (invT t.1) = 0 ∧ comp2 (invT t.1) t.1 = 0 := by decide
section
variable {s : SB}
theorem hb_iff (hs : s.ok) {t : Nat} : hb s t = true ↔ turnS t s = s := by
  unfold hb
  rw [decide_eq_true_eq]
  exact ⟨fun e => sb_ext (turn_wf hs t) hs e, fun e => by rw [e]⟩
theorem same_iff (hs : s.ok) {t t' : Nat} (h : t < 8) (h' : t' < 8) : (turnS t s).b = (turnS t' s).b ↔ hb s (comp2 t (invT t')) = true := by
  rw [hb_iff hs]
  have i := inv_r ⟨t', h'⟩
  simp only at i
  constructor
  · intro e
    have e := sb_ext (turn_wf hs t) (turn_wf hs t') e
    rw [← turn_turn hs, e, turn_turn hs, i.1]
    rfl
  · intro e
    rw [← turn_turn hs] at e
    have := congrArg (turnS t') e
    rw [turn_turn (turn_wf hs t), i.2] at this
    have : turnS t s = turnS t' s := this
    rw [this]
theorem hb0 : hb s 0 = true := decide_eq_true rfl
theorem hb_comp (hs : s.ok) {a b : Nat} (ha : hb s a = true) (h : hb s b = true) : hb s (comp2 a b) = true := by
  rw [hb_iff hs] at *
  rw [← turn_turn hs, ha, h]
/-- the turns of a turned box -/
theorem hb_conj (hs : s.ok) {i t : Nat} (hi : i < 8) : hb (turnS i s) t = hb s (comp2 (comp2 i t) (invT i)) := by
  have a : hb (turnS i s) t = true ↔ hb s (comp2 (comp2 i t) (invT i)) = true := by
    rw [← same_iff hs (comp8 i t) hi, ← turn_turn hs]
    unfold hb
    rw [decide_eq_true_eq]
  cases h : hb (turnS i s) t with
  | true => exact (a.mp h).symm
  | false =>
    cases h' : hb s (comp2 (comp2 i t) (invT i)) with
    | false => rfl
    | true => rw [a.mpr h'] at h; cases h
end
/-! ### by all subsets of the eight -/
def bitsOf (f : Nat → Bool) : List Bool := (List.range 8).map f
def allBits : Nat → List (List Bool)
  | 0 => [[]]
  | n + 1 => (allBits n).map (true :: ·) ++ (allBits n).map (false :: ·)
theorem all_mem : ∀ (l : List Bool), l ∈ allBits l.length
  | [] => List.mem_singleton.mpr rfl
  | b :: l => by
    have ih := all_mem l
    cases b
    · exact List.mem_append_right _ (List.mem_map.mpr ⟨l, ih, rfl⟩)
    · exact List.mem_append_left _ (List.mem_map.mpr ⟨l, ih, rfl⟩)
def gB (bs : List Bool) (t : Nat) : Bool := bs.getD t false
def closedB (bs : List Bool) : Bool := gB bs 0 && (List.range 8).all fun a => (List.range 8).all fun b => !(gB bs a && gB bs b) || gB bs (comp2 a b)
def relB (bs : List Bool) (a b : Nat) : Bool := gB bs (comp2 a (invT b))
theorem orbits : ((allBits 8).all fun bs => !closedB bs || (dedupR (relB bs) (List.range 8)).length * ((List.range 8).filter (gB bs)).length == 8) = true := by decide +kernel
theorem conj_len : ((allBits 8).all fun bs => (List.range 8).all fun i => ((List.range 8).filter fun t => gB bs (comp2 (comp2 i t) (invT i))).length == ((List.range 8).filter (gB bs)).length) = true := by decide +kernel
theorem gB_of (f : Nat → Bool) {t : Nat} (h : t < 8) : gB (bitsOf f) t = f t := by
  unfold gB bitsOf
  rw [List.getD_eq_getElem?_getD, List.getElem?_map, List.getElem?_range h]
  rfl
section
variable {s : SB}
theorem orbit (hs : s.ok) : (dedupR (fun a b => hb s (comp2 a (invT b))) (List.range 8)).length * (symL s).length = 8 := by
  have m : bitsOf (hb s) ∈ allBits 8 := by
    have := all_mem (bitsOf (hb s))
    simpa [bitsOf] using this
  have q := List.all_eq_true.mp orbits _ m
  have cl : closedB (bitsOf (hb s)) = true := by
    unfold closedB
    rw [gB_of _ (by omega), hb0, Bool.true_and, List.all_eq_true]
    intro a ha
    rw [List.all_eq_true]
    intro b hb'
    rw [gB_of _ (List.mem_range.mp ha), gB_of _ (List.mem_range.mp hb'), gB_of _ (comp8 a b)]
    cases h1 : hb s a with
    | false => rfl
    | true =>
      cases h2 : hb s b with
      | false => rfl
      | true => rw [hb_comp hs h1 h2]; rfl
  rw [cl] at q
  simp only [Bool.not_true, Bool.false_or, beq_iff_eq] at q
  have e1 : (List.range 8).filter (gB (bitsOf (hb s))) = symL s := List.filter_congr fun t ht => gB_of _ (List.mem_range.mp ht)
  have e2 : relB (bitsOf (hb s)) = fun a b => hb s (comp2 a (invT b)) := by
    funext a b
    exact gB_of _ (comp8 _ _)
  rw [e1, e2] at q
  exact q
theorem sym_conj (hs : s.ok) {i : Nat} (hi : i < 8) : (symL (turnS i s)).length = (symL s).length := by
  have m : bitsOf (hb s) ∈ allBits 8 := by
    have := all_mem (bitsOf (hb s))
    simpa [bitsOf] using this
  have q := List.all_eq_true.mp (List.all_eq_true.mp conj_len _ m) i (List.mem_range.mpr hi)
  simp only [beq_iff_eq] at q
  have e1 : (List.range 8).filter (gB (bitsOf (hb s))) = symL s := List.filter_congr fun t ht => gB_of _ (List.mem_range.mp ht)
  have e2 : (List.range 8).filter (fun t => gB (bitsOf (hb s)) (comp2 (comp2 i t) (invT i))) = symL (turnS i s) := by
    refine List.filter_congr fun t ht => ?_
    rw [gB_of _ (comp8 _ _), hb_conj hs hi]
  rw [e1, e2] at q
  exact q
theorem mem_sym {t : Nat} : t ∈ symL s ↔ t < 8 ∧ hb s t = true := by
  unfold symL
  rw [List.mem_filter, List.mem_range]
theorem sym_head : ∃ r, symL s = 0 :: r := by
  unfold symL
  rw [List.range_succ_eq_map, List.filter_cons_of_pos hb0]
  exact ⟨_, rfl⟩
theorem size_odd (hs : s.ok) {t : Nat} (ht : t < 8) (h : hb s t = true) (ho : t % 2 = 1) : s.h = s.w := by
  have e := (hb_iff hs).mp h
  have sz : ∀ (x : SB), (qN 1 x).h = x.w ∧ (qN 3 x).h = x.w := fun x => ⟨rfl, rfl⟩
  have : (turnS t s).h = s.w := by
    unfold turnS
    have xw : ∀ x : SB, (xS x).w = x.w := fun x => rfl
    rcases (by omega : t % 4 = 1 ∨ t % 4 = 3) with z | z
    · rw [z]
      split
      · exact (sz (xS s)).1
      · exact (sz s).1
    · rw [z]
      split
      · exact (sz (xS s)).2
      · exact (sz s).2
  rw [e] at this
  exact this
end
end Ev.Q

/-! symmetries, the least turned box: contracts -/
namespace Ev.Q
open PySem

theorem r8 {f : Bool} {r : Env} : k_r1 (.ok (.int 8, f) r) = .ok (rangeD 0 ((8 : Nat) : Int)) r := k_r1_nat (w := 8) (by omega)
theorem comp_rangeF {f : D → Env → R (Option D)} {n : Nat} {p : Nat → Bool} {g : Nat → D} {r : Env} (hn : n ≤ 65536) (h : ∀ k, k < n → f (.int (k : Int)) r = .ok (if p k then some (g k) else none) r) : compLoop f (rangeD 0 (n : Int)) [] r = .ok (((List.range n).filter p).map g) r := by
  rw [comp_filter (g := fun d => match d with | .int i => if p i.toNat then some (g i.toNat) else none | _ => none), List.nil_append]
  · congr 1
    rw [range_nat, List.filterMap_map]
    induction List.range n with
    | nil => rfl
    | cons k l ih =>
      by_cases hp : p k = true
      · rw [List.filterMap_cons_some (by simp [hp]; rfl), List.filter_cons_of_pos hp, List.map_cons, ih]
      · rw [List.filterMap_cons_none (by simp [hp]), List.filter_cons_of_neg hp, ih]
  · intro x hx
    obtain ⟨k, hk, rfl⟩ := range_mem hx
    rw [h k hk]
    simp
  · simp [range_len, cap]; omega
theorem c_symmetries {l : Fn} {n : Nat} {s : SB} (hs : s.ok) : call (TT l) (n + 3) 57 [boxD s.b] = .ret (.tup ((symL s).map fun t => .int (t : Nat))) false [] := by
  rw [call_at f_symmetries rfl rfl]
  have e1 := c_check_box (l := l) (n := n) hs
  have cp : compLoop (comF (cfg (TT l) (call (TT l) (n + 2)) []) [1] (.v 1) (.n 1) (some (.cmp .eq (.call 53 [(.v 0), (.v 1)]) (.v 0)))) (rangeD 0 ((8 : Nat) : Int)) [] [.va (boxD s.b), .un] = .ok ((symL s).map fun t => .int (t : Nat)) [.va (boxD s.b), .un] := comp_rangeF (by omega) fun t ht => by
    have e2 := c_turned_box (l := l) (n := n) hs ht
    have c1 := cmp_box_eq (turnS t s).b s.b
    rw [comF_at]
    unfold hb
    by_cases h : (turnS t s).b = s.b
    · rw [decide_eq_true h] at c1 ⊢
      simp [e2, c1]
    · rw [decide_eq_false h] at c1 ⊢
      simp [e2, c1]
  generalize ((symL s).map fun t => D.int (t : Nat)) = L at *
  generalize hR : rangeD 0 ((8 : Nat) : Int) = R8 at *
  have q8 : ∀ f r, k_r1 (.ok (.int 8, f) r) = .ok R8 r := fun f r => by rw [← hR]; exact r8
  simp [f_symmetries, entry, argsFrom, e1, q8, cp]
/-- the eight -/
def eight (s : SB) : List D := (List.range 8).map fun t => boxD (turnS t s).b
theorem ord_eight (s : SB) : Ord (eight s) := by
  have : eight s = ((List.range 8).map fun t => (turnS t s).b).map boxD := by
    unfold eight
    rw [List.map_map]
    rfl
  rw [this]
  exact ord_box _
theorem min_eight {s : SB} : ∃ i, i < 8 ∧ minG (eight s) = some (boxD (turnS i s).b, false) ∧ ∀ y ∈ eight s, D.lt y (boxD (turnS i s).b) = false := by
  obtain ⟨m, h1, h2, h3⟩ := minG_of (ord_eight s) (xs := eight s) (by simp [eight]) (fun y hy => hy) fun y hy => by
    obtain ⟨t, _, rfl⟩ := List.mem_map.mp hy
    rfl
  obtain ⟨i, hi, rfl⟩ := List.mem_map.mp h2
  exact ⟨i, List.mem_range.mp hi, h1, h3⟩
theorem minD_eight {s : SB} {x : D × Bool} (h : minG (eight s) = some x) : biD .min [.lst (eight s)] = some x := by
  have : ints? (eight s) = none := rfl
  show (match ints? (eight s) with | some (i :: is) => some (D.int (minI i is), false) | _ => minG (eight s)) = _
  rw [this]
  exact h
theorem min_turned {s : SB} (hs : s.ok) {i j : Nat} (hi : i < 8) (h : minG (eight s) = some (boxD (turnS i s).b, false)) (hj : j < 8) : minG (eight (turnS j s)) = some (boxD (turnS i s).b, false) := by
  obtain ⟨i', a1, a2, a3⟩ := min_eight (s := s)
  obtain ⟨k, b1, b2, b3⟩ := min_eight (s := turnS j s)
  rw [a2] at h
  rw [b2]
  have ea : boxD (turnS i' s).b = boxD (turnS i s).b := (Prod.mk.inj (Option.some.inj h)).1
  have mem : ∀ y, y ∈ eight s ↔ y ∈ eight (turnS j s) := fun y => by
    constructor
    · intro hy
      obtain ⟨t, ht, rfl⟩ := List.mem_map.mp hy
      have ht := List.mem_range.mp ht
      refine List.mem_map.mpr ⟨comp2 (invT j) t, List.mem_range.mpr (comp8 _ _), ?_⟩
      rw [turn_turn hs]
      have := inv_r ⟨j, hj⟩
      have e : comp2 j (comp2 (invT j) t) = t := by
        have : ∀ (j t : _root_.Fin 8), comp2 j.1 (comp2 (invT j.1) t.1) = t.1 := by decide
        exact this ⟨j, hj⟩ ⟨t, ht⟩
      show boxD (turnS (comp2 j (comp2 (invT j) t)) s).b = _
      rw [e]
    · intro hy
      obtain ⟨t, ht, rfl⟩ := List.mem_map.mp hy
      refine List.mem_map.mpr ⟨comp2 j t, List.mem_range.mpr (comp8 _ _), ?_⟩
      show boxD (turnS (comp2 j t) s).b = boxD (turnS t (turnS j s)).b
      rw [turn_turn hs]
  have m1 : boxD (turnS i' s).b ∈ eight s := List.mem_map.mpr ⟨i', List.mem_range.mpr a1, rfl⟩
  have m2 : boxD (turnS k (turnS j s)).b ∈ eight (turnS j s) := List.mem_map.mpr ⟨k, List.mem_range.mpr b1, rfl⟩
  have := min_same (ord_eight s) (xs := eight s) (ys := eight (turnS j s)) (fun y hy => hy) m1 a3 m2 b3 mem
  rw [← this, ea]
theorem c_least {l : Fn} {n i : Nat} {s : SB} (hs : s.ok) (h : minG (eight s) = some (boxD (turnS i s).b, false)) : call (TT l) (n + 3) 58 [boxD s.b] = .ret (boxD (turnS i s).b) false [] := by
  rw [call_at f_least_turned rfl rfl]
  have e1 := c_check_box (l := l) (n := n) hs
  have cp : compLoop (comF (cfg (TT l) (call (TT l) (n + 2)) []) [1] (.call 53 [(.v 0), (.v 1)]) (.n 1) none) (rangeD 0 ((8 : Nat) : Int)) [] [.va (boxD s.b), .un] = .ok (eight s) [.va (boxD s.b), .un] := comp_range (by omega) fun t ht => by
    have e2 := c_turned_box (l := l) (n := n) hs ht
    rw [comF_at]
    simp [e2]
  have m := minD_eight h
  generalize hR : rangeD 0 ((8 : Nat) : Int) = R8 at *
  have q8 : ∀ f r, k_r1 (.ok (.int 8, f) r) = .ok R8 r := fun f r => by rw [← hR]; exact r8
  generalize eight s = L at *
  simp [f_least_turned, entry, argsFrom, e1, q8, cp, m]
end Ev.Q

namespace K51
open PySem PySem.Spec PyProof.Rows L2 Ev
def topS (i : Nat) : Stmt := PySem.Challenge.pw_mirrorsure_k51_whole_symmetries.main.body.getD i (.Pass ⟨0, 0, 0, 0⟩)
def d1 : DR := ⟨1, "is_between", topS 6, ["value", "low", "high"], ["value", "low", "high"], f_is_between⟩
def d2 : DR := ⟨2, "is_box", topS 7, ["value", "row", "sign"], ["value"], f_is_box⟩
def d6 : DR := ⟨6, "check_box", topS 8, ["box"], ["box"], f_check_box⟩
def d50 : DR := ⟨50, "check_turn", topS 11, ["turn"], ["turn"], f_check_turn⟩
def d51 : DR := ⟨51, "quarter", topS 12, ["box", "found", "column", "row"], ["box"], f_quarter⟩
def d52 : DR := ⟨52, "exchanged", topS 13, ["box", "row", "sign"], ["box"], f_exchanged⟩
def d53 : DR := ⟨53, "turned_box", topS 14, ["box", "turn", "found", "time"], ["box", "turn"], f_turned_box⟩
def d54 : DR := ⟨54, "turned", topS 15, ["box", "turn"], ["box", "turn"], f_turned⟩
def d57 : DR := ⟨57, "symmetries", topS 16, ["box", "turn"], ["box"], f_symmetries⟩
def d58 : DR := ⟨58, "least_turned", topS 17, ["box", "turn"], ["box"], f_least_turned⟩
def d81 : DR := ⟨81, "_law_town", topS 19, ["script"], ["script"], f__law_town⟩
def d82 : DR := ⟨82, "_law_draw", topS 20, ["script", "town", "limit", "at", "left", "number"], ["script", "town", "limit"], f__law_draw⟩
def d83 : DR := ⟨83, "_law_pick", topS 21, ["script", "town", "choices"], ["script", "town", "choices"], f__law_pick⟩
def d92 : DR := ⟨92, "_law_box", topS 22, ["script", "town", "tall", "wide", "signs", "height", "width"], ["script", "town", "tall", "wide", "signs"], f__law_box⟩
def d87 : DR := ⟨87, "_law_sized", topS 23, ["script", "town", "height", "width", "signs", "found", "row", "column"], ["script", "town", "height", "width", "signs"], f__law_sized⟩
def lawB_1 : List S := [.asg (.n 8) (.call 54 [(.call 54 [(.tup [(.c (.str [46, 114, 35])), (.c (.str [102, 46, 46]))]), (.v 5)]), (.v 6)]), .asg (.n 9) (.comp [7] (.v 7) (.n 7) (.r1 (.c (.int 8))) (some (.cmp .eq (.call 54 [(.tup [(.c (.str [46, 114, 35])), (.c (.str [102, 46, 46]))]), (.v 7)]) (.v 8)))), .ife (.or (.cmp .ne (.bi .len [(.v 9)]) (.c (.int 1))) (.cmp .notin (.ix (.v 9) (.c (.int 0))) (.v 4))) [.ret (.c (.bl false))] []]
def lawB_2 : List S := [.for_ (.n 6) (.e (.v 4)) lawB_1]
def lawBody : List S := [.new 1 (.call 81 [(.v 0)]), .asg (.n 2) (.call 92 [(.v 0), (.m 1), (.c (.int 3)), (.c (.int 3)), (.call 83 [(.v 0), (.m 1), (.lst [(.c (.str [46])), (.c (.str [46, 114])), (.c (.str [46, 114, 102, 35, 82, 70])), (.c (.str [46, 35])), (.c (.str [114, 102])), (.c (.str [82, 46]))])])]), .ife (.and (.cmp .eq (.call 82 [(.v 0), (.m 1), (.c (.int 2))]) (.c (.int 0))) (.and (.cmp .eq (.bi .len [(.v 2)]) (.c (.int 2))) (.cmp .eq (.bi .len [(.ix (.v 2) (.c (.int 0)))]) (.c (.int 2))))) [.asg (.n 5) (.call 83 [(.v 0), (.m 1), (.lst [(.c (.str [114])), (.c (.str [102])), (.c (.str [46]))])]), .asg (.n 2) (.tup [(.bin .add (.v 5) (.tix (.tdp [([114], [102]), ([102], [114]), ([46], [46])]) (.v 5))), (.bin .add (.tix (.tdp [([114], [102]), ([102], [114]), ([46], [46])]) (.v 5)) (.v 5))])] [], .asg (.n 3) (.comp [7] (.call 54 [(.v 2), (.v 7)]) (.n 7) (.r1 (.c (.int 8))) none), .asg (.n 4) (.call 57 [(.v 2)]), .ife (.or (.cmp .ne (.v 4) (.bi .tuple [(.comp [7] (.v 7) (.n 7) (.r1 (.c (.int 8))) (some (.cmp .eq (.ix (.v 3) (.v 7)) (.v 2))))])) (.cmp .ne (.sl (.v 4) none (some (.c (.int 1)))) (.tup [(.c (.int 0))]))) [.ret (.c (.bl false))] [], .ife (.or (.cmp .ne (.call 58 [(.v 2)]) (.bi .min [(.v 3)])) (.cmp .ne (.call 58 [(.call 83 [(.v 0), (.m 1), (.v 3)])]) (.bi .min [(.v 3)]))) [.ret (.c (.bl false))] [], .ife (.cmp .ne (.bin .mul (.bi .len [(.sset (.v 3))]) (.bi .len [(.v 4)])) (.c (.int 8))) [.ret (.c (.bl false))] [], .for_ (.n 5) (.e (.v 4)) lawB_2, .ife (.and (.cmp .ne (.bi .len [(.v 2)]) (.bi .len [(.ix (.v 2) (.c (.int 0)))])) (.cmp .ne (.comp [7] (.v 7) (.n 7) (.e (.v 4)) (some (.cmp .eq (.bin .mod (.v 7) (.c (.int 2))) (.c (.int 1))))) (.lst []))) [.ret (.c (.bl false))] [], .ret (.and (.cmp .ne (.call 57 [(.call 58 [(.v 2)])]) (.tup [])) (.cmp .eq (.bi .len [(.call 57 [(.call 58 [(.v 2)])])]) (.bi .len [(.v 4)])))]
def lawF : Fn := ⟨1, 10, [], lawBody⟩
def d0 : DR := ⟨0, "law", topS 24, ["script", "town", "box", "every", "found", "one", "other", "turn", "due", "both"], ["script"], lawF⟩
def rs : List DR := [d1, d2, d6, d50, d51, d52, d53, d54, d57, d58, d81, d82, d83, d92, d87, d0]
def cs : List (Str × D) := [("SIGNS", (.str [46, 114, 102, 35, 82, 70]))]
def ts : List (Str × List (D × D)) := [("OTHER", [(.str [46], .tup [(.str [46])]), (.str [35], .tup [(.str [35])]), (.str [114], .tup [(.str [102])]), (.str [102], .tup [(.str [114])]), (.str [82], .tup [(.str [70])]), (.str [70], .tup [(.str [82])])])]
def xs : List (Nat × Str) := [(1, "InvalidBox"), (13, "InvalidTurn")]
theorem g1 : Good (nmOf rs xs cs ts) d1 := ⟨⟨rfl, rfl, rfl, by decide +kernel, rfl, by decide +kernel, by decide +kernel⟩, by decide +kernel, rfl, rfl, by decide, by decide, fun _ _ _ _ _ _ us hl => match us, hl with | [_, _, _], _ => rfl⟩
theorem g2 : Good (nmOf rs xs cs ts) d2 := ⟨⟨rfl, rfl, rfl, by decide +kernel, rfl, by decide +kernel, by decide +kernel⟩, by decide +kernel, rfl, rfl, by decide, by decide, fun _ _ _ _ _ _ us hl => match us, hl with | [_], _ => rfl⟩
theorem g6 : Good (nmOf rs xs cs ts) d6 := ⟨⟨rfl, rfl, rfl, by decide +kernel, rfl, by decide +kernel, by decide +kernel⟩, by decide +kernel, rfl, rfl, by decide, by decide, fun _ _ _ _ _ _ us hl => match us, hl with | [_], _ => rfl⟩
theorem g50 : Good (nmOf rs xs cs ts) d50 := ⟨⟨rfl, rfl, rfl, by decide +kernel, rfl, by decide +kernel, by decide +kernel⟩, by decide +kernel, rfl, rfl, by decide, by decide, fun _ _ _ _ _ _ us hl => match us, hl with | [_], _ => rfl⟩
theorem g51 : Good (nmOf rs xs cs ts) d51 := ⟨⟨rfl, rfl, rfl, by decide +kernel, rfl, by decide +kernel, by decide +kernel⟩, by decide +kernel, rfl, rfl, by decide, by decide, fun _ _ _ _ _ _ us hl => match us, hl with | [_], _ => rfl⟩
theorem g52 : Good (nmOf rs xs cs ts) d52 := ⟨⟨rfl, rfl, rfl, by decide +kernel, rfl, by decide +kernel, by decide +kernel⟩, by decide +kernel, rfl, rfl, by decide, by decide, fun _ _ _ _ _ _ us hl => match us, hl with | [_], _ => rfl⟩
theorem g53 : Good (nmOf rs xs cs ts) d53 := ⟨⟨rfl, rfl, rfl, by decide +kernel, rfl, by decide +kernel, by decide +kernel⟩, by decide +kernel, rfl, rfl, by decide, by decide, fun _ _ _ _ _ _ us hl => match us, hl with | [_, _], _ => rfl⟩
theorem g54 : Good (nmOf rs xs cs ts) d54 := ⟨⟨rfl, rfl, rfl, by decide +kernel, rfl, by decide +kernel, by decide +kernel⟩, by decide +kernel, rfl, rfl, by decide, by decide, fun _ _ _ _ _ _ us hl => match us, hl with | [_, _], _ => rfl⟩
theorem g57 : Good (nmOf rs xs cs ts) d57 := ⟨⟨rfl, rfl, rfl, by decide +kernel, rfl, by decide +kernel, by decide +kernel⟩, by decide +kernel, rfl, rfl, by decide, by decide, fun _ _ _ _ _ _ us hl => match us, hl with | [_], _ => rfl⟩
theorem g58 : Good (nmOf rs xs cs ts) d58 := ⟨⟨rfl, rfl, rfl, by decide +kernel, rfl, by decide +kernel, by decide +kernel⟩, by decide +kernel, rfl, rfl, by decide, by decide, fun _ _ _ _ _ _ us hl => match us, hl with | [_], _ => rfl⟩
theorem g81 : Good (nmOf rs xs cs ts) d81 := ⟨⟨rfl, rfl, rfl, by decide +kernel, rfl, by decide +kernel, by decide +kernel⟩, by decide +kernel, rfl, rfl, by decide, by decide, fun _ _ _ _ _ _ us hl => match us, hl with | [_], _ => rfl⟩
theorem g82 : Good (nmOf rs xs cs ts) d82 := ⟨⟨rfl, rfl, rfl, by decide +kernel, rfl, by decide +kernel, by decide +kernel⟩, by decide +kernel, rfl, rfl, by decide, by decide, fun _ _ _ _ _ _ us hl => match us, hl with | [_, _, _], _ => rfl⟩
theorem g83 : Good (nmOf rs xs cs ts) d83 := ⟨⟨rfl, rfl, rfl, by decide +kernel, rfl, by decide +kernel, by decide +kernel⟩, by decide +kernel, rfl, rfl, by decide, by decide, fun _ _ _ _ _ _ us hl => match us, hl with | [_, _, _], _ => rfl⟩
theorem g92 : Good (nmOf rs xs cs ts) d92 := ⟨⟨rfl, rfl, rfl, by decide +kernel, rfl, by decide +kernel, by decide +kernel⟩, by decide +kernel, rfl, rfl, by decide, by decide, fun _ _ _ _ _ _ us hl => match us, hl with | [_, _, _, _, _], _ => rfl⟩
theorem g87 : Good (nmOf rs xs cs ts) d87 := ⟨⟨rfl, rfl, rfl, by decide +kernel, rfl, by decide +kernel, by decide +kernel⟩, by decide +kernel, rfl, rfl, by decide, by decide, fun _ _ _ _ _ _ us hl => match us, hl with | [_, _, _, _, _], _ => rfl⟩
theorem g0 : Good (nmOf rs xs cs ts) d0 := ⟨⟨rfl, rfl, rfl, by decide +kernel, rfl, by decide +kernel, by decide +kernel⟩, by decide +kernel, rfl, rfl, by decide, by decide, fun _ _ _ _ _ _ us hl => match us, hl with | [_], _ => rfl⟩
theorem gs : ∀ r, r ∈ rs → Good (nmOf rs xs cs ts) r := by
  intro r h
  unfold rs at h
  simp only [List.mem_cons, List.not_mem_nil, or_false] at h
  rcases h with rfl | rfl | rfl | rfl | rfl | rfl | rfl | rfl | rfl | rfl | rfl | rfl | rfl | rfl | rfl | rfl
  · exact g1
  · exact g2
  · exact g6
  · exact g50
  · exact g51
  · exact g52
  · exact g53
  · exact g54
  · exact g57
  · exact g58
  · exact g81
  · exact g82
  · exact g83
  · exact g92
  · exact g87
  · exact g0
theorem hT : ∀ r, r ∈ rs → (TT lawF).fns r.id = some r.fn := by
  intro r h
  unfold rs at h
  simp only [List.mem_cons, List.not_mem_nil, or_false] at h
  rcases h with rfl | rfl | rfl | rfl | rfl | rfl | rfl | rfl | rfl | rfl | rfl | rfl | rfl | rfl | rfl | rfl <;> rfl
theorem hc : ∀ p, p ∈ cs → (TT lawF).glb p.1 = some p.2 := by
  intro p h
  unfold cs at h
  simp only [List.mem_cons, List.not_mem_nil, or_false] at h
  rcases h with rfl <;> rfl
theorem ht : ∀ t, t ∈ ts → (TT lawF).glb t.1 = some (.dic t.2) := by
  intro p h
  unfold ts at h
  simp only [List.mem_cons, List.not_mem_nil, or_false] at h
  rcases h with rfl <;> rfl
end K51

namespace K51
open PySem PySem.Spec PyProof.Rows L2 Ev

abbrev Ro : PySem.W.OpenRow := PySem.W.OpenLaw.row PySem.Challenge.rw_mirrorsure_k51_whole_symmetries
def fa : List He.Fa := facts rs xs
def fl : List He.DefD := rs.map DR.dd
abbrev hk : PySem.W.Hook := hookQ 4 fa fl cs ts
def ob (s : PySem.W.SharedT) : AlQ := obsQG 4 fa fl cs ts (HandSHeadRun.getT s)
theorem ob_eq (s : PySem.W.SharedT) : ob s = hk.obs s.abs := obsQG_eq (HandSHeadRun.getT_eq s)
def loose : List Str := [("MirrorError" : Str), ("InvalidBox" : Str), ("InvalidTurn" : Str), ("SIGNS" : Str), ("is_between" : Str), ("is_box" : Str), ("check_box" : Str), ("OTHER" : Str), ("check_turn" : Str), ("quarter" : Str), ("exchanged" : Str), ("turned_box" : Str), ("turned" : Str), ("symmetries" : Str), ("least_turned" : Str), ("_law_town" : Str), ("_law_draw" : Str), ("_law_pick" : Str), ("_law_box" : Str), ("_law_sized" : Str)]
theorem run0 (w : World) : HandSHeadRun.RunEq Ro (PySem.W.view Ro.prog [24]) hk ob 4000 loose (w.withFollow "special-get-raises" false) := by
  intro os
  kernel_rfl
theorem run1 (w : World) : HandSHeadRun.RunEq Ro (PySem.W.view Ro.prog [24]) hk ob 4000 loose (w.withFollow "special-get-raises" true) := by
  intro os
  kernel_rfl
theorem run (w : World) : HandSHeadRun.RunEq Ro (PySem.W.view Ro.prog [24]) hk ob 4000 loose w := PySem.W.byRow2 "special-get-raises" (P := fun w => HandSHeadRun.RunEq Ro (PySem.W.view Ro.prog [24]) hk ob 4000 loose w) run0 run1 w

end K51

/-! k51: the mathematics -/
namespace Ev.Q.M51
open PySem K51

abbrev Cf (n : Nat) : Cfg := cfg (TT lawF) (call (TT lawF) n) []
def CB : SB := ⟨2, 3, [[46, 114, 35], [102, 46, 46]]⟩
theorem cb_ok : CB.ok := by
  refine wf_of (by decide) (by decide) (by decide) (by decide) rfl ?_ ?_
  · intro k hk
    have hk : k < 2 := hk
    rcases (by omega : k = 0 ∨ k = 1) with rfl | rfl
    · exact ⟨_, rfl, rfl⟩
    · exact ⟨_, rfl, rfl⟩
  · have : ∀ (r : _root_.Fin 2) (c : _root_.Fin 3), sgn [[46, 114, 35], [102, 46, 46]] r.1 c.1 ∈ S6 := by decide
    intro r c hr hc
    exact this ⟨r, hr⟩ ⟨c, hc⟩
theorem cb_one : ∀ k : _root_.Fin 8, (List.range 8).filter (fun t => decide ((turnS t CB).b = (turnS k.1 CB).b)) = [k.1] := by decide +kernel
theorem cb_bx : D.tup [.str [46, 114, 35], .str [102, 46, 46]] = boxD CB.b := rfl
theorem in_ints {k : Nat} {l : List Nat} : inOf (.int (k : Int)) (.tup (l.map fun t => D.int (t : Nat))) = some (decide (k ∈ l)) := by
  have ok : D.okd dep (.tup (l.map fun t => D.int (t : Nat))) = true := okds_map (n := 59) (fun x => rfl) l
  show (if D.okd dep (.int (k : Int)) && D.okd dep (.tup (l.map fun t => D.int (t : Nat))) then some (inD (.int (k : Int)) (l.map fun t => D.int (t : Nat))) else none) = _
  rw [ok]
  simp only [show D.okd dep (.int (k : Int)) = true from rfl, Bool.and_self, if_true]
  congr 1
  unfold inD
  induction l with
  | nil => rfl
  | cons x l ih =>
    rw [List.map_cons, List.any_cons, ih (okds_map (n := 59) (fun x => rfl) l)]
    show (decide ((x : Int) = (k : Int)) || decide (k ∈ l)) = _
    by_cases h : x = k
    · subst h
      simp
    · have : ¬ (x : Int) = (k : Int) := by omega
      rw [decide_eq_false this]
      by_cases h2 : k ∈ l
      · simp [h2]
      · have : ¬ k ∈ x :: l := by
          simp [h2]
          omega
        rw [decide_eq_false h2, decide_eq_false this]
        rfl
section
variable {s : SB} {ns : List Int} {t0 : D}
abbrev fd (s : SB) : List D := (symL s).map fun t => D.int (t : Nat)
theorem body0 {cb : SB} (hcb : cb.ok) (hbx : D.tup [.str [46, 114, 35], .str [102, 46, 46]] = boxD cb.b) (one1 : ∀ k, k < 8 → (List.range 8).filter (fun t => decide ((turnS t cb).b = (turnS k cb).b)) = [k]) (hs : s.ok) {one other : Nat} (h1 : one ∈ symL s) (h2 : other ∈ symL s) (s6 s8 s9 : Sl) : forF (Cf 99) (.n 6) lawB_1 (.int (other : Int)) [.va (scr ns), .mu (t0), .va (boxD s.b), .va (.lst (eight s)), .va (.tup (fd s)), .va (.int (one : Int)), s6, .un, s8, s9] =
    .next [.va (scr ns), .mu (t0), .va (boxD s.b), .va (.lst (eight s)), .va (.tup (fd s)), .va (.int (one : Int)), .va (.int (other : Int)), .un, .va (boxD (turnS (comp2 one other) cb).b), .va (.lst [.int ((comp2 one other : Nat) : Int)])] := by
  have o1 := (mem_sym.mp h1).1
  have o2 := (mem_sym.mp h2).1
  have e1 := c_turnedS (l := lawF) (n := 96) hcb o1
  have e2 := c_turnedS (l := lawF) (n := 96) (turn_wf hcb one) o2
  rw [turn_turn hcb] at e2
  rw [← hbx] at e1
  have k8 := comp8 one other
  have fl := one1 (comp2 one other) k8
  have mm : comp2 one other ∈ symL s := mem_sym.mpr ⟨k8, hb_comp hs (mem_sym.mp h1).2 (mem_sym.mp h2).2⟩
  have ii := in_ints (k := comp2 one other) (l := symL s)
  rw [decide_eq_true mm] at ii
  have ni : cmpD .notin (.int ((comp2 one other : Nat) : Int)) (.tup (fd s)) = some false := by
    show (inOf _ _).map (!·) = _
    rw [ii]
    rfl
  have cp : compLoop (comF (Cf 99) [7] (.v 7) (.n 7) (some (.cmp .eq (.call 54 [(.tup [(.c (.str [46, 114, 35])), (.c (.str [102, 46, 46]))]), (.v 7)]) (.v 8)))) (rangeD 0 ((8 : Nat) : Int)) [] [.va (scr ns), .mu (t0), .va (boxD s.b), .va (.lst (eight s)), .va (.tup (fd s)), .va (.int (one : Int)), .va (.int (other : Int)), .un, .va (boxD (turnS (comp2 one other) cb).b), s9] = .ok [.int ((comp2 one other : Nat) : Int)] [.va (scr ns), .mu (t0), .va (boxD s.b), .va (.lst (eight s)), .va (.tup (fd s)), .va (.int (one : Int)), .va (.int (other : Int)), .un, .va (boxD (turnS (comp2 one other) cb).b), s9] := by
    rw [comp_rangeF (p := fun t => decide ((turnS t cb).b = (turnS (comp2 one other) cb).b)) (g := fun t => .int (t : Nat)) (by omega), fl]
    · rfl
    · intro t ht
      have e3 := c_turnedS (l := lawF) (n := 96) hcb ht
      rw [← hbx] at e3
      have c1 := cmp_box_eq (turnS t cb).b (turnS (comp2 one other) cb).b
      rw [comF_at]
      by_cases h : (turnS t cb).b = (turnS (comp2 one other) cb).b
      · rw [decide_eq_true h] at c1 ⊢
        simp [e3, c1, cap]
      · rw [decide_eq_false h] at c1 ⊢
        simp [e3, c1, cap]
  have a0 : ∀ x : D, at? [x] 0 = some x := fun x => rfl
  generalize hR : rangeD 0 ((8 : Nat) : Int) = R8 at *
  have q8 : ∀ f r, k_r1 (.ok (.int 8, f) r) = .ok R8 r := fun f r => by rw [← hR]; exact r8
  generalize ((comp2 one other : Nat) : Int) = kk at *
  rw [forF_at]
  simp [lawB_1, e1, e2, q8, cp, a0, ni, cap]
theorem body1 (hs : s.ok) {one other : Nat} (h1 : one ∈ symL s) (h2 : other ∈ symL s) (s6 s8 s9 : Sl) : ∃ d b, forF (Cf 99) (.n 6) lawB_1 (.int (other : Int)) [.va (scr ns), .mu (t0), .va (boxD s.b), .va (.lst (eight s)), .va (.tup (fd s)), .va (.int (one : Int)), s6, .un, s8, s9] =
    .next [.va (scr ns), .mu (t0), .va (boxD s.b), .va (.lst (eight s)), .va (.tup (fd s)), .va (.int (one : Int)), .va (.int (other : Int)), .un, .va (d), .va (b)] := ⟨_, _, body0 cb_ok cb_bx (fun k hk => cb_one ⟨k, hk⟩) hs h1 h2 s6 s8 s9⟩
theorem loop1 (hs : s.ok) {one : Nat} (h1 : one ∈ symL s) (s6 s8 s9 : Sl) : ∃ s6' s8' s9', forLoop (forF (Cf 99) (.n 6) lawB_1) (fd s) [.va (scr ns), .mu (t0), .va (boxD s.b), .va (.lst (eight s)), .va (.tup (fd s)), .va (.int (one : Int)), s6, .un, s8, s9] =
    .next [.va (scr ns), .mu (t0), .va (boxD s.b), .va (.lst (eight s)), .va (.tup (fd s)), .va (.int (one : Int)), s6', .un, s8', s9'] := by
  obtain ⟨r', e, s6', s8', s9', rfl⟩ := for_all (f := forF (Cf 99) (.n 6) lawB_1) (fun z => ∃ s6 s8 s9, z = [.va (scr ns), .mu (t0), .va (boxD s.b), .va (.lst (eight s)), .va (.tup (fd s)), .va (.int (one : Int)), s6, .un, s8, s9]) (xs := fd s) (r := [.va (scr ns), .mu (t0), .va (boxD s.b), .va (.lst (eight s)), .va (.tup (fd s)), .va (.int (one : Int)), s6, .un, s8, s9]) ⟨_, _, _, rfl⟩ fun x z hx hz => by
    obtain ⟨s6, s8, s9, rfl⟩ := hz
    obtain ⟨other, h2, rfl⟩ := List.mem_map.mp hx
    obtain ⟨d, b, e⟩ := body1 (ns := ns) (t0 := t0) hs h1 h2 s6 s8 s9
    exact ⟨_, e, .va (.int other), .va d, .va b, rfl⟩
  exact ⟨_, _, _, e⟩
theorem loop2 (hs : s.ok) {s50 : Sl} (h5 : noMu (some s50) = true) : ∃ s5 s6' s8' s9', noMu (some s5) = true ∧ forLoop (forF (Cf 99) (.n 5) lawB_2) (fd s) [.va (scr ns), .mu (t0), .va (boxD s.b), .va (.lst (eight s)), .va (.tup (fd s)), s50, .un, .un, .un, .un] =
    .next [.va (scr ns), .mu (t0), .va (boxD s.b), .va (.lst (eight s)), .va (.tup (fd s)), s5, s6', .un, s8', s9'] := by
  obtain ⟨r', e, s5, s6', s8', s9', hm, rfl⟩ := for_all (f := forF (Cf 99) (.n 5) lawB_2) (fun z => ∃ s5 s6 s8 s9, noMu (some s5) = true ∧ z = [.va (scr ns), .mu (t0), .va (boxD s.b), .va (.lst (eight s)), .va (.tup (fd s)), s5, s6, .un, s8, s9]) (xs := fd s) (r := [.va (scr ns), .mu (t0), .va (boxD s.b), .va (.lst (eight s)), .va (.tup (fd s)), s50, .un, .un, .un, .un]) ⟨_, _, _, _, h5, rfl⟩ fun x z hx hz => by
    obtain ⟨s5, s6, s8, s9, hm, rfl⟩ := hz
    obtain ⟨one, h1, rfl⟩ := List.mem_map.mp hx
    obtain ⟨s6', s8', s9', e⟩ := loop1 (ns := ns) (t0 := t0) hs h1 s6 s8 s9
    refine ⟨_, ?_, .va (.int one), s6', s8', s9', rfl, rfl⟩
    rw [forF_at]
    simp [lawB_2, itemsOf, e]
  exact ⟨_, _, _, _, hm, e⟩
theorem dedupR_len {α : Type} (e : α → α → Bool) : ∀ l : List α, (dedupR e l).length ≤ l.length
  | [] => Nat.le_refl _
  | x :: l => by
    show ((dedupR e l).filter _).length + 1 ≤ l.length + 1
    have := List.length_filter_le (fun y => !e y x) (dedupR e l)
    have := dedupR_len e l
    omega
theorem hoks_strs : ∀ (n : Nat) (b : List (List Nat)), D.hoks n (b.map D.str) = true
  | _, [] => rfl
  | n, x :: b => by
    show (D.hok n (.str x) && D.hoks n (b.map D.str)) = true
    rw [hoks_strs n b]
    cases n <;> rfl
theorem sset_boxes (bs : List Bx) (h : bs.length ≤ 999) (hn : ∀ b ∈ bs, b ≠ []) : ∃ ss, ssetD (.lst (bs.map boxD)) = some (.lst ss, true) ∧ ss.length = (dedupD (bs.map boxD)).length := by
  have hk : ∀ x ∈ bs.map boxD, D.hok 8 x = true := fun x hx => by
    obtain ⟨b, _, rfl⟩ := List.mem_map.mp hx
    exact hoks_strs 7 b
  have dm := (dedup_mem hk).1
  have dl : (dedupD (bs.map boxD)).length ≤ 999 := by
    have := dedup_map (l := bs) (f := boxD) (e := fun a b => decide (a = b)) fun a _ b _ => eqv_box a b
    rw [this, List.length_map]
    exact Nat.le_trans (dedupR_len _ _) h
  have so : setOk (bs.map boxD) = true := by
    unfold setOk
    rw [decide_eq_true dl, Bool.and_true, List.all_eq_true]
    intro x hx
    rw [hk x hx]
    obtain ⟨b, _, rfl⟩ := List.mem_map.mp hx
    rfl
  have bx : ∀ x ∈ dedupD (bs.map boxD), ∃ b, b ∈ bs ∧ x = boxD b := fun x hx => by
    obtain ⟨b, hb, rfl⟩ := List.mem_map.mp ((dm x).mp hx)
    exact ⟨b, hb, rfl⟩
  have ok : sortOk (dedupD (bs.map boxD)) = true := by
    unfold sortOk
    have o1 : D.okds 40 (dedupD (bs.map boxD)) = true := okds_of fun x hx => by
      obtain ⟨b, _, rfl⟩ := bx x hx
      exact okds_strs 39 b
    have o2 : ((dedupD (bs.map boxD)).all fun x => (dedupD (bs.map boxD)).all fun y => D.alike x y) = true := by
      rw [List.all_eq_true]
      intro x hx
      rw [List.all_eq_true]
      intro y hy
      obtain ⟨b, _, rfl⟩ := bx x hx
      obtain ⟨b', _, rfl⟩ := bx y hy
      exact alike_box b b'
    have o3 : (dedupD (bs.map boxD)).all isTup1 = true := by
      rw [List.all_eq_true]
      intro x hx
      obtain ⟨b, hb, rfl⟩ := bx x hx
      cases b with
      | nil => exact absurd rfl (hn _ hb)
      | cons y b => rfl
    rw [o1, o2, o3, decide_eq_true (Nat.le_trans dl (by unfold cap; omega))]
    rfl
  refine ⟨(dedupD (bs.map boxD)).mergeSort D.le, ?_, (List.length_mergeSort _)⟩
  show (if setOk (bs.map boxD) then sortG (dedupD (bs.map boxD)) else none) = _
  rw [so, if_pos rfl]
  unfold sortG
  rw [ok]
  rfl
theorem sset_eight (hs : s.ok) : ∃ ss, ssetD (.lst (eight s)) = some (.lst ss, true) ∧ ss.length * (symL s).length = 8 := by
  have e8 : eight s = ((List.range 8).map fun t => (turnS t s).b).map boxD := by
    unfold eight
    rw [List.map_map]
    rfl
  obtain ⟨ss, h1, h2⟩ := sset_boxes ((List.range 8).map fun t => (turnS t s).b) (by simp) fun b hb => by
    obtain ⟨t, _, rfl⟩ := List.mem_map.mp hb
    have q := turn_wf hs t
    have := q.len
    intro e
    rw [e] at this
    have := q.h0
    simp at *
    omega
  rw [e8]
  refine ⟨ss, h1, ?_⟩
  rw [h2, ← e8]
  unfold eight
  rw [dedup_map (e := fun a b => hb s (comp2 a (invT b))), List.length_map]
  · exact orbit hs
  · intro a ha b hb
    rw [eqv_box]
    have := same_iff hs (List.mem_range.mp ha) (List.mem_range.mp hb)
    cases h : Q.hb s (comp2 a (invT b))
    · rw [h] at this
      exact decide_eq_false fun e => by simpa using this.mp e
    · rw [h] at this
      exact decide_eq_true (this.mpr rfl)
def tlB : List S := lawBody.drop 3
theorem fd_cmp : cmpD .ne (.tup (fd s)) (.tup (fd s)) = some false := cmp_ne_same (okds_map (n := 59) (fun x => rfl) (symL s))
theorem at_eight {t : Nat} (ht : t < 8) : at? (eight s) (t : Int) = some (boxD (turnS t s).b) := by
  refine at_nat rfl ?_
  unfold eight
  rw [List.getElem?_map, List.getElem?_range ht]
  rfl
theorem mod2 {t : Nat} (h : t % 2 = 0) : binD .mod (.int (t : Int)) (.int 2) = some (.int 0) := by
  rw [bin_mod (by omega)]
  have : (t : Int) % 2 = 0 := by omega
  rw [this]
theorem sym_le : (symL s).length ≤ 8 := by
  unfold symL
  exact Nat.le_trans (List.length_filter_le _ _) (by simp)
theorem odd_none (hs : s.ok) (hne : s.h ≠ s.w) (s5 s6 s8 s9 : Sl) : compLoop (comF (Cf 99) [7] (.v 7) (.n 7) (some (.cmp .eq (.bin .mod (.v 7) (.c (.int 2))) (.c (.int 1))))) (fd s) [] [.va (scr ns), .mu (t0), .va (boxD s.b), .va (.lst (eight s)), .va (.tup (fd s)), s5, s6, .un, s8, s9] = .ok [] [.va (scr ns), .mu (t0), .va (boxD s.b), .va (.lst (eight s)), .va (.tup (fd s)), s5, s6, .un, s8, s9] := by
  have e0 : ([] : List D) = [] ++ (fd s).filterMap (fun _ => none) := by
    rw [List.nil_append]
    exact (List.filterMap_eq_nil_iff.mpr fun _ _ => rfl).symm
  refine Eq.trans (comp_filter (g := fun _ => none) ?_ ?_) (by rw [← e0])
  · intro x hx
    obtain ⟨t, ht, rfl⟩ := List.mem_map.mp hx
    obtain ⟨ht8, hbt⟩ := mem_sym.mp ht
    have hev : t % 2 = 0 := by
      rcases Nat.mod_two_eq_zero_or_one t with h | h
      · exact h
      · exact absurd (size_odd hs ht8 hbt h) hne
    have m1 := mod2 hev
    rw [comF_at]
    simp [m1]
  · have := sym_le (s := s)
    unfold fd cap
    rw [List.length_map, List.length_nil]
    omega
theorem tail (hs : s.ok) {k : Nat} (hk : k < 1000000000) (ht : Tn ns k t0) {s5 : Sl} (h5 : noMu (some s5) = true) : ∃ r', evSs (Cf 99) tlB [.va (scr ns), .mu (t0), .va (boxD s.b), .un, .un, s5, .un, .un, .un, .un] = .ret (.bl true) false r' := by
  have cpE : compLoop (comF (Cf 99) [7] (.call 54 [(.v 2), (.v 7)]) (.n 7) none) (rangeD 0 ((8 : Nat) : Int)) [] [.va (scr ns), .mu (t0), .va (boxD s.b), .un, .un, s5, .un, .un, .un, .un] = .ok (eight s) [.va (scr ns), .mu (t0), .va (boxD s.b), .un, .un, s5, .un, .un, .un, .un] := comp_range (by omega) fun t ht => by
    have := c_turnedS (l := lawF) (n := 96) hs ht
    rw [comF_at]
    simp [this]
  have e57 : call (TT lawF) 99 57 [boxD s.b] = .ret (.tup (fd s)) false [] := c_symmetries (l := lawF) (n := 96) hs
  have cp2 : compLoop (comF (Cf 99) [7] (.v 7) (.n 7) (some (.cmp .eq (.ix (.v 3) (.v 7)) (.v 2)))) (rangeD 0 ((8 : Nat) : Int)) [] [.va (scr ns), .mu (t0), .va (boxD s.b), .va (.lst (eight s)), .va (.tup (fd s)), s5, .un, .un, .un, .un] = .ok (fd s) [.va (scr ns), .mu (t0), .va (boxD s.b), .va (.lst (eight s)), .va (.tup (fd s)), s5, .un, .un, .un, .un] := by
    refine comp_rangeF (p := hb s) (g := fun t => .int (t : Nat)) (by omega) fun t ht => ?_
    have a1 := at_eight (s := s) ht
    have c1 := cmp_box_eq (turnS t s).b s.b
    rw [comF_at]
    unfold hb
    by_cases h : (turnS t s).b = s.b
    · rw [decide_eq_true h] at c1 ⊢
      simp [a1, c1, cap]
    · rw [decide_eq_false h] at c1 ⊢
      simp [a1, c1, cap]
  obtain ⟨rest, er⟩ := sym_head (s := s)
  have ct : cut (fd s) none (some 1) = [.int 0] := by
    unfold fd
    rw [er]
    simp [cut, sIx]
  have c00 : cmpD .ne (.tup [.int 0]) (.tup [.int 0]) = some false := rfl
  obtain ⟨i, hi, hm, -⟩ := min_eight (s := s)
  have e58 : call (TT lawF) 99 58 [boxD s.b] = .ret (boxD (turnS i s).b) false [] := c_least (l := lawF) (n := 96) hs hm
  have mn := minD_eight hm
  have cm : cmpD .ne (boxD (turnS i s).b) (boxD (turnS i s).b) = some false := cmp_ne_same okd_box
  obtain ⟨j, x, t1, ep, ex, ht1⟩ := c_pick (l := lawF) (n := 97) (cs := eight s) hk ht (by simp [eight]) (by simp [eight])
  have hj : j < 8 := by
    have := (List.getElem?_eq_some_iff.mp ex).1
    simpa [eight] using this
  have ex : x = boxD (turnS j s).b := by
    have := at_eight (s := s) hj
    rw [at_nat rfl ex] at this
    exact Option.some.inj this
  subst ex
  obtain ⟨i', hi', hm', -⟩ := min_eight (s := turnS j s)
  have e59 := c_least (l := lawF) (n := 96) (turn_wf hs j) hm'
  have mt := min_turned hs hi hm hj
  rw [hm'] at mt
  have mt : boxD (turnS i' (turnS j s)).b = boxD (turnS i s).b := (Prod.mk.inj (Option.some.inj mt)).1
  rw [mt] at e59
  obtain ⟨ss, hss, hl8⟩ := sset_eight hs
  obtain ⟨s5', s6', s8', s9', hm5, e2⟩ := loop2 (ns := ns) (t0 := t1) hs h5
  have q := turn_wf hs i
  have e60 := c_symmetries (l := lawF) (n := 96) (turn_wf hs i)
  obtain ⟨rest', er'⟩ := sym_head (s := turnS i s)
  have cl := sym_conj hs hi
  have c2 : cmpD .ne (.tup (fd (turnS i s))) (.tup []) = some true := by
    have o1 : D.okd dep (.tup (fd (turnS i s))) = true := okds_map (n := 59) (fun x => rfl) (symL (turnS i s))
    rw [cmp_ne o1 rfl]
    unfold fd
    rw [er']
    rfl
  have hsz := hs.len
  obtain ⟨row, hr0, hrl⟩ := Wf.at0 hs
  have ml : binD .mul (.int (ss.length : Int)) (.int ((fd s).length : Int)) = some (.int 8) := by
    have h1 : (fd s).length = (symL s).length := by simp [fd]
    rw [bin_mul]
    · rw [h1]
      have : ((ss.length * (symL s).length : Nat) : Int) = 8 := by rw [hl8]; rfl
      rw [← Int.natCast_mul, this]
    · right
      have : (symL s).length ≤ 8 := by
        unfold symL
        exact Nat.le_trans (List.length_filter_le _ _) (by simp)
      unfold M64
      omega
  have lf : (fd (turnS i s)).length = (fd s).length := by simp [fd, cl]
  have e60 : call (TT lawF) 99 57 [boxD (turnS i s).b] = .ret (.tup (fd (turnS i s))) false [] := e60
  have ep : call (TT lawF) 99 83 [scr ns, t0, .lst (eight s)] = .ret (boxD (turnS j s).b) false [t1] := ep
  have e59 : call (TT lawF) 99 58 [boxD (turnS j s).b] = .ret (boxD (turnS i s).b) false [] := e59
  have bl : biD .len [boxD s.b] = some (.int s.h, false) := by
    unfold boxD
    rw [bi_len_t, List.length_map, hsz]
  have bx : ixD (boxD s.b) (.int 0) = some (.str row) := hr0
  have brl : biD .len [.str row] = some (.int s.w, false) := by rw [bi_len_s, hrl]
  have itf : itemsOf (.tup (fd s)) = some (fd s) := rfl
  have fc := fd_cmp (s := s)
  have cll : cmpD .ne (.lst []) (.lst []) = some false := rfl
  have cp3 := fun hne => odd_none (ns := ns) (t0 := t1) hs hne s5' s6' s8' s9'
  generalize boxD s.b = B at *
  generalize boxD (turnS i s).b = BL at *
  generalize boxD (turnS j s).b = BJ at *
  generalize hE8 : eight s = E8 at *
  generalize fd (turnS i s) = F2 at *
  generalize fd s = F1 at *
  generalize hR : rangeD 0 ((8 : Nat) : Int) = R8 at *
  have q8 : ∀ f r, k_r1 (.ok (.int 8, f) r) = .ok R8 r := fun f r => by rw [← hR]; exact r8
  by_cases hne : s.h = s.w
  · have ch : ((s.h : Nat) : Int) = ((s.w : Nat) : Int) := by rw [hne]
    simp [tlB, lawBody, cap, q8, cpE, e57, cp2, ct, c00, fc, e58, mn, cm, ep, e59, hss, ml, itf, e2, h5, hm5, bl, bx, brl, ch, c2, e60, lf]
  · have ch : ¬ ((s.h : Nat) : Int) = ((s.w : Nat) : Int) := by omega
    simp [tlB, lawBody, cap, q8, cpE, e57, cp2, ct, c00, fc, e58, mn, cm, ep, e59, hss, ml, itf, e2, h5, hm5, bl, bx, brl, ch, c2, e60, lf, cp3 hne, cll]
theorem two_ok {x y : Nat} (hx : x ∈ S6) (hy : y ∈ S6) : SB.ok ⟨2, 2, [[x, y], [y, x]]⟩ := by
  refine ⟨⟨rfl, ?_, ?_⟩, Nat.lt_of_sub_eq_succ rfl, Nat.le_of_ble_eq_true rfl, Nat.lt_of_sub_eq_succ rfl, Nat.le_of_ble_eq_true rfl⟩
  · intro row hr
    simp only [List.mem_cons, List.not_mem_nil, or_false] at hr
    rcases hr with rfl | rfl <;> rfl
  · intro row hr c hc
    simp only [List.mem_cons, List.not_mem_nil, or_false] at hr
    rcases hr with rfl | rfl <;> simp only [List.mem_cons, List.not_mem_nil, or_false] at hc <;> rcases hc with rfl | rfl <;> assumption
def st0 : S := .new 1 (.call 81 [(.v 0)])
def st1 : S := .asg (.n 2) (.call 92 [(.v 0), (.m 1), (.c (.int 3)), (.c (.int 3)), (.call 83 [(.v 0), (.m 1), (.lst [(.c (.str [46])), (.c (.str [46, 114])), (.c (.str [46, 114, 102, 35, 82, 70])), (.c (.str [46, 35])), (.c (.str [114, 102])), (.c (.str [82, 46]))])])])
def st2 : S := .ife (.and (.cmp .eq (.call 82 [(.v 0), (.m 1), (.c (.int 2))]) (.c (.int 0))) (.and (.cmp .eq (.bi .len [(.v 2)]) (.c (.int 2))) (.cmp .eq (.bi .len [(.ix (.v 2) (.c (.int 0)))]) (.c (.int 2))))) [.asg (.n 5) (.call 83 [(.v 0), (.m 1), (.lst [(.c (.str [114])), (.c (.str [102])), (.c (.str [46]))])]), .asg (.n 2) (.tup [(.bin .add (.v 5) (.tix (.tdp [([114], [102]), ([102], [114]), ([46], [46])]) (.v 5))), (.bin .add (.tix (.tdp [([114], [102]), ([102], [114]), ([46], [46])]) (.v 5)) (.v 5))])] []
theorem body_eq : lawBody = st0 :: st1 :: st2 :: tlB := rfl
theorem third (hs : s.ok) {k : Nat} (hk : k < 900000000) (ht : Tn ns k t0) : ∃ (s' : SB) (t1 : D) (s5 : Sl), s'.ok ∧ Tn ns (k + 1) t1 ∧ noMu (some s5) = true ∧ evS (Cf 99) st2 [.va (scr ns), .mu (t0), .va (boxD s.b), .un, .un, .un, .un, .un, .un, .un] = .next [.va (scr ns), .mu (t1), .va (boxD s'.b), .un, .un, s5, .un, .un, .un, .un] ∨ s'.ok ∧ Tn ns (k + 2) t1 ∧ noMu (some s5) = true ∧ evS (Cf 99) st2 [.va (scr ns), .mu (t0), .va (boxD s.b), .un, .un, .un, .un, .un, .un, .un] = .next [.va (scr ns), .mu (t1), .va (boxD s'.b), .un, .un, s5, .un, .un, .un, .un] := by
  obtain ⟨f, t1, e1, hf, ht1⟩ := c_draw (l := lawF) (n := 98) (m := 2) (by omega) ht (by omega) (by omega)
  have e1 : call (TT lawF) 99 82 [scr ns, t0, .int 2] = .ret (.int f) false [t1] := e1
  obtain ⟨row, hr0, hrl⟩ := Wf.at0 hs
  have bl : biD .len [boxD s.b] = some (.int s.h, false) := by
    unfold boxD
    rw [bi_len_t, List.length_map, hs.len]
  have bx : ixD (boxD s.b) (.int 0) = some (.str row) := hr0
  have brl : biD .len [.str row] = some (.int s.w, false) := by rw [bi_len_s, hrl]
  by_cases hz : f = 0
  · subst hz
    by_cases h2 : s.h = 2
    · by_cases w2 : s.w = 2
      · obtain ⟨i, x, t2, e2, ex, ht2⟩ := c_pick (l := lawF) (n := 97) (cs := [.str [114], .str [102], .str [46]]) (by omega) ht1 (by simp) (by simp)
        have m := List.mem_of_getElem? ex
        simp only [List.mem_cons, List.not_mem_nil, or_false] at m
        rw [h2] at bl
        rw [w2] at brl
        rcases m with rfl | rfl | rfl
        · have e2 : call (TT lawF) 99 83 [scr ns, t1, .lst [.str [114], .str [102], .str [46]]] = .ret (.str [114]) false [t2] := e2
          refine ⟨⟨2, 2, [[114, 102], [102, 114]]⟩, t2, .va (.str [114]), .inr ⟨two_ok (by decide) (by decide), ht2, rfl, ?_⟩⟩
          have b2 : boxD [[114, 102], [102, 114]] = .tup [.str [114, 102], .str [102, 114]] := rfl
          have ta : tabI (some (.dic (dts [([114], [102]), ([102], [114]), ([46], [46])]))) (.str [114]) = some (.str [102], false) := rfl
          rw [b2]
          generalize boxD s.b = B at *
          have ad : ∀ x y : Nat, binD .add (.str [x]) (.str [y]) = some (.str [x, y]) := fun x y => bin_str (x := [x]) (y := [y]) (by simp [cap])
          simp [st2, e1, e2, bl, bx, brl, ta, ad, cap]
        · have e2 : call (TT lawF) 99 83 [scr ns, t1, .lst [.str [114], .str [102], .str [46]]] = .ret (.str [102]) false [t2] := e2
          refine ⟨⟨2, 2, [[102, 114], [114, 102]]⟩, t2, .va (.str [102]), .inr ⟨two_ok (by decide) (by decide), ht2, rfl, ?_⟩⟩
          have b2 : boxD [[102, 114], [114, 102]] = .tup [.str [102, 114], .str [114, 102]] := rfl
          have ta : tabI (some (.dic (dts [([114], [102]), ([102], [114]), ([46], [46])]))) (.str [102]) = some (.str [114], false) := rfl
          rw [b2]
          generalize boxD s.b = B at *
          have ad : ∀ x y : Nat, binD .add (.str [x]) (.str [y]) = some (.str [x, y]) := fun x y => bin_str (x := [x]) (y := [y]) (by simp [cap])
          simp [st2, e1, e2, bl, bx, brl, ta, ad, cap]
        · have e2 : call (TT lawF) 99 83 [scr ns, t1, .lst [.str [114], .str [102], .str [46]]] = .ret (.str [46]) false [t2] := e2
          refine ⟨⟨2, 2, [[46, 46], [46, 46]]⟩, t2, .va (.str [46]), .inr ⟨two_ok (by decide) (by decide), ht2, rfl, ?_⟩⟩
          have b2 : boxD [[46, 46], [46, 46]] = .tup [.str [46, 46], .str [46, 46]] := rfl
          have ta : tabI (some (.dic (dts [([114], [102]), ([102], [114]), ([46], [46])]))) (.str [46]) = some (.str [46], false) := rfl
          rw [b2]
          generalize boxD s.b = B at *
          have ad : ∀ x y : Nat, binD .add (.str [x]) (.str [y]) = some (.str [x, y]) := fun x y => bin_str (x := [x]) (y := [y]) (by simp [cap])
          simp [st2, e1, e2, bl, bx, brl, ta, ad, cap]
      · refine ⟨s, t1, .un, .inl ⟨hs, ht1, rfl, ?_⟩⟩
        have w2 : ¬ ((s.w : Nat) : Int) = 2 := by omega
        rw [h2] at bl
        generalize boxD s.b = B at *
        simp [st2, e1, bl, bx, brl, w2]
    · refine ⟨s, t1, .un, .inl ⟨hs, ht1, rfl, ?_⟩⟩
      have h2 : ¬ ((s.h : Nat) : Int) = 2 := by omega
      generalize boxD s.b = B at *
      simp [st2, e1, bl, bx, brl, h2]
  · refine ⟨s, t1, .un, .inl ⟨hs, ht1, rfl, ?_⟩⟩
    have hz : decide (f = 0) = false := decide_eq_false hz
    generalize boxD s.b = B at *
    simp [st2, e1, hz]
theorem main (ns : List Int) (hn : ns.length ≤ 63) : call (TT lawF) 100 0 [.lst (ns.map D.int)] = .ret (.bl true) false [] := by
  show call (TT lawF) (99 + 1) 0 [scr ns] = _
  rw [call_at lawF rfl rfl]
  show fin [] (evSs (Cf 99) lawBody [.va (scr ns), .un, .un, .un, .un, .un, .un, .un, .un, .un]) = _
  obtain ⟨t0, e0, ht0⟩ := c_town (l := lawF) (n := 98) hn
  obtain ⟨i, x, t1, e1, ex, ht1⟩ := c_pick (l := lawF) (n := 97) (cs := [.str [46], .str [46, 114], .str [46, 114, 102, 35, 82, 70], .str [46, 35], .str [114, 102], .str [82, 46]]) (by omega) ht0 (by simp) (by simp)
  have hx : ∃ s, x = .str s ∧ s ≠ [] ∧ s.length < 1000000 ∧ ∀ c, c ∈ s → c ∈ S6 := by
    have m := List.mem_of_getElem? ex
    simp only [List.mem_cons, List.not_mem_nil, or_false] at m
    rcases m with rfl | rfl | rfl | rfl | rfl | rfl <;> exact ⟨_, rfl, by simp, by simp, by decide⟩
  obtain ⟨s, rfl, s0, s1, s2⟩ := hx
  obtain ⟨h, w, b, t2, e2, h0, h5, w0, w5, hb, ht2⟩ := c_box (l := lawF) (n := 95) (th := 3) (tw := 3) (s := s) (by omega) ht1 s0 s1 (by omega) (by omega) (by omega) (by omega)
  have q : SB.ok ⟨h, w, b⟩ := ⟨⟨hb.rows, hb.cols, fun row hr c hc => s2 c (hb.sgn row hr c hc)⟩, h0, Nat.le_trans h5 (by decide), w0, Nat.le_trans w5 (by decide)⟩
  have e2 : call (TT lawF) 99 92 [scr ns, t1, .int 3, .int 3, .str s] = .ret (boxD b) false [t2] := e2
  have tl : ∃ r', evSs (Cf 99) (st2 :: tlB) [.va (scr ns), .mu (t2), .va (boxD b), .un, .un, .un, .un, .un, .un, .un] = .ret (.bl true) false r' := by
    obtain ⟨s', t3, s5, hh⟩ := third q (by omega) ht2
    rcases hh with ⟨q', ht3, hm, e⟩ | ⟨q', ht3, hm, e⟩
    · obtain ⟨r', er⟩ := tail q' (by omega) ht3 hm
      exact ⟨r', by rw [ss_cons, e, k_seqn, er]⟩
    · obtain ⟨r', er⟩ := tail q' (by omega) ht3 hm
      exact ⟨r', by rw [ss_cons, e, k_seqn, er]⟩
  obtain ⟨r', tl⟩ := tl
  rw [body_eq]
  generalize st2 :: tlB = TL at *
  generalize boxD b = B at *
  simp [st0, st1, e0, e1, e2, tl, cap]
end
end Ev.Q.M51

namespace K51
open PySem PySem.Spec PyProof.Rows L2 Ev

theorem lawE (w : World) (mg : Str → Option Value) (f : Addr) (h : Heap) (Y : hk.says w h) (G : h.Ns mainGlobals mg) (e : mg ("law" : Str) = some (.ref f)) : ∃ (K : PySem.W.Frag) (fd : FuncData) (cv : Nat → Value) (sem : List D → Out), K.In h ∧ (∀ (s : Shared) (u : Value), BindsTo s fd ⟨[u], []⟩ [("script", u)]) ∧ (∀ ns : List Int, ns.length ≤ 63 → sem [.lst (ns.map D.int)] = .ret (.bl true) false []) ∧ ∀ base : Heap, FnOk (PySem.Challenge.rw_mirrorsure_k51_whole_symmetries).prog w K mg base (L2.CX (PySem.Challenge.rw_mirrorsure_k51_whole_symmetries).prog w) 100 f fd ["script"] (spF K cv [] sem) := by
  obtain ⟨K, KX, c⟩ := Y
  obtain ⟨fd, hb, hF⟩ := law_fn (P := (PySem.Challenge.rw_mirrorsure_k51_whole_symmetries).prog) (w := w) (T := TT lawF) (n := 100) (r := d0) KX G c gs hT hc ht (by unfold rs; simp) rfl rfl e
  exact ⟨K, fd, cvOf K xs, call (TT lawF) 100 0, KX, hb, Ev.Q.M51.main, hF⟩
end K51
open PySem PySem.W PySem.Calls PyProof.Rows
theorem PySem.Challenge.cw_mirrorsure_k51_whole_symmetries_holds : PySem.Challenge.rw_mirrorsure_k51_whole_symmetries.Holds := by
  w_on; o_law
  refine HandSHeadRun.head_any (r := K51.Ro) (q := view K51.Ro.prog [24]) (H := K51.hk) (ob := K51.ob) (M := 4000) (loose := K51.loose) (d := HandSHeadRun.topDef K51.Ro.prog 24) (kwd := []) K51.ob_eq
    (by kernel_rfl) (fun s => by kernel_rfl) K51.run (by kernel_rfl) (by kernel_rfl) (by kernel_rfl) (by rfl) (by first | assumption | decide +kernel) (by decide +kernel) ⟨rfl, rfl, rfl, rfl, rfl, by decide +kernel⟩ ?hw ?hc
  case hw => w_witness2
  case hc =>
    refine Ev.law_end (l := PySem.Challenge.rw_mirrorsure_k51_whole_symmetries) (n := 63) (k := 100) rfl (by decide) (by kernel_rfl) ⟨rfl, by decide, by decide⟩ fun w mg f h Y G e0 => ?_
    have e : mg ("law" : PySem.Str) = some (.ref f) := by
      have z : (HandSHeadRun.topDef K51.Ro.prog 24).name = ("law" : PySem.Str) := by kernel_rfl
      rw [← z]
      exact e0
    exact K51.lawE w mg f h Y G e

