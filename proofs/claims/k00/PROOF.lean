import PyProof.Rows.All
import Wide.All
import OpenK.AllK
import Wide.FinOn
import HandS.ForMost
import HandS.ForExc
import HandS.TupAny
import HandS.IsInst
import HandS.SortInts
import HandS.Deep
import HandS.TupLen
import HandS.WordsDict
import HandS.Style
import HandS.ExcOwn
import HandS.Zip
import KE.GoesEnum
import HandS.More
import HandS.Conv
import KE.KDictZip
import HandS.ExcValue
import HandS.Defaults
import KE.KStateDown
import HandS.Words
import HandS.WordsExc
import HandS.Head0
import HandS.Head1
import HandS.Head2
import HandS.HeadEnd
import HandS.HeadHook1
import HandS.HeadHook2
import PySem.Challenge.RW_whatelse_k00_boxes_words_and_runs
section
set_option Elab.async false
set_option linter.all false
set_option maxRecDepth 100000
/-! EV: an own small language, its values and its interpreter. -/
namespace EV
open PySem L2

/-- values: tuples stand by value, what may change stands by its number in the own heap -/
inductive PV where
  | non | bl (b : Bool) | int (i : Int) | str (s : Str) | tup (xs : List PV) | obj (n : Nat)

/-- what may change; fz: it may be read, not written -/
inductive PO where
  | lst (fz : Bool) (xs : List PV)
  | dK (kvs : List (Key × PV))
  | dT (kvs : List (List Key × PV))

abbrev PH := List PO
abbrev Env := List (Option PV)

inductive Op where
  | add | sub | mul | fdiv | mod | pow
inductive Cp where
  | lt | le | gt | ge | eq | ne | is | isnot | isin | notin
inductive Ty where
  | int | bool | str | tuple | list | dict
inductive Bf where
  | len | int | min | max | isinst (t : Ty)
inductive Mt where
  | append | get1 | get2 | index | pop
inductive Fo where
  | tuple | list | all | any | sum | sorted | min | max
inductive Tg where
  | nm (i : Nat) | tup (ts : List Tg)

inductive E where
  | cst (v : PV) | var (i : Nat) | glb (g : Nat) | nop
  | tup (es : List E) | lst (es : List E) | dnew (t : Bool) | dct (es : List E)
  | bin (o : Op) (a b : E) | neg (a : E) | not (a : E) | and (a b : E) | or (a b : E)
  | cmp (c : Cp) (a b : E) | chn (c d : Cp) (a b e : E) | ite (c a b : E)
  | idx (a b : E) | slc (a lo hi : E)
  | call (f : Nat) (es : List E) | callK (f : Nat) (es ks : List E) (ord : List Nat)
  | bf (b : Bf) (es : List E) | mt (m : Mt) (o : E) (es : List E)
  | comp (elt : E) (t : Tg) (it cond : E) (own : List Nat)
  | con (f : Fo) (it : E)
  | itv (e : E) | its (e : E) | itc (elt : E) (t : Tg) (it cond : E) (own : List Nat) | rng (a b : E) | enm (e : E) | zip (a b : E)

/-- what an except clause may say -/
inductive HE where
  | cst (v : PV) | fld (i : Nat) | tup (es : List HE)
inductive HA where
  | ret (e : HE) | asg (i : Nat) (e : HE)
structure Hd where
  cls : Nat
  act : HA

inductive S where
  | pass | expr (e : E) | asg (t : Tg) (e : E) | set (o i e : E) | aug (i : Nat) (o : Op) (e : E)
  | ret (e : E) | retN | ite (c : E) (a b : List S) | whl (c : E) (b : List S) | forS (t : Tg) (it : E) (b : List S)
  | brk | cnt | raise (c : Nat) (es : List E) | tryS (b : List S) (hs : List Hd) | tryN (b : List S) | bad

/-- what an expression comes to -/
inductive Rs (α : Type) where
  | ok (a : α) (h : PH) | ex (c : Nat) (vs : List PV) (h : PH) | no
/-- what a statement comes to -/
inductive Rt where
  | nx (r : Env) (h : PH) | rt (v : PV) (h : PH) | bk (r : Env) (h : PH) | ct (r : Env) (h : PH) | ex (c : Nat) (vs : List PV) (r : Env) (h : PH) | no

def Rs.bnd {α β : Type} (x : Rs α) (f : α → PH → Rs β) : Rs β := match x with
  | .ok a h => f a h
  | .ex c v h => .ex c v h
  | .no => .no
def Rs.st {α : Type} (x : Rs α) (r : Env) (f : α → PH → Rt) : Rt := match x with
  | .ok a h => f a h
  | .ex c v h => .ex c v r h
  | .no => .no

/-! ### by values -/
def optAll {α β : Type} (f : α → Option β) : List α → Option (List β)
  | [] => some []
  | x :: xs => match f x with
    | none => none
    | some y => match optAll f xs with
      | none => none
      | some ys => some (y :: ys)
/-- a value as data (lists read off the heap), at most so deep -/
def toD (h : PH) : Nat → PV → Option PyData
  | _, .non => some .none
  | _, .bl b => some (.bool b)
  | _, .int i => some (.int i)
  | _, .str s => if PyData.strOk s = true then some (.str s) else none
  | n + 1, .tup xs => match optAll (toD h n) xs with
    | none => none
    | some ds => some (.tuple ds)
  | 0, .tup _ => none
  | n + 1, .obj a => match h[a]? with
    | some (.lst _ xs) => match optAll (toD h n) xs with
      | none => none
      | some ds => some (.list ds)
    | _ => none
  | 0, .obj _ => none
def pyEq (h : PH) (x y : PV) : Option Bool := match toD h 60 x, toD h 60 y with
  | some a, some b => some (PyData.eqv a b)
  | _, _ => none
def toKey : PV → Option Key
  | .int i => some (.inl i)
  | .str s => some (.inr s)
  | _ => none
def toTK : PV → Option (List Key)
  | .tup xs => optAll toKey xs
  | _ => none
def ofKey : Key → PV
  | .inl i => .int i
  | .inr s => .str s
def look {κ : Type} [DecidableEq κ] (k : κ) : List (κ × PV) → Option PV
  | [] => none
  | (a, v) :: r => if a = k then some v else look k r
def put {κ : Type} [DecidableEq κ] (k : κ) (v : PV) (kvs : List (κ × PV)) : List (κ × PV) :=
  if (kvs.any fun kv => decide (kv.1 = k)) = true then kvs.map (fun kv => if kv.1 = k then (kv.1, v) else kv) else kvs ++ [(k, v)]

def mulOk (i j : Int) : Bool := (decide (-(2 ^ 64) < i) && decide (i < 2 ^ 64)) || (decide (-(2 ^ 64) < j) && decide (j < 2 ^ 64))
def binop (o : Op) (x y : PV) (h : PH) : Rs PV := match o, x, y with
  | .add, .int i, .int j => .ok (.int (i + j)) h
  | .sub, .int i, .int j => .ok (.int (i - j)) h
  | .mul, .int i, .int j => if mulOk i j = true then .ok (.int (i * j)) h else .no
  | .fdiv, .int i, .int j => if 0 < j ∧ j < 1073741824 then .ok (.int (i / j)) h else .no
  | .mod, .int i, .int j => if 0 < j then .ok (.int (i % j)) h else .no
  | .pow, .int i, .int j => if 0 ≤ j ∧ j ≤ 1000000 ∧ i.natAbs < 2 ^ 64 then .ok (.int (i ^ j.toNat)) h else .no
  | .add, .tup xs, .tup ys => if xs.length + ys.length ≤ sizeLine then .ok (.tup (xs ++ ys)) h else .no
  | .add, .obj a, .obj b => match h[a]?, h[b]? with
    | some (.lst false xs), some (.lst false ys) => if xs.length + ys.length ≤ sizeLine then .ok (.obj h.length) (h ++ [.lst false (xs ++ ys)]) else .no
    | _, _ => .no
  | _, _, _ => .no
/-- x in y -/
def flatP : PV → Bool
  | .non => true
  | .bl _ => true
  | .int _ => true
  | .str _ => true
  | _ => false
def eqF : PV → PV → Bool
  | .non, .non => true
  | .bl a, .bl b => a == b
  | .bl a, .int b => (if a then 1 else 0) == b
  | .int a, .bl b => a == (if b then 1 else 0)
  | .int a, .int b => a == b
  | .str a, .str b => a == b
  | _, _ => false
def isIn (h : PH) (x y : PV) : Option Bool := match y with
  | .tup xs => if (flatP x && xs.all flatP) = true then some (xs.any fun y => eqF y x) else none
  | .obj n => match h[n]? with
    | some (.lst _ _) => match toD h 60 x, toD h 60 (.obj n) with
      | some d, some (.list ds) => some (ds.any fun z => PyData.eqv z d)
      | _, _ => none
    | some (.dK kvs) => (toKey x).map fun k => (look k kvs).isSome
    | some (.dT kvs) => (toTK x).map fun k => (look k kvs).isSome
    | none => none
  | _ => none
def isNon : PV → Bool
  | .non => true
  | _ => false
def cmpop (c : Cp) (x y : PV) (h : PH) : Option Bool := match c, x, y with
  | .lt, .int i, .int j => some (decide (i < j))
  | .le, .int i, .int j => some (decide (i ≤ j))
  | .gt, .int i, .int j => some (decide (j < i))
  | .ge, .int i, .int j => some (decide (j ≤ i))
  | .eq, x, y => pyEq h x y
  | .ne, x, y => (pyEq h x y).map (!·)
  | .is, x, .non => some (isNon x)
  | .isnot, x, .non => some (!isNon x)
  | .isin, x, y => isIn h x y
  | .notin, x, y => (isIn h x y).map (!·)
  | _, _, _ => none
def idxop (x y : PV) (h : PH) : Option PV := match x, y with
  | .tup xs, .int i => atI xs i
  | .obj n, y => match h[n]?, y with
    | some (.lst _ xs), .int i => atI xs i
    | some (.dK kvs), y => (toKey y).bind fun k => look k kvs
    | some (.dT kvs), y => (toTK y).bind fun k => look k kvs
    | _, _ => none
  | _, _ => none
def cutP (xs : List PV) (lo hi : Option Int) : List PV := (xs.drop (HT.sIx xs.length 0 lo)).take (HT.sIx xs.length xs.length hi - HT.sIx xs.length 0 lo)
def slcop (x : PV) (lo hi : Option Int) (h : PH) : Rs PV := match x with
  | .tup xs => .ok (.tup (cutP xs lo hi)) h
  | .obj n => match h[n]? with
    | some (.lst _ xs) => .ok (.obj h.length) (h ++ [.lst false (cutP xs lo hi)])
    | _ => .no
  | _ => .no
def lenOf (x : PV) (h : PH) : Option Nat := match x with
  | .tup xs => some xs.length
  | .obj n => match h[n]? with
    | some (.lst _ xs) => some xs.length
    | some (.dK kvs) => some kvs.length
    | some (.dT kvs) => some kvs.length
    | none => none
  | _ => none
def isTy (t : Ty) (x : PV) (h : PH) : Option Bool := match x with
  | .non => some false
  | .bl _ => some (match t with | .int => true | .bool => true | _ => false)
  | .int _ => some (match t with | .int => true | _ => false)
  | .str _ => some (match t with | .str => true | _ => false)
  | .tup _ => some (match t with | .tuple => true | _ => false)
  | .obj n => match h[n]? with
    | some (.lst _ _) => some (match t with | .list => true | _ => false)
    | some (.dK _) => some (match t with | .dict => true | _ => false)
    | some (.dT _) => some (match t with | .dict => true | _ => false)
    | none => none
def bfop (b : Bf) (vs : List PV) (h : PH) : Option PV := match b, vs with
  | .len, [x] => (lenOf x h).map fun (n : Nat) => PV.int (n : Int)
  | .int, [.int i] => some (.int i)
  | .int, [.bl b] => some (.int (if b then 1 else 0))
  | .min, [.int i, .int j] => some (.int (if j < i then j else i))
  | .max, [.int i, .int j] => some (.int (if j > i then j else i))
  | .isinst t, [x] => (isTy t x h).map .bl
  | _, _ => none
def mtop (m : Mt) (o : PV) (vs : List PV) (h : PH) : Rs PV := match o with
  | .obj n => match m, vs, h[n]? with
    | .append, [v], some (.lst false xs) => if xs.length < sizeLine then .ok .non (h.set n (.lst false (xs ++ [v]))) else .no
    | .get1, [k], some (.dK kvs) => match toKey k with | some k => .ok ((look k kvs).getD .non) h | none => .no
    | .get1, [k], some (.dT kvs) => match toTK k with | some k => .ok ((look k kvs).getD .non) h | none => .no
    | .get2, [k, d], some (.dK kvs) => match toKey k with | some k => .ok ((look k kvs).getD d) h | none => .no
    | .get2, [k, d], some (.dT kvs) => match toTK k with | some k => .ok ((look k kvs).getD d) h | none => .no
    | .index, [x], some (.lst _ _) => match toD h 60 x, toD h 60 (.obj n) with
      | some d, some (.list ds) => match ds.findIdx? (fun z => PyData.eqv z d) with
        | some j => .ok (.int j) h
        | none => .no
      | _, _ => .no
    | .pop, [], some (.lst false xs) => match xs[xs.length - 1]? with | some y => .ok y (h.set n (.lst false xs.dropLast)) | none => .no
    | _, _, _ => .no
  | _ => .no
/-- what a method is asked of -/
def mtTy (m : Mt) (o : PV) (h : PH) : Bool := match o with
  | .obj n => match m, h[n]? with
    | .append, some (.lst _ _) => true
    | .index, some (.lst _ _) => true
    | .pop, some (.lst _ _) => true
    | .get1, some (.dK _) => true
    | .get1, some (.dT _) => true
    | .get2, some (.dK _) => true
    | .get2, some (.dT _) => true
    | _, _ => false
  | _ => false
/-- o[i] = v -/
def setop (o i v : PV) (h : PH) : Option PH := match o with
  | .obj n => match h[n]?, i with
    | some (.lst false xs), .int k => (ixN xs.length k).map fun j => h.set n (.lst false (xs.set j v))
    | some (.dK kvs), i => (toKey i).bind fun k => if kvs.length < sizeLine then some (h.set n (.dK (put k v kvs))) else none
    | some (.dT kvs), i => (toTK i).bind fun k => if kvs.length < sizeLine then some (h.set n (.dT (put k v kvs))) else none
    | _, _ => none
  | _ => none

/-! ### what is walked -/
inductive It where
  | vals (xs : List PV) | live (n : Nat) | enm (it : It) | zip (a b : It) | rng (lo : Int) (n : Nat)
  | tvs (xs : List PV) | keys (ks : List Key)
def itAt : It → Nat → PH → Option (Option PV)
  | .vals xs, i, _ => some xs[i]?
  | .live n, i, h => match h[n]? with
    | some (.lst _ xs) => some xs[i]?
    | _ => none
  | .enm it, i, h => match itAt it i h with
    | some (some x) => some (some (.tup [.int i, x]))
    | r => r
  | .zip a b, i, h => match itAt a i h, itAt b i h with
    | some (some x), some (some y) => some (some (.tup [x, y]))
    | some _, some _ => some none
    | _, _ => none
  | .rng lo n, i, _ => some (if i < n then some (.int (lo + i)) else none)
  | .tvs _, _, _ => none
  | .keys _, _, _ => none
def enl (k : Nat) : List PV → List PV
  | [] => []
  | x :: xs => .tup [.int k, x] :: enl (k + 1) xs
def itList : It → PH → Option (List PV)
  | .vals xs, _ => some xs
  | .live n, h => match h[n]? with
    | some (.lst _ xs) => some xs
    | _ => none
  | .enm it, h => (itList it h).map (enl 0)
  | .zip a b, h => match itList a h, itList b h with
    | some xs, some ys => some (List.zipWith (fun x y => .tup [x, y]) xs ys)
    | _, _ => none
  | .rng lo n, _ => some ((List.range n).map fun i => .int (lo + (i : Nat)))
  | .tvs xs, _ => some xs
  | .keys ks, _ => some (ks.map ofKey)
/-- what a consumer is handed: a tuple, a list, a dict's keys -/
def toItC (x : PV) (h : PH) : Option It := match x with
  | .tup xs => some (.tvs xs)
  | .obj n => match h[n]? with
    | some (.lst _ _) => some (.live n)
    | some (.dK kvs) => some (.keys (kvs.map (·.1)))
    | _ => none
  | _ => none
def toIt (x : PV) (h : PH) : Option It := match x with
  | .tup xs => some (.vals xs)
  | .obj n => match h[n]? with
    | some (.lst _ _) => some (.live n)
    | _ => none
  | _ => none
def zipIt (x y : PV) (h : PH) : Option It := match toIt x h, toIt y h with
  | some (.live m), some (.live n) => some (.zip (.live m) (.live n))
  | some (.vals xs), some (.vals ys) => some (.zip (.vals xs) (.vals ys))
  | _, _ => none
def intsOf : List PV → Option (List Int)
  | [] => some []
  | .int i :: r => (intsOf r).map (i :: ·)
  | _ => none
def blsOf : List PV → Option (List Bool)
  | [] => some []
  | .bl b :: r => (blsOf r).map (b :: ·)
  | _ => none
def insI (x : Int) : List Int → List Int
  | [] => [x]
  | y :: ys => if x ≤ y then x :: y :: ys else y :: insI x ys
def sortI : List Int → List Int
  | [] => []
  | x :: xs => insI x (sortI xs)
def conop (f : Fo) (xs : List PV) (h : PH) : Rs PV := match f with
  | .tuple => if xs.length ≤ sizeLine then .ok (.tup xs) h else .no
  | .list => if xs.length ≤ sizeLine then .ok (.obj h.length) (h ++ [.lst false xs]) else .no
  | .all => match blsOf xs with | some bs => .ok (.bl (bs.all id)) h | none => .no
  | .any => match blsOf xs with | some bs => .ok (.bl (bs.any id)) h | none => .no
  | .sum => match intsOf xs with | some ns => .ok (.int ns.sum) h | none => .no
  | .sorted => match intsOf xs with | some ns => if ns.length ≤ sizeLine then .ok (.obj h.length) (h ++ [.lst false ((sortI ns).map .int)]) else .no | none => .no
  | .min => match intsOf xs with | some (n :: ns) => .ok (.int (ns.foldl min n)) h | _ => .no
  | .max => match intsOf xs with | some (n :: ns) => .ok (.int (ns.foldl max n)) h | _ => .no

def intK : List Key → Option (List Int)
  | [] => some []
  | .inl i :: r => (intK r).map (i :: ·)
  | _ => none
def conW (f : Fo) (w : It) (h : PH) : Rs PV := match w with
  | .keys ks => match f with
    | .sorted => match intK ks with | some ns => if ns.length < 64 then .ok (.obj h.length) (h ++ [.lst false ((sortI ns).map .int)]) else .no | none => .no
    | .list => if ks.length ≤ sizeLine then .ok (.obj h.length) (h ++ [.lst false (ks.map ofKey)]) else .no
    | _ => .no
  | .tvs xs => match f with
    | .tuple => .ok (.tup xs) h
    | .list => if xs.length ≤ sizeLine then .ok (.obj h.length) (h ++ [.lst false xs]) else .no
    | _ => .no
  | .rng lo n => match f with
    | .tuple => if -(2 ^ 62) ≤ lo ∧ lo + n < 2 ^ 62 ∧ n ≤ 16777216 then .ok (.tup ((List.range n).map fun i => .int (lo + (i : Nat)))) h else .no
    | .list => if -(2 ^ 62) ≤ lo ∧ lo + n < 2 ^ 62 ∧ n ≤ 16777216 then .ok (.obj h.length) (h ++ [.lst false ((List.range n).map fun i => .int (lo + (i : Nat)))]) else .no
    | _ => .no
  | .zip (.vals xs) (.vals ys) => match f with
    | .tuple => .ok (.tup (List.zipWith (fun x y => .tup [x, y]) xs ys)) h
    | _ => .no
  | .zip .. => .no
  | .enm _ => .no
  | w => match itList w h with
    | some xs => conop f xs h
    | none => .no

/-! ### targets -/
mutual
def bindT : Tg → PV → Env → Option Env
  | .nm i, v, r => some (r.set i (some v))
  | .tup ts, .tup xs, r => bindTs ts xs r
  | .tup _, _, _ => none
def bindTs : List Tg → List PV → Env → Option Env
  | [], [], r => some r
  | t :: ts, x :: xs, r => match bindT t x r with
    | some r' => bindTs ts xs r'
    | none => none
  | _, _, _ => none
end
def wipeP (r : Env) : List Nat → Env
  | [] => r
  | v :: vs => (wipeP r vs).set v none

/-! ### loops -/
inductive Lp (σ ρ : Type) where
  | go (s : σ) (h : PH) | out (r : ρ)
def loopIt {σ ρ : Type} (it : It) (step : PV → σ → PH → Lp σ ρ) (done : σ → PH → ρ) (bad : ρ) : Nat → Nat → σ → PH → ρ
  | 0, _, _, _ => bad
  | n + 1, i, s, h => match itAt it i h with
    | none => bad
    | some none => done s h
    | some (some x) => match step x s h with
      | .go s' h' => loopIt it step done bad n (i + 1) s' h'
      | .out r => r
def loopW {σ ρ : Type} (step : σ → PH → Lp σ ρ) (bad : ρ) : Nat → σ → PH → ρ
  | 0, _, _ => bad
  | n + 1, s, h => match step s h with
    | .go s' h' => loopW step bad n s' h'
    | .out r => r

/-! ### the interpreter -/
structure Cc where
  call : Nat → List PV → PH → Rs PV
  glb : Nat → Option PV
  fuel : Nat

def tst (x : Rs PV) : Rs Bool := match x with
  | .ok (.bl b) h => .ok b h
  | .ok _ _ => .no
  | .ex c v h => .ex c v h
  | .no => .no
def optInt (x : Rs PV) : Rs (Option Int) := match x with
  | .ok (.int i) h => .ok (some i) h
  | .ok _ _ => .no
  | .ex c v h => .ex c v h
  | .no => .no
def E.isNop : E → Bool
  | .nop => true
  | _ => false
def ofOpt (h : PH) : Option PV → Rs PV
  | some v => .ok v h
  | none => .no
def ofOptB (h : PH) : Option Bool → Rs PV
  | some v => .ok (.bl v) h
  | none => .no
def ofOptI (h : PH) : Option It → Rs It
  | some v => .ok v h
  | none => .no
def pairsK : List PV → List (Key × PV) → Option (List (Key × PV))
  | [], acc => some acc
  | k :: v :: r, acc => match toKey k with
    | some k => pairsK r (put k v acc)
    | none => none
  | _, _ => none
/-- one turn of a comprehension -/
def compStep (t : Tg) (own : List Nat) (r : Env) (cond elt : Env → PH → Rs PV) (x : PV) (acc : List PV) (h : PH) : Lp (List PV) (Rs (List PV)) :=
  match bindT t x (wipeP r own) with
  | none => .out .no
  | some r' => match tst (cond r' h) with
    | .ok true h1 => match elt r' h1 with
      | .ok y h2 => if acc.length < sizeLine then .go (acc ++ [y]) h2 else .out .no
      | _ => .out .no
    | .ok false h1 => .go acc h1
    | _ => .out .no
def newList (xs : Rs (List PV)) : Rs PV := xs.bnd fun ys h => .ok (.obj h.length) (h ++ [.lst false ys])
def valsIt (xs : Rs (List PV)) : Rs It := xs.bnd fun ys h => .ok (.vals ys) h
def rngOf (x y : PV) (h : PH) : Rs It := match x, y with
  | .int i, .int j => if -(2 ^ 62) ≤ i ∧ i < 2 ^ 62 ∧ -(2 ^ 62) ≤ j ∧ j < 2 ^ 62 then .ok (.rng i (j - i).toNat) h else .no
  | _, _ => .no
def pick (vs : List PV) (ord : List Nat) : Option (List PV) := optAll (fun i => vs[i]?) ord

mutual
def evE (c : Cc) : E → Env → PH → Rs PV
  | .cst v, _, h => .ok v h
  | .var i, r, h => match r[i]? with
    | some (some v) => .ok v h
    | _ => .no
  | .glb g, _, h => ofOpt h (c.glb g)
  | .tup es, r, h => (evL c es r h).bnd fun vs h => if vs.length ≤ sizeLine then .ok (.tup vs) h else .no
  | .lst es, r, h => (evL c es r h).bnd fun vs h => if vs.length ≤ sizeLine then .ok (.obj h.length) (h ++ [.lst false vs]) else .no
  | .dnew t, _, h => .ok (.obj h.length) (h ++ [if t then .dT [] else .dK []])
  | .dct es, r, h => (evL c es r h).bnd fun vs h => match pairsK vs [] with
    | some kvs => if vs.length ≤ 30 then .ok (.obj h.length) (h ++ [.dK kvs]) else .no
    | none => .no
  | .bin o a b, r, h => (evE c a r h).bnd fun x h => (evE c b r h).bnd fun y h => binop o x y h
  | .neg a, r, h => (evE c a r h).bnd fun x h => match x with
    | .int i => .ok (.int (-i)) h
    | _ => .no
  | .not a, r, h => (tst (evE c a r h)).bnd fun x h => .ok (.bl (!x)) h
  | .and a b, r, h => (tst (evE c a r h)).bnd fun x h => if x = true then (tst (evE c b r h)).bnd fun y h => .ok (.bl y) h else .ok (.bl false) h
  | .or a b, r, h => (tst (evE c a r h)).bnd fun x h => if x = true then .ok (.bl true) h else (tst (evE c b r h)).bnd fun y h => .ok (.bl y) h
  | .cmp o a b, r, h => (evE c a r h).bnd fun x h => (evE c b r h).bnd fun y h => ofOptB h (cmpop o x y h)
  | .chn o p a b e, r, h => (evE c a r h).bnd fun x h => (evE c b r h).bnd fun y h => match cmpop o x y h with
    | some true => (evE c e r h).bnd fun z h => ofOptB h (cmpop p y z h)
    | some false => .ok (.bl false) h
    | none => .no
  | .ite t a b, r, h => (tst (evE c t r h)).bnd fun x h => if x = true then evE c a r h else evE c b r h
  | .idx a b, r, h => (evE c a r h).bnd fun x h => (evE c b r h).bnd fun y h => ofOpt h (idxop x y h)
  | .slc a lo hi, r, h => (evE c a r h).bnd fun x h =>
    (if lo.isNop then .ok none h else optInt (evE c lo r h)).bnd fun l h =>
    (if hi.isNop then .ok none h else optInt (evE c hi r h)).bnd fun u h => slcop x l u h
  | .call f es, r, h => (evL c es r h).bnd fun vs h => c.call f vs h
  | .callK f es ks ord, r, h => (evL c es r h).bnd fun vs h => (evL c ks r h).bnd fun us h => match pick (vs ++ us) ord with
    | some ws => c.call f ws h
    | none => .no
  | .bf b es, r, h => (evL c es r h).bnd fun vs h => ofOpt h (bfop b vs h)
  | .mt m o es, r, h => (evE c o r h).bnd fun x h => if mtTy m x h = true then (evL c es r h).bnd fun vs h => mtop m x vs h else .no
  | .comp elt t it cond own, r, h => (evI c it r h).bnd fun w h =>
    newList (loopIt w (compStep t own r (fun r h => evE c cond r h) (fun r h => evE c elt r h)) (fun acc h => .ok acc h) .no c.fuel 0 [] h)
  | .con f it, r, h => (evI c it r h).bnd fun w h => conW f w h
  | .nop, _, _ => .no
  | .itv _, _, _ => .no
  | .its _, _, _ => .no
  | .itc .., _, _ => .no
  | .rng .., _, _ => .no
  | .enm .., _, _ => .no
  | .zip .., _, _ => .no
def evL (c : Cc) : List E → Env → PH → Rs (List PV)
  | [], _, h => .ok [] h
  | e :: es, r, h => (evE c e r h).bnd fun v h => (evL c es r h).bnd fun vs h => .ok (v :: vs) h
def evI (c : Cc) : E → Env → PH → Rs It
  | .itv e, r, h => (evE c e r h).bnd fun x h => ofOptI h (toIt x h)
  | .its e, r, h => (evE c e r h).bnd fun x h => ofOptI h (toItC x h)
  | .itc elt t it cond own, r, h => (evI c it r h).bnd fun w h =>
    valsIt (loopIt w (compStep t own r (fun r h => evE c cond r h) (fun r h => evE c elt r h)) (fun acc h => .ok acc h) .no c.fuel 0 [] h)
  | .rng a b, r, h => (evE c a r h).bnd fun x h => (evE c b r h).bnd fun y h => rngOf x y h
  | .enm e, r, h => (evE c e r h).bnd fun x h => ofOptI h ((toIt x h).map .enm)
  | .zip a b, r, h => (evE c a r h).bnd fun x h => (evE c b r h).bnd fun y h => ofOptI h (zipIt x y h)
  | _, _, _ => .no
end

mutual
def hev (fs : List PV) : HE → Option PV
  | .cst v => some v
  | .fld i => fs[i]?
  | .tup es => (hevs fs es).map .tup
def hevs (fs : List PV) : List HE → Option (List PV)
  | [] => some []
  | e :: es => match hev fs e, hevs fs es with
    | some v, some vs => some (v :: vs)
    | _, _ => none
end
/-- the except clauses, asked in turn -/
def handle (hs : List Hd) (c : Nat) (fs : List PV) (r : Env) (h : PH) : Rt := match hs with
  | [] => .ex c fs r h
  | d :: ds => if d.cls = c then match d.act with
      | .ret e => match hev fs e with | some v => .rt v h | none => .no
      | .asg i e => match hev fs e with | some v => .nx (r.set i (some v)) h | none => .no
    else handle ds c fs r h
def augop (o : Op) (i : Int) (y : PV) : Option PV := match o, y with
  | .add, .int j => some (.int (i + j))
  | .sub, .int j => some (.int (i - j))
  | _, _ => none

mutual
def exS (c : Cc) : S → Env → PH → Rt
  | .pass, r, h => .nx r h
  | .expr e, r, h => (evE c e r h).st r fun _ h => .nx r h
  | .asg t e, r, h => (evE c e r h).st r fun v h => match bindT t v r with
    | some r' => .nx r' h
    | none => .no
  | .set o i e, r, h => (evE c e r h).st r fun v h => (evE c o r h).st r fun x h => (evE c i r h).st r fun y h => match setop x y v h with
    | some h => .nx r h
    | none => .no
  | .aug i o e, r, h => match r[i]? with
    | some (some (.int k)) => (evE c e r h).st r fun y h => match augop o k y with
      | some z => .nx (r.set i (some z)) h
      | none => .no
    | _ => .no
  | .ret e, r, h => (evE c e r h).st r fun v h => .rt v h
  | .retN, _, h => .rt .non h
  | .ite t a b, r, h => (tst (evE c t r h)).st r fun x h => if x = true then exB c a r h else exB c b r h
  | .whl t b, r, h => loopW (fun r h => match tst (evE c t r h) with
      | .ok true h1 => match exB c b r h1 with
        | .nx r' h' => .go r' h'
        | .ct r' h' => .go r' h'
        | .bk r' h' => .out (.nx r' h')
        | z => .out z
      | .ok false h1 => .out (.nx r h1)
      | .ex k vs h1 => .out (.ex k vs r h1)
      | .no => .out .no) .no c.fuel r h
  | .forS t it b, r, h => (evI c it r h).st r fun w h => loopIt w (fun x r h => match bindT t x r with
      | none => .out .no
      | some r1 => match exB c b r1 h with
        | .nx r' h' => .go r' h'
        | .ct r' h' => .go r' h'
        | .bk r' h' => .out (.nx r' h')
        | z => .out z) (fun r h => .nx r h) .no c.fuel 0 r h
  | .brk, r, h => .bk r h
  | .cnt, r, h => .ct r h
  | .raise k es, r, h => (evL c es r h).st r fun vs h => .ex k vs r h
  | .bad, _, _ => .no
  | .tryN b, r, h => match exB c b r h with
    | .ex .. => .no
    | z => z
  | .tryS b hs, r, h => match exB c b r h with
    | .ex k vs r' h' => handle hs k vs r' h'
    | z => z
def exB (c : Cc) : List S → Env → PH → Rt
  | [], r, h => .nx r h
  | s :: ss, r, h => match exS c s r h with
    | .nx r' h' => exB c ss r' h'
    | z => z
end

/-! ### calls -/
mutual
def PV.old (n : Nat) : PV → Bool
  | .obj a => decide (a < n)
  | .tup xs => oldL n xs
  | _ => true
def oldL (n : Nat) : List PV → Bool
  | [] => true
  | x :: xs => x.old n && oldL n xs
end
def PO.old (n : Nat) : PO → Bool
  | .lst _ xs => oldL n xs
  | .dK kvs => oldL n (kvs.map (·.2))
  | .dT kvs => oldL n (kvs.map (·.2))
/-- what a call leaves: what it made and nobody holds goes -/
def gc (n : Nat) (v : PV) (h : PH) : PH := if (v.old n && (h.take n).all (·.old n)) = true then h.take n else h
def gcL (n : Nat) (vs : List PV) (h : PH) : PH := if (oldL n vs && (h.take n).all (·.old n)) = true then h.take n else h

structure FD where
  np : Nat
  ns : Nat
  body : List S
structure Prog where
  defs : Nat → Option FD
  glb : Nat → Option PV
  fuel : Nat
def outOf (n : Nat) : Rt → Rs PV
  | .nx _ h => .ok .non (gc n .non h)
  | .rt v h => .ok v (gc n v h)
  | .ex c vs _ h => .ex c vs (gcL n vs h)
  | _ => .no
def callF (P : Prog) : Nat → Nat → List PV → PH → Rs PV
  | 0, _, _, _ => .no
  | k + 1, f, vs, h => match P.defs f with
    | none => .no
    | some d => if vs.length = d.np then outOf h.length (exB ⟨callF P k, P.glb, P.fuel⟩ d.body (vs.map some ++ List.replicate (d.ns - d.np) none) h) else .no
def Prog.cc (P : Prog) (k : Nat) : Cc := ⟨callF P k, P.glb, P.fuel⟩

/-! a trial -/
def tryP : Prog := ⟨fun n => match n with
  | 0 => some ⟨1, 3, [.asg (.tup [.nm 1]) (.tup [.cst (.int 0)]), .forS (.nm 2) (.rng (.cst (.int 0)) (.var 0)) [.aug 1 .add (.var 2)], .ret (.var 1)]⟩
  | _ => none, fun _ => none, 1000000⟩
theorem try1 : (match callF tryP 1 0 [.int 1000] [] with | .ok (.int i) [] => i == 499500 | _ => false) = true := by decide +kernel
end EV
end
section
set_option Elab.async false
set_option linter.all false
set_option maxRecDepth 100000
/-! EvRep: how the own values and the own heap stand in the hand layer's heap. -/
namespace EV
open PySem L2

section

mutual
inductive RepV (H : Hp) (as : List Addr) : PV → V → Prop
  | non : RepV H as .non .non
  | bl (b : Bool) : RepV H as (.bl b) (.bl b)
  | int (i : Int) : RepV H as (.int i) (.int i)
  | str (s : Str) : RepV H as (.str s) (.str s)
  | tup {xs : List PV} {vs : List V} {a : Addr} : H a = some (.tup vs) → RepL H as xs vs → RepV H as (.tup xs) (.ref a)
  | obj {n : Nat} {a : Addr} : as[n]? = some a → RepV H as (.obj n) (.ref a)
inductive RepL (H : Hp) (as : List Addr) : List PV → List V → Prop
  | nil : RepL H as [] []
  | cons {x : PV} {xs : List PV} {v : V} {vs : List V} : RepV H as x v → RepL H as xs vs → RepL H as (x :: xs) (v :: vs)
end
def RepKV {κ : Type} (H : Hp) (as : List Addr) : List (κ × PV) → List (κ × V) → Prop := Paired fun p q => p.1 = q.1 ∧ RepV H as p.2 q.2
def RepO (H : Hp) (as : List Addr) : PO → HO → Prop
  | .lst fz xs, ho => ∃ vs, RepL H as xs vs ∧ xs.length ≤ sizeLine ∧ if fz = true then ∃ o, ho = .frz o (.lst vs) else ho = .lst vs
  | .dK kvs, ho => ∃ ks, ho = .dK ks ∧ RepKV H as kvs ks
  | .dT kvs, ho => ∃ ks, ho = .dT ks ∧ RepKV H as kvs ks
structure RepH (H : Hp) (as : List Addr) (h : PH) : Prop where
  len : as.length = h.length
  nd : as.Nodup
  at_ : ∀ (n : Nat) (o : PO) (a : Addr), h[n]? = some o → as[n]? = some a → ∃ ho, H a = some ho ∧ RepO H as o ho
/-- what was there is there: the own objects apart, all that is tracked is as it was -/
structure Ext (H : Hp) (as : List Addr) (H' : Hp) (as' : List Addr) : Prop where
  more : ∃ nw, as' = as ++ nw ∧ ∀ a ∈ nw, H a = none
  keep : ∀ a o, H a = some o → a ∉ as → H' a = some o
  there : ∀ a o, H a = some o → ∃ o', H' a = some o'
structure Rp (H : Hp) (as : List Addr) (r : Env) (σ : St) (h : PH) : Prop where
  len : σ.length = r.length
  env : ∀ (i : Nat) (v : PV), r[i]? = some (some v) → ∃ u, σ[i]? = some (some u) ∧ RepV H as v u
  hp : RepH H as h
end

section
variable {K : PySem.W.Frag} {H H' H1 H2 : Hp} {as as' as1 as2 : List Addr} {h h' : PH}
theorem Ext.refl : Ext H as H as := ⟨⟨[], by simp⟩, fun _ _ e _ => e, fun _ o e => ⟨o, e⟩⟩
theorem Ext.trans (e1 : Ext H as H1 as1) (e2 : Ext H1 as1 H2 as2) : Ext H as H2 as2 := by
  obtain ⟨⟨n1, x1, f1⟩, k1, t1⟩ := e1
  obtain ⟨⟨n2, x2, f2⟩, k2, t2⟩ := e2
  have key : ∀ a o, H a = some o → a ∉ as → a ∉ as1 := fun a o q hn hm => by
    rw [x1] at hm
    rcases List.mem_append.mp hm with z | z
    · exact hn z
    · rw [f1 a z] at q; cases q
  refine ⟨⟨n1 ++ n2, by rw [x2, x1, List.append_assoc], fun a ha => ?_⟩, fun a o q hn => k2 a o (k1 a o q hn) (key a o q hn), fun a o q => ?_⟩
  · rcases List.mem_append.mp ha with z | z
    · exact f1 a z
    · cases q : H a with
      | none => rfl
      | some o =>
        obtain ⟨o', q'⟩ := t1 a o q
        rw [f2 a z] at q'; cases q'
  · obtain ⟨o', q'⟩ := t1 a o q
    exact t2 a o' q'
theorem Ext.get (e : Ext H as H' as') {n : Nat} {a : Addr} (q : as[n]? = some a) : as'[n]? = some a := by
  obtain ⟨⟨nw, x, _⟩, _, _⟩ := e
  rw [x, List.getElem?_append_left (List.getElem?_eq_some_iff.mp q).1]
  exact q
/-- something stands beside -/
theorem Ext.beside {p : Addr} {o : HO} (hp : H p = none) : Ext H as (upd H p o) as :=
  ⟨⟨[], by simp⟩, fun a q e _ => by rw [upd_ne (ne_of_none e hp)]; exact e, fun a q e => ⟨q, by rw [upd_ne (ne_of_none e hp)]; exact e⟩⟩
theorem Ext.new {p : Addr} {o : HO} (hp : H p = none) : Ext H as (upd H p o) (as ++ [p]) :=
  ⟨⟨[p], rfl, fun a ha => by simp at ha; subst ha; exact hp⟩, fun a q e _ => by rw [upd_ne (ne_of_none e hp)]; exact e, fun a q e => ⟨q, by rw [upd_ne (ne_of_none e hp)]; exact e⟩⟩
theorem Ext.write {n : Nat} {a : Addr} {o : HO} (q : as[n]? = some a) : Ext H as (upd H a o) as :=
  ⟨⟨[], by simp⟩, fun b u e hb => by rw [upd_ne (fun z => hb (by rw [z]; exact List.mem_of_getElem? q))]; exact e, fun b u e => by
    by_cases hb : b = a
    · subst hb; exact ⟨_, upd_same⟩
    · exact ⟨u, by rw [upd_ne hb]; exact e⟩⟩
theorem Ext.same (s : Same H H') : Ext H as H' as := ⟨⟨[], by simp⟩, fun a o e _ => s a o e, fun a o e => ⟨o, s a o e⟩⟩

/-- no tuple among the own objects -/
theorem RepH.noTup (r : RepH H as h) {a : Addr} (ha : a ∈ as) : (∀ vs, H a ≠ some (.tup vs)) ∧ ∀ o vs, H a ≠ some (.frz o (.tup vs)) := by
  obtain ⟨n, q⟩ := List.getElem?_of_mem ha
  have hl : n < h.length := by rw [← r.len]; exact (List.getElem?_eq_some_iff.mp q).1
  obtain ⟨ho, e, ro⟩ := r.at_ n h[n] a (List.getElem?_eq_getElem hl) q
  rw [e]
  cases hx : h[n] with
  | lst fz xs =>
    rw [hx] at ro
    obtain ⟨vs, _, _, z⟩ := ro
    cases fz with
    | true => obtain ⟨o, rfl⟩ := z; exact ⟨fun vs c => (by cases c), fun o vs c => (by cases c)⟩
    | false => cases z; exact ⟨fun vs c => (by cases c), fun o vs c => (by cases c)⟩
  | dK kvs =>
    rw [hx] at ro
    obtain ⟨ks, rfl, _⟩ := ro
    exact ⟨fun vs c => (by cases c), fun o vs c => (by cases c)⟩
  | dT kvs =>
    rw [hx] at ro
    obtain ⟨ks, rfl, _⟩ := ro
    exact ⟨fun vs c => (by cases c), fun o vs c => (by cases c)⟩
theorem tup_ext {a : Addr} {vs : List V} (q : H a = some (.tup vs)) (r : RepH H as h) (e : Ext H as H' as') : H' a = some (.tup vs) := e.keep _ _ q fun hm => (r.noTup hm).1 _ q
mutual
theorem RepV.ext (r : RepH H as h) (e : Ext H as H' as') : ∀ {x : PV} {v : V}, RepV H as x v → RepV H' as' x v
  | _, _, .non => .non
  | _, _, .bl b => .bl b
  | _, _, .int i => .int i
  | _, _, .str s => .str s
  | _, _, .tup q l => .tup (tup_ext q r e) (RepL.ext r e l)
  | _, _, .obj q => .obj (e.get q)
theorem RepL.ext (r : RepH H as h) (e : Ext H as H' as') : ∀ {x : List PV} {v : List V}, RepL H as x v → RepL H' as' x v
  | _, _, .nil => .nil
  | _, _, .cons a b => .cons (RepV.ext r e a) (RepL.ext r e b)
end
theorem RepKV.ext {κ : Type} (r : RepH H as h) (e : Ext H as H' as') : ∀ {x : List (κ × PV)} {v : List (κ × V)}, RepKV H as x v → RepKV H' as' x v
  | _, _, .nil => .nil
  | _, _, .cons a b => .cons ⟨a.1, a.2.ext r e⟩ (RepKV.ext r e b)
theorem RepO.ext (r : RepH H as h) (e : Ext H as H' as') {o : PO} {ho : HO} (q : RepO H as o ho) : RepO H' as' o ho := by
  cases o with
  | lst fz xs => obtain ⟨vs, l, z, c⟩ := q; exact ⟨vs, l.ext r e, z, c⟩
  | dK kvs => obtain ⟨ks, c, l⟩ := q; exact ⟨ks, c, l.ext r e⟩
  | dT kvs => obtain ⟨ks, c, l⟩ := q; exact ⟨ks, c, l.ext r e⟩
theorem RepL.length : ∀ {xs : List PV} {vs : List V}, RepL H as xs vs → xs.length = vs.length
  | _, _, .nil => rfl
  | _, _, .cons _ b => by simp [RepL.length b]
theorem RepL.get : ∀ {xs : List PV} {vs : List V} {i : Nat} {x : PV}, RepL H as xs vs → xs[i]? = some x → ∃ v, vs[i]? = some v ∧ RepV H as x v
  | _, _, _, _, .nil, e => by simp at e
  | _, _, 0, _, .cons a b, e => by simp at e; subst e; exact ⟨_, by simp, a⟩
  | _, _, i + 1, x, .cons a b, e => by
    obtain ⟨v, q, r⟩ := RepL.get (i := i) (x := x) b (by simpa using e)
    exact ⟨v, by simpa using q, r⟩
theorem RepL.getV : ∀ {xs : List PV} {vs : List V} {i : Nat} {v : V}, RepL H as xs vs → vs[i]? = some v → ∃ x, xs[i]? = some x ∧ RepV H as x v
  | _, _, _, _, .nil, e => by simp at e
  | _, _, 0, _, .cons a b, e => by simp at e; subst e; exact ⟨_, by simp, a⟩
  | _, _, i + 1, x, .cons a b, e => by
    obtain ⟨v, q, r⟩ := RepL.getV (i := i) (v := x) b (by simpa using e)
    exact ⟨v, by simpa using q, r⟩
theorem RepL.append : ∀ {xs ys : List PV} {vs ws : List V}, RepL H as xs vs → RepL H as ys ws → RepL H as (xs ++ ys) (vs ++ ws)
  | _, _, _, _, .nil, b => b
  | _, _, _, _, .cons a r, b => .cons a (RepL.append r b)
theorem RepL.drop : ∀ (n : Nat) {xs : List PV} {vs : List V}, RepL H as xs vs → RepL H as (xs.drop n) (vs.drop n)
  | 0, _, _, r => r
  | _ + 1, _, _, .nil => .nil
  | n + 1, _, _, .cons _ b => RepL.drop n b
theorem RepL.take : ∀ (n : Nat) {xs : List PV} {vs : List V}, RepL H as xs vs → RepL H as (xs.take n) (vs.take n)
  | 0, _, _, _ => .nil
  | _ + 1, _, _, .nil => .nil
  | n + 1, _, _, .cons a b => .cons a (RepL.take n b)
theorem RepL.set {x : PV} {v : V} (q : RepV H as x v) : ∀ (n : Nat) {xs : List PV} {vs : List V}, RepL H as xs vs → RepL H as (xs.set n x) (vs.set n v)
  | _, _, _, .nil => .nil
  | 0, _, _, .cons _ b => .cons q b
  | n + 1, _, _, .cons a b => .cons a (RepL.set q n b)
theorem RepL.dropLast : ∀ {xs : List PV} {vs : List V}, RepL H as xs vs → RepL H as xs.dropLast vs.dropLast
  | _, _, .nil => .nil
  | _, _, .cons a .nil => .nil
  | _, _, .cons a (.cons b c) => .cons a (RepL.dropLast (.cons b c))
theorem RepKV.length {κ : Type} {kvs : List (κ × PV)} {ks : List (κ × V)} (r : RepKV H as kvs ks) : kvs.length = ks.length := Paired.length r

/-- the own object at n -/
theorem RepH.obj (r : RepH H as h) {n : Nat} {o : PO} {a : Addr} (q : h[n]? = some o) (qa : as[n]? = some a) : ∃ ho, H a = some ho ∧ RepO H as o ho := r.at_ n o a q qa
theorem RepH.lst (r : RepH H as h) {n : Nat} {fz : Bool} {xs : List PV} {a : Addr} (q : h[n]? = some (.lst fz xs)) (qa : as[n]? = some a) :
    ∃ vs, RepL H as xs vs ∧ xs.length ≤ sizeLine ∧ SqL K H a vs ∧ (fz = false → H a = some (.lst vs)) := by
  obtain ⟨ho, e, vs, l, z, c⟩ := r.at_ n _ a q qa
  cases fz with
  | true => obtain ⟨o, rfl⟩ := c; exact ⟨vs, l, z, .inl (.inr ⟨o, e⟩), fun w => by cases w⟩
  | false => cases c; exact ⟨vs, l, z, .inl (.inl e), fun _ => e⟩
theorem RepH.dk (r : RepH H as h) {n : Nat} {kvs : List (Key × PV)} {a : Addr} (q : h[n]? = some (.dK kvs)) (qa : as[n]? = some a) :
    ∃ ks, H a = some (.dK ks) ∧ RepKV H as kvs ks := by
  obtain ⟨ho, e, ks, rfl, l⟩ := r.at_ n _ a q qa
  exact ⟨ks, e, l⟩
theorem RepH.dt (r : RepH H as h) {n : Nat} {kvs : List (List Key × PV)} {a : Addr} (q : h[n]? = some (.dT kvs)) (qa : as[n]? = some a) :
    ∃ ks, H a = some (.dT ks) ∧ RepKV H as kvs ks := by
  obtain ⟨ho, e, ks, rfl, l⟩ := r.at_ n _ a q qa
  exact ⟨ks, e, l⟩
/-- what keeps the own objects -/
theorem RepH.ext (r : RepH H as h) (e : Ext H as H' as) (own : ∀ a ∈ as, H' a = H a) : RepH H' as h := by
  refine ⟨r.len, r.nd, fun n o a q qa => ?_⟩
  obtain ⟨ho, e1, ro⟩ := r.at_ n o a q qa
  exact ⟨ho, (own a (List.mem_of_getElem? qa)).trans e1, ro.ext r e⟩
theorem RepH.beside (r : RepH H as h) {p : Addr} {o : HO} (hp : H p = none) : RepH (upd H p o) as h := by
  refine r.ext (Ext.beside hp) fun a ha => ?_
  obtain ⟨n, q⟩ := List.getElem?_of_mem ha
  have hl : n < h.length := by rw [← r.len]; exact (List.getElem?_eq_some_iff.mp q).1
  obtain ⟨ho, e, _⟩ := r.at_ n h[n] a (List.getElem?_eq_getElem hl) q
  exact upd_ne (ne_of_none e hp)
theorem RepH.there (r : RepH H as h) {a : Addr} (ha : a ∈ as) : ∃ o, H a = some o := by
  obtain ⟨n, q⟩ := List.getElem?_of_mem ha
  have hl : n < h.length := by rw [← r.len]; exact (List.getElem?_eq_some_iff.mp q).1
  obtain ⟨ho, e, _⟩ := r.at_ n h[n] a (List.getElem?_eq_getElem hl) q
  exact ⟨ho, e⟩
theorem RepH.new (r : RepH H as h) {p : Addr} {o : HO} {po : PO} (hp : H p = none) (ro : RepO H as po o) : RepH (upd H p o) (as ++ [p]) (h ++ [po]) := by
  have e : Ext H as (upd H p o) (as ++ [p]) := Ext.new hp
  have hn : p ∉ as := fun hm => by
    obtain ⟨o, q⟩ := r.there hm
    rw [hp] at q; cases q
  refine ⟨by simp [r.len], ?_, fun n u a q qa => ?_⟩
  · rw [List.nodup_append]
    exact ⟨r.nd, by simp, fun a ha b hb => by simp at hb; subst hb; exact fun z => hn (z ▸ ha)⟩
  · by_cases hl : n < as.length
    · rw [List.getElem?_append_left hl] at qa
      rw [List.getElem?_append_left (by rw [← r.len]; exact hl)] at q
      obtain ⟨ho, e1, ro1⟩ := r.at_ n u a q qa
      exact ⟨ho, by rw [upd_ne (ne_of_none e1 hp)]; exact e1, ro1.ext r e⟩
    · have hl2 : as.length ≤ n := Nat.le_of_not_lt hl
      rw [List.getElem?_append_right hl2] at qa
      rw [List.getElem?_append_right (by rw [← r.len]; exact hl2), ← r.len] at q
      cases hk : n - as.length with
      | zero =>
        rw [hk] at q qa
        simp at q qa
        subst q qa
        exact ⟨o, upd_same, ro.ext r e⟩
      | succ m =>
        rw [hk] at qa
        simp at qa
theorem RepH.write (r : RepH H as h) {n : Nat} {a : Addr} {o : HO} {po : PO} (qa : as[n]? = some a) (ro : RepO H as po o) : RepH (upd H a o) as (h.set n po) := by
  have e : Ext H as (upd H a o) as := Ext.write qa
  refine ⟨by simp [r.len], r.nd, fun m u b q qb => ?_⟩
  by_cases hm : m = n
  · subst hm
    rw [qa] at qb; cases qb
    have hl : m < h.length := by rw [← r.len]; exact (List.getElem?_eq_some_iff.mp qa).1
    rw [List.getElem?_set_self hl] at q; cases q
    exact ⟨o, upd_same, ro.ext r e⟩
  · rw [List.getElem?_set_ne (Ne.symm hm)] at q
    obtain ⟨ho, e1, ro1⟩ := r.at_ m u b q qb
    have hb : b ≠ a := fun z => by
      subst z
      exact hm ((List.getElem?_inj (List.getElem?_eq_some_iff.mp qb).1 r.nd).mp (qb.trans qa.symm))
    exact ⟨ho, by rw [upd_ne hb]; exact e1, ro1.ext r e⟩
theorem Rp.to {r : Env} {σ : St} (p : Rp H as r σ h) (e : Ext H as H' as') (q : RepH H' as' h') : Rp H' as' r σ h' :=
  ⟨p.len, fun i v c => let ⟨u, c1, c2⟩ := p.env i v c; ⟨u, c1, c2.ext p.hp e⟩, q⟩
theorem Rp.beside {r : Env} {σ : St} {p : Addr} {o : HO} (q : Rp H as r σ h) (hp : H p = none) : Rp (upd H p o) as r σ h := q.to (Ext.beside hp) (q.hp.beside hp)
theorem RepL.consE {x : PV} {xs : List PV} {vs : List V} (r : RepL H as (x :: xs) vs) : ∃ u us, vs = u :: us ∧ RepV H as x u ∧ RepL H as xs us := by
  cases r with
  | cons a b => exact ⟨_, _, rfl, a, b⟩
theorem RepL.nilE {vs : List V} (r : RepL H as [] vs) : vs = [] := by
  cases r
  rfl
theorem RepV.intE {i : Int} {u : V} (r : RepV H as (.int i) u) : u = .int i := by cases r; rfl
theorem RepV.blE {i : Bool} {u : V} (r : RepV H as (.bl i) u) : u = .bl i := by cases r; rfl
theorem RepV.strE {i : Str} {u : V} (r : RepV H as (.str i) u) : u = .str i := by cases r; rfl
theorem RepV.nonE {u : V} (r : RepV H as .non u) : u = .non := by cases r; rfl
theorem RepV.tupE {xs : List PV} {u : V} (r : RepV H as (.tup xs) u) : ∃ a vs, u = .ref a ∧ H a = some (.tup vs) ∧ RepL H as xs vs := by
  cases r with
  | tup q l => exact ⟨_, _, rfl, q, l⟩
theorem RepV.objE {n : Nat} {u : V} (r : RepV H as (.obj n) u) : ∃ a, u = .ref a ∧ as[n]? = some a := by
  cases r with
  | obj q => exact ⟨_, rfl, q⟩
theorem RepL.ints : ∀ (xs : List PV) (vs : List V) (ns : List Int), RepL H as xs vs → intsOf xs = some ns → vs = ns.map V.int := by
  intro xs
  induction xs with
  | nil => intro vs ns r e; simp [intsOf] at e; subst e; exact r.nilE
  | cons x xs ih =>
    intro vs ns r e
    obtain ⟨u, us, rfl, a, b⟩ := r.consE
    cases x with
    | int i =>
      simp only [intsOf] at e
      cases q : intsOf xs with
      | none => rw [q] at e; cases e
      | some ms =>
        rw [q] at e
        simp at e
        subst e
        rw [ih us ms b q, a.intE]; rfl
    | _ => simp [intsOf] at e
theorem RepL.bls : ∀ (xs : List PV) (vs : List V) (ns : List Bool), RepL H as xs vs → blsOf xs = some ns → vs = ns.map V.bl := by
  intro xs
  induction xs with
  | nil => intro vs ns r e; simp [blsOf] at e; subst e; exact r.nilE
  | cons x xs ih =>
    intro vs ns r e
    obtain ⟨u, us, rfl, a, b⟩ := r.consE
    cases x with
    | bl i =>
      simp only [blsOf] at e
      cases q : blsOf xs with
      | none => rw [q] at e; cases e
      | some ms =>
        rw [q] at e
        simp at e
        subst e
        rw [ih us ms b q, a.blE]; rfl
    | _ => simp [blsOf] at e
theorem RepL.ofInts : ∀ ns : List Int, RepL H as (ns.map PV.int) (ns.map V.int)
  | [] => .nil
  | n :: ns => .cons (.int n) (RepL.ofInts ns)
end
end EV
end
section
set_option Elab.async false
set_option linter.all false
set_option maxRecDepth 100000
/-! EvSnd1: readings of the interpreter, and what operators do by values. -/
namespace EV
open PySem L2

abbrev XTab := Nat → Option (Addr × List Str)
/-- an exception of the table's class c with these arguments -/
def ExRep (T : XTab) (H : Hp) (as : List Addr) (c : Nat) (vs : List PV) (cls : Value) (d : Option Addr) : Prop :=
  ∃ C fs, T c = some (C, fs) ∧ cls = .ref C ∧ ((fs = [] ∧ vs = [] ∧ d = none) ∨ ∃ dd us, d = some dd ∧ H dd = some (.xd (fs.zip us)) ∧ RepL H as vs us ∧ vs.length = fs.length)
def gotR (T : XTab) (W : WX) {α β : Type} (x : Rs α) (as : List Addr) (H : Hp) (σ : St) (rep : List Addr → Hp → α → β → Prop) (Q : β → Hp → Prop) : Prop := match x with
  | .ok v h' => ∀ as' H' u, Ext H as H' as' → RepH H' as' h' → rep as' H' v u → Q u H'
  | .ex c vs h' => ∀ as' H' cls d, Ext H as H' as' → RepH H' as' h' → ExRep T H' as' c vs cls d → W cls d σ H'
  | .no => False
abbrev rV : List Addr → Hp → PV → V → Prop := fun as H v u => RepV H as v u
abbrev rL : List Addr → Hp → List PV → List V → Prop := fun as H v u => RepL H as v u
abbrev rB : List Addr → Hp → Bool → Bool → Prop := fun _ _ v u => v = u
def rdE (T : XTab) (W : WX) (c : Cc) (d : E) : TE := fun σ H Q => ∃ as r h, Rp H as r σ h ∧ gotR T W (evE c d r h) as H σ rV Q
def rdL (T : XTab) (W : WX) (c : Cc) (d : List E) : TA := fun σ H Q => ∃ as r h, Rp H as r σ h ∧ gotR T W (evL c d r h) as H σ rL Q
def rdT (T : XTab) (W : WX) (c : Cc) (d : E) : TT := fun σ H Q => ∃ as r h, Rp H as r σ h ∧ gotR T W (tst (evE c d r h)) as H σ rB Q

theorem PE.imp {X : Cx} {e : Expr} {t t' : TE} (p : PE X e t) (h : ∀ σ H Q, t' σ H Q → t σ H Q) : PE X e t' := ⟨fun pins s σ H Q I q => p.run pins s σ H Q I (h σ H Q q)⟩
theorem PT.imp {X : Cx} {e : Expr} {t t' : TT} (p : PT X e t) (h : ∀ σ H Q, t' σ H Q → t σ H Q) : PT X e t' := ⟨fun pins s σ H Q I q => p.run pins s σ H Q I (h σ H Q q)⟩
theorem PW.imp {X : Cx} {e : Expr} {t t' : TT} (p : PW X e t) (h : ∀ σ H Q, t' σ H Q → t σ H Q) : PW X e t' := ⟨fun wh pins s σ H Q I q => p.run wh pins s σ H Q I (h σ H Q q)⟩
theorem PA.imp {X : Cx} {e : List Expr} {t t' : TA} (p : PA X e t) (h : ∀ σ H Q, t' σ H Q → t σ H Q) : PA X e t' := ⟨fun pos pins s σ H Q I q => p.run pos pins s σ H Q I (h σ H Q q)⟩
theorem PS.imp {X : Cx} {e : Stmt} {t t' : TS} (p : PS X e t) (h : ∀ D σ H, t' D σ H → t D σ H) : PS X e t' := ⟨fun pins s σ H D I q => p.run pins s σ H D I (h D σ H q)⟩
theorem PSs.imp {X : Cx} {e : List Stmt} {t t' : TS} (p : PSs X e t) (h : ∀ D σ H, t' D σ H → t D σ H) : PSs X e t' := ⟨fun pins s σ H D I q => p.run pins s σ H D I (h D σ H q)⟩

section
variable {K : PySem.W.Frag} {T : XTab} {W : WX} {α β γ δ : Type} {as as1 : List Addr} {H H1 : Hp} {σ : St} {r : Env} {h : PH}
theorem gotR.ext {x : Rs α} {rep : List Addr → Hp → α → β → Prop} {Q : β → Hp → Prop} (e : Ext H as H1 as1) (g : gotR T W x as H σ rep Q) : gotR T W x as1 H1 σ rep Q := by
  cases x with
  | ok v h' => exact fun as' H' u e' q rp => g as' H' u (e.trans e') q rp
  | ex c vs h' => exact fun as' H' cls d e' q rp => g as' H' cls d (e.trans e') q rp
  | no => exact g
theorem gotR.mono {x : Rs α} {rep : List Addr → Hp → α → β → Prop} {Q Q' : β → Hp → Prop} (g : gotR T W x as H σ rep Q) (h : ∀ u H', Q u H' → Q' u H') : gotR T W x as H σ rep Q' := by
  cases x with
  | ok v h' => exact fun as' H' u e' q rp => h _ _ (g as' H' u e' q rp)
  | ex c vs h' => exact g
  | no => exact g
/-- one part, then what follows -/
theorem gotR.bnd {x : Rs α} {f : α → PH → Rs γ} {repx : List Addr → Hp → α → β → Prop} {rep : List Addr → Hp → γ → δ → Prop} {Q : δ → Hp → Prop} (p : Rp H as r σ h) (g : gotR T W (x.bnd f) as H σ rep Q) :
    gotR T W x as H σ repx (fun u H1 => ∃ as1 h1 v, Ext H as H1 as1 ∧ Rp H1 as1 r σ h1 ∧ repx as1 H1 v u ∧ x = .ok v h1 ∧ gotR T W (f v h1) as1 H1 σ rep Q) := by
  cases x with
  | ok v h' => exact fun as' H' u e q rp => ⟨as', h', v, e, p.to e q, rp, rfl, g.ext e⟩
  | ex c vs h' => exact g
  | no => exact g
theorem gotR.ok {v : α} {rep : List Addr → Hp → α → β → Prop} {Q : β → Hp → Prop} (g : gotR T W (Rs.ok v h) as H σ rep Q) (rh : RepH H as h) {u : β} (ru : rep as H v u) : Q u H := g as H u Ext.refl rh ru
theorem gotR.okE {v : α} {rep : List Addr → Hp → α → β → Prop} {Q : β → Hp → Prop} (g : gotR T W (Rs.ok v h) as H σ rep Q) (e : Ext H as H1 as1) (rh : RepH H1 as1 h) {u : β} (ru : rep as1 H1 v u) : Q u H1 := g as1 H1 u e rh ru
theorem gotR.tst {x : Rs PV} {Q : Bool → Hp → Prop} (g : gotR T W (tst x) as H σ rB Q) : gotR T W x as H σ rV (fun u H' => ∃ b, u = .bl b ∧ Q b H') := by
  cases x with
  | ok v h' =>
    cases v with
    | bl b => exact fun as' H' u e q rp => ⟨b, rp.blE, g as' H' b e q rfl⟩
    | _ => exact g.elim
  | ex c vs h' => exact g
  | no => exact g
end

/-! ### operators by values -/
def Op.py : Op → Operator
  | .add => .Add | .sub => .Sub | .mul => .Mult | .fdiv => .FloorDiv | .mod => .Mod | .pow => .Pow
def rBin (K : PySem.W.Frag) : Op → R2
  | .add => fun x y H Q => (rI0 fun i j => .int (i + j)) x y H Q ∨ rCatA K x y H Q ∨ rCat x y H Q
  | .sub => rI0 fun i j => .int (i - j)
  | .mul => rI CMul fun i j => .int (i * j)
  | .fdiv => rI CDiv fun i j => .int (i / j)
  | .mod => rI (fun _ j => 0 < j) fun i j => .int (i % j)
  | .pow => rI CPow fun i j => .int (i ^ j.toNat)
theorem op_bin {X : Cx} (o : Op) : OpR X (binaryOp o.py) (rBin X.K o) := by
  cases o with
  | add => exact op_add.or (op_catA.or op_cat)
  | sub => exact op_sub
  | mul => exact op_mul
  | fdiv => exact op_fdiv
  | mod => exact op_mod
  | pow => exact op_pow
theorem mulOk_of {i j : Int} (h : mulOk i j = true) : CMul i j := by
  unfold mulOk at h
  simp only [Bool.or_eq_true, Bool.and_eq_true, decide_eq_true_eq] at h
  exact h
section
variable {K : PySem.W.Frag} {T : XTab} {W : WX} {as : List Addr} {H : Hp} {σ : St} {r : Env} {h : PH} {x y : PV} {u w : V} {Q : VK}
theorem RepH.newList (rh : RepH H as h) {xs : List PV} {vs : List V} (l : RepL H as xs vs) (z : xs.length ≤ sizeLine) {p : Addr} (hp : H p = none) :
    RepH (upd H p (.lst vs)) (as ++ [p]) (h ++ [.lst false xs]) := rh.new hp ⟨vs, l, z, rfl⟩
theorem RepV.newObj {p : Addr} (rh : RepH H as h) {H' : Hp} : RepV H' (as ++ [p]) (.obj h.length) (.ref p) := by
  refine .obj ?_
  rw [← rh.len]
  simp
/-- a new tuple -/
theorem gotR.newTup {xs : List PV} {vs : List V} (g : gotR T W (Rs.ok (PV.tup xs) h) as H σ rV Q) (rh : RepH H as h) (l : RepL H as xs vs) {p : Addr} (hp : H p = none) : Q (.ref p) (upd H p (.tup vs)) :=
  g.okE (Ext.beside hp) (rh.beside hp) (.tup upd_same (l.ext rh (Ext.beside hp)))
theorem gotR.newLst {xs : List PV} {vs : List V} (g : gotR T W (Rs.ok (PV.obj h.length) (h ++ [PO.lst false xs])) as H σ rV Q) (rh : RepH H as h) (l : RepL H as xs vs) (z : xs.length ≤ sizeLine) {p : Addr} (hp : H p = none) : Q (.ref p) (upd H p (.lst vs)) :=
  g.okE (Ext.new hp) (rh.newList l z hp) (RepV.newObj rh)

theorem binop_snd (o : Op) (rh : RepH H as h) (rx : RepV H as x u) (ry : RepV H as y w) (g : gotR T W (binop o x y h) as H σ rV Q) : rBin K o u w H Q := by
  unfold binop at g
  split at g
  · rw [rx.intE, ry.intE]; exact .inl ⟨_, _, rfl, rfl, g.ok rh (.int _)⟩
  · rw [rx.intE, ry.intE]; exact ⟨_, _, rfl, rfl, g.ok rh (.int _)⟩
  · split at g
    · rename_i c; rw [rx.intE, ry.intE]; exact ⟨_, _, rfl, rfl, mulOk_of c, g.ok rh (.int _)⟩
    · exact g.elim
  · split at g
    · rename_i c; rw [rx.intE, ry.intE]; exact ⟨_, _, rfl, rfl, c, g.ok rh (.int _)⟩
    · exact g.elim
  · split at g
    · rename_i c; rw [rx.intE, ry.intE]; exact ⟨_, _, rfl, rfl, c, g.ok rh (.int _)⟩
    · exact g.elim
  · split at g
    · rename_i c; rw [rx.intE, ry.intE]; exact ⟨_, _, rfl, rfl, c, g.ok rh (.int _)⟩
    · exact g.elim
  · rename_i xs ys
    split at g
    · rename_i c
      obtain ⟨a, vs, rfl, qa, la⟩ := rx.tupE
      obtain ⟨b, ws, rfl, qb, lb⟩ := ry.tupE
      refine .inr (.inl ⟨a, b, vs, ws, rfl, rfl, .of qa, .of qb, by rw [← la.length, ← lb.length]; exact c, fun e => ?_, fun e e2 => ?_, fun e e2 p hp => ?_⟩)
      · subst e
        have : xs = [] := List.eq_nil_of_length_eq_zero (by rw [la.length]; rfl)
        subst this
        exact g.ok rh (.tup qb lb)
      · subst e2
        have : ys = [] := List.eq_nil_of_length_eq_zero (by rw [lb.length]; rfl)
        subst this
        rw [List.append_nil] at g
        exact g.ok rh (.tup qa la)
      · exact g.newTup rh (la.append lb) hp
    · exact g.elim
  · rename_i m n
    split at g
    · rename_i xs ys e1 e2
      split at g
      · rename_i c
        obtain ⟨a, rfl, qa⟩ := rx.objE
        obtain ⟨b, rfl, qb⟩ := ry.objE
        obtain ⟨vs, la, za, _, ma⟩ := rh.lst (K := K) e1 qa
        obtain ⟨ws, lb, zb, _, mb⟩ := rh.lst (K := K) e2 qb
        exact .inr (.inr ⟨a, b, vs, ws, rfl, rfl, ma rfl, mb rfl, by rw [← la.length, ← lb.length]; exact c, fun p hp => g.newLst rh (la.append lb) (by simp; exact c) hp⟩)
      · exact g.elim
    · exact g.elim
  · exact g.elim

/-! data -/
theorem optAll_nil {α β : Type} {f : α → Option β} : optAll f [] = some [] := rfl
theorem optAll_consE {α β : Type} {f : α → Option β} {x : α} {xs : List α} {ds : List β} (e : optAll f (x :: xs) = some ds) : ∃ d r, f x = some d ∧ optAll f xs = some r ∧ ds = d :: r := by
  unfold optAll at e
  cases q : f x with
  | none => rw [q] at e; cases e
  | some d =>
    rw [q] at e
    cases q2 : optAll f xs with
    | none => rw [q2] at e; cases e
    | some r =>
      rw [q2] at e
      exact ⟨d, r, rfl, rfl, (Option.some.inj e).symm⟩
/-- what toD tells is so, lies, and is not deep -/
theorem toD_snd (rh : RepH H as h) : ∀ (n : Nat) (x : PV) (u : V) (d : PyData), RepV H as x u → toD h n x = some d → Dp K H u d ∧ PyData.canLay0 d = true ∧ PyData.depth d ≤ n := by
  intro n
  induction n with
  | zero =>
    intro x u d rx e
    cases x with
    | non => cases e; rw [rx.nonE]; exact ⟨.non, rfl, Nat.le_refl _⟩
    | bl b => cases e; rw [rx.blE]; exact ⟨.bl b, rfl, Nat.le_refl _⟩
    | int b => cases e; rw [rx.intE]; exact ⟨.int b, rfl, Nat.le_refl _⟩
    | str b =>
      simp only [toD] at e
      split at e
      · rename_i hs; cases e; rw [rx.strE]; exact ⟨.str b, hs, Nat.le_refl _⟩
      · cases e
    | tup xs => cases e
    | obj a => cases e
  | succ n ih =>
    have all : ∀ (xs : List PV) (vs : List V) (ds : List PyData), RepL H as xs vs → optAll (toD h n) xs = some ds → DpAll K H vs ds ∧ PyData.canLayAll0 ds = true ∧ PyData.depthAll ds ≤ n := by
      intro xs
      induction xs with
      | nil => intro vs ds rl e; cases e; rw [rl.nilE]; exact ⟨.nil, rfl, Nat.zero_le _⟩
      | cons x xs ihx =>
        intro vs ds rl e
        obtain ⟨d, r, e1, e2, rfl⟩ := optAll_consE e
        obtain ⟨u, us, rfl, ra, rb⟩ := rl.consE
        obtain ⟨h1, h2, h3⟩ := ih x u d ra e1
        obtain ⟨g1, g2, g3⟩ := ihx us r rb e2
        refine ⟨.cons h1 g1, ?_, ?_⟩
        · show (PyData.canLay0 d && PyData.canLayAll0 r) = true
          rw [h2, g2]; rfl
        · show max (PyData.depth d) (PyData.depthAll r) ≤ n
          omega
    intro x u d rx e
    cases x with
    | non => cases e; rw [rx.nonE]; exact ⟨.non, rfl, Nat.zero_le _⟩
    | bl b => cases e; rw [rx.blE]; exact ⟨.bl b, rfl, Nat.zero_le _⟩
    | int b => cases e; rw [rx.intE]; exact ⟨.int b, rfl, Nat.zero_le _⟩
    | str b =>
      simp only [toD] at e
      split at e
      · rename_i hs; cases e; rw [rx.strE]; exact ⟨.str b, hs, Nat.zero_le _⟩
      · cases e
    | tup xs =>
      simp only [toD] at e
      cases q : optAll (toD h n) xs with
      | none => rw [q] at e; cases e
      | some ds =>
        rw [q] at e
        cases e
        obtain ⟨a, vs, rfl, qa, la⟩ := rx.tupE
        obtain ⟨h1, h2, h3⟩ := all xs vs ds la q
        exact ⟨.tup (.of qa) h1, h2, Nat.succ_le_succ h3⟩
    | obj m =>
      simp only [toD] at e
      cases q0 : h[m]? with
      | none => rw [q0] at e; cases e
      | some o =>
        rw [q0] at e
        cases o with
        | lst fz xs =>
          simp only at e
          cases q : optAll (toD h n) xs with
          | none => rw [q] at e; cases e
          | some ds =>
            rw [q] at e
            cases e
            obtain ⟨a, rfl, qa⟩ := rx.objE
            obtain ⟨vs, la, _, sq, _⟩ := rh.lst q0 qa
            obtain ⟨h1, h2, h3⟩ := all xs vs ds la q
            exact ⟨.lst sq h1, h2, Nat.succ_le_succ h3⟩
        | dK _ => cases e
        | dT _ => cases e
theorem toD_shaped (rh : RepH H as h) {n : Nat} {x : PV} {u : V} {d : PyData} (hn : n ≤ 64) (rx : RepV H as x u) (e : toD h n x = some d) : Dp K H u d ∧ SeqAt.shaped d = true := by
  obtain ⟨h1, h2, h3⟩ := toD_snd rh n x u d rx e
  refine ⟨h1, ?_⟩
  unfold SeqAt.shaped
  rw [h2, decide_eq_true (Nat.le_trans h3 hn)]; rfl
theorem pyEq_snd (rh : RepH H as h) (rx : RepV H as x u) (ry : RepV H as y w) {b : Bool} (e : pyEq h x y = some b) : ∃ d1 d2, Dp K H u d1 ∧ Dp K H w d2 ∧ SeqAt.shaped d1 = true ∧ SeqAt.shaped d2 = true ∧ PyData.eqv d1 d2 = b := by
  unfold pyEq at e
  cases q1 : toD h 60 x with
  | none => rw [q1] at e; cases e
  | some d1 =>
    rw [q1] at e
    cases q2 : toD h 60 y with
    | none => rw [q2] at e; cases e
    | some d2 =>
      rw [q2] at e
      obtain ⟨a1, a2⟩ := toD_shaped rh (by decide) rx q1
      obtain ⟨b1, b2⟩ := toD_shaped rh (by decide) ry q2
      exact ⟨d1, d2, a1, b1, a2, b2, Option.some.inj e⟩
end
end EV
end
section
set_option Elab.async false
set_option linter.all false
set_option maxRecDepth 100000
/-! EvSnd2: comparisons, subscripts, slices, built-ins, methods by values. -/
namespace EV
open PySem L2

/-! ### keys -/
section
variable {as : List Addr} {H : Hp} {h : PH} {x : PV} {u : V}
theorem toKey_snd {k : Key} (rx : RepV H as x u) (e : toKey x = some k) : u = kV k := by
  cases x with
  | int i => cases e; exact rx.intE
  | str i => cases e; exact rx.strE
  | _ => cases e
theorem toKeys_snd : ∀ (xs : List PV) (vs : List V) (ks : List Key), RepL H as xs vs → optAll toKey xs = some ks → vs = ks.map kV := by
  intro xs
  induction xs with
  | nil => intro vs ks r e; cases e; exact r.nilE
  | cons x xs ih =>
    intro vs ks r e
    obtain ⟨k, ks', e1, e2, rfl⟩ := optAll_consE e
    obtain ⟨u, us, rfl, ra, rb⟩ := r.consE
    rw [toKey_snd ra e1, ih us ks' rb e2]; rfl
theorem toTK_snd {ks : List Key} (rx : RepV H as x u) (e : toTK x = some ks) : ∃ b, u = .ref b ∧ H b = some (.tup (ks.map kV)) := by
  cases x with
  | tup xs =>
    obtain ⟨a, vs, rfl, q, l⟩ := rx.tupE
    rw [toKeys_snd xs vs ks l e] at q
    exact ⟨a, rfl, q⟩
  | _ => cases e
theorem look_snd {κ : Type} [DecidableEq κ] {kvs : List (κ × PV)} {ks : List (κ × V)} (r : RepKV H as kvs ks) (k : κ) : (∃ v w, look k kvs = some v ∧ valV ks k = some w ∧ RepV H as v w) ∨ (look k kvs = none ∧ valV ks k = none) := by
  induction r with
  | nil => exact .inr ⟨rfl, valV_nil⟩
  | cons p r ih =>
    rename_i a b l1 l2
    obtain ⟨p1, p2⟩ := p
    by_cases hk : a.1 = k
    · refine .inl ⟨a.2, b.2, ?_, ?_, p2⟩
      · obtain ⟨a1, a2⟩ := a
        show (if a1 = k then some a2 else look k l1) = some a2
        rw [if_pos hk]
      · exact valV_pos (p1 ▸ hk)
    · have e1 : look k (a :: l1) = look k l1 := by
        obtain ⟨a1, a2⟩ := a
        show (if a1 = k then some a2 else look k l1) = look k l1
        rw [if_neg hk]
      have e2 : valV (b :: l2) k = valV l2 k := valV_neg (by rw [← p1]; exact hk)
      rw [e1, e2]
      exact ih
theorem any_snd {κ : Type} [DecidableEq κ] {kvs : List (κ × PV)} {ks : List (κ × V)} (r : RepKV H as kvs ks) (k : κ) : (kvs.any fun kv => decide (kv.1 = k)) = ks.any fun kv => decide (kv.1 = k) := by
  induction r with
  | nil => rfl
  | cons p r ih =>
    rw [List.any_cons, List.any_cons, ih, p.1]
theorem put_snd {κ : Type} [DecidableEq κ] {kvs : List (κ × PV)} {ks : List (κ × V)} (r : RepKV H as kvs ks) (k : κ) {v : PV} {w : V} (rv : RepV H as v w) : RepKV H as (put k v kvs) (putK ks k w) := by
  unfold put putK
  rw [any_snd r k]
  split
  · have : ∀ {kvs : List (κ × PV)} {ks : List (κ × V)}, RepKV H as kvs ks → RepKV H as (kvs.map fun kv => if kv.1 = k then (kv.1, v) else kv) (ks.map fun kv => if kv.1 = k then (kv.1, w) else kv) := by
      intro kvs ks r
      induction r with
      | nil => exact .nil
      | cons p r ih =>
        refine .cons ?_ ih
        rename_i a b _ _
        obtain ⟨a1, a2⟩ := a
        obtain ⟨b1, b2⟩ := b
        obtain ⟨p1, p2⟩ := p
        simp only at p1 p2 ⊢
        subst p1
        split
        · exact ⟨rfl, rv⟩
        · exact ⟨rfl, p2⟩
    exact this r
  · exact Paired.snoc r ⟨rfl, rv⟩
end

/-! ### comparisons -/
def Cp.py : Cp → CmpOp
  | .lt => .Lt | .le => .LtE | .gt => .Gt | .ge => .GtE | .eq => .Eq | .ne => .NotEq | .is => .Is | .isnot => .IsNot | .isin => .In | .notin => .NotIn
def rInDict (neg : Bool) : R2 := fun y x H Q => ∃ a o, x = .ref a ∧ DGet H a y o ∧ Q (.bl (if neg then !o.isSome else o.isSome)) H
theorem op_in_dict {X : Cx} (hu : X.A.units + 1 < cLine) : OpR X (compareOp .In) (rInDict false) := by
  intro pins s σ H x y v u Q I rx ry h
  obtain ⟨a, o, rfl, g, q⟩ := h
  cases (show u = Value.ref a from ry)
  exact d_in hu I g rx fun s' I' => ⟨.bl o.isSome, _, I', rfl, q⟩
theorem op_notin_dict {X : Cx} (hu : X.A.units + 1 < cLine) : OpR X (compareOp .NotIn) (rInDict true) := by
  intro pins s σ H x y v u Q I rx ry h
  obtain ⟨a, o, rfl, g, q⟩ := h
  cases (show u = Value.ref a from ry)
  exact d_notIn hu I g rx fun s' I' => ⟨.bl (!o.isSome), _, I', rfl, q⟩
def rCmp (K : PySem.W.Frag) : Cp → R2
  | .lt => rI0 fun i j => .bl (decide (i < j))
  | .le => rI0 fun i j => .bl (decide (i ≤ j))
  | .gt => rI0 fun i j => .bl (decide (j < i))
  | .ge => rI0 fun i j => .bl (decide (j ≤ i))
  | .eq => rEqD K
  | .ne => rNeD K
  | .is => fun x y H Q => y = .non ∧ Q (.bl (decide (x = .non))) H
  | .isnot => fun x y H Q => y = .non ∧ Q (.bl (!decide (x = .non))) H
  | .isin => fun x y H Q => rIn K false x y H Q ∨ rInD K x y H Q ∨ rInDict false x y H Q
  | .notin => fun x y H Q => rIn K true x y H Q ∨ rNotInD K x y H Q ∨ rInDict true x y H Q
theorem op_cmp {X : Cx} (hu : X.A.units + 65 < cLine) (o : Cp) : OpR X (compareOp o.py) (rCmp X.K o) := by
  cases o with
  | lt => exact op_lt
  | le => exact op_le
  | gt => exact op_gt
  | ge => exact op_ge
  | eq => exact op_eqD (by omega)
  | ne => exact op_neD (by omega)
  | is => exact op_isN
  | isnot => exact op_notN
  | isin => exact op_in_seq.or ((op_inD hu).or (op_in_dict (by omega)))
  | notin => exact op_notIn_seq.or ((op_notInD hu).or (op_notin_dict (by omega)))
section
variable {K : PySem.W.Frag} {T : XTab} {W : WX} {as : List Addr} {H : Hp} {σ : L2.St} {r : Env} {h : PH} {x y : PV} {u w : V} {Q : VK}
theorem flat_snd (rx : RepV H as x u) (f : flatP x = true) : flatV u = true := by
  cases x with
  | non => rw [rx.nonE]; rfl
  | bl b => rw [rx.blE]; rfl
  | int b => rw [rx.intE]; rfl
  | str b => rw [rx.strE]; rfl
  | _ => cases f
theorem eqF_snd (rx : RepV H as x u) (ry : RepV H as y w) (f : flatP x = true) (g : flatP y = true) : eqV u w = eqF x y := by
  cases x with
  | non => rw [rx.nonE]; cases y with
    | non => rw [ry.nonE]; rfl
    | bl b => rw [ry.blE]; rfl
    | int b => rw [ry.intE]; rfl
    | str b => rw [ry.strE]; rfl
    | _ => cases g
  | bl b => rw [rx.blE]; cases y with
    | non => rw [ry.nonE]; rfl
    | bl b => rw [ry.blE]; rfl
    | int b => rw [ry.intE]; rfl
    | str b => rw [ry.strE]; rfl
    | _ => cases g
  | int b => rw [rx.intE]; cases y with
    | non => rw [ry.nonE]; rfl
    | bl b => rw [ry.blE]; rfl
    | int b => rw [ry.intE]; rfl
    | str b => rw [ry.strE]; rfl
    | _ => cases g
  | str b => rw [rx.strE]; cases y with
    | non => rw [ry.nonE]; rfl
    | bl b => rw [ry.blE]; rfl
    | int b => rw [ry.intE]; rfl
    | str b => rw [ry.strE]; rfl
    | _ => cases g
  | _ => cases f
theorem flats_snd : ∀ (xs : List PV) (vs : List V), RepL H as xs vs → xs.all flatP = true → vs.all flatV = true := by
  intro xs
  induction xs with
  | nil => intro vs r _; rw [r.nilE]; rfl
  | cons x xs ih =>
    intro vs r f
    obtain ⟨u, us, rfl, ra, rb⟩ := r.consE
    rw [List.all_cons, Bool.and_eq_true] at f ⊢
    exact ⟨flat_snd ra f.1, ih us rb f.2⟩
theorem inV_snd (rx : RepV H as x u) (fx : flatP x = true) : ∀ (ys : List PV) (vs : List V), RepL H as ys vs → ys.all flatP = true → inV u vs = ys.any fun y => eqF y x := by
  intro ys
  induction ys with
  | nil => intro vs r _; rw [r.nilE]; rfl
  | cons y ys ih =>
    intro vs r f
    obtain ⟨v, us, rfl, ra, rb⟩ := r.consE
    rw [List.all_cons, Bool.and_eq_true] at f
    have h1 := ih us rb f.2
    unfold inV at h1 ⊢
    rw [List.any_cons, List.any_cons, h1, eqF_snd ra rx f.1 fx]
/-- membership, both ways -/
theorem isIn_snd (rh : RepH H as h) (rx : RepV H as x u) (ry : RepV H as y w) {b : Bool} (e : isIn h x y = some b) (neg : Bool) (q : Q (.bl (if neg then !b else b)) H) :
    rIn K neg u w H Q ∨ (if neg then rNotInD K u w H Q else rInD K u w H Q) ∨ rInDict neg u w H Q := by
  unfold isIn at e
  cases y with
  | tup ys =>
    simp only at e
    split at e
    · rename_i c
      rw [Bool.and_eq_true] at c
      obtain ⟨a, vs, rfl, qa, la⟩ := ry.tupE
      have hb := Option.some.inj e
      subst hb
      exact .inl ⟨a, vs, rfl, .inr (.of qa), flat_snd rx c.1, flats_snd ys vs la c.2, by rw [inV_snd rx c.1 ys vs la c.2]; exact q⟩
    · cases e
  | obj n =>
    simp only at e
    obtain ⟨a, rfl, qa⟩ := ry.objE
    cases ho : h[n]? with
    | none => rw [ho] at e; cases e
    | some o =>
      rw [ho] at e
      cases o with
      | lst fz xs =>
        simp only at e
        cases q1 : toD h 60 x with
        | none => rw [q1] at e; cases e
        | some d =>
          cases q2 : toD h 60 (.obj n) with
          | none => rw [q1, q2] at e; cases e
          | some d2 =>
            rw [q1, q2] at e
            cases d2 with
            | list ds =>
              have hb := Option.some.inj e
              subst hb
              obtain ⟨a1, a2⟩ := toD_shaped (K := K) rh (by decide) rx q1
              obtain ⟨b1, b2⟩ := toD_shaped (K := K) rh (by decide) (RepV.obj qa) q2
              refine .inr (.inl ?_)
              cases neg with
              | true => exact ⟨d, ds, a1, b1, a2, b2, q⟩
              | false => exact ⟨d, ds, a1, b1, a2, b2, q⟩
            | _ => cases e
      | dK kvs =>
        simp only at e
        obtain ⟨k, hk, hb⟩ := Option.map_eq_some_iff.mp e
        subst hb
        obtain ⟨ks, hH, rk⟩ := rh.dk ho qa
        have ek := toKey_snd rx hk
        subst ek
        refine .inr (.inr ⟨a, valV ks k, rfl, .k hH, ?_⟩)
        rcases look_snd rk k with ⟨v, w, l1, l2, _⟩ | ⟨l1, l2⟩
        · rw [l2]; rw [l1] at q; exact q
        · rw [l2]; rw [l1] at q; exact q
      | dT kvs =>
        simp only at e
        obtain ⟨k, hk, hb⟩ := Option.map_eq_some_iff.mp e
        subst hb
        obtain ⟨ks, hH, rk⟩ := rh.dt ho qa
        obtain ⟨b, rfl, hb⟩ := toTK_snd rx hk
        refine .inr (.inr ⟨a, valV ks k, rfl, .t hH hb, ?_⟩)
        rcases look_snd rk k with ⟨v, w, l1, l2, _⟩ | ⟨l1, l2⟩
        · rw [l2]; rw [l1] at q; exact q
        · rw [l2]; rw [l1] at q; exact q
  | _ => cases e
theorem non_snd (rx : RepV H as x u) : decide (u = .non) = isNon x := by
  cases x with
  | non => rw [rx.nonE]; rfl
  | bl b => rw [rx.blE]; rfl
  | int b => rw [rx.intE]; rfl
  | str b => rw [rx.strE]; rfl
  | tup b => obtain ⟨a, vs, rfl, _⟩ := rx.tupE; rfl
  | obj b => obtain ⟨a, rfl, _⟩ := rx.objE; rfl
theorem cmpop_snd (o : Cp) (rh : RepH H as h) (rx : RepV H as x u) (ry : RepV H as y w) {b : Bool} (e : cmpop o x y h = some b) (q : Q (.bl b) H) : rCmp K o u w H Q := by
  unfold cmpop at e
  split at e
  · cases e; rw [rx.intE, ry.intE]; exact ⟨_, _, rfl, rfl, q⟩
  · cases e; rw [rx.intE, ry.intE]; exact ⟨_, _, rfl, rfl, q⟩
  · cases e; rw [rx.intE, ry.intE]; exact ⟨_, _, rfl, rfl, q⟩
  · cases e; rw [rx.intE, ry.intE]; exact ⟨_, _, rfl, rfl, q⟩
  · obtain ⟨d1, d2, h1, h2, s1, s2, hb⟩ := pyEq_snd (K := K) rh rx ry e
    exact ⟨d1, d2, h1, h2, s1, s2, by rw [hb]; exact q⟩
  · obtain ⟨c, hc, hb⟩ := Option.map_eq_some_iff.mp e
    obtain ⟨d1, d2, h1, h2, s1, s2, hb2⟩ := pyEq_snd (K := K) rh rx ry hc
    exact ⟨d1, d2, h1, h2, s1, s2, by rw [hb2, hb]; exact q⟩
  · refine ⟨ry.nonE, ?_⟩
    rw [non_snd rx, Option.some.inj e]; exact q
  · refine ⟨ry.nonE, ?_⟩
    have e2 := Option.some.inj e
    rw [non_snd rx, e2]
    exact q
  · rcases isIn_snd (K := K) rh rx ry e false q with z | z | z
    · exact .inl z
    · exact .inr (.inl z)
    · exact .inr (.inr z)
  · obtain ⟨c, hc, hb⟩ := Option.map_eq_some_iff.mp e
    rcases isIn_snd (K := K) rh rx ry hc true (by rw [← hb] at q; exact q) with z | z | z
    · exact .inl z
    · exact .inr (.inl z)
    · exact .inr (.inr z)
  · cases e
end

/-! ### subscripts -/
def rIxD : R2 := fun x y H Q => ∃ a v, x = .ref a ∧ DGet H a y (some v) ∧ Q v H
theorem ix_dict {X : Cx} (hu : X.A.units + 1 < cLine) : IxR X rIxD := by
  intro value slice pins s σ H x y v u Q I rx ry h hs
  obtain ⟨a, z, rfl, g, q⟩ := h
  cases (show v = Value.ref a from rx)
  exact PyProof.Rows.tail_any (dict_typeIs I g) PySem.F.slot_dict_getitem.lookup (d_getItem hu I g ry fun w' s' I' rw' => ⟨z, H, I', rw', q⟩) hs
def rIdx (K : PySem.W.Frag) : R2 := fun x y H Q => rIxL K x y H Q ∨ rIxT K x y H Q ∨ rIxD x y H Q
theorem ix_all {X : Cx} (hu : X.A.units + 1 < cLine) : IxR X (rIdx X.K) := ix_list.or (ix_tup.or (ix_dict hu))
section
variable {K : PySem.W.Frag} {T : XTab} {W : WX} {as : List Addr} {H : Hp} {σ : L2.St} {r : Env} {h : PH} {x y : PV} {u w : V} {Q : VK}
theorem atI_snd {xs : List PV} {vs : List V} (l : RepL H as xs vs) {i : Int} {v : PV} (e : atI xs i = some v) : ∃ z, atI vs i = some z ∧ RepV H as v z := by
  unfold atI at e ⊢
  rw [← l.length]
  cases q : ixN xs.length i with
  | none => rw [q] at e; cases e
  | some j =>
    rw [q] at e
    exact l.get e
theorem idxop_snd (rh : RepH H as h) (rx : RepV H as x u) (ry : RepV H as y w) {v : PV} (e : idxop x y h = some v) (q : ∀ z, RepV H as v z → Q z H) : rIdx K u w H Q := by
  unfold idxop at e
  split at e
  · obtain ⟨a, vs, rfl, qa, la⟩ := rx.tupE
    obtain ⟨z, hz, rz⟩ := atI_snd la e
    rw [ry.intE]
    exact .inr (.inl ⟨a, vs, _, z, rfl, rfl, .of qa, hz, q z rz⟩)
  · obtain ⟨a, rfl, qa⟩ := rx.objE
    split at e
    · rename_i ho
      obtain ⟨vs, la, _, sq, _⟩ := rh.lst (K := K) ho qa
      obtain ⟨z, hz, rz⟩ := atI_snd la e
      rw [ry.intE]
      exact .inl ⟨a, vs, _, z, rfl, rfl, sq, hz, q z rz⟩
    · rename_i ho
      obtain ⟨k, hk, e2⟩ := Option.bind_eq_some_iff.mp e
      obtain ⟨ks, hH, rk⟩ := rh.dk ho qa
      have ek := toKey_snd ry hk
      subst ek
      rcases look_snd rk k with ⟨v', w', l1, l2, rv⟩ | ⟨l1, l2⟩
      · rw [l1] at e2; cases e2
        exact .inr (.inr ⟨a, w', rfl, by rw [← l2]; exact .k hH, q w' rv⟩)
      · rw [l1] at e2; cases e2
    · rename_i ho
      obtain ⟨k, hk, e2⟩ := Option.bind_eq_some_iff.mp e
      obtain ⟨ks, hH, rk⟩ := rh.dt ho qa
      obtain ⟨b, rfl, hb⟩ := toTK_snd ry hk
      rcases look_snd rk k with ⟨v', w', l1, l2, rv⟩ | ⟨l1, l2⟩
      · rw [l1] at e2; cases e2
        exact .inr (.inr ⟨a, w', rfl, by rw [← l2]; exact .t hH hb, q w' rv⟩)
      · rw [l1] at e2; cases e2
    · cases e
  · cases e
/-! slices -/
def rSl (K : PySem.W.Frag) : V → Option Int → Option Int → Hp → VK → Prop := fun x lo hi H Q => rSlA K x lo hi H Q ∨ rSlL K x lo hi H Q
theorem sl_all {X : Cx} : SlR X (rSl X.K) := sl_tupA.or sl_list
theorem cut_snd {xs : List PV} {vs : List V} (l : RepL H as xs vs) (lo hi : Option Int) : RepL H as (cutP xs lo hi) (cutV vs lo hi) := by
  unfold cutP cutV
  rw [← l.length]
  exact (l.drop _).take _
theorem cut_le (xs : List PV) (lo hi : Option Int) : (cutP xs lo hi).length ≤ xs.length := by
  unfold cutP
  rw [List.length_take, List.length_drop]
  omega
theorem cut_whole {xs : List PV} {lo hi : Option Int} (c : HT.sIx xs.length 0 lo = 0 ∧ HT.sIx xs.length xs.length hi = xs.length) : cutP xs lo hi = xs := by
  unfold cutP
  rw [c.1, c.2]
  simp
theorem slcop_snd (rh : RepH H as h) (rx : RepV H as x u) {lo hi : Option Int} (g : gotR T W (slcop x lo hi h) as H σ rV Q) : rSl K u lo hi H Q := by
  unfold slcop at g
  split at g
  · rename_i xs
    obtain ⟨a, vs, rfl, qa, la⟩ := rx.tupE
    refine .inl ⟨a, vs, rfl, .of qa, fun c => ?_, fun _ p hp => g.newTup rh (cut_snd la lo hi) hp⟩
    rw [← la.length] at c
    rw [cut_whole c] at g
    exact g.ok rh (.tup qa la)
  · obtain ⟨a, rfl, qa⟩ := rx.objE
    split at g
    · rename_i ho
      obtain ⟨vs, la, z, sq, _⟩ := rh.lst (K := K) ho qa
      exact .inr ⟨a, vs, rfl, sq, fun p hp => g.newLst rh (cut_snd la lo hi) (Nat.le_trans (cut_le _ _ _) z) hp⟩
    · exact g.elim
  · exact g.elim
end
end EV
end
section
set_option Elab.async false
set_option linter.all false
set_option maxRecDepth 100000
/-! EvSnd3: expressions, construct by construct. -/
namespace EV
open PySem L2

/-! ### built-ins by values -/
def Ty.nm : Ty → String
  | .int => "int" | .bool => "bool" | .str => "str" | .tuple => "tuple" | .list => "list" | .dict => "dict"
def rLenA (K : PySem.W.Frag) : List V → Hp → VK → Prop := fun xs H Q => (∃ x n, xs = [x] ∧ LenV K x H n ∧ Q (.int n) H) ∨ (∃ a kvs, xs = [V.ref a] ∧ H a = some (.dK kvs) ∧ Q (.int kvs.length) H) ∨ rLenT xs H Q
theorem call_lenA {X : Cx} : CallR X (.builtin "len") (rLenA X.K) := call_len.or (call_lenD.or call_len_dT)
section
variable {K : PySem.W.Frag} {T : XTab} {W : WX} {as : List Addr} {H : Hp} {σ : L2.St} {r : Env} {h : PH} {x y : PV} {u w : V} {Q : VK}
theorem len_snd (rh : RepH H as h) (rx : RepV H as x u) {n : Nat} (e : lenOf x h = some n) (q : Q (.int n) H) : rLenA K [u] H Q := by
  unfold lenOf at e
  split at e
  · cases e
    obtain ⟨a, vs, rfl, qa, la⟩ := rx.tupE
    exact .inl ⟨_, _, rfl, .inr ⟨vs, .of qa, rfl⟩, by rw [← la.length]; exact q⟩
  · obtain ⟨a, rfl, qa⟩ := rx.objE
    split at e
    · rename_i ho
      cases e
      obtain ⟨vs, la, z, sq, _⟩ := rh.lst (K := K) ho qa
      exact .inl ⟨_, _, rfl, .inl ⟨vs, sq, rfl⟩, by rw [← la.length]; exact q⟩
    · rename_i ho
      cases e
      obtain ⟨ks, hH, rk⟩ := rh.dk ho qa
      exact .inr (.inl ⟨a, ks, rfl, hH, by rw [← rk.length]; exact q⟩)
    · rename_i ho
      cases e
      obtain ⟨ks, hH, rk⟩ := rh.dt ho qa
      exact .inr (.inr ⟨a, ks, rfl, hH, by rw [← rk.length]; exact q⟩)
    · cases e
  · cases e
def tyNm (x : PV) (h : PH) : Option String := match x with
  | .non => some "NoneType" | .bl _ => some "bool" | .int _ => some "int" | .str _ => some "str" | .tup _ => some "tuple"
  | .obj n => match h[n]? with
    | some (.lst _ _) => some "list" | some (.dK _) => some "dict" | some (.dT _) => some "dict" | none => none
theorem tyNm_snd (rh : RepH H as h) (rx : RepV H as x u) {n : String} (e : tyNm x h = some n) : TyOf K H u (.type n) := by
  unfold tyNm at e
  cases x with
  | non => cases e; rw [rx.nonE]; exact .non
  | bl b => cases e; rw [rx.blE]; exact .bl _
  | int b => cases e; rw [rx.intE]; exact .int _
  | str b => cases e; rw [rx.strE]; exact .str _
  | tup b => cases e; obtain ⟨a, vs, rfl, qa, la⟩ := rx.tupE; exact .tup qa
  | obj m =>
    obtain ⟨a, rfl, qa⟩ := rx.objE
    simp only at e
    cases ho : h[m]? with
    | none => rw [ho] at e; cases e
    | some o =>
      rw [ho] at e
      cases o with
      | lst fz xs =>
        cases e
        obtain ⟨ho, e1, vs, l, z, c⟩ := rh.at_ m _ a ho qa
        cases fz with
        | true => obtain ⟨o, rfl⟩ := c; exact .frz e1
        | false => cases c; exact .lst e1
      | dK kvs => cases e; obtain ⟨ks, hH, rk⟩ := rh.dk ho qa; exact .dK hH
      | dT kvs => cases e; obtain ⟨ks, hH, rk⟩ := rh.dt ho qa; exact .dT hH
theorem isTy_kit {t : Ty} {b : Bool} (e : isTy t x h = some b) : ∃ n, tyNm x h = some n ∧ kitB n t.nm = some b := by
  unfold isTy at e
  unfold tyNm
  cases x with
  | non => cases e; exact ⟨_, rfl, by cases t <;> decide +kernel⟩
  | bl c => cases e; exact ⟨_, rfl, by cases t <;> decide +kernel⟩
  | int c => cases e; exact ⟨_, rfl, by cases t <;> decide +kernel⟩
  | str c => cases e; exact ⟨_, rfl, by cases t <;> decide +kernel⟩
  | tup c => cases e; exact ⟨_, rfl, by cases t <;> decide +kernel⟩
  | obj m =>
    simp only at e ⊢
    cases ho : h[m]? with
    | none => rw [ho] at e; cases e
    | some o =>
      rw [ho] at e
      cases o with
      | lst fz xs => cases e; exact ⟨_, rfl, by cases t <;> decide +kernel⟩
      | dK kvs => cases e; exact ⟨_, rfl, by cases t <;> decide +kernel⟩
      | dT kvs => cases e; exact ⟨_, rfl, by cases t <;> decide +kernel⟩
theorem isi_snd (rh : RepH H as h) (rx : RepV H as x u) {t : Ty} {b : Bool} (e : isTy t x h = some b) (q : Q (.bl b) H) : rIsi K [u, .ty t.nm] H Q := by
  obtain ⟨n, e1, e2⟩ := isTy_kit e
  exact ⟨u, .ty t.nm, .type n, .type t.nm, b, rfl, .ty _, .base (tyNm_snd rh rx e1), kit_ty e2, q⟩
end

/-! ### where one stands -/
/-- lists of expressions without a star -/
def noStar : Expr → Bool
  | .Starred .. => false
  | _ => true
theorem each_noStar {e : Expr} {es : List Expr} {env : PySem.Env} (h : noStar e = true) : starEach (e :: es) env = (false, eval e env) :: starEach es env := by
  cases e <;> first | rfl | exact absurd h Bool.false_ne_true
theorem any_noStar {pos : Pos} {env : PySem.Env} : ∀ {es : List Expr}, es.all noStar = true → (backTo pos (starEach es env)).any (·.1) = false
  | [], _ => rfl
  | e :: es, h => by
    rw [List.all_cons, Bool.and_eq_true] at h
    rw [each_noStar h.1]
    show (false || (backTo pos (starEach es env)).any (·.1)) = false
    rw [any_noStar h.2]; rfl

section
variable {X : Cx} {T : XTab} {W : WX} {c : Cc} {pos : Pos}
theorem s_var {i : Nat} {x : Str} (hN : X.N[i]? = some x) (hv : Vis X.env.scope x) (hd : (x == ("__debug__" : Str)) = false) (hcd : (x == ("__classdict__" : Str)) = false) : PE X (.Name x pos) (rdE T W c (.var i)) := by
  refine PE.imp (pe_var hN hv hd hcd) fun σ H Q ⟨as, r, h, p, g⟩ => ?_
  unfold evE at g
  cases q : r[i]? with
  | none => rw [q] at g; exact g.elim
  | some o =>
    cases o with
    | none => rw [q] at g; exact g.elim
    | some v =>
      rw [q] at g
      obtain ⟨u, hu, ru⟩ := p.env i v q
      exact ⟨u, hu, g.ok p.hp ru⟩
theorem s_cst {e : Expr} {v : V} {x : PV} (he : PE X e (tC v)) (rv : ∀ H as, RepV H as x v) : PE X e (rdE T W c (.cst x)) := by
  refine PE.imp he fun σ H Q ⟨as, r, h, p, g⟩ => ?_
  unfold evE at g
  exact g.ok p.hp (rv H as)
theorem s_glb {e : Expr} {v : V} {x : PV} {n : Nat} (he : PE X e (tC v)) (hx : c.glb n = some x) (rv : ∀ H as, RepV H as x v) : PE X e (rdE T W c (.glb n)) := by
  refine PE.imp he fun σ H Q ⟨as, r, h, p, g⟩ => ?_
  unfold evE at g
  rw [hx] at g
  exact g.ok p.hp (rv H as)
theorem s_nil : PA X [] (rdL T W c []) := by
  refine PA.imp pa_nil fun σ H Q ⟨as, r, h, p, g⟩ => ?_
  unfold evL at g
  exact g.ok p.hp .nil
theorem s_cons {e : Expr} {es : List Expr} {d : E} {ds : List E} (ha : PE X e (rdE T W c d)) (hr : PA X es (rdL T W c ds)) (hs : noStar e = true) : PA X (e :: es) (rdL T W c (d :: ds)) := by
  refine PA.imp (pa_cons ha hr (each_noStar hs)) fun σ H Q ⟨as, r, h, p, g⟩ => ?_
  unfold evL at g
  refine ⟨as, r, h, p, (g.bnd (repx := rV) p).mono ?_⟩
  rintro u H1 ⟨as1, h1, v, e1, p1, rv, _, g1⟩
  refine ⟨as1, r, h1, p1, (g1.bnd (repx := rL) p1).mono ?_⟩
  rintro us H2 ⟨as2, h2, vs, e2, p2, rl, _, g2⟩
  exact g2.ok p2.hp (.cons (rv.ext p1.hp e2) rl)
theorem s_tup {es : List Expr} {ds : List E} {x1} (ha : PA X es (rdL T W c ds)) : PE X (.Tuple es x1 pos) (rdE T W c (.tup ds)) := by
  refine PE.imp (pe_tup ha) fun σ H Q ⟨as, r, h, p, g⟩ => ?_
  unfold evE at g
  refine ⟨as, r, h, p, (g.bnd (repx := rL) p).mono ?_⟩
  rintro us H1 ⟨as1, h1, vs, e1, p1, rl, _, g1⟩
  split at g1
  · rename_i hl
    exact ⟨by rw [← rl.length]; exact hl, fun q hq => g1.newTup p1.hp rl hq⟩
  · exact g1.elim
theorem s_lst {es : List Expr} {ds : List E} (ha : PA X es (rdL T W c ds)) : PE X (.List es pos) (rdE T W c (.lst ds)) := by
  refine PE.imp (pe_lst ha) fun σ H Q ⟨as, r, h, p, g⟩ => ?_
  unfold evE at g
  refine ⟨as, r, h, p, (g.bnd (repx := rL) p).mono ?_⟩
  rintro us H1 ⟨as1, h1, vs, e1, p1, rl, _, g1⟩
  split at g1
  · rename_i hl
    exact ⟨by rw [← rl.length]; exact hl, fun q hq => g1.newLst p1.hp rl hl hq⟩
  · exact g1.elim
theorem s_bin {a b : Expr} {A B : E} (o : Op) (ha : PE X a (rdE T W c A)) (hb : PE X b (rdE T W c B)) : PE X (.BinOp a o.py b pos) (rdE T W c (.bin o A B)) := by
  refine PE.imp (pe_op (op_bin o) ha hb) fun σ H Q ⟨as, r, h, p, g⟩ => ?_
  unfold evE at g
  refine ⟨as, r, h, p, (g.bnd (repx := rV) p).mono ?_⟩
  rintro u H1 ⟨as1, h1, v, e1, p1, rv, _, g1⟩
  refine ⟨as1, r, h1, p1, (g1.bnd (repx := rV) p1).mono ?_⟩
  rintro w H2 ⟨as2, h2, y, e2, p2, ry, _, g2⟩
  exact binop_snd o p2.hp (rv.ext p1.hp e2) ry g2
theorem s_neg {a : Expr} {A : E} (ha : PE X a (rdE T W c A)) : PE X (.UnaryOp .USub a pos) (rdE T W c (.neg A)) := by
  refine PE.imp (pe_un un_neg ha) fun σ H Q ⟨as, r, h, p, g⟩ => ?_
  unfold evE at g
  refine ⟨as, r, h, p, (g.bnd (repx := rV) p).mono ?_⟩
  rintro u H1 ⟨as1, h1, v, e1, p1, rv, _, g1⟩
  split at g1
  · exact ⟨_, rv.intE, g1.ok p1.hp (.int _)⟩
  · exact g1.elim
/-- a test's reading from an expression's -/
theorem rdT_of {σ : L2.St} {H : Hp} {Q : Bool → Hp → Prop} {A : E} (q : rdT T W c A σ H Q) : rdE T W c A σ H (fun u H' => ∃ b, u = .bl b ∧ Q b H') := by
  obtain ⟨as, r, h, p, g⟩ := q
  exact ⟨as, r, h, p, g.tst⟩
theorem s_tstVal {e : Expr} {A : E} (he : PE X e (rdE T W c A)) (hi : ∀ whole, isTrue e X.env whole = (do let v ← whole; standAt e.pos; holding [v] (truthy v))) : PT X e (rdT T W c A) :=
  PT.imp (pt_val he hi) fun σ H Q q => rdT_of q
theorem s_not {a : Expr} {A : E} (ha : PE X a (rdE T W c A)) : PE X (.UnaryOp .Not a pos) (rdE T W c (.not A)) := by
  refine PE.imp (pe_not ha) fun σ H Q ⟨as, r, h, p, g⟩ => ?_
  unfold evE at g
  refine ⟨as, r, h, p, ((g.bnd (repx := rB) p).tst).mono ?_⟩
  rintro u H1 ⟨b, rfl, as1, h1, v, e1, p1, rfl, _, g1⟩
  exact ⟨_, rfl, g1.ok p1.hp (.bl _)⟩
theorem s_notT {a : Expr} {A : E} (ha : PT X a (rdT T W c A)) : PT X (.UnaryOp .Not a pos) (rdT T W c (.not A)) := by
  refine PT.imp (pt_not ha) fun σ H Q ⟨as, r, h, p, g⟩ => ?_
  unfold evE at g
  refine ⟨as, r, h, p, ?_⟩
  cases q : tst (evE c A r h) with
  | ok b h1 =>
    rw [q] at g
    exact fun as' H' u e rh ru => by cases ru; exact g as' H' (!b) e rh rfl
  | ex k vs h1 => rw [q] at g; exact g
  | no => rw [q] at g; exact g
theorem s_one {op : BoolOp} {a : Expr} {A : E} (ha : PE X a (rdE T W c A)) : PE X (.BoolOp op [a] pos) (rdE T W c A) := pe_one ha
theorem s_and {a b : Expr} {rest : List Expr} {A B : E} (ha : PE X a (rdE T W c A)) (hb : PE X (.BoolOp .And (b :: rest) pos) (rdE T W c B)) : PE X (.BoolOp .And (a :: b :: rest) pos) (rdE T W c (.and A B)) := by
  refine PE.imp (pe_and ha hb) fun σ H Q ⟨as, r, h, p, g⟩ => ?_
  unfold evE at g
  refine ⟨as, r, h, p, ((g.bnd (repx := rB) p).tst).mono ?_⟩
  rintro u H1 ⟨b, rfl, as1, h1, v, e1, p1, rfl, _, g1⟩
  refine ⟨v, rfl, ?_⟩
  cases v with
  | true =>
    rw [if_pos rfl] at g1 ⊢
    refine ⟨as1, r, h1, p1, ((g1.bnd (repx := rB) p1).tst).mono ?_⟩
    rintro u H2 ⟨b, rfl, as2, h2, v, e2, p2, rfl, _, g2⟩
    exact g2.ok p2.hp (.bl _)
  | false =>
    rw [if_neg Bool.false_ne_true] at g1 ⊢
    exact g1.ok p1.hp (.bl _)
theorem s_or {a b : Expr} {rest : List Expr} {A B : E} (ha : PE X a (rdE T W c A)) (hb : PE X (.BoolOp .Or (b :: rest) pos) (rdE T W c B)) : PE X (.BoolOp .Or (a :: b :: rest) pos) (rdE T W c (.or A B)) := by
  refine PE.imp (pe_or ha hb) fun σ H Q ⟨as, r, h, p, g⟩ => ?_
  unfold evE at g
  refine ⟨as, r, h, p, ((g.bnd (repx := rB) p).tst).mono ?_⟩
  rintro u H1 ⟨b, rfl, as1, h1, v, e1, p1, rfl, _, g1⟩
  refine ⟨v, rfl, ?_⟩
  cases v with
  | true =>
    rw [if_pos rfl] at g1 ⊢
    exact g1.ok p1.hp (.bl _)
  | false =>
    rw [if_neg Bool.false_ne_true] at g1 ⊢
    refine ⟨as1, r, h1, p1, ((g1.bnd (repx := rB) p1).tst).mono ?_⟩
    rintro u H2 ⟨b, rfl, as2, h2, v, e2, p2, rfl, _, g2⟩
    exact g2.ok p2.hp (.bl _)
/-- the second part of an and, an or, wrapped as a test -/
theorem tst_wrap (x : Rs PV) : tst (x.bnd fun v h => Rs.ok v h) = tst x := by
  cases x <;> rfl
theorem tst_bl (x : Rs Bool) : tst (x.bnd fun y h => .ok (.bl y) h) = x := by
  cases x <;> rfl
theorem s_andT {a b : Expr} {rest : List Expr} {A B : E} (ha : PT X a (rdT T W c A)) (hb : PW X (.BoolOp .And (b :: rest) pos) (rdT T W c B)) : PW X (.BoolOp .And (a :: b :: rest) pos) (rdT T W c (.and A B)) := by
  refine PW.imp (pw_and ha hb) fun σ H Q ⟨as, r, h, p, g⟩ => ?_
  unfold evE at g
  have e : tst ((tst (evE c A r h)).bnd fun x h => if x = true then (tst (evE c B r h)).bnd fun y h => .ok (.bl y) h else .ok (.bl false) h) =
      (tst (evE c A r h)).bnd fun x h => if x = true then tst (evE c B r h) else .ok false h := by
    cases tst (evE c A r h) with
    | ok v h1 => cases v with
      | true => exact tst_bl _
      | false => rfl
    | ex k vs h1 => rfl
    | no => rfl
  rw [e] at g
  refine ⟨as, r, h, p, (g.bnd (repx := rB) p).mono ?_⟩
  rintro u H1 ⟨as1, h1, v, e1, p1, rfl, _, g1⟩
  cases v with
  | true => rw [if_pos rfl] at g1 ⊢; exact ⟨as1, r, h1, p1, g1⟩
  | false => rw [if_neg Bool.false_ne_true] at g1 ⊢; exact g1.ok p1.hp rfl
theorem s_orT {a b : Expr} {rest : List Expr} {A B : E} (ha : PT X a (rdT T W c A)) (hb : PW X (.BoolOp .Or (b :: rest) pos) (rdT T W c B)) : PW X (.BoolOp .Or (a :: b :: rest) pos) (rdT T W c (.or A B)) := by
  refine PW.imp (pw_or ha hb) fun σ H Q ⟨as, r, h, p, g⟩ => ?_
  unfold evE at g
  have e : tst ((tst (evE c A r h)).bnd fun x h => if x = true then .ok (.bl true) h else (tst (evE c B r h)).bnd fun y h => .ok (.bl y) h) =
      (tst (evE c A r h)).bnd fun x h => if x = true then .ok true h else tst (evE c B r h) := by
    cases tst (evE c A r h) with
    | ok v h1 => cases v with
      | true => rfl
      | false => exact tst_bl _
    | ex k vs h1 => rfl
    | no => rfl
  rw [e] at g
  refine ⟨as, r, h, p, (g.bnd (repx := rB) p).mono ?_⟩
  rintro u H1 ⟨as1, h1, v, e1, p1, rfl, _, g1⟩
  cases v with
  | true => rw [if_pos rfl] at g1 ⊢; exact g1.ok p1.hp rfl
  | false => rw [if_neg Bool.false_ne_true] at g1 ⊢; exact ⟨as1, r, h1, p1, g1⟩
theorem s_oneAnd {a : Expr} {A : E} (ha : PT X a (rdT T W c A)) : PW X (.BoolOp .And [a] pos) (rdT T W c A) := pw_and1 ha
theorem s_oneOr {a : Expr} {A : E} (ha : PT X a (rdT T W c A)) : PW X (.BoolOp .Or [a] pos) (rdT T W c A) := pw_or1 ha
theorem ofOptB_snd {as : List Addr} {H : Hp} {σ : L2.St} {h : PH} {o : Option Bool} {Q : VK} (g : gotR T W (ofOptB h o) as H σ rV Q) (rh : RepH H as h) : ∃ b, o = some b ∧ Q (.bl b) H := by
  cases o with
  | none => exact g.elim
  | some b => exact ⟨b, rfl, g.ok rh (.bl b)⟩
theorem s_cmp {a b : Expr} {A B : E} (o : Cp) (hu : X.A.units + 65 < cLine) (ha : PE X a (rdE T W c A)) (hb : PE X b (rdE T W c B)) (hm : behindInMarks o.py b = false) : PE X (.Compare a [o.py] [b] pos) (rdE T W c (.cmp o A B)) := by
  refine PE.imp (pe_cmpR (op_cmp hu o) ha hb hm) fun σ H Q ⟨as, r, h, p, g⟩ => ?_
  unfold evE at g
  refine ⟨as, r, h, p, (g.bnd (repx := rV) p).mono ?_⟩
  rintro u H1 ⟨as1, h1, v, e1, p1, rv, _, g1⟩
  refine ⟨as1, r, h1, p1, (g1.bnd (repx := rV) p1).mono ?_⟩
  rintro w H2 ⟨as2, h2, y, e2, p2, ry, _, g2⟩
  obtain ⟨b, hb, q⟩ := ofOptB_snd g2 p2.hp
  exact cmpop_snd o p2.hp (rv.ext p1.hp e2) ry hb q
theorem s_cmpT {a b : Expr} {A B : E} (o : Cp) (hu : X.A.units + 65 < cLine) (ha : PE X a (rdE T W c A)) (hb : PE X b (rdE T W c B)) (hm : behindInMarks o.py b = false) : PT X (.Compare a [o.py] [b] pos) (rdT T W c (.cmp o A B)) := by
  refine PT.imp (pt_cmpR (op_cmp hu o) ha hb hm) fun σ H Q q => ?_
  obtain ⟨as, r, h, p, g⟩ := rdT_of q
  unfold evE at g
  refine ⟨as, r, h, p, (g.bnd (repx := rV) p).mono ?_⟩
  rintro u H1 ⟨as1, h1, v, e1, p1, rv, _, g1⟩
  refine ⟨as1, r, h1, p1, (g1.bnd (repx := rV) p1).mono ?_⟩
  rintro w H2 ⟨as2, h2, y, e2, p2, ry, _, g2⟩
  obtain ⟨b, hb, q⟩ := ofOptB_snd g2 p2.hp
  exact cmpop_snd o p2.hp (rv.ext p1.hp e2) ry hb q
theorem s_chnQ {σ : L2.St} {H : Hp} {Q : VK} {A B D : E} {o o2 : Cp} (q : rdE T W c (.chn o o2 A B D) σ H Q) : tChain (rCmp X.K o) (rCmp X.K o2) (rdE T W c A) (rdE T W c B) (rdE T W c D) σ H Q := by
  obtain ⟨as, r, h, p, g⟩ := q
  unfold evE at g
  refine ⟨as, r, h, p, (g.bnd (repx := rV) p).mono ?_⟩
  rintro u H1 ⟨as1, h1, v, e1, p1, rv, _, g1⟩
  refine ⟨as1, r, h1, p1, (g1.bnd (repx := rV) p1).mono ?_⟩
  rintro w H2 ⟨as2, h2, y, e2, p2, ry, _, g2⟩
  split at g2
  · rename_i hb
    refine cmpop_snd o p2.hp (rv.ext p1.hp e2) ry hb ⟨true, rfl, ?_⟩
    rw [if_pos rfl]
    refine ⟨as2, r, h2, p2, (g2.bnd (repx := rV) p2).mono ?_⟩
    rintro z H3 ⟨as3, h3, y3, e3, p3, rz, _, g3⟩
    obtain ⟨b, hb, q⟩ := ofOptB_snd g3 p3.hp
    exact cmpop_snd o2 p3.hp (ry.ext p2.hp e3) rz hb q
  · rename_i hb
    refine cmpop_snd o p2.hp (rv.ext p1.hp e2) ry hb ⟨false, rfl, ?_⟩
    rw [if_neg Bool.false_ne_true]
    exact g2.ok p2.hp (.bl false)
  · exact g2.elim
theorem s_chn {a b e : Expr} {A B D : E} (o o2 : Cp) (hu : X.A.units + 65 < cLine) (ha : PE X a (rdE T W c A)) (hb : PE X b (rdE T W c B)) (hc : PE X e (rdE T W c D)) (hm : lastMarks [o.py, o2.py] [b, e] = false) :
    PE X (.Compare a [o.py, o2.py] [b, e] pos) (rdE T W c (.chn o o2 A B D)) := PE.imp (pe_chain (op_cmp hu o) (op_cmp hu o2) ha hb hc hm) fun σ H Q q => s_chnQ q
theorem s_chnT {a b e : Expr} {A B D : E} (o o2 : Cp) (hu : X.A.units + 65 < cLine) (ha : PE X a (rdE T W c A)) (hb : PE X b (rdE T W c B)) (hc : PE X e (rdE T W c D)) (hm : lastMarks [o.py, o2.py] [b, e] = false) :
    PT X (.Compare a [o.py, o2.py] [b, e] pos) (rdT T W c (.chn o o2 A B D)) := PT.imp (pt_chain (op_cmp hu o) (op_cmp hu o2) ha hb hc hm) fun σ H Q q => s_chnQ (rdT_of q)
theorem s_ite {t a b : Expr} {A B D : E} (ht : PT X t (rdT T W c D)) (ha : PE X a (rdE T W c A)) (hb : PE X b (rdE T W c B)) : PE X (.IfExp t a b pos) (rdE T W c (.ite D A B)) := by
  refine PE.imp (pe_ifExp ht ha hb) fun σ H Q ⟨as, r, h, p, g⟩ => ?_
  unfold evE at g
  refine ⟨as, r, h, p, (g.bnd (repx := rB) p).mono ?_⟩
  rintro u H1 ⟨as1, h1, v, e1, p1, rfl, _, g1⟩
  cases v with
  | true => rw [if_pos rfl] at g1 ⊢; exact ⟨as1, r, h1, p1, g1⟩
  | false => rw [if_neg Bool.false_ne_true] at g1 ⊢; exact ⟨as1, r, h1, p1, g1⟩
theorem ofOpt_snd {as : List Addr} {H : Hp} {σ : L2.St} {h : PH} {o : Option PV} {Q : VK} (g : gotR T W (ofOpt h o) as H σ rV Q) (rh : RepH H as h) : ∃ b, o = some b ∧ ∀ z, RepV H as b z → Q z H := by
  cases o with
  | none => exact g.elim
  | some b => exact ⟨b, rfl, fun z rz => g.ok rh rz⟩
theorem s_idx {a b : Expr} {A B : E} (hu : X.A.units + 65 < cLine) (ha : PE X a (rdE T W c A)) (hb : PE X b (rdE T W c B)) (hs : PlainIx b) : PE X (.Subscript a b pos) (rdE T W c (.idx A B)) := by
  refine PE.imp (pe_ix (ix_all (by omega)) ha hb hs) fun σ H Q ⟨as, r, h, p, g⟩ => ?_
  unfold evE at g
  refine ⟨as, r, h, p, (g.bnd (repx := rV) p).mono ?_⟩
  rintro u H1 ⟨as1, h1, v, e1, p1, rv, _, g1⟩
  refine ⟨as1, r, h1, p1, (g1.bnd (repx := rV) p1).mono ?_⟩
  rintro w H2 ⟨as2, h2, y, e2, p2, ry, _, g2⟩
  obtain ⟨b, hb, q⟩ := ofOpt_snd g2 p2.hp
  exact idxop_snd p2.hp (rv.ext p1.hp e2) ry hb q
/-- a bound of a slice -/
def rdO (T : XTab) (W : WX) (c : Cc) (d : E) : TO := fun σ H Q => ∃ as r h, Rp H as r σ h ∧ gotR T W (if d.isNop then Rs.ok none h else optInt (evE c d r h)) as H σ (fun _ _ (v : Option Int) (u : Option Int) => v = u) Q
theorem PO.imp' {X : Cx} {e : Option Expr} {t t' : TO} (p : L2.PO X e t) (h : ∀ σ H Q, t' σ H Q → t σ H Q) : L2.PO X e t' := ⟨fun pins s σ H Q I q => p.run pins s σ H Q I (h σ H Q q)⟩
theorem s_noPart : L2.PO X none (rdO T W c .nop) := by
  refine PO.imp' po_none fun σ H Q ⟨as, r, h, p, g⟩ => ?_
  exact g.ok p.hp rfl
theorem s_part {e : Expr} {d : E} (he : PE X e (rdE T W c d)) (hd : d.isNop = false) : L2.PO X (some e) (rdO T W c d) := by
  refine PO.imp' (po_some he) fun σ H Q ⟨as, r, h, p, g⟩ => ?_
  rw [hd, if_neg Bool.false_ne_true] at g
  refine ⟨as, r, h, p, ?_⟩
  cases q : evE c d r h with
  | ok v h1 =>
    rw [q] at g
    cases v with
    | int i => exact fun as' H' u e rh ru => ⟨i, ru.intE, g as' H' (some i) e rh rfl⟩
    | _ => exact g.elim
  | ex k vs h1 => rw [q] at g; exact g
  | no => rw [q] at g; exact g
theorem s_slc {a : Expr} {lo hi : Option Expr} {p2 : Pos} {A L U : E} (ha : PE X a (rdE T W c A)) (hl : L2.PO X lo (rdO T W c L)) (hh : L2.PO X hi (rdO T W c U)) : PE X (.Subscript a (.Slice lo hi none p2) pos) (rdE T W c (.slc A L U)) := by
  refine PE.imp (pe_slice sl_all ha hl hh) fun σ H Q ⟨as, r, h, p, g⟩ => ?_
  unfold evE at g
  refine ⟨as, r, h, p, (g.bnd (repx := rV) p).mono ?_⟩
  rintro u H1 ⟨as1, h1, v, e1, p1, rv, _, g1⟩
  refine ⟨as1, r, h1, p1, (g1.bnd (repx := fun _ _ (v : Option Int) (u : Option Int) => v = u) p1).mono ?_⟩
  rintro l H2 ⟨as2, h2, y, e2, p2, rfl, _, g2⟩
  refine ⟨as2, r, h2, p2, (g2.bnd (repx := fun _ _ (v : Option Int) (u : Option Int) => v = u) p2).mono ?_⟩
  rintro l H3 ⟨as3, h3, y3, e3, p3, rfl, _, g3⟩
  exact slcop_snd p3.hp (rv.ext p1.hp (e2.trans e3)) g3
end
end EV
end
section
set_option Elab.async false
set_option linter.all false
set_option maxRecDepth 100000
/-! EvSnd4: calls of defs, of built-ins, of methods; displays of dicts. -/
namespace EV
open PySem L2

/-- what a def promises: the interpreter's word -/
def spF (T : XTab) (call : Nat → List PV → PH → Rs PV) (f : Nat) : Sp := fun vs H Q E => ∃ as xs h, RepL H as xs vs ∧ RepH H as h ∧ match call f xs h with
  | .ok v h' => ∀ as' H' u, Ext H as H' as' → RepH H' as' h' → RepV H' as' v u → Q u H'
  | .ex k ws h' => ∀ as' H' cls d, Ext H as H' as' → RepH H' as' h' → ExRep T H' as' k ws cls d → E cls d H'
  | .no => False
theorem spF_of {T : XTab} {W : WX} {call : Nat → List PV → PH → Rs PV} {f : Nat} {as : List Addr} {H : Hp} {σ : L2.St} {h : PH} {xs : List PV} {vs : List V} {Q : VK} (rh : RepH H as h) (rl : RepL H as xs vs)
    (g : gotR T W (call f xs h) as H σ rV Q) : spF T call f vs H Q (WE W σ) := by
  refine ⟨as, xs, h, rl, rh, ?_⟩
  cases q : call f xs h with
  | ok v h' => rw [q] at g; exact g
  | ex k ws h' => rw [q] at g; exact g
  | no => rw [q] at g; exact g

section
variable {X : Cx} {T : XTab} {W : WX} {c : Cc} {pos p : Pos} {x : Str} {k f : Nat} {fa : Addr} {fd : FuncData} {ps : List Str}
theorem pe_callS0 {CX : CXT} {k : Nat} {sp : Sp} {E : L2.St → XK} (F : FnOk X.prog X.w X.K X.mg X.base CX k fa fd ps sp) (hr : Room k X.A) (hg : Gl X x) (hm : X.mg x = some (.ref fa)) (hk : PySem.W.keepIn X.K (.ref fa) = true) (hb : Binds X.K fd ps []) (hx : ∀ σ, PassesAt CX X σ (E σ))
    (hdb : (x == ("__debug__" : Str)) = false) : PE X (.Call (.Name x p) [] [] pos) (tCallS sp E tNil) := by
  refine ⟨fun pins s σ H Q I h => ?_⟩
  refine wpAny_Call_Name_kw (ld_glob I hg hm ?_ hdb)
  exact PySem.W.callWith_K0 I.kIn hk (run_fnS (us := []) F hr hb (hx σ) I .nil h)
theorem s_call {es : List Expr} {ds : List E} (F : FnOk X.prog X.w X.K X.mg X.base (L2.CX X.prog X.w) k fa fd ps (spF T c.call f)) (hr : Room k X.A) (tk : Takes X W) (hg : Gl X x) (hm : X.mg x = some (.ref fa)) (hk : PySem.W.keepIn X.K (.ref fa) = true)
    (hb : Binds X.K fd ps []) (ha : PA X es (rdL T W c ds)) (hs : es.all noStar = true) (hl : es.length = ds.length) (hdb : (x == ("__debug__" : Str)) = false) : PE X (.Call (.Name x p) es [] pos) (rdE T W c (.call f ds)) := by
  cases es with
  | nil =>
    have e0 : ds = [] := List.eq_nil_of_length_eq_zero hl.symm
    subst e0
    refine PE.imp (pe_callS0 (E := WE W) F hr hg hm hk hb (fun σ => passAt tk σ) hdb) fun σ H Q ⟨as, r, h, q, g⟩ => ?_
    unfold evE evL at g
    exact spF_of q.hp .nil g
  | cons e es =>
    rw [List.all_cons, Bool.and_eq_true] at hs
    refine PE.imp (pe_callS (E := WE W) F hr hg hm hk hb (fun σ => passAt tk σ) ha hdb (each_noStar hs.1) (any_noStar hs.2)) fun σ H Q ⟨as, r, h, q, g⟩ => ?_
    unfold evE at g
    refine ⟨as, r, h, q, (g.bnd (repx := rL) q).mono ?_⟩
    rintro us H1 ⟨as1, h1, vs, e1, p1, rl, _, g1⟩
    exact spF_of p1.hp rl g1

/-! keywords -/
def pickA {α : Type} (ord : List Nat) (xs : List α) : Option (List α) := optAll (fun i => xs[i]?) ord
theorem RepL.pick {H : Hp} {as : List Addr} {xs : List PV} {vs : List V} (r : RepL H as xs vs) : ∀ (ord : List Nat) (ys : List PV), EV.pick xs ord = some ys → ∃ us, pickA ord vs = some us ∧ RepL H as ys us := by
  intro ord
  induction ord with
  | nil => intro ys e; cases e; exact ⟨[], rfl, .nil⟩
  | cons i ord ih =>
    intro ys e
    obtain ⟨d, t, e1, e2, rfl⟩ := optAll_consE (f := fun i => xs[i]?) e
    obtain ⟨u, hu, ru⟩ := r.get e1
    obtain ⟨us, h1, h2⟩ := ih t e2
    refine ⟨u :: us, ?_, .cons ru h2⟩
    unfold pickA optAll
    have h1' : optAll (fun i => vs[i]?) ord = some us := h1
    simp only [hu, h1']
theorem vals_pick {vs : List V} {us : List Value} (r : Vals vs us) : ∀ (ord : List Nat) (ws : List V), pickA ord vs = some ws → ∃ zs, pickA ord us = some zs ∧ Vals ws zs := by
  intro ord
  induction ord with
  | nil => intro ys e; cases e; exact ⟨[], rfl, .nil⟩
  | cons i ord ih =>
    intro ys e
    obtain ⟨d, t, e1, e2, rfl⟩ := optAll_consE (f := fun i => vs[i]?) e
    obtain ⟨u, hu, ru⟩ := r.get e1
    obtain ⟨us', h1, h2⟩ := ih t e2
    refine ⟨u :: us', ?_, .cons ru h2⟩
    unfold pickA optAll
    have h1' : optAll (fun i => us[i]?) ord = some us' := h1
    simp only [hu, h1']
/-- how a call with n values and these keywords binds -/
def KwOk (X : Cx) (fd : FuncData) (ps : List Str) (n : Nat) (ks : List Str) (ord : List Nat) : Prop :=
  ∀ (s : Shared) (us ws zs : List Value), us.length = n → ws.length = ks.length → X.K.In s.heap → pickA ord (us ++ ws) = some zs → BindsTo s fd ⟨us, ks.zip ws⟩ (ps.zip zs)
def kwNm (kws : List Keyword) : Option (List Str) := optAll (fun k : Keyword => match k with | ⟨n, _, _⟩ => n) kws
theorem kw_all {env : PySem.Env} {pos : Pos} : ∀ {kws : List Keyword} {ks : List Str}, kwNm kws = some ks → (backToKw pos (keywordEach kws env)).all (·.1.isSome) = true ∧ (backToKw pos (keywordEach kws env)).filterMap (·.1) = ks ∧
    (backToKw pos (keywordEach kws env)).any (·.1.isNone) = false := by
  intro kws
  induction kws with
  | nil => intro ks e; cases e; exact ⟨rfl, rfl, rfl⟩
  | cons k kws ih =>
    intro ks e
    obtain ⟨d, t, e1, e2, rfl⟩ := optAll_consE e
    obtain ⟨h1, h2, h3⟩ := ih e2
    obtain ⟨nm, v, kp⟩ := k
    simp only at e1
    subst e1
    refine ⟨?_, ?_, ?_⟩
    · show (true && (backToKw pos (keywordEach kws env)).all (·.1.isSome)) = true
      rw [h1]; rfl
    · show d :: (backToKw pos (keywordEach kws env)).filterMap (·.1) = d :: t
      rw [h2]
    · show (false || (backToKw pos (keywordEach kws env)).any (·.1.isNone)) = false
      rw [h3]; rfl
theorem PK.imp {X : Cx} {e : List Keyword} {t t' : TA} (p : L2.PK X e t) (h : ∀ σ H Q, t' σ H Q → t σ H Q) : L2.PK X e t' := ⟨fun pos pins s σ H Q I q => p.run pos pins s σ H Q I (h σ H Q q)⟩
theorem s_knil : L2.PK X [] (rdL T W c []) := by
  refine PK.imp pk_nil fun σ H Q ⟨as, r, h, p, g⟩ => ?_
  unfold evL at g
  exact g.ok p.hp .nil
theorem s_kcons {e : Expr} {es : List Keyword} {nm : Option Str} {kp : Pos} {d : E} {ds : List E} (ha : PE X e (rdE T W c d)) (hr : L2.PK X es (rdL T W c ds)) : L2.PK X (⟨nm, e, kp⟩ :: es) (rdL T W c (d :: ds)) := by
  refine PK.imp (pk_cons ha hr) fun σ H Q ⟨as, r, h, p, g⟩ => ?_
  unfold evL at g
  refine ⟨as, r, h, p, (g.bnd (repx := rV) p).mono ?_⟩
  rintro u H1 ⟨as1, h1, v, e1, p1, rv, _, g1⟩
  refine ⟨as1, r, h1, p1, (g1.bnd (repx := rL) p1).mono ?_⟩
  rintro us H2 ⟨as2, h2, vs, e2, p2, rl, _, g2⟩
  exact g2.ok p2.hp (.cons (rv.ext p1.hp e2) rl)
theorem evL_len {c : Cc} : ∀ {ds : List E} {r : Env} {h h' : PH} {vs : List PV}, evL c ds r h = .ok vs h' → vs.length = ds.length := by
  intro ds
  induction ds with
  | nil => intro r h h' vs e; unfold evL at e; cases e; rfl
  | cons d ds ih =>
    intro r h h' vs e
    unfold evL at e
    cases q : evE c d r h with
    | ok v h1 =>
      rw [q] at e
      simp only [Rs.bnd] at e
      cases q2 : evL c ds r h1 with
      | ok us h2 =>
        rw [q2] at e
        simp only at e
        cases e
        rw [List.length_cons, List.length_cons, ih q2]
      | ex k ws h2 => rw [q2] at e; cases e
      | no => rw [q2] at e; cases e
    | ex k ws h1 => rw [q] at e; cases e
    | no => rw [q] at e; cases e
/-- the call with keywords, by values -/
theorem run_fnKS {pins : List (Addr × Obj)} {σ : L2.St} {H : Hp} {s : Shared} {Q : VK} {us ws : List Value} {vs zs ys : List V} {n : Nat} {ks : List Str} {ord : List Nat} {E : L2.St → XK} {sp : Sp} (F : FnOk X.prog X.w X.K X.mg X.base (L2.CX X.prog X.w) k fa fd ps sp) (hr : Room k X.A)
    (hb : KwOk X fd ps n ks ord) (hx : PassesAt (L2.CX X.prog X.w) X σ (E σ)) (I : Inv X pins σ H s) (r : Vals vs us) (rz : Vals zs ws) (hn : vs.length = n) (hz : zs.length = ks.length) (hp : pickA ord (vs ++ zs) = some ys) (h : sp ys H Q (E σ)) :
    wpAny (model X.prog X.w) X.A (call (.ref fa) us (ks.zip ws)) (EP X pins σ Q) X.xe s := by
  obtain ⟨os, h1, h2⟩ := vals_pick (r.append rz) ord ys hp
  have b := hb s us ws os (by rw [← r.length]; exact hn) (by rw [← rz.length]; exact hz) I.kIn h1
  refine wpAny_call (codeAny_mono (F.run X.A X.stack s H ⟨us, ks.zip ws⟩ os ys Q (E σ) hr I.env0 b h2 h) fun r s' hq => ?_)
  cases r with
  | error e => exact hx pins H s e s' I hq
  | ok fl =>
    cases fl with
    | ret u => exact I.after hq
    | next => exact False.elim hq
    | brk => exact False.elim hq
    | cont => exact False.elim hq
theorem s_callK {es : List Expr} {ds us : List E} {kws : List Keyword} {ks : List Str} {ord : List Nat} (F : FnOk X.prog X.w X.K X.mg X.base (L2.CX X.prog X.w) k fa fd ps (spF T c.call f)) (hr : Room k X.A) (tk : Takes X W) (hg : Gl X x) (hm : X.mg x = some (.ref fa)) (hk : PySem.W.keepIn X.K (.ref fa) = true)
    (hb : KwOk X fd ps ds.length ks ord) (ha : PA X es (rdL T W c ds)) (hkw : L2.PK X kws (rdL T W c us)) (hn : kwNm kws = some ks) (hs : es.all noStar = true) (hl : es.length = ds.length) (hku : us.length = ks.length) (hdb : (x == ("__debug__" : Str)) = false) :
    PE X (.Call (.Name x p) es kws pos) (rdE T W c (.callK f ds us ord)) := by
  obtain ⟨n1, n2, n3⟩ := kw_all (env := X.env) (pos := pos) hn
  refine ⟨fun pins s σ H Q I ⟨as, r, h, q, g⟩ => ?_⟩
  unfold evE at g
  refine wpAny_Call_Name_kw (ld_glob I hg hm ?_ hdb)
  have fin : ∀ {s1 : Shared} {H1 : Hp} {vs : List V} {vals : List Value} {as1 : List Addr} {h1 : PH} {xs : List PV}, Inv X pins σ H1 s1 → Vals vs vals → RepL H1 as1 xs vs → Rp H1 as1 r σ h1 → xs.length = ds.length →
      gotR T W ((evL c us r h1).bnd fun us h => match EV.pick (xs ++ us) ord with | some ws => c.call f ws h | none => .no) as1 H1 σ rV Q →
      wpAny (model X.prog X.w) X.A (evalAll ((backToKw pos (keywordEach kws X.env)).map (·.2))) (fun ws s2 => X.K.In s2.heap ∧ wpAny (model X.prog X.w) X.A (call (.ref fa) ([] ++ vals) (((backToKw pos (keywordEach kws X.env)).filterMap (·.1)).zip ws)) (EP X pins σ Q) X.xe s2) X.xe s1 := by
    intro s1 H1 vs vals as1 h1 xs I1 rv rl p1 hx g1
    refine thn (hkw.run pos pins s1 σ H1 _ I1 ⟨as1, r, h1, p1, (g1.bnd (repx := rL) p1)⟩) fun ws s2 ⟨zs, H2, I2, rz, as2, h2, ys, e2, p2, rl2, ev2, g2⟩ => ⟨I2.kIn, ?_⟩
    rw [n2]
    cases hp : EV.pick (xs ++ ys) ord with
    | none => rw [hp] at g2; exact g2.elim
    | some os =>
      rw [hp] at g2
      obtain ⟨qs, h3, h4⟩ := ((rl.ext p1.hp e2).append rl2).pick ord os hp
      have hz : zs.length = ks.length := by rw [← rl2.length, evL_len ev2, hku]
      exact run_fnKS (E := WE W) F hr hb (passAt tk σ) I2 rv rz (by rw [← rl.length]; exact hx) hz h3 (spF_of p2.hp h4 g2)
  cases es with
  | nil =>
    have e0 : ds = [] := List.eq_nil_of_length_eq_zero hl.symm
    subst e0
    have e0 : evL c ([] : List E) r h = .ok [] h := by unfold evL; rfl
    rw [e0] at g
    refine PySem.W.callWith_KW0 (h₀ := X.base) I.ok.mod.kin hk n1 (fin I .nil .nil q rfl g) ?_
    show (false || _) = false
    rw [n3]; rfl
  | cons e es =>
    rw [List.all_cons, Bool.and_eq_true] at hs
    refine PySem.W.callWith_KW (h₀ := X.base) I.ok.mod.kin hk n1 (thn (ha.run pos pins s σ H _ I ⟨as, r, h, q, g.bnd (repx := rL) q⟩) fun vals s1 ⟨vs, H1, I1, rv, as1, h1, xs, e1, p1, rl, ev1, g1⟩ => fin I1 rv rl p1 (evL_len ev1) g1) ?_ (each_noStar hs.1)
    rw [n3, Bool.or_false]
    rw [each_noStar hs.1]
    show (false || (backTo pos (starEach es X.env)).any (·.1)) = false
    rw [any_noStar hs.2]; rfl
end

/-! ### built-ins -/
section
variable {X : Cx} {T : XTab} {W : WX} {c : Cc} {pos p : Pos}
theorem rl1 {H : Hp} {as : List Addr} {x : PV} {vs : List V} (r : RepL H as [x] vs) : ∃ u, vs = [u] ∧ RepV H as x u := by
  obtain ⟨u, us, rfl, a, b⟩ := r.consE
  rw [b.nilE]
  exact ⟨u, rfl, a⟩
theorem rl2 {H : Hp} {as : List Addr} {x y : PV} {vs : List V} (r : RepL H as [x, y] vs) : ∃ u w, vs = [u, w] ∧ RepV H as x u ∧ RepV H as y w := by
  obtain ⟨u, us, rfl, a, b⟩ := r.consE
  obtain ⟨w, rfl, b2⟩ := rl1 b
  exact ⟨u, w, rfl, a, b2⟩
/-- a built-in by values -/
theorem s_bfQ {b : Bf} {ds : List E} {rr : List V → Hp → VK → Prop} {σ : L2.St} {H : Hp} {Q : VK} (hr : ∀ as H h vs us Q, RepH H as h → RepL H as vs us → (∀ o, bfop b vs h = some o → (∀ z, RepV H as o z → Q z H) → rr us H Q)) (q : rdE T W c (.bf b ds) σ H Q) :
    tCB rr (rdL T W c ds) σ H Q := by
  obtain ⟨as, r, h, p, g⟩ := q
  unfold evE at g
  refine ⟨as, r, h, p, (g.bnd (repx := rL) p).mono ?_⟩
  rintro us H1 ⟨as1, h1, vs, e1, p1, rl, _, g1⟩
  obtain ⟨o, ho, q⟩ := ofOpt_snd g1 p1.hp
  exact hr as1 H1 h1 vs us Q p1.hp rl o ho q
theorem bf_len {vs : List PV} {h : PH} {o : PV} (e : bfop .len vs h = some o) : ∃ x n, vs = [x] ∧ lenOf x h = some n ∧ o = .int (n : Nat) := by
  rcases vs with _ | ⟨x, _ | ⟨y, r⟩⟩
  · cases e
  · obtain ⟨n, hn, ho⟩ := Option.map_eq_some_iff.mp (show (lenOf x h).map (fun (n : Nat) => PV.int (n : Int)) = some o from e)
    exact ⟨x, n, rfl, hn, ho.symm⟩
  · cases e
theorem bf_int {vs : List PV} {h : PH} {o : PV} (e : bfop .int vs h = some o) : (∃ i, vs = [.int i] ∧ o = .int i) ∨ ∃ b, vs = [.bl b] ∧ o = .int (if b then 1 else 0) := by
  rcases vs with _ | ⟨x, _ | ⟨y, r⟩⟩
  · cases e
  · cases x with
    | int i => cases e; exact .inl ⟨i, rfl, rfl⟩
    | bl b => cases e; exact .inr ⟨b, rfl, rfl⟩
    | _ => cases e
  · cases x <;> cases e
theorem bf_min {vs : List PV} {h : PH} {o : PV} (e : bfop .min vs h = some o) : ∃ i j, vs = [.int i, .int j] ∧ o = .int (if j < i then j else i) := by
  rcases vs with _ | ⟨x, _ | ⟨y, _ | ⟨z, r⟩⟩⟩
  · cases e
  · cases x <;> cases e
  · cases x with
    | int i => cases y with
      | int j => cases e; exact ⟨i, j, rfl, rfl⟩
      | _ => cases e
    | _ => cases e
  · cases x <;> cases y <;> cases e
theorem bf_max {vs : List PV} {h : PH} {o : PV} (e : bfop .max vs h = some o) : ∃ i j, vs = [.int i, .int j] ∧ o = .int (if j > i then j else i) := by
  rcases vs with _ | ⟨x, _ | ⟨y, _ | ⟨z, r⟩⟩⟩
  · cases e
  · cases x <;> cases e
  · cases x with
    | int i => cases y with
      | int j => cases e; exact ⟨i, j, rfl, rfl⟩
      | _ => cases e
    | _ => cases e
  · cases x <;> cases y <;> cases e
theorem s_len {e : Expr} {d : E} (hg : Gl X "len") (hm : X.mg "len" = none) (ha : PA X [e] (rdL T W c [d])) (hs : noStar e = true) : PE X (.Call (.Name "len" p) [e] [] pos) (rdE T W c (.bf .len [d])) := by
  refine PE.imp (pe_callB call_lenA hg hm PySem.boot_len ha (by decide) (by decide) (each_noStar hs) rfl) fun σ H Q q => s_bfQ (fun as H h vs us Q rh rl o ho q => ?_) q
  obtain ⟨x, n, rfl, hn, rfl⟩ := bf_len ho
  obtain ⟨u, rfl, ru⟩ := rl1 rl
  exact len_snd rh ru hn (q _ (.int _))
theorem boot_int' : bootBuiltins "int" = some (.type "int") := by decide +kernel
theorem boot_min' : bootBuiltins "min" = some (.builtin "min") := by decide +kernel
theorem boot_max' : bootBuiltins "max" = some (.builtin "max") := by decide +kernel
theorem boot_isi' : bootBuiltins "isinstance" = some (.builtin "isinstance") := by decide +kernel
theorem s_int {e : Expr} {d : E} (hg : Gl X "int") (hm : X.mg "int" = none) (ha : PA X [e] (rdL T W c [d])) (hs : noStar e = true) : PE X (.Call (.Name "int" p) [e] [] pos) (rdE T W c (.bf .int [d])) := by
  refine PE.imp (pe_callTy call_int1 hg hm boot_int' ha (by decide) (by decide) (each_noStar hs) rfl) fun σ H Q q => s_bfQ (fun as H h vs us Q rh rl o ho q => ?_) q
  rcases bf_int ho with ⟨i, rfl, rfl⟩ | ⟨b, rfl, rfl⟩
  · obtain ⟨u, rfl, ru⟩ := rl1 rl
    rw [ru.intE]
    exact .inl ⟨_, rfl, q _ (.int _)⟩
  · obtain ⟨u, rfl, ru⟩ := rl1 rl
    rw [ru.blE]
    exact .inr ⟨_, rfl, q _ (.int _)⟩
theorem s_min {e e2 : Expr} {d d2 : E} (hc : X.calm = true) (hg : Gl X "min") (hm : X.mg "min" = none) (ha : PA X [e, e2] (rdL T W c [d, d2])) (hs : noStar e = true) (hs2 : noStar e2 = true) : PE X (.Call (.Name "min" p) [e, e2] [] pos) (rdE T W c (.bf .min [d, d2])) := by
  refine PE.imp (pe_callB (call_min2 hc) hg hm boot_min' ha (by decide) (by decide) (each_noStar hs) (any_noStar (by simp [hs2]))) fun σ H Q q => s_bfQ (fun as H h vs us Q rh rl o ho q => ?_) q
  obtain ⟨i, j, rfl, rfl⟩ := bf_min ho
  obtain ⟨u, w, rfl, ru, rw'⟩ := rl2 rl
  rw [ru.intE, rw'.intE]
  exact ⟨_, _, rfl, q _ (.int _)⟩
theorem s_max {e e2 : Expr} {d d2 : E} (hc : X.calm = true) (hg : Gl X "max") (hm : X.mg "max" = none) (ha : PA X [e, e2] (rdL T W c [d, d2])) (hs : noStar e = true) (hs2 : noStar e2 = true) : PE X (.Call (.Name "max" p) [e, e2] [] pos) (rdE T W c (.bf .max [d, d2])) := by
  refine PE.imp (pe_callB (call_max2 hc) hg hm boot_max' ha (by decide) (by decide) (each_noStar hs) (any_noStar (by simp [hs2]))) fun σ H Q q => s_bfQ (fun as H h vs us Q rh rl o ho q => ?_) q
  obtain ⟨i, j, rfl, rfl⟩ := bf_max ho
  obtain ⟨u, w, rfl, ru, rw'⟩ := rl2 rl
  rw [ru.intE, rw'.intE]
  exact ⟨_, _, rfl, q _ (.int _)⟩
/-- the class that isinstance asks for -/
def Ty.st : Ty → Str
  | .int => "int" | .bool => "bool" | .str => "str" | .tuple => "tuple" | .list => "list" | .dict => "dict"
theorem boot_ty (t : Ty) : bootBuiltins t.st = some (.type t.nm) := by cases t <;> decide +kernel
theorem s_isi {e : Expr} {d : E} {p2 : Pos} (t : Ty) (hg : Gl X "isinstance") (hm : X.mg "isinstance" = none) (hgt : Gl X t.st) (hmt : X.mg t.st = none) (ha : PE X e (rdE T W c d)) (hs : noStar e = true) :
    PE X (.Call (.Name "isinstance" p) [e, .Name t.st p2] [] pos) (rdE T W c (.bf (.isinst t) [d])) := by
  have hty : PE X (.Name t.st p2) (tC (.ty t.nm)) := pe_bltn hgt hmt (boot_ty t) rfl (by cases t <;> decide) (by cases t <;> decide)
  refine PE.imp (pe_callB call_isi hg hm boot_isi' (pa_cons ha (pa_cons hty pa_nil (each_noStar rfl)) (each_noStar hs)) (by decide) (by decide) (each_noStar hs) (any_noStar rfl)) fun σ H Q ⟨as, r, h, p, g⟩ => ?_
  unfold evE evL evL at g
  refine ⟨as, r, h, p, ?_⟩
  cases q : evE c d r h with
  | ok v h1 =>
    rw [q] at g
    intro as1 H1 u e1 rh ru
    simp only [Rs.bnd] at g
    unfold bfop at g
    obtain ⟨o, ho, q⟩ := ofOpt_snd (g.ext e1) rh
    obtain ⟨b, hb, ho⟩ := Option.map_eq_some_iff.mp ho
    subst ho
    exact isi_snd rh ru hb (q _ (.bl _))
  | ex k vs h1 => rw [q] at g; exact g
  | no => rw [q] at g; exact g
end
end EV
end
section
set_option Elab.async false
set_option linter.all false
set_option maxRecDepth 100000
/-! EvSnd5: methods of lists and dicts, displays of dicts, stores by index. -/
namespace EV
open PySem L2

/-- what is no super() -/
def plainBase : Expr → Bool
  | .Call _ (_ :: _) _ _ => true
  | .Call .. => false
  | _ => true
theorem base_plain {o : Expr} {m : Str} {env : PySem.Env} (h : plainBase o = true) : attributeBase o m env (eval o env) = eval o env := by
  cases o with
  | Call f es ks p =>
    cases es with
    | nil => exact absurd h Bool.false_ne_true
    | cons e es => cases f <;> rfl
  | _ => rfl
theorem few1 {cpos : Pos} {e : Expr} {env : PySem.Env} (hs : noStar e = true) : ((backTo cpos (starEach [e] env)).all (fun x => !x.1) && (backToKw cpos (keywordEach [] env)).all (fun x => x.1.isSome)
      && decide (([e] : List Expr).length + ([] : List Keyword).length + (if ([] : List Keyword).isEmpty then 0 else 1) < 30)) = true := by
  rw [each_noStar hs]; rfl
theorem few2 {cpos : Pos} {e f : Expr} {env : PySem.Env} (hs : noStar e = true) (hf : noStar f = true) : ((backTo cpos (starEach [e, f] env)).all (fun x => !x.1) && (backToKw cpos (keywordEach [] env)).all (fun x => x.1.isSome)
      && decide (([e, f] : List Expr).length + ([] : List Keyword).length + (if ([] : List Keyword).isEmpty then 0 else 1) < 30)) = true := by
  rw [each_noStar hs, each_noStar hf]; rfl

section
variable {X : Cx} {T : XTab} {W : WX} {c : Cc} {pos p apos cpos : Pos} {o e f : Expr} {O D F : E}
theorem mtTy_lst {K : PySem.W.Frag} {as : List Addr} {H : Hp} {h : PH} {x : PV} {u : V} {m : Mt} (hm : m = .append ∨ m = .index ∨ m = .pop) (rh : RepH H as h) (rx : RepV H as x u) (e : mtTy m x h = true) : tyV K "list" u H := by
  unfold mtTy at e
  cases x with
  | obj n =>
    simp only at e
    obtain ⟨a, rfl, qa⟩ := rx.objE
    cases ho : h[n]? with
    | none => rw [ho] at e; rcases hm with rfl | rfl | rfl <;> cases e
    | some q =>
      rw [ho] at e
      cases q with
      | lst fz xs =>
        obtain ⟨vs, _, _, sq, _⟩ := rh.lst (K := K) ho qa
        exact .inl ⟨rfl, vs, sq⟩
      | dK _ => rcases hm with rfl | rfl | rfl <;> cases e
      | dT _ => rcases hm with rfl | rfl | rfl <;> cases e
  | _ => cases e
theorem mtTy_dict {as : List Addr} {H : Hp} {h : PH} {x : PV} {u : V} {m : Mt} (hm : m = .get1 ∨ m = .get2) (rh : RepH H as h) (rx : RepV H as x u) (e : mtTy m x h = true) : ∃ a, u = .ref a ∧ IsD H a := by
  unfold mtTy at e
  cases x with
  | obj n =>
    simp only at e
    obtain ⟨a, rfl, qa⟩ := rx.objE
    cases ho : h[n]? with
    | none => rw [ho] at e; rcases hm with rfl | rfl <;> cases e
    | some q =>
      rw [ho] at e
      cases q with
      | lst fz xs => rcases hm with rfl | rfl <;> cases e
      | dK _ => obtain ⟨ks, hH, _⟩ := rh.dk ho qa; exact ⟨a, rfl, .inl ⟨ks, .inl hH⟩⟩
      | dT _ => obtain ⟨ks, hH, _⟩ := rh.dt ho qa; exact ⟨a, rfl, .inr ⟨ks, .inl hH⟩⟩
  | _ => cases e
/-- the reading of a list's method with one argument -/
theorem s_mtQ {K : PySem.W.Frag} {m : Mt} {rr : V → List V → Hp → VK → Prop} {ds : List E} {σ : L2.St} {H : Hp} {Q : VK} (hm : m = .append ∨ m = .index ∨ m = .pop)
    (hr : ∀ as H h x u vs us Q, RepH H as h → RepV H as x u → RepL H as vs us → gotR T W (mtop m x vs h) as H σ rV Q → rr u us H Q) (q : rdE T W c (.mt m O ds) σ H Q) : tBM K "list" rr (rdE T W c O) (rdL T W c ds) σ H Q := by
  obtain ⟨as, r, h, p, g⟩ := q
  unfold evE at g
  refine ⟨as, r, h, p, (g.bnd (repx := rV) p).mono ?_⟩
  rintro u H1 ⟨as1, h1, x, e1, p1, rx, _, g1⟩
  split at g1
  · rename_i ht
    refine ⟨mtTy_lst hm p1.hp rx ht, as1, r, h1, p1, (g1.bnd (repx := rL) p1).mono ?_⟩
    rintro us H2 ⟨as2, h2, vs, e2, p2, rl, _, g2⟩
    exact hr as2 H2 h2 x u vs us Q p2.hp (rx.ext p1.hp e2) rl g2
  · exact g1.elim
theorem s_append (hb : plainBase o = true) (hline : (apos.endLine == cpos.line) = true) (ho : PE X o (rdE T W c O)) (ha : PA X [e] (rdL T W c [D])) (hs : noStar e = true) : PE X (.Call (.Attribute o "append" apos) [e] [] cpos) (rdE T W c (.mt .append O [D])) := by
  refine PE.imp (pe_bm PySem.F.plainAttrs_list PySem.F.slot_list_append PySem.F.type_list_append mt_append ho ha (base_plain hb) (few1 hs) hline (each_noStar hs) rfl) fun σ H Q q => s_mtQ (.inl rfl) (fun as H h x u vs us Q rh rx rl g => ?_) q
  unfold mtop at g
  cases x with
  | obj n =>
    simp only at g
    rcases vs with _ | ⟨v, _ | ⟨v2, r⟩⟩
    · exact g.elim
    · obtain ⟨a, rfl, qa⟩ := rx.objE
      cases hq : h[n]? with
      | none => rw [hq] at g; exact g.elim
      | some q =>
        rw [hq] at g
        cases q with
        | lst fz xs =>
          cases fz with
          | true => exact g.elim
          | false =>
            simp only at g
            split at g
            · rename_i hz
              obtain ⟨ws, la, z, _, ma⟩ := rh.lst (K := X.K) hq qa
              obtain ⟨w, rfl, rw'⟩ := rl1 rl
              refine ⟨a, ws, w, rfl, rfl, ma rfl, by rw [← la.length]; exact hz, ?_⟩
              have la2 : RepL H as (xs ++ [v]) (ws ++ [w]) := la.append (.cons rw' .nil)
              exact g.okE (Ext.write qa) (rh.write qa ⟨_, la2, by simp; exact hz, rfl⟩) .non
            · exact g.elim
        | dK _ => exact g.elim
        | dT _ => exact g.elim
    · exact g.elim
  | _ => exact g.elim
theorem toD_list {K : PySem.W.Frag} {as : List Addr} {H : Hp} {h : PH} {n : Nat} {a : Addr} {ds : List PyData} (rh : RepH H as h) (qa : as[n]? = some a) (e : toD h 60 (.obj n) = some (.list ds)) : Dp K H (.ref a) (.list ds) ∧ SeqAt.shaped (.list ds) = true :=
  toD_shaped rh (by decide) (RepV.obj qa) e
theorem s_index (hu : X.A.units + 65 < cLine) (hb : plainBase o = true) (hline : (apos.endLine == cpos.line) = true) (ho : PE X o (rdE T W c O)) (ha : PA X [e] (rdL T W c [D])) (hs : noStar e = true) : PE X (.Call (.Attribute o "index" apos) [e] [] cpos) (rdE T W c (.mt .index O [D])) := by
  refine PE.imp (pe_bm PySem.F.plainAttrs_list PySem.F.slot_list_index PySem.F.type_list_index (mt_indexD hu) ho ha (base_plain hb) (few1 hs) hline (each_noStar hs) rfl) fun σ H Q q => s_mtQ (.inr (.inl rfl)) (fun as H h x u vs us Q rh rx rl g => ?_) q
  unfold mtop at g
  cases x with
  | obj n =>
    simp only at g
    rcases vs with _ | ⟨v, _ | ⟨v2, r⟩⟩
    · exact g.elim
    · obtain ⟨a, rfl, qa⟩ := rx.objE
      obtain ⟨w, rfl, rw'⟩ := rl1 rl
      cases hq : h[n]? with
      | none => rw [hq] at g; exact g.elim
      | some q =>
        rw [hq] at g
        cases q with
        | lst fz xs =>
          simp only at g
          cases q1 : toD h 60 v with
          | none => rw [q1] at g; exact g.elim
          | some d =>
            cases q2 : toD h 60 (.obj n) with
            | none => rw [q1, q2] at g; exact g.elim
            | some d2 =>
              rw [q1, q2] at g
              cases d2 with
              | list ds =>
                simp only at g
                cases q3 : ds.findIdx? (fun z => PyData.eqv z d) with
                | none => rw [q3] at g; exact g.elim
                | some j =>
                  rw [q3] at g
                  obtain ⟨a1, a2⟩ := toD_shaped (K := X.K) rh (by decide) rw' q1
                  obtain ⟨b1, b2⟩ := toD_list (K := X.K) rh qa q2
                  obtain ⟨hj, h1, h2⟩ := List.findIdx?_eq_some_iff_getElem.mp q3
                  refine ⟨a, w, d, ds, j, ds[j], rfl, rfl, b1, a1, b2, a2, List.getElem?_eq_getElem hj, h1, fun m z' hm hz => ?_, g.ok rh (.int _)⟩
                  have := h2 m hm
                  obtain ⟨hml, hz'⟩ := List.getElem?_eq_some_iff.mp hz
                  rw [← hz']
                  simpa using this
              | _ => exact g.elim
        | dK _ => exact g.elim
        | dT _ => exact g.elim
    · exact g.elim
  | _ => exact g.elim
theorem get_snd {as : List Addr} {H : Hp} {h : PH} {n : Nat} {a : Addr} {k d : PV} {w w2 : V} {v : PV} (rh : RepH H as h) (qa : as[n]? = some a) (rk : RepV H as k w) (rd : RepV H as d w2)
    (e : (match h[n]? with | some (.dK kvs) => (toKey k).map fun k => (look k kvs).getD d | some (.dT kvs) => (toTK k).map fun k => (look k kvs).getD d | _ => none) = some v) : ∃ o, DGet H a w o ∧ RepV H as v (o.getD w2) := by
  cases hq : h[n]? with
  | none => rw [hq] at e; cases e
  | some q =>
    rw [hq] at e
    cases q with
    | lst fz xs => cases e
    | dK kvs =>
      obtain ⟨ks, hH, rkv⟩ := rh.dk hq qa
      obtain ⟨k', hk, e⟩ := Option.map_eq_some_iff.mp e
      subst e
      rw [toKey_snd rk hk]
      refine ⟨valV ks k', .k hH, ?_⟩
      rcases look_snd rkv k' with ⟨v, w, l1, l2, rv⟩ | ⟨l1, l2⟩
      · rw [l1, l2]; exact rv
      · rw [l1, l2]; exact rd
    | dT kvs =>
      obtain ⟨ks, hH, rkv⟩ := rh.dt hq qa
      obtain ⟨k', hk, e⟩ := Option.map_eq_some_iff.mp e
      subst e
      obtain ⟨b, rfl, hb⟩ := toTK_snd rk hk
      refine ⟨valV ks k', .t hH hb, ?_⟩
      rcases look_snd rkv k' with ⟨v, w, l1, l2, rv⟩ | ⟨l1, l2⟩
      · rw [l1, l2]; exact rv
      · rw [l1, l2]; exact rd
/-- what get tells, as one table -/
theorem get_tab {m : Mt} {n : Nat} {k d : PV} {h : PH} {vs : List PV} (hm : (m = .get1 ∧ vs = [k] ∧ d = .non) ∨ (m = .get2 ∧ vs = [k, d])) : mtop m (.obj n) vs h = ofOpt h (match h[n]? with | some (.dK kvs) => (toKey k).map fun k => (look k kvs).getD d | some (.dT kvs) => (toTK k).map fun k => (look k kvs).getD d | _ => none) := by
  rcases hm with ⟨rfl, rfl, rfl⟩ | ⟨rfl, rfl⟩
  · unfold mtop
    simp only
    cases h[n]? with
    | none => rfl
    | some q => cases q with
      | lst fz xs => rfl
      | dK kvs => simp only; cases toKey k <;> rfl
      | dT kvs => simp only; cases toTK k <;> rfl
  · unfold mtop
    simp only
    cases h[n]? with
    | none => rfl
    | some q => cases q with
      | lst fz xs => rfl
      | dK kvs => simp only; cases toKey k <;> rfl
      | dT kvs => simp only; cases toTK k <;> rfl
theorem s_get1 (hu : X.A.units + 65 < cLine) (hb : plainBase o = true) (hline : (apos.endLine == cpos.line) = true) (ho : PE X o (rdE T W c O)) (ha : PE X e (rdE T W c D)) (hs : noStar e = true) : PE X (.Call (.Attribute o "get" apos) [e] [] cpos) (rdE T W c (.mt .get1 O [D])) := by
  refine PE.imp (pe_dget1 (by omega) ho ha ⟨base_plain hb, few1 hs, hline, by rw [each_noStar hs]; rfl⟩) fun σ H Q ⟨as, r, h, p, g⟩ => ?_
  unfold evE at g
  refine ⟨as, r, h, p, (g.bnd (repx := rV) p).mono ?_⟩
  rintro u H1 ⟨as1, h1, x, e1, p1, rx, _, g1⟩
  split at g1
  · rename_i ht
    obtain ⟨a, rfl, hd⟩ := mtTy_dict (.inl rfl) p1.hp rx ht
    refine ⟨a, rfl, hd, ?_⟩
    unfold evL evL at g1
    refine ⟨as1, r, h1, p1, ?_⟩
    cases q : evE c D r h1 with
    | ok v h2 =>
      rw [q] at g1
      intro as2 H2 w e2 rh2 rw'
      simp only [Rs.bnd] at g1
      cases x with
      | obj n =>
        rw [get_tab (.inl ⟨rfl, rfl, rfl⟩)] at g1
        obtain ⟨b, hb, q2⟩ := ofOpt_snd (g1.ext e2) rh2
        obtain ⟨a', ea, qa⟩ := (rx.ext p1.hp e2).objE
        cases ea
        obtain ⟨oo, d1, d2⟩ := get_snd rh2 qa rw' .non hb
        exact ⟨oo, d1, q2 _ d2⟩
      | _ => exact g1.elim
    | ex k vs h2 => rw [q] at g1; exact g1
    | no => rw [q] at g1; exact g1
  · exact g1.elim
theorem s_get2 (hu : X.A.units + 65 < cLine) (hb : plainBase o = true) (hline : (apos.endLine == cpos.line) = true) (ho : PE X o (rdE T W c O)) (ha : PE X e (rdE T W c D)) (hf : PE X f (rdE T W c F)) (hs : noStar e = true) (hs2 : noStar f = true) :
    PE X (.Call (.Attribute o "get" apos) [e, f] [] cpos) (rdE T W c (.mt .get2 O [D, F])) := by
  refine PE.imp (pe_dget2 (by omega) ho ha hf ⟨base_plain hb, few2 hs hs2, hline, by rw [each_noStar hs, each_noStar hs2]; rfl⟩) fun σ H Q ⟨as, r, h, p, g⟩ => ?_
  unfold evE at g
  refine ⟨as, r, h, p, (g.bnd (repx := rV) p).mono ?_⟩
  rintro u H1 ⟨as1, h1, x, e1, p1, rx, _, g1⟩
  split at g1
  · rename_i ht
    obtain ⟨a, rfl, hd⟩ := mtTy_dict (.inr rfl) p1.hp rx ht
    refine ⟨a, rfl, hd, ?_⟩
    have e0 : evL c [D, F] r h1 = (evE c D r h1).bnd fun v h => (evE c F r h).bnd fun w h => .ok [v, w] h := by
      unfold evL evL evL
      cases evE c D r h1 with
      | ok v h2 =>
        simp only [Rs.bnd]
        cases evE c F r h2 <;> rfl
      | ex k vs h2 => rfl
      | no => rfl
    rw [e0] at g1
    have e3 : ((evE c D r h1).bnd fun v h => (evE c F r h).bnd fun w h => Rs.ok [v, w] h).bnd (fun vs h => mtop .get2 x vs h) = (evE c D r h1).bnd fun v h => (evE c F r h).bnd fun w h => mtop .get2 x [v, w] h := by
      cases evE c D r h1 with
      | ok v h2 =>
        simp only [Rs.bnd]
        cases evE c F r h2 <;> rfl
      | ex k vs h2 => rfl
      | no => rfl
    rw [e3] at g1
    refine ⟨as1, r, h1, p1, (g1.bnd (repx := rV) p1).mono ?_⟩
    rintro w H2 ⟨as2, h2, v, e2, p2, rv, _, g2⟩
    refine ⟨as2, r, h2, p2, (g2.bnd (repx := rV) p2).mono ?_⟩
    rintro w2 H3 ⟨as3, h3, v2, e4, p3, rv2, _, g3⟩
    cases x with
    | obj n =>
      rw [get_tab (.inr ⟨rfl, rfl⟩)] at g3
      obtain ⟨b, hb, q2⟩ := ofOpt_snd g3 p3.hp
      obtain ⟨a', ea, qa⟩ := (rx.ext p1.hp (e2.trans e4)).objE
      cases ea
      obtain ⟨oo, d1, d2⟩ := get_snd p3.hp qa (rv.ext p2.hp e4) rv2 hb
      exact ⟨oo, d1, q2 _ d2⟩
    | _ => exact g3.elim
  · exact g1.elim

/-! displays of dicts -/
theorem s_dnewK : PE X (.Dict [] [] pos) (rdE T W c (.dnew false)) := by
  refine PE.imp pe_dnewK fun σ H Q ⟨as, r, h, p, g⟩ => ?_
  unfold evE at g
  exact fun q hq => g.okE (Ext.new hq) (p.hp.new hq ⟨[], rfl, .nil⟩) (RepV.newObj p.hp)
theorem s_dnewT : PE X (.Dict [] [] pos) (rdE T W c (.dnew true)) := by
  refine PE.imp pe_dnewT fun σ H Q ⟨as, r, h, p, g⟩ => ?_
  unfold evE at g
  exact fun q hq => g.okE (Ext.new hq) (p.hp.new hq ⟨[], rfl, .nil⟩) (RepV.newObj p.hp)
end
end EV
end
section
set_option Elab.async false
set_option linter.all false
set_option maxRecDepth 100000
/-! EvSnd6: displays of dicts, targets, plain statements. -/
namespace EV
open PySem L2

section
variable {H : Hp} {as nw : List Addr} {p : Addr} {o : HO}
mutual
theorem RepV.adopt (np : ∀ vs, H p ≠ some (.tup vs)) : ∀ {x : PV} {v : V}, RepV H as x v → RepV (upd H p o) (as ++ nw) x v
  | _, _, .non => .non
  | _, _, .bl b => .bl b
  | _, _, .int i => .int i
  | _, _, .str s => .str s
  | _, _, .tup (a := a) (vs := vs) q l => .tup (by rw [upd_ne (fun z => np vs (by rw [← z]; exact q))]; exact q) (RepL.adopt np l)
  | _, _, .obj q => .obj (by rw [List.getElem?_append_left (List.getElem?_eq_some_iff.mp q).1]; exact q)
theorem RepL.adopt (np : ∀ vs, H p ≠ some (.tup vs)) : ∀ {x : List PV} {v : List V}, RepL H as x v → RepL (upd H p o) (as ++ nw) x v
  | _, _, .nil => .nil
  | _, _, .cons a b => .cons (RepV.adopt np a) (RepL.adopt np b)
end
theorem RepKV.adopt {κ : Type} (np : ∀ vs, H p ≠ some (.tup vs)) : ∀ {x : List (κ × PV)} {v : List (κ × V)}, RepKV H as x v → RepKV (upd H p o) (as ++ nw) x v
  | _, _, .nil => .nil
  | _, _, .cons a b => .cons ⟨a.1, a.2.adopt np⟩ (RepKV.adopt np b)
theorem RepO.adopt (np : ∀ vs, H p ≠ some (.tup vs)) {x : PO} {v : HO} (q : RepO H as x v) : RepO (upd H p o) (as ++ nw) x v := by
  cases x with
  | lst fz xs => obtain ⟨vs, l, z, c⟩ := q; exact ⟨vs, l.adopt np, z, c⟩
  | dK kvs => obtain ⟨ks, c, l⟩ := q; exact ⟨ks, c, l.adopt np⟩
  | dT kvs => obtain ⟨ks, c, l⟩ := q; exact ⟨ks, c, l.adopt np⟩
/-- a tracked object becomes an own one -/
theorem RepH.adopt {h : PH} (r : RepH H as h) (np : ∀ vs, H p ≠ some (.tup vs)) (hn : p ∉ as) {po : PO} (ro : RepO H as po o) : RepH (upd H p o) (as ++ [p]) (h ++ [po]) := by
  refine ⟨by simp [r.len], ?_, fun n u a q qa => ?_⟩
  · rw [List.nodup_append]
    exact ⟨r.nd, by simp, fun a ha b hb => by simp at hb; subst hb; exact fun z => hn (z ▸ ha)⟩
  · by_cases hl : n < as.length
    · rw [List.getElem?_append_left hl] at qa
      rw [List.getElem?_append_left (by rw [← r.len]; exact hl)] at q
      obtain ⟨ho, e1, ro1⟩ := r.at_ n u a q qa
      exact ⟨ho, by rw [upd_ne (fun z => hn (by rw [← z]; exact List.mem_of_getElem? qa))]; exact e1, ro1.adopt np⟩
    · have hl2 : as.length ≤ n := Nat.le_of_not_lt hl
      rw [List.getElem?_append_right hl2] at qa
      rw [List.getElem?_append_right (by rw [← r.len]; exact hl2), ← r.len] at q
      cases hk : n - as.length with
      | zero =>
        rw [hk] at q qa
        simp at q qa
        subst q qa
        exact ⟨o, upd_same, ro.adopt np⟩
      | succ m =>
        rw [hk] at qa
        simp at qa
end

/-! ### displays of dicts -/
def flatE : List (E × E) → List E
  | [] => []
  | p :: r => p.1 :: p.2 :: flatE r
def flatW : List (V × V) → List V
  | [] => []
  | p :: r => p.1 :: p.2 :: flatW r
section
variable {X : Cx} {T : XTab} {W : WX} {c : Cc} {pos : Pos} {σ : L2.St} {r : Env}
theorem pairs_rd : ∀ (prs : List (E × E)) {as : List Addr} {H : Hp} {h : PH} {C : List V → Hp → Prop}, Rp H as r σ h → gotR T W (evL c (flatE prs) r h) as H σ rL C →
    tPairs (prs.map fun p => (rdE T W c p.1, rdE T W c p.2)) σ H (fun ps H2 => C (flatW ps) H2) := by
  intro prs
  induction prs with
  | nil =>
    intro as H h C p g
    unfold flatE evL at g
    exact g.ok p.hp .nil
  | cons q prs ih =>
    intro as H h C p g
    unfold flatE evL evL at g
    refine ⟨as, r, h, p, (g.bnd (repx := rV) p).mono ?_⟩
    rintro u H1 ⟨as1, h1, x, e1, p1, rx, _, g1⟩
    have e : ((evE c q.2 r h1).bnd fun v h => (evL c (flatE prs) r h).bnd fun vs h => Rs.ok (v :: vs) h).bnd (fun vs h => Rs.ok (x :: vs) h) = (evE c q.2 r h1).bnd fun v h => (evL c (flatE prs) r h).bnd fun vs h => Rs.ok (x :: v :: vs) h := by
      cases evE c q.2 r h1 with
      | ok v h2 =>
        simp only [Rs.bnd]
        cases evL c (flatE prs) r h2 <;> rfl
      | ex k vs h2 => rfl
      | no => rfl
    rw [e] at g1
    refine ⟨as1, r, h1, p1, (g1.bnd (repx := rV) p1).mono ?_⟩
    rintro w H2 ⟨as2, h2, y, e2, p2, ry, _, g2⟩
    refine ih (C := fun us H => C (u :: w :: us) H) p2 ((g2.bnd (repx := rL) p2).mono ?_)
    rintro us H3 ⟨as3, h3, vs, e3, p3, rl, _, g3⟩
    exact g3.ok p3.hp (.cons (rx.ext p1.hp (e2.trans e3)) (.cons (ry.ext p2.hp e3) rl))
theorem pairsK_snd {H : Hp} {as : List Addr} : ∀ (n : Nat) (vs : List PV) (ps : List (V × V)) (acc : List (Key × PV)) (ac : List (Key × V)) (kvs : List (Key × PV)), vs.length ≤ n → RepL H as vs (flatW ps) → RepKV H as acc ac → pairsK vs acc = some kvs →
    ∃ ks : List (Key × V), ps = ks.map (fun kv => (kV kv.1, kv.2)) ∧ RepKV H as kvs (mergeK ac ks) := by
  intro n
  induction n with
  | zero =>
    intro vs ps acc ac kvs hn rl ra e
    have : vs = [] := List.eq_nil_of_length_eq_zero (by omega)
    subst this
    cases ps with
    | nil => cases e; exact ⟨[], rfl, ra⟩
    | cons p ps => have := rl.length; simp [flatW] at this
  | succ n ih =>
    intro vs ps acc ac kvs hn rl ra e
    cases ps with
    | nil =>
      have h0 := rl.length
      have : vs = [] := List.eq_nil_of_length_eq_zero (by simpa [flatW] using h0)
      subst this
      cases e; exact ⟨[], rfl, ra⟩
    | cons p ps =>
      rcases vs with _ | ⟨k, _ | ⟨v, vs⟩⟩
      · have := rl.length; simp [flatW] at this
      · have := rl.length; simp [flatW] at this
      · obtain ⟨u, us, hu, rk, rl2⟩ := rl.consE
        obtain ⟨w, ws, hw, rv, rl3⟩ := rl2.consE
        unfold flatW at hu
        injection hu with hu1 hu2
        subst hu1
        rw [← hu2] at hw
        injection hw with hw1 hw2
        subst hw1
        rw [← hw2] at rl3
        unfold pairsK at e
        cases hk : toKey k with
        | none => rw [hk] at e; cases e
        | some kk =>
          rw [hk] at e
          obtain ⟨ks, e1, e2⟩ := ih vs ps (put kk v acc) (putK ac kk p.2) kvs (by simp at hn; omega) rl3 (put_snd ra kk rv) e
          refine ⟨(kk, p.2) :: ks, ?_, e2⟩
          rw [List.map_cons, ← e1, ← toKey_snd rk hk]
theorem s_dct {ks : List (Option Expr)} {vs : List Expr} {prs : List (E × E)} (h : PPs X pos ks vs (prs.map fun p => (rdE T W c p.1, rdE T W c p.2))) (hall : ks.all (·.isSome) = true) (hl : ks.length = vs.length) (h0 : ks ≠ []) (h15 : ks.length ≤ 15) (hp : prs.length = ks.length) :
    PE X (.Dict ks vs pos) (rdE T W c (.dct (flatE prs))) := by
  refine PE.imp (pe_disp h hall hl h0 h15) fun σ H Q ⟨as, r, h, p, g⟩ q hq => ?_
  unfold evE at g
  have C : gotR T W (evL c (flatE prs) r h) as (upd H q (.dK [])) σ rL (fun us H2 => ∃ as2 h2 vs, Ext (upd H q (.dK [])) as H2 as2 ∧ RepH H2 as2 h2 ∧ RepL H2 as2 vs us ∧ evL c (flatE prs) r h = .ok vs h2) := by
    cases ev : evL c (flatE prs) r h with
    | ok vs h2 => exact fun as2 H2 us e rh rl => ⟨as2, h2, vs, e, rh, rl, rfl⟩
    | ex k vs h2 => rw [ev] at g; exact fun as2 H2 cls d e rh rx => g as2 H2 cls d ((Ext.beside hq).trans e) rh rx
    | no => rw [ev] at g; exact g
  have hn : q ∉ as := fun hm => by
    obtain ⟨o, z⟩ := p.hp.there hm
    rw [hq] at z; cases z
  have main := pairs_rd (c := c) prs (p.beside hq) C
  have mono : ∀ (trs : List (TE × TE)) (hm : ∀ t ∈ trs, (∀ σ H Q Q', (∀ v H', Q v H' → Q' v H') → t.1 σ H Q → t.1 σ H Q') ∧ ∀ σ H Q Q', (∀ v H', Q v H' → Q' v H') → t.2 σ H Q → t.2 σ H Q') {σ : L2.St} {H : Hp} {Q Q' : List (V × V) → Hp → Prop}, (∀ ps H', ps.length = trs.length → Q ps H' → Q' ps H') → tPairs trs σ H Q → tPairs trs σ H Q' := by
    intro trs
    induction trs with
    | nil => intro hm σ H Q Q' hq z; exact hq [] H rfl z
    | cons t trs ih =>
      intro hm σ H Q Q' hq z
      obtain ⟨t1, t2⟩ := t
      obtain ⟨m1, m2⟩ := hm _ List.mem_cons_self
      refine m1 σ H _ _ (fun v H1 z1 => m2 σ H1 _ _ (fun w H2 z2 => ih (fun t ht => hm t (List.mem_cons_of_mem _ ht)) (fun ps H' hl z3 => hq _ _ (by simp [hl]) z3) z2) z1) z
  refine mono _ (fun t ht => ?_) (fun ps H2 hlen z => ?_) main
  · obtain ⟨pp, _, rfl⟩ := List.mem_map.mp ht
    exact ⟨fun σ H Q Q' hq ⟨as, r, h, p, g⟩ => ⟨as, r, h, p, g.mono hq⟩, fun σ H Q Q' hq ⟨as, r, h, p, g⟩ => ⟨as, r, h, p, g.mono hq⟩⟩
  · obtain ⟨as2, h2, us, e2, rh2, rl, ev⟩ := z
    rw [ev] at g
    simp only [Rs.bnd] at g
    cases hk : pairsK us [] with
    | none => rw [hk] at g; exact g.elim
    | some kvs =>
      rw [hk] at g
      simp only at g
      split at g
      · have hd : H2 q = some (.dK []) := e2.keep _ _ upd_same hn
        have hn2 : q ∉ as2 := fun hm => by
          obtain ⟨nw, x1, x2⟩ := e2.more
          rw [x1] at hm
          rcases List.mem_append.mp hm with z | z
          · exact hn z
          · have := x2 q z
            rw [upd_same] at this; cases this
        obtain ⟨ks', e3, e4⟩ := pairsK_snd us.length us ps [] [] kvs (Nat.le_refl _) rl .nil hk
        refine ⟨hd, ks', e3, ?_, ?_⟩
        · have h1 : ps.length = ks'.length := by rw [e3, List.length_map]
          rw [← h1, hlen, List.length_map, hp]; exact h15
        · refine g (as2 ++ [q]) _ _ ⟨?_, fun a o z hna => ?_, fun a o z => ?_⟩ (rh2.adopt (fun vs z => by rw [hd] at z; cases z) hn2 ⟨_, rfl, e4⟩) (RepV.newObj rh2)
          · obtain ⟨nw, x1, x2⟩ := e2.more
            refine ⟨nw ++ [q], by rw [x1, List.append_assoc], fun a ha => ?_⟩
            rcases List.mem_append.mp ha with z | z
            · have := x2 a z
              by_cases haq : a = q
              · subst haq; exact hq
              · rwa [upd_ne haq] at this
            · simp at z; subst z; exact hq
          · have haq : a ≠ q := fun x => by subst x; rw [hq] at z; cases z
            rw [upd_ne haq]
            exact e2.keep a o (by rw [upd_ne haq]; exact z) hna
          · have haq : a ≠ q := fun x => by subst x; rw [hq] at z; cases z
            rw [upd_ne haq]
            exact e2.there a o (by rw [upd_ne haq]; exact z)
      · exact g.elim
end

/-! ### statements -/
/-- what a statement comes to, as a reading -/
def gotS (T : XTab) (W : WX) (x : Rt) (as : List Addr) (H : Hp) (D : Ends) : Prop := match x with
  | .nx r h' => ∀ as' H' σ', Ext H as H' as' → Rp H' as' r σ' h' → D.nx σ' H'
  | .rt v h' => ∀ as' H' u, Ext H as H' as' → RepH H' as' h' → RepV H' as' v u → D.rt u H'
  | .bk r h' => ∀ as' H' σ', Ext H as H' as' → Rp H' as' r σ' h' → D.bk σ' H'
  | .ct r h' => ∀ as' H' σ', Ext H as H' as' → Rp H' as' r σ' h' → D.ct σ' H'
  | .ex c vs r h' => ∀ as' H' σ' cls d, Ext H as H' as' → Rp H' as' r σ' h' → ExRep T H' as' c vs cls d → W cls d σ' H'
  | .no => False
def rdS (T : XTab) (W : WX) (c : Cc) (s : S) : TS := fun D σ H => ∃ as r h, Rp H as r σ h ∧ gotS T W (exS c s r h) as H D
def rdB (T : XTab) (W : WX) (c : Cc) (s : List S) : TS := fun D σ H => ∃ as r h, Rp H as r σ h ∧ gotS T W (exB c s r h) as H D
section
variable {T : XTab} {W : WX} {as as1 : List Addr} {H H1 : Hp} {D D' : Ends} {σ : L2.St} {r : Env} {h : PH}
theorem gotS.ext {x : Rt} (e : Ext H as H1 as1) (g : gotS T W x as H D) : gotS T W x as1 H1 D := by
  cases x with
  | nx r h' => exact fun as' H' σ' e' p => g as' H' σ' (e.trans e') p
  | rt v h' => exact fun as' H' u e' q rp => g as' H' u (e.trans e') q rp
  | bk r h' => exact fun as' H' σ' e' p => g as' H' σ' (e.trans e') p
  | ct r h' => exact fun as' H' σ' e' p => g as' H' σ' (e.trans e') p
  | ex c vs r h' => exact fun as' H' σ' cls d e' p rx => g as' H' σ' cls d (e.trans e') p rx
  | no => exact g
theorem gotS.mono {x : Rt} (g : gotS T W x as H D) (h1 : ∀ σ H, D.nx σ H → D'.nx σ H) (h2 : ∀ v H, D.rt v H → D'.rt v H) (h3 : ∀ σ H, D.bk σ H → D'.bk σ H) (h4 : ∀ σ H, D.ct σ H → D'.ct σ H) : gotS T W x as H D' := by
  cases x with
  | nx r h' => exact fun as' H' σ' e' p => h1 _ _ (g as' H' σ' e' p)
  | rt v h' => exact fun as' H' u e' q rp => h2 _ _ (g as' H' u e' q rp)
  | bk r h' => exact fun as' H' σ' e' p => h3 _ _ (g as' H' σ' e' p)
  | ct r h' => exact fun as' H' σ' e' p => h4 _ _ (g as' H' σ' e' p)
  | ex c vs r h' => exact g
  | no => exact g
/-- an expression, then what follows in the statement -/
theorem gotS.st {α β : Type} {x : Rs α} {f : α → PH → Rt} {repx : List Addr → Hp → α → β → Prop} (p : Rp H as r σ h) (g : gotS T W (x.st r f) as H D) :
    gotR T W x as H σ repx (fun u H1 => ∃ as1 h1 v, Ext H as H1 as1 ∧ Rp H1 as1 r σ h1 ∧ repx as1 H1 v u ∧ x = .ok v h1 ∧ gotS T W (f v h1) as1 H1 D) := by
  cases x with
  | ok v h' => exact fun as' H' u e q rp => ⟨as', h', v, e, p.to e q, rp, rfl, g.ext e⟩
  | ex c vs h' => exact fun as' H' cls d e q rx => g as' H' σ cls d e (p.to e q) rx
  | no => exact g
theorem gotS.nxt (g : gotS T W (Rt.nx r h) as H D) (p : Rp H as r σ h) : D.nx σ H := g as H σ Ext.refl p
end
/-- a slot is stored -/
theorem Rp.store {H : Hp} {as : List Addr} {r : Env} {σ : L2.St} {h : PH} {v : PV} {u : V} (p : Rp H as r σ h) (i : Nat) (rv : RepV H as v u) : Rp H as (r.set i (some v)) (σ.set i (some u)) h := by
  refine ⟨by simp [p.len], fun j w e => ?_, p.hp⟩
  by_cases hj : j = i
  · subst hj
    have hl : j < r.length := by
      by_cases hl : j < r.length
      · exact hl
      · rw [List.getElem?_eq_none (by simp; omega)] at e; cases e
    rw [List.getElem?_set_self hl] at e
    cases e
    exact ⟨u, by rw [List.getElem?_set_self (by rw [p.len]; exact hl)], rv⟩
  · rw [List.getElem?_set_ne (Ne.symm hj)] at e
    obtain ⟨z, h1, h2⟩ := p.env j w e
    exact ⟨z, by rw [List.getElem?_set_ne (Ne.symm hj)]; exact h1, h2⟩
end EV
end
section
set_option Elab.async false
set_option linter.all false
set_option maxRecDepth 100000
/-! EvIter: enumerate of a tuple. -/
namespace PySem
open Sem (wp)
set_option maxHeartbeats 1000000 in
theorem ev_meets_enum1 {v : Value} {o : Obj} {H : Heap → Prop} (B : Begins v o H) :
    Meets (Builtin.«enumerate.__new__» ⟨[.type "enumerate", v], []⟩) (fun _ R s => H s.heap ∧
      R (.ok (.ret (.ref (s.heap.push o).objs.size))) { s with heap := (s.heap.push o).push { cls := .type "enumerate", data := .fields #[.none, .bool false, .ref s.heap.objs.size, rawInt 0, .none, .none] } }) :=
  .of_wp fun prog w A R s h => by
    obtain ⟨hp, g, d, tk, os⟩ := s; obtain ⟨h1, h⟩ := h
    have hsub := sub_enumerate
    have q1 : ∀ {A' : Around} {E : Value → Shared → Prop} {Q : Value → Shared → Prop}, Q (.ref hp.objs.size) ⟨hp.push o, g, d, tk, os⟩ → wpAny (model prog w) A' (pyIter v) Q E ⟨hp, g, d, tk, os⟩ :=
      fun q => B.iter prog w _ _ ⟨hp, g, d, tk, os⟩ _ h1 q
    wp_walk using q1
    refine wpAny_stack_any fun st => wpAny_pure ?_
    split
    · rename_i c _ _ _ _ _
      cases (c == Value.type "enumerate")
      · wp_walk using q1
        exact ⟨_, rfl, h⟩
      · wp_walk using q1
        exact ⟨_, rfl, h⟩
    · wp_walk using q1
      exact ⟨_, rfl, h⟩
section
variable {prog : Program} {w : World} {A : Around} {E : Value → Shared → Prop} {s : Shared}
theorem ev_enum_begins1 {v : Value} {o : Obj} {H : Heap → Prop} {Q : Value → Shared → Prop} (B : Begins v o H) (h1 : H s.heap)
    (h : ∀ h', IsEnum h' (s.heap.objs.size + 1) s.heap.objs.size 0 .none → h'.get? s.heap.objs.size = some o → h'.objs.size = s.heap.objs.size + 2 →
      (∀ b o, s.heap.get? b = some o → h'.get? b = some o) → Q (.ref (s.heap.objs.size + 1)) { s with heap := h' }) :
    wpAny (model prog w) A (call (.type "enumerate") [v]) Q E s := by
  refine callType_new F.called_enumerate (by decide) (F.typeCall_enumerate_1 _) (F.newCall_enumerate_1 _) (fun obj => F.args_object_init_2 obj _) F.entry_enumerate_new
    (ev_meets_enum1 B) ⟨h1, ?_⟩
  have hz : (s.heap.push o).objs.size = s.heap.objs.size + 1 := Heap.size_push ..
  show _ ∧ _
  rw [hz]
  have he : IsEnum ((s.heap.push o).push { cls := .type "enumerate", data := .fields #[.none, .bool false, .ref s.heap.objs.size, rawInt 0, .none, .none] }) (s.heap.objs.size + 1) s.heap.objs.size 0 .none := by
    have := Heap.get?_push_size (s.heap.push o) (o := { cls := .type "enumerate", data := .fields #[.none, .bool false, .ref s.heap.objs.size, rawInt 0, .none, .none] }) rfl
    rw [hz] at this; exact this
  refine ⟨⟨_, he, rfl⟩, h _ he (Heap.get?_push_of_some _ (Heap.get?_push_size _ B.free)) (by rw [Heap.size_push, hz]) fun b o x => Heap.get?_push_of_some _ (Heap.get?_push_of_some _ x)⟩
end
end PySem
namespace L2
open PySem PySem.Spec PyProof.Rows
/-- the tuple at a, each item in a new pair, counted from 0 -/
def IteT (K : PySem.W.Frag) (a : Addr) : It :=
  ⟨fun i H => ∃ (xs : List V) (x : V), SqT K H a xs ∧ xs[i]? = some x, fun i H v H' => ∃ T x, v = .ref T ∧ H T = none ∧ H' = upd H T (.tup [.int (i : Nat), x]) ∧ ∀ xs, SqT K H a xs → xs[i]? = some x, fun i H => ∃ xs : List V, SqT K H a xs ∧ xs.length ≤ i⟩
theorem turn_enumT {P : Program} {w : World} {K : PySem.W.Frag} {elts : List Expr} {kk : Nat} {tpos : Pos} (a e it : Addr) :
    Turn P w K (.Tuple elts kk tpos) (IteT K a) [e, it] e (fun i h => (∃ old, IsEnum h e it ((i : Nat) : Int) old) ∧ h.IsTupleIter it a i ∧ e ≠ it ∧ a ≠ e ∧ a ≠ it) where
  mem := by simp
  obj := fun i h st b hb => by
    obtain ⟨⟨old, he⟩, ⟨o, ho, hc, hd⟩, _⟩ := st
    have e' : b = e ∨ b = it := by simpa using hb
    rcases e' with z | z
    · rw [z]; exact ⟨_, he, fun v q => nomatch q⟩
    · rw [z]; exact ⟨o, ho, fun v q => by rw [hd] at q; cases q⟩
  keep := fun i h h' st k => let ⟨⟨old, he⟩, hi, hne⟩ := st; ⟨⟨old, k e (by simp) _ he⟩, hi.at fun o q => k it (by simp) o q, hne⟩
  item := by
    intro X hP hw hK hc i pins s σ H E I hf st hg
    subst hP hw hK
    obtain ⟨⟨old, he⟩, hit, hne, hae, hai⟩ := st
    obtain ⟨xs, x, hq, hx⟩ := hg
    obtain ⟨its, rv, p, hz⟩ := I.tuple hq
    obtain ⟨u, hu, ru⟩ := rv.get hx
    have hel : e < s.heap.objs.size := Heap.lt_size he
    have hil : it < s.heap.objs.size := by obtain ⟨_, q, _⟩ := hit; exact Heap.lt_size q
    have hlt : i < its.toArray.size := by
      have := (List.getElem?_eq_some_iff.mp hu).1
      simpa using this
    have D : Draws X.prog X.w X.A.in1 it [it, a] its.toArray.size (fun i v => its.toArray[i]? = some v) (fun i h => h.IsTupleIter it a i ∧ h.IsTuple a its.toArray) := Draws.tuple (show X.A.in1.handled = none from I.ok.hd hc) it a hai its.toArray
    refine wpAny_pyNext_enum_itemC D he ⟨hit, p⟩ hlt hne (by simp [hne, Ne.symm hae]) fun x' h' tk hPx ho hst' hT hsz hk => ?_
    have ex : x' = u := by
      have h2 : its.toArray[i]? = some x' := hPx
      have h3 : its.toArray[i]? = some u := by simpa using hu
      rw [h3] at h2; exact (Option.some.inj h2).symm
    subst ex
    refine ⟨_, rfl, wpAny_letOwnedTupleGo_enum (s := { s with heap := h', toks := tk + 1 }) ho fun h'' he' sb => ?_⟩
    have hT2 : h''.get? s.heap.objs.size = some { cls := .type "tuple", data := .seq #[.int i tk, x'] } := (sb.2 _ (Nat.ne_of_gt hel)).trans hT
    have new : ObjOk X.prog X.w (upd H s.heap.objs.size (.tup [.int (i : Nat), x])) h'' s.heap.objs.size (.tup [.int (i : Nat), x]) :=
      ⟨by show 2 ≤ sizeLine; decide, [.int i tk, x'], .cons ⟨_, rfl⟩ (.cons ru .nil), ⟨_, hT2, rfl, _, rfl⟩⟩
    have I1 : Inv X pins σ (upd H s.heap.objs.size (.tup [.int (i : Nat), x])) { s with heap := h'', toks := tk + 1 } :=
      I.turnedNew (ch := [e, it]) (fun b ob hb q => (sb.2 b (fun z => hb (by simp [z]))).trans (hk b ob (fun z => hb (by simp [z])) (fun z => hb (by simp [z])) q)) hf (Nat.le_refl _) new
    refine ⟨.ref s.heap.objs.size, _, I1, rfl, ⟨_, x, rfl, I.hok.fresh (Nat.le_refl _), rfl, fun ys hy => by rw [I.tuple_inj hy hq]; exact hx⟩, ⟨⟨x', ?_⟩, hst'.1.at fun o q => (sb.2 it (Ne.symm hne)).trans q, hne, hae, hai⟩, fun b hb => ?_⟩
    · have e1 : ((i + 1 : Nat) : Int) = (i : Int) + 1 := by omega
      rw [e1]; exact he'
    · have hb' : b < s.heap.objs.size := by
        have e' : b = e ∨ b = it := by simpa using hb
        rcases e' with z | z
        · rw [z]; exact hel
        · rw [z]; exact hil
      rw [upd_ne (Nat.ne_of_lt hb')]
      exact (hf b hb).1
  done := by
    intro X hP hw hK hc i pins s σ H E I hf st hg
    subst hP hw hK
    obtain ⟨⟨old, he⟩, hit, hne, hae, hai⟩ := st
    obtain ⟨xs, hq, hx⟩ := hg
    obtain ⟨its, rv, p, hz⟩ := I.tuple hq
    obtain ⟨f0, f1, f2, f3, f4, f5⟩ := hf it (by simp)
    have hl := rv.length
    have hh := I.ok.hd hc
    -- the end by the same two steps as for a list
    have D : Draws X.prog X.w X.A.in1 it [it, a] i (fun _ _ => True) (fun j h => h.IsTupleIter it a i ∧ h.IsTuple a its.toArray ∧ j = i) :=
      { live := fun _ _ st => let ⟨o, ho, _⟩ := st.1; ⟨o, ho⟩
        frame := fun _ _ _ st hk => ⟨st.1.at fun o e => hk it (by simp) o e, st.2.1.at fun o e => hk a (by simp) o e, st.2.2⟩
        item := fun j s Q E hi st hQ => absurd st.2.2 (Nat.ne_of_lt hi)
        done := fun s Q E st hE => wpAny_nextOf_tuple_end (show X.A.in1.handled = none from hh) st.1 st.2.1 (by simp; omega) hE }
    exact wpAny_pyNext_enum_endD D he ⟨hit, p, rfl⟩ fun h' eb => ⟨rfl, I.turned (t' := s.toks) (fun b o hb q => eb b o hb q) f0 f1 f3 f4 f5⟩
  self := fun A i s Q E st h => let ⟨⟨_, he⟩, _⟩ := st; wpAny_pyIter_enum he h
def iEnumA (K : PySem.W.Frag) (ta : TA) : TI := fun σ H R => ta σ H fun vs H1 => ∃ a xs, vs = [.ref a] ∧ ((SqL K H1 a xs ∧ R (Ite K a) H1) ∨ (SqT K H1 a xs ∧ R (IteT K a) H1))
theorem pi_enumA {X : Cx} {e : Expr} {ta : TA} {p pos tpos : Pos} {elts : List Expr} {kk : Nat} (hg : Gl X "enumerate") (hm : X.mg "enumerate" = none) (ha : PA X [e] ta) (hs : starEach [e] X.env = [(false, eval e X.env)] := by rfl) :
    PI X (.Tuple elts kk tpos) (.Call (.Name "enumerate" p) [e] [] pos) (iEnumA X.K ta) := by
  refine ⟨fun pins s σ H R I h => ?_⟩
  refine Call_ (ld_blt I hg hm boot_enumerate (PyProof.Rows.callWith_type1 (thn (ha.run pos pins s σ H _ I h) fun us s1 ⟨vs, H1, I1, r1, q1⟩ => ?_) hs rfl))
  obtain ⟨a, xs, ex, q1⟩ := q1
  subst ex
  cases r1 with
  | cons r rr =>
    cases rr
    cases r
    have fresh2 : ∀ b ∈ [s1.heap.objs.size + 1, s1.heap.objs.size], FpOk X pins H1 b := fun b hb => by
      have e' : b = s1.heap.objs.size + 1 ∨ b = s1.heap.objs.size := by simpa using hb
      have hle : s1.heap.objs.size ≤ b := by
        rcases e' with z | z
        · rw [z]; exact Nat.le_add_right _ _
        · rw [z]; exact Nat.le_refl _
      exact I1.fpOk hle (I1.hok.fresh hle)
    rcases q1 with ⟨hq, q⟩ | ⟨hq, q⟩
    · obtain ⟨its, rv, p', hz⟩ := I1.list hq
      refine call_enumerate_list p'.isList fun h' he hit hsz hk => wpAny_pyIter_enum he ?_
      have I2 : Inv X pins σ H1 { s1 with heap := h' } := I1.kept (t' := s1.toks) hk
      exact ⟨s1.heap.objs.size + 1, [s1.heap.objs.size + 1, s1.heap.objs.size], _, _, H1, rfl, I2, turn_enum a (s1.heap.objs.size + 1) s1.heap.objs.size, ⟨⟨.none, he⟩, hit, Nat.succ_ne_self _⟩, fresh2, q⟩
    · obtain ⟨its, rv, p', hz⟩ := I1.tuple hq
      have hal : a < s1.heap.objs.size := p'.lt
      refine ev_enum_begins1 (begins_tuple a its.toArray) p' fun h' he hit hsz hk => wpAny_pyIter_enum he ?_
      have I2 : Inv X pins σ H1 { s1 with heap := h' } := I1.kept (t' := s1.toks) hk
      exact ⟨s1.heap.objs.size + 1, [s1.heap.objs.size + 1, s1.heap.objs.size], _, _, H1, rfl, I2, turn_enumT a (s1.heap.objs.size + 1) s1.heap.objs.size, ⟨⟨.none, he⟩, ⟨_, hit, rfl, rfl⟩, Nat.succ_ne_self _, Nat.ne_of_lt (Nat.lt_succ_of_lt hal), Nat.ne_of_lt hal⟩, fresh2, q⟩
end L2
end
section
set_option Elab.async false
set_option linter.all false
set_option maxRecDepth 100000
/-! EvSnd7: what is walked; targets; statements. -/
namespace EV
open PySem L2

/-! ### what is walked -/
/-- J walks as it tells, wherever what follows H keeps -/
def JRep (it : EV.It) (H : Hp) (as : List Addr) (J : L2.It) : Prop := ∀ (i : Nat) (as' : List Addr) (H' : Hp) (h' : PH), Ext H as H' as' → RepH H' as' h' →
  match itAt it i h' with
  | some (some x) => J.go i H' ∧ ∀ v H'', J.yld i H' v H'' → Ext H' as' H'' as' ∧ RepH H'' as' h' ∧ RepV H'' as' x v
  | some none => J.stop i H'
  | none => True
abbrev rJ : List Addr → Hp → EV.It → L2.It → Prop := fun as H it J => JRep it H as J
def rdI (T : XTab) (W : WX) (c : Cc) (d : E) : TI := fun σ H R => ∃ as r h, Rp H as r σ h ∧ gotR T W (evI c d r h) as H σ rJ R
theorem PI.imp {X : Cx} {tg e : Expr} {t t' : TI} (p : L2.PI X tg e t) (h : ∀ σ H R, t' σ H R → t σ H R) : L2.PI X tg e t' := ⟨fun pins s σ H R I q => p.run pins s σ H R I (h σ H R q)⟩
section
variable {K : PySem.W.Frag} {as : List Addr} {H : Hp} {n : Nat} {a : Addr} {xs : List PV} {vs : List V}
/-- an own list -/
theorem jrep_live (qa : as[n]? = some a) : JRep (.live n) H as (Itl K a) := by
  intro i as' H' h' e rh
  unfold itAt
  cases ho : h'[n]? with
  | none => trivial
  | some o =>
    cases o with
    | lst fz xs =>
      obtain ⟨vs, la, z, sq, _⟩ := rh.lst (K := K) ho (e.get qa)
      simp only
      cases hx : xs[i]? with
      | none => exact ⟨vs, sq, by rw [← la.length]; exact List.getElem?_eq_none_iff.mp hx⟩
      | some x =>
        obtain ⟨v, hv, rv⟩ := la.get hx
        refine ⟨⟨vs, v, sq, hv⟩, fun v' H'' y => ?_⟩
        obtain ⟨rfl, y⟩ := y
        have := y vs sq
        rw [hv] at this; cases this
        exact ⟨Ext.refl, rh, rv⟩
    | dK _ => trivial
    | dT _ => trivial
/-- a tuple -/
theorem jrep_tup (rh0 : ∃ h, RepH H as h) (q : H a = some (.tup vs)) (l : RepL H as xs vs) : JRep (.vals xs) H as (Itt K a) := by
  intro i as' H' h' e rh
  obtain ⟨h, rh0⟩ := rh0
  have q' := tup_ext q rh0 e
  have l' := l.ext rh0 e
  unfold itAt
  cases hx : xs[i]? with
  | none => exact ⟨vs, .of q', by rw [← l'.length]; exact List.getElem?_eq_none_iff.mp hx⟩
  | some x =>
    obtain ⟨v, hv, rv⟩ := l'.get hx
    refine ⟨⟨vs, v, .of q', hv⟩, fun v' H'' y => ?_⟩
    obtain ⟨rfl, y⟩ := y
    have := y vs (.of q')
    rw [hv] at this; cases this
    exact ⟨Ext.refl, rh, rv⟩
/-- a list that nobody holds -/
theorem jrep_lst (rh0 : ∃ h, RepH H as h) (q : H a = some (.lst vs)) (hn : a ∉ as) (l : RepL H as xs vs) : JRep (.vals xs) H as (Itl K a) := by
  intro i as' H' h' e rh
  obtain ⟨h, rh0⟩ := rh0
  have q' := e.keep _ _ q hn
  have l' := l.ext rh0 e
  unfold itAt
  cases hx : xs[i]? with
  | none => exact ⟨vs, .of q', by rw [← l'.length]; exact List.getElem?_eq_none_iff.mp hx⟩
  | some x =>
    obtain ⟨v, hv, rv⟩ := l'.get hx
    refine ⟨⟨vs, v, .of q', hv⟩, fun v' H'' y => ?_⟩
    obtain ⟨rfl, y⟩ := y
    have := y vs (.of q')
    rw [hv] at this; cases this
    exact ⟨Ext.refl, rh, rv⟩
theorem jrep_rng {lo : Int} : JRep (.rng lo n) H as (Itr lo n) := by
  intro i as' H' h' e rh
  unfold itAt
  by_cases hi : i < n
  · simp only [hi, if_true]
    refine ⟨hi, fun v' H'' y => ?_⟩
    obtain ⟨rfl, rfl⟩ := y
    exact ⟨Ext.refl, rh, .int _⟩
  · simp only [hi, if_false]
    exact Nat.le_of_not_lt hi
/-- pairs with their number -/
theorem pair_snd {H' : Hp} {as' : List Addr} {h' : PH} (rh : RepH H' as' h') {T : Addr} {x : PV} {v : V} {i : Nat} (hT : H' T = none) (rv : RepV H' as' x v) :
    Ext H' as' (upd H' T (.tup [.int (i : Nat), v])) as' ∧ RepH (upd H' T (.tup [.int (i : Nat), v])) as' h' ∧ RepV (upd H' T (.tup [.int (i : Nat), v])) as' (.tup [.int (i : Nat), x]) (.ref T) :=
  ⟨Ext.beside hT, rh.beside hT, .tup upd_same (.cons (.int _) (.cons (rv.ext rh (Ext.beside hT)) .nil))⟩
theorem pair2_snd {H' : Hp} {as' : List Addr} {h' : PH} (rh : RepH H' as' h') {T : Addr} {x y : PV} {v w : V} (hT : H' T = none) (rv : RepV H' as' x v) (rw' : RepV H' as' y w) :
    Ext H' as' (upd H' T (.tup [v, w])) as' ∧ RepH (upd H' T (.tup [v, w])) as' h' ∧ RepV (upd H' T (.tup [v, w])) as' (.tup [x, y]) (.ref T) :=
  ⟨Ext.beside hT, rh.beside hT, .tup upd_same (.cons (rv.ext rh (Ext.beside hT)) (.cons (rw'.ext rh (Ext.beside hT)) .nil))⟩
/-- where a sequence stands: a list of one's own, a tuple -/
inductive SrcR (H : Hp) (as : List Addr) : EV.It → Addr → Bool → Prop
  | live {n : Nat} {a : Addr} : as[n]? = some a → SrcR H as (.live n) a true
  | vals {xs : List PV} {vs : List V} {a : Addr} : H a = some (.tup vs) → RepL H as xs vs → SrcR H as (.vals xs) a false
theorem src_at {K : PySem.W.Frag} {it : EV.It} {b : Bool} (s : SrcR H as it a b) (rh0 : ∃ h, RepH H as h) {as' : List Addr} {H' : Hp} {h' : PH} (e : Ext H as H' as') (rh : RepH H' as' h') (i : Nat) :
    match itAt it i h' with
    | some o => ∃ vs, (if b then SqL K H' a vs else SqT K H' a vs) ∧ (match o with | some x => ∃ v, vs[i]? = some v ∧ RepV H' as' x v | none => vs.length ≤ i)
    | none => True := by
  cases s with
  | live qa =>
    unfold itAt
    rename_i n
    cases ho : h'[n]? with
    | none => trivial
    | some o =>
      cases o with
      | lst fz xs =>
        obtain ⟨vs, la, z, sq, _⟩ := rh.lst (K := K) ho (e.get qa)
        refine ⟨vs, sq, ?_⟩
        cases hx : xs[i]? with
        | none => show vs.length ≤ i; rw [← la.length]; exact List.getElem?_eq_none_iff.mp hx
        | some x => exact la.get hx
      | dK _ => trivial
      | dT _ => trivial
  | vals q l =>
    obtain ⟨h, rh0⟩ := rh0
    have q' := tup_ext q rh0 e
    have l' := l.ext rh0 e
    unfold itAt
    rename_i xs vs
    refine ⟨vs, .of q', ?_⟩
    cases hx : xs[i]? with
    | none => show vs.length ≤ i; rw [← l'.length]; exact List.getElem?_eq_none_iff.mp hx
    | some x => exact l'.get hx
theorem jrep_enmL {it : EV.It} (s : SrcR H as it a true) (rh0 : ∃ h, RepH H as h) : JRep (.enm it) H as (Ite K a) := by
  intro i as' H' h' e rh
  have k := src_at (K := K) s rh0 e rh i
  unfold itAt
  cases q : itAt it i h' with
  | none => trivial
  | some o =>
    rw [q] at k
    obtain ⟨vs, sq, k⟩ := k
    cases o with
    | none => exact ⟨vs, sq, k⟩
    | some x =>
      obtain ⟨v, hv, rv⟩ := k
      refine ⟨⟨vs, v, sq, hv⟩, fun v' H'' y => ?_⟩
      obtain ⟨T, w, rfl, hT, rfl, y⟩ := y
      have := y vs sq
      rw [hv] at this; cases this
      exact pair_snd rh hT rv
theorem jrep_enmT {it : EV.It} (s : SrcR H as it a false) (rh0 : ∃ h, RepH H as h) : JRep (.enm it) H as (IteT K a) := by
  intro i as' H' h' e rh
  have k := src_at (K := K) s rh0 e rh i
  unfold itAt
  cases q : itAt it i h' with
  | none => trivial
  | some o =>
    rw [q] at k
    obtain ⟨vs, sq, k⟩ := k
    cases o with
    | none => exact ⟨vs, sq, k⟩
    | some x =>
      obtain ⟨v, hv, rv⟩ := k
      refine ⟨⟨vs, v, sq, hv⟩, fun v' H'' y => ?_⟩
      obtain ⟨T, w, rfl, hT, rfl, y⟩ := y
      have := y vs sq
      rw [hv] at this; cases this
      exact pair_snd rh hT rv
theorem jrep_zipL {it it2 : EV.It} {b : Addr} (s : SrcR H as it a true) (s2 : SrcR H as it2 b true) (rh0 : ∃ h, RepH H as h) : JRep (.zip it it2) H as (Itz K a b) := by
  intro i as' H' h' e rh
  have k := src_at (K := K) s rh0 e rh i
  have k2 := src_at (K := K) s2 rh0 e rh i
  unfold itAt
  cases q : itAt it i h' with
  | none => trivial
  | some o =>
    rw [q] at k
    obtain ⟨vs, sq, k⟩ := k
    cases q2 : itAt it2 i h' with
    | none => cases o <;> trivial
    | some o2 =>
      rw [q2] at k2
      obtain ⟨ws, sq2, k2⟩ := k2
      cases o with
      | none => exact ⟨vs, ws, sq, sq2, .inl k⟩
      | some x =>
        obtain ⟨v, hv, rv⟩ := k
        cases o2 with
        | none => exact ⟨vs, ws, sq, sq2, .inr k2⟩
        | some y =>
          obtain ⟨w, hw, rw'⟩ := k2
          refine ⟨⟨vs, ws, v, w, sq, sq2, hv, hw⟩, fun v' H'' y => ?_⟩
          obtain ⟨T, w1, w2, rfl, hT, rfl, y1, y2⟩ := y
          have := y1 vs sq
          rw [hv] at this; cases this
          have := y2 ws sq2
          rw [hw] at this; cases this
          exact pair2_snd rh hT rv rw'
theorem jrep_zipT {it it2 : EV.It} {b : Addr} (s : SrcR H as it a false) (s2 : SrcR H as it2 b false) (rh0 : ∃ h, RepH H as h) : JRep (.zip it it2) H as (RZ.ItzT K a b) := by
  intro i as' H' h' e rh
  have k := src_at (K := K) s rh0 e rh i
  have k2 := src_at (K := K) s2 rh0 e rh i
  unfold itAt
  cases q : itAt it i h' with
  | none => trivial
  | some o =>
    rw [q] at k
    obtain ⟨vs, sq, k⟩ := k
    cases q2 : itAt it2 i h' with
    | none => cases o <;> trivial
    | some o2 =>
      rw [q2] at k2
      obtain ⟨ws, sq2, k2⟩ := k2
      cases o with
      | none => exact ⟨vs, ws, sq, sq2, .inl k⟩
      | some x =>
        obtain ⟨v, hv, rv⟩ := k
        cases o2 with
        | none => exact ⟨vs, ws, sq, sq2, .inr k2⟩
        | some y =>
          obtain ⟨w, hw, rw'⟩ := k2
          refine ⟨⟨vs, ws, v, w, sq, sq2, hv, hw⟩, fun v' H'' y => ?_⟩
          obtain ⟨T, w1, w2, rfl, hT, rfl, y1, y2⟩ := y
          have := y1 vs sq
          rw [hv] at this; cases this
          have := y2 ws sq2
          rw [hw] at this; cases this
          exact pair2_snd rh hT rv rw'
end

/-! ### expressions that are walked -/
section
variable {X : Cx} {T : XTab} {W : WX} {c : Cc} {pos p tpos : Pos} {tg : Expr} {elts : List Expr} {kk : Nat}
def iSeq (K : PySem.W.Frag) (tl : TE) : TI := fun σ H R => tl σ H fun x H1 => ∃ a, x = .ref a ∧ (((∃ xs, SqL K H1 a xs) ∧ R (Itl K a) H1) ∨ ((∃ xs, SqT K H1 a xs) ∧ R (Itt K a) H1))
theorem pi_seq {l : Expr} {tl : TE} (hl : PE X l tl) : L2.PI X tg l (iSeq X.K tl) := by
  refine ⟨fun pins s σ H R I h => ?_⟩
  refine thn (hl.run pins s σ H _ I h) fun v s1 ⟨x, H1, I1, r1, q1⟩ => ?_
  obtain ⟨a, e, q⟩ := q1
  subst e
  cases r1
  rcases q with ⟨⟨xs, hq⟩, q⟩ | ⟨⟨xs, hq⟩, q⟩
  · obtain ⟨its, rv, p, hz⟩ := I1.list hq
    refine wpAny_pyIter_list p.isList ?_
    refine ⟨s1.heap.objs.size, [s1.heap.objs.size], _, _, H1, rfl, I1.kept (t' := s1.toks) fun b o e => Heap.get?_push_of_some _ e, turn_list a _, ⟨_, Heap.get?_push_size _ rfl, rfl, rfl⟩, fun b hb => ?_, q⟩
    have e : b = s1.heap.objs.size := by simpa using hb
    subst e
    exact I1.fpOk (Nat.le_refl _) (I1.hok.fresh (Nat.le_refl _))
  · obtain ⟨its, rv, p, hz⟩ := I1.tuple hq
    refine wpAny_pyIter_tuple (show s1.heap.IsTuple a its.toArray from p) ?_
    refine ⟨s1.heap.objs.size, [s1.heap.objs.size], _, _, H1, rfl, I1.kept (t' := s1.toks) fun b o e => Heap.get?_push_of_some _ e, turn_tuple a _, ⟨_, Heap.get?_push_size _ rfl, rfl, rfl⟩, fun b hb => ?_, q⟩
    have e : b = s1.heap.objs.size := by simpa using hb
    subst e
    exact I1.fpOk (Nat.le_refl _) (I1.hok.fresh (Nat.le_refl _))
theorem toIt_snd {K : PySem.W.Frag} {as : List Addr} {H : Hp} {h : PH} {x : PV} {u : V} {it : EV.It} (rh : RepH H as h) (rx : RepV H as x u) (e : toIt x h = some it) :
    ∃ a b, u = .ref a ∧ SrcR H as it a b ∧ (∃ vs, if b then SqL K H a vs else SqT K H a vs) := by
  unfold toIt at e
  cases x with
  | tup xs => cases e; obtain ⟨a, vs, rfl, qa, la⟩ := rx.tupE; exact ⟨a, false, rfl, .vals qa la, vs, .of qa⟩
  | obj n =>
    obtain ⟨a, rfl, qa⟩ := rx.objE
    simp only at e
    cases ho : h[n]? with
    | none => rw [ho] at e; cases e
    | some o =>
      rw [ho] at e
      cases o with
      | lst fz xs => cases e; obtain ⟨vs, _, _, sq, _⟩ := rh.lst (K := K) ho qa; exact ⟨a, true, rfl, .live qa, vs, sq⟩
      | dK _ => cases e
      | dT _ => cases e
  | _ => cases e
theorem src_jrep {K : PySem.W.Frag} {as : List Addr} {H : Hp} {it : EV.It} {a : Addr} {b : Bool} (s : SrcR H as it a b) (rh0 : ∃ h, RepH H as h) : JRep it H as (if b then Itl K a else Itt K a) := by
  cases s with
  | live q => exact jrep_live q
  | vals q l => exact jrep_tup rh0 q l
theorem ofOptI_snd {as : List Addr} {H : Hp} {σ : L2.St} {h : PH} {o : Option EV.It} {R : L2.It → Hp → Prop} (g : gotR T W (ofOptI h o) as H σ rJ R) (rh : RepH H as h) : ∃ it, o = some it ∧ ∀ J, JRep it H as J → R J H := by
  cases o with
  | none => exact g.elim
  | some b => exact ⟨b, rfl, fun z rz => g.ok rh rz⟩
/-- a value that is walked: a list of one's own, a tuple -/
theorem i_val {e : Expr} {d : E} (he : PE X e (rdE T W c d)) : L2.PI X tg e (rdI T W c (.itv d)) := by
  refine PI.imp (pi_seq he) fun σ H R ⟨as, r, h, p, g⟩ => ?_
  unfold evI at g
  refine ⟨as, r, h, p, (g.bnd (repx := rV) p).mono ?_⟩
  rintro u H1 ⟨as1, h1, x, e1, p1, rx, _, g1⟩
  obtain ⟨it, hit, q⟩ := ofOptI_snd g1 p1.hp
  obtain ⟨a, b, rfl, sr, vs, sq⟩ := toIt_snd (K := X.K) p1.hp rx hit
  have jr := src_jrep (K := X.K) sr ⟨_, p1.hp⟩
  cases b with
  | true => exact ⟨a, rfl, .inl ⟨⟨vs, sq⟩, q _ jr⟩⟩
  | false => exact ⟨a, rfl, .inr ⟨⟨vs, sq⟩, q _ jr⟩⟩
theorem i_rng1 {e : Expr} {d : E} (hg : Gl X "range") (hm : X.mg "range" = none) (ha : PA X [e] (rdL T W c [d])) (hs : noStar e = true) : L2.PI X tg (.Call (.Name "range" p) [e] [] pos) (rdI T W c (.rng (.cst (.int 0)) d)) := by
  refine PI.imp (pi_range1 hg hm ha (by rw [each_noStar hs]; rfl)) fun σ H R ⟨as, r, h, p, g⟩ => ?_
  unfold evI at g
  have e0 : evE c (.cst (.int 0)) r h = .ok (.int 0) h := by unfold evE; rfl
  rw [e0] at g
  simp only [Rs.bnd] at g
  refine ⟨as, r, h, p, ?_⟩
  have e1 : evL c [d] r h = (evE c d r h).bnd fun v h => .ok [v] h := by
    unfold evL evL
    cases evE c d r h <;> rfl
  rw [e1]
  cases q : evE c d r h with
  | ok v h1 =>
    rw [q] at g
    intro as1 H1 us e2 rh rl
    simp only at g
    obtain ⟨u, rfl, ru⟩ := rl1 rl
    unfold rngOf at g
    cases v with
    | int j =>
      simp only at g
      split at g
      · rename_i hb
        refine ⟨j, by rw [ru.intE], hb.2.2.1, hb.2.2.2, ?_⟩
        have := (g.ext e2).ok rh (u := Itr 0 j.toNat) (by
          have : (j - 0).toNat = j.toNat := by omega
          rw [this]; exact jrep_rng)
        exact this
      · exact g.elim
    | _ => exact g.elim
  | ex k vs h1 => rw [q] at g; exact g
  | no => rw [q] at g; exact g
theorem i_rng2 {e e2 : Expr} {d d2 : E} (hg : Gl X "range") (hm : X.mg "range" = none) (ha : PA X [e, e2] (rdL T W c [d, d2])) (hs : noStar e = true) (hs2 : noStar e2 = true) : L2.PI X tg (.Call (.Name "range" p) [e, e2] [] pos) (rdI T W c (.rng d d2)) := by
  refine PI.imp (pi_range2 hg hm ha (by rw [each_noStar hs, each_noStar hs2]; rfl) (by rw [each_noStar hs2]; rfl)) fun σ H R ⟨as, r, h, p, g⟩ => ?_
  unfold evI at g
  have e1 : (evL c [d, d2] r h).bnd (fun vs h => match vs with | [x, y] => rngOf x y h | _ => .no) = (evE c d r h).bnd fun x h => (evE c d2 r h).bnd fun y h => rngOf x y h := by
    unfold evL evL evL
    cases evE c d r h with
    | ok v h1 =>
      simp only [Rs.bnd]
      cases evE c d2 r h1 <;> rfl
    | ex k vs h1 => rfl
    | no => rfl
  rw [← e1] at g
  refine ⟨as, r, h, p, (g.bnd (repx := rL) p).mono ?_⟩
  rintro us H1 ⟨as1, h1, vs, e3, p1, rl, _, g1⟩
  split at g1
  · rename_i x y
    obtain ⟨u, w, rfl, ru, rw'⟩ := rl2 rl
    unfold rngOf at g1
    split at g1
    · split at g1
      · rename_i hb
        exact ⟨_, _, by rw [ru.intE, rw'.intE], hb, g1.ok p1.hp jrep_rng⟩
      · exact g1.elim
    · exact g1.elim
  · exact g1.elim
theorem ev1 {d : E} {r : Env} {h : PH} : evL c [d] r h = (evE c d r h).bnd fun v h => .ok [v] h := by
  unfold evL evL
  cases evE c d r h <;> rfl
theorem ev2 {d d2 : E} {r : Env} {h : PH} : evL c [d, d2] r h = (evE c d r h).bnd fun x h => (evE c d2 r h).bnd fun y h => .ok [x, y] h := by
  unfold evL evL evL
  cases evE c d r h with
  | ok v h1 =>
    simp only [Rs.bnd]
    cases evE c d2 r h1 <;> rfl
  | ex k vs h1 => rfl
  | no => rfl
theorem bnd_assoc {α β γ : Type} {x : Rs α} {f : α → PH → Rs β} {g : β → PH → Rs γ} : (x.bnd f).bnd g = x.bnd fun a h => (f a h).bnd g := by
  cases x <;> rfl
theorem i_enm {e : Expr} {d : E} (hg : Gl X "enumerate") (hm : X.mg "enumerate" = none) (ha : PA X [e] (rdL T W c [d])) (hs : noStar e = true) : L2.PI X (.Tuple elts kk tpos) (.Call (.Name "enumerate" p) [e] [] pos) (rdI T W c (.enm d)) := by
  refine PI.imp (pi_enumA hg hm ha (by rw [each_noStar hs]; rfl)) fun σ H R ⟨as, r, h, p, g⟩ => ?_
  unfold evI at g
  have e0 : ((evE c d r h).bnd fun x h => ofOptI h ((toIt x h).map .enm)) = (evL c [d] r h).bnd fun vs h => match vs with | [x] => ofOptI h ((toIt x h).map .enm) | _ => .no := by
    rw [ev1, bnd_assoc]; rfl
  rw [e0] at g
  refine ⟨as, r, h, p, (g.bnd (repx := rL) p).mono ?_⟩
  rintro us H1 ⟨as1, h1, vs, e1, p1, rl, _, g1⟩
  split at g1
  · obtain ⟨u, rfl, ru⟩ := rl1 rl
    obtain ⟨it, hit, q⟩ := ofOptI_snd g1 p1.hp
    obtain ⟨it0, hi0, rfl⟩ := Option.map_eq_some_iff.mp hit
    obtain ⟨a, b, rfl, sr, vs, sq⟩ := toIt_snd (K := X.K) p1.hp ru hi0
    cases b with
    | true => exact ⟨a, vs, rfl, .inl ⟨sq, q _ (jrep_enmL sr ⟨_, p1.hp⟩)⟩⟩
    | false => exact ⟨a, vs, rfl, .inr ⟨sq, q _ (jrep_enmT sr ⟨_, p1.hp⟩)⟩⟩
  · exact g1.elim
theorem i_zip {e e2 : Expr} {d d2 : E} (hg : Gl X "zip") (hm : X.mg "zip" = none) (ha : PA X [e, e2] (rdL T W c [d, d2])) (hs : noStar e = true) (hs2 : noStar e2 = true) : L2.PI X (.Tuple elts kk tpos) (.Call (.Name "zip" p) [e, e2] [] pos) (rdI T W c (.zip d d2)) := by
  refine PI.imp (RZ.pi_zipA hg hm ha (by rw [each_noStar hs]) (any_noStar (by simp [hs2]))) fun σ H R ⟨as, r, h, p, g⟩ => ?_
  unfold evI at g
  have e0 : ((evE c d r h).bnd fun x h => (evE c d2 r h).bnd fun y h => ofOptI h (zipIt x y h)) = (evL c [d, d2] r h).bnd fun vs h => match vs with | [x, y] => ofOptI h (zipIt x y h) | _ => .no := by
    rw [ev2, bnd_assoc]
    congr 1
    funext x h
    rw [bnd_assoc]; rfl
  rw [e0] at g
  refine ⟨as, r, h, p, (g.bnd (repx := rL) p).mono ?_⟩
  rintro us H1 ⟨as1, h1, vs, e1, p1, rl, _, g1⟩
  split at g1
  · rename_i x y
    obtain ⟨u, w, rfl, ru, rw'⟩ := rl2 rl
    obtain ⟨it, hit, q⟩ := ofOptI_snd g1 p1.hp
    unfold zipIt at hit
    split at hit
    · rename_i h1 h2
      cases hit
      obtain ⟨a, b, rfl, sr, vs, sq⟩ := toIt_snd (K := X.K) p1.hp ru h1
      obtain ⟨a2, b2, rfl, sr2, vs2, sq2⟩ := toIt_snd (K := X.K) p1.hp rw' h2
      cases sr
      cases sr2
      rename_i q1 q2
      exact ⟨a, a2, vs, vs2, rfl, .inl ⟨sq, sq2, q _ (jrep_zipL (.live q1) (.live q2) ⟨_, p1.hp⟩)⟩⟩
    · rename_i h1 h2
      cases hit
      obtain ⟨a, b, rfl, sr, vs, sq⟩ := toIt_snd (K := X.K) p1.hp ru h1
      obtain ⟨a2, b2, rfl, sr2, vs2, sq2⟩ := toIt_snd (K := X.K) p1.hp rw' h2
      cases sr with
      | vals q1 l1 =>
      cases sr2 with
      | vals q2 l2 =>
      exact ⟨a, a2, vs, vs2, rfl, .inr ⟨sq, sq2, q _ (jrep_zipT (.vals q1 l1) (.vals q2 l2) ⟨_, p1.hp⟩)⟩⟩
    · cases hit
  · exact g1.elim
end
end EV
end
section
set_option Elab.async false
set_option linter.all false
set_option maxRecDepth 100000
/-! EvSnd8: targets, plain statements, loops. -/
namespace EV
open PySem L2

/-! ### targets -/
/-- the slots a target stores in -/
def tgS : Tg → List Nat
  | .nm i => [i]
  | .tup ts => tgSs ts
where tgSs : List Tg → List Nat
  | [] => []
  | t :: ts => tgS t ++ tgSs ts
/-- but for these slots the same -/
def Fr (vs : List Nat) (σ σ' : L2.St) : Prop := σ'.length = σ.length ∧ ∀ i, i ∉ vs → σ'[i]? = σ[i]?
theorem Fr.refl {vs : List Nat} {σ : L2.St} : Fr vs σ σ := ⟨rfl, fun _ _ => rfl⟩
theorem Fr.trans {vs ws : List Nat} {σ σ1 σ2 : L2.St} (a : Fr vs σ σ1) (b : Fr ws σ1 σ2) : Fr (vs ++ ws) σ σ2 :=
  ⟨b.1.trans a.1, fun i hi => by rw [List.mem_append, not_or] at hi; exact (b.2 i hi.2).trans (a.2 i hi.1)⟩
def rdGk (t : Tg) : TG := fun v σ H Q => ∃ as r h pv, Rp H as r σ h ∧ RepV H as pv v ∧ match bindT t pv r with
  | some r' => ∀ σ', Rp H as r' σ' h → Fr (tgS t) σ σ' → Q σ' H
  | none => False
def rdGks (ts : List Tg) : TGs := fun vs σ H Q => ∃ as r h pvs, Rp H as r σ h ∧ RepL H as pvs vs ∧ match bindTs ts pvs r with
  | some r' => ∀ σ', Rp H as r' σ' h → Fr (tgS.tgSs ts) σ σ' → Q σ' H
  | none => False
def rdG (t : Tg) : TG := fun v σ H Q => ∃ as r h pv, Rp H as r σ h ∧ RepV H as pv v ∧ match bindT t pv r with
  | some r' => ∀ σ', Rp H as r' σ' h → Q σ' H
  | none => False
theorem PG.imp {X : Cx} {tg : Expr} {t t' : TG} (p : L2.PG X tg t) (h : ∀ v σ H Q, t' v σ H Q → t v σ H Q) : L2.PG X tg t' := ⟨fun pins s σ H v u Q I r q => p.run pins s σ H v u Q I r (h v σ H Q q)⟩
theorem PGs.imp {X : Cx} {tg : List Expr} {t t' : TGs} (p : L2.PGs X tg t) (h : ∀ v σ H Q, t' v σ H Q → t v σ H Q) : L2.PGs X tg t' := ⟨fun pins s σ H v u Q I r q => p.run pins s σ H v u Q I r (h v σ H Q q)⟩
theorem g_of {X : Cx} {tg : Expr} {t : Tg} (p : L2.PG X tg (rdGk t)) : L2.PG X tg (rdG t) := PG.imp p fun v σ H Q ⟨as, r, h, pv, a, b, q⟩ => by
  refine ⟨as, r, h, pv, a, b, ?_⟩
  cases e : bindT t pv r with
  | none => rw [e] at q; exact q
  | some r' => rw [e] at q; exact fun σ' p' _ => q σ' p'
theorem each_len {env : PySem.Env} : ∀ {es : List Expr}, es.all noStar = true → (assignEach es env).length = es.length ∧ (assignEach es env).findIdx? (·.1) = none := by
  intro es
  induction es with
  | nil => intro _; exact ⟨rfl, rfl⟩
  | cons e es ih =>
    intro h
    rw [List.all_cons, Bool.and_eq_true] at h
    obtain ⟨h1, h2⟩ := ih h.2
    have : assignEach (e :: es) env = (false, assign e env) :: assignEach es env := by
      cases e <;> first | rfl | exact absurd h.1 Bool.false_ne_true
    rw [this]
    refine ⟨by simp [h1], ?_⟩
    rw [List.findIdx?_cons, h2]; rfl
theorem each_map {e : Expr} {es : List Expr} {env : PySem.Env} (h : noStar e = true) : (assignEach (e :: es) env).map (·.2) = assign e env :: (assignEach es env).map (·.2) := by
  cases e <;> first | rfl | exact absurd h Bool.false_ne_true
section
variable {X : Cx} {pos : Pos}
theorem fr_set {i : Nat} {σ : L2.St} {v : Option V} : Fr [i] σ (σ.set i v) := ⟨List.length_set .., fun j hj => List.getElem?_set_ne (fun z => hj (by rw [z]; exact List.mem_cons_self))⟩
theorem g_name {i : Nat} {x : Str} (hN : X.N.Nodup) (hi : X.N[i]? = some x) (hx : Loc X.env.scope x) (hf : X.fn x = true ∨ X.env.scope.names.lookup x = some .local) : L2.PG X (.Name x pos) (rdGk (.nm i)) := by
  refine PG.imp (pg_name hN hi hx hf) fun v σ H Q ⟨as, r, h, pv, p, rv, q⟩ => ?_
  unfold bindT at q
  exact q _ (p.store i rv) fr_set
theorem g_nil : L2.PGs X [] (rdGks []) := by
  refine PGs.imp pgs_nil fun vs σ H Q ⟨as, r, h, pvs, p, rl, q⟩ => ?_
  cases pvs with
  | nil => unfold bindTs at q; exact ⟨rl.nilE, q σ p .refl⟩
  | cons x xs => unfold bindTs at q; exact q.elim
theorem g_cons {e : Expr} {es : List Expr} {t : Tg} {ts : List Tg} (h1 : L2.PG X e (rdGk t)) (h2 : L2.PGs X es (rdGks ts)) (hs : noStar e = true) : L2.PGs X (e :: es) (rdGks (t :: ts)) := by
  refine PGs.imp (pgs_cons h1 h2 (each_map hs)) fun vs σ H Q ⟨as, r, h, pvs, p, rl, q⟩ => ?_
  cases pvs with
  | nil => unfold bindTs at q; exact q.elim
  | cons x xs =>
    obtain ⟨u, us, rfl, rx, rr⟩ := rl.consE
    unfold bindTs at q
    refine ⟨u, us, rfl, as, r, h, x, p, rx, ?_⟩
    cases hb : bindT t x r with
    | none => rw [hb] at q; exact q
    | some r' =>
      rw [hb] at q
      intro σ' p' f1
      refine ⟨as, r', h, xs, p', rr, ?_⟩
      simp only at q
      cases hb2 : bindTs ts xs r' with
      | none => rw [hb2] at q; exact q
      | some r2 => rw [hb2] at q; exact fun σ2 p2 f2 => q σ2 p2 (f1.trans f2)
theorem bindTs_len : ∀ {ts : List Tg} {xs : List PV} {r r' : Env}, bindTs ts xs r = some r' → ts.length = xs.length := by
  intro ts
  induction ts with
  | nil => intro xs r r' e; cases xs with
    | nil => rfl
    | cons x xs => unfold bindTs at e; cases e
  | cons t ts ih => intro xs r r' e; cases xs with
    | nil => unfold bindTs at e; cases e
    | cons x xs =>
      unfold bindTs at e
      cases hb : bindT t x r with
      | none => rw [hb] at e; cases e
      | some r1 => rw [hb] at e; simp [ih e]
theorem g_tup {es : List Expr} {k : Nat} {ts : List Tg} (hc : X.calm = true) (h : L2.PGs X es (rdGks ts)) (hs : es.all noStar = true) (hl : es.length = ts.length) : L2.PG X (.Tuple es k pos) (rdGk (.tup ts)) := by
  refine PG.imp (pg_tup (n := ts.length) hc h (by rw [(each_len hs).1, hl]) (each_len hs).2) fun v σ H Q ⟨as, r, h, pv, p, rv, q⟩ => ?_
  cases pv with
  | tup xs =>
    obtain ⟨a, vs, rfl, qa, la⟩ := rv.tupE
    unfold bindT at q
    cases hb : bindTs ts xs r with
    | none => rw [hb] at q; exact q.elim
    | some r' =>
      refine ⟨a, vs, rfl, .of qa, by rw [← la.length, bindTs_len hb], as, r, h, xs, p, la, q⟩
  | _ => unfold bindT at q; exact q.elim
end

/-! ### plain statements -/
/-- what is no comprehension -/
def noComp : Expr → Bool
  | .ListComp .. => false
  | .SetComp .. => false
  | .DictComp .. => false
  | _ => true
theorem swaps_no {e : Expr} {t : Option Expr} {l : Nat} {env : PySem.Env} (h : noComp e = true) : swapsWith e t l env = pure false := by
  cases e <;> first | rfl | exact absurd h Bool.false_ne_true
theorem swapsS_no {tg e : Expr} {l : Nat} {env : PySem.Env} (h : noComp e = true) : swapsWithSole [tg] e l env = pure false := by
  unfold swapsWithSole; exact swaps_no h
def isTupE : Expr → Bool
  | .Tuple .. => true
  | _ => false
theorem swapped_no {tg e : Expr} {env : PySem.Env} (h : isTupE e = false) : swappedStores [tg] e env = pure none := by
  cases tg <;> cases e <;> first | rfl | exact absurd h (by intro z; cases z)
section
variable {X : Cx} {T : XTab} {W : WX} {c : Cc} {pos : Pos}
theorem st_pass : PS X (.Pass pos) (rdS T W c .pass) := by
  refine PS.imp ps_pass fun D σ H ⟨as, r, h, p, g⟩ => ?_
  unfold exS at g
  exact g.nxt p
theorem st_expr {e : Expr} {d : E} (he : PE X e (rdE T W c d)) (hs : noComp e = true) : PS X (.Expr e pos) (rdS T W c (.expr d)) := by
  refine PS.imp (ps_expr he (swaps_no hs)) fun D σ H ⟨as, r, h, p, g⟩ => ?_
  unfold exS at g
  refine ⟨as, r, h, p, (g.st (repx := rV) p).mono ?_⟩
  rintro u H1 ⟨as1, h1, x, e1, p1, rx, _, g1⟩
  exact g1.nxt p1
/-- storing what was reckoned -/
theorem bind_end {as : List Addr} {H : Hp} {D : Ends} {σ : L2.St} {r : Env} {h : PH} {t : Tg} {v : PV} {u : V} (p : Rp H as r σ h) (rv : RepV H as v u) (g : gotS T W (match bindT t v r with | some r' => .nx r' h | none => .no) as H D) : rdG t u σ H D.nx := by
  refine ⟨as, r, h, v, p, rv, ?_⟩
  cases hb : bindT t v r with
  | none => rw [hb] at g; exact g
  | some r' => rw [hb] at g; exact fun σ' p' => g as H σ' Ext.refl p'
theorem asg_rd {d : E} {t : Tg} {D : Ends} {σ : L2.St} {H : Hp} (q : rdS T W c (.asg t d) D σ H) : tAsg (rdE T W c d) (rdG t) D σ H := by
  obtain ⟨as, r, h, p, g⟩ := q
  unfold exS at g
  refine ⟨as, r, h, p, (g.st (repx := rV) p).mono ?_⟩
  rintro u H1 ⟨as1, h1, x, e1, p1, rx, _, g1⟩
  exact bind_end p1 rx g1
theorem st_name {i : Nat} {x : Str} {e : Expr} {d : E} {px : Pos} (hN : X.N.Nodup) (hi : X.N[i]? = some x) (hx : Loc X.env.scope x) (hf : X.fn x = true ∨ X.env.scope.names.lookup x = some .local) (he : PE X e (rdE T W c d)) (hs : noComp e = true) : PS X (.Assign [.Name x px] e pos) (rdS T W c (.asg (.nm i) d)) := by
  refine PS.imp (ps_set hN hi hx he (swaps_no hs) hf) fun D σ H q => ?_
  obtain ⟨as, r, h, p, g⟩ := q
  unfold exS at g
  refine ⟨as, r, h, p, (g.st (repx := rV) p).mono ?_⟩
  rintro u H1 ⟨as1, h1, x, e1, p1, rx, _, g1⟩
  unfold bindT at g1
  exact g1 as1 H1 _ Ext.refl (p1.store i rx)
/-- any target but a plain name; what is stored is no comprehension and no display of a tuple -/
theorem st_tgt {tg e : Expr} {d : E} {t : Tg} (hg : L2.PG X tg (rdG t)) (he : PE X e (rdE T W c d)) (hs : noComp e = true) (ht : isTupE e = false) (hn : noStar tg = true) : PS X (.Assign [tg] e pos) (rdS T W c (.asg t d)) :=
  PS.imp (ps_asg he hg (swaps_no hs) (swapped_no ht) (each_map hn)) fun D σ H q => asg_rd q
/-- a display of a tuple, stored the plain way -/
theorem st_tgtT {tg e : Expr} {d : E} {t : Tg} (hg : L2.PG X tg (rdG t)) (he : PE X e (rdE T W c d)) (hs : noComp e = true) (ht : swappedStores [tg] e X.env = pure none) (hn : noStar tg = true) : PS X (.Assign [tg] e pos) (rdS T W c (.asg t d)) :=
  PS.imp (ps_asg he hg (swaps_no hs) ht (each_map hn)) fun D σ H q => asg_rd q
theorem evL_two {d1 d2 : E} {r : Env} {h : PH} {f : PV → PH → Rt} : (evE c (.tup [d1, d2]) r h).st r f = (evL c [d1, d2] r h).st r fun vs h => f (.tup vs) h := by
  unfold evE
  cases q : evL c [d1, d2] r h with
  | ok vs h1 =>
    have := evL_len q
    simp only [Rs.bnd, Rs.st]
    rw [if_pos (by rw [this]; show _ ≤ sizeLine; simp [sizeLine_eq])]
  | ex k vs h1 => rfl
  | no => rfl
theorem evL_three {d1 d2 d3 : E} {r : Env} {h : PH} {f : PV → PH → Rt} : (evE c (.tup [d1, d2, d3]) r h).st r f = (evL c [d1, d2, d3] r h).st r fun vs h => f (.tup vs) h := by
  unfold evE
  cases q : evL c [d1, d2, d3] r h with
  | ok vs h1 =>
    have := evL_len q
    simp only [Rs.bnd, Rs.st]
    rw [if_pos (by rw [this]; show _ ≤ sizeLine; simp [sizeLine_eq])]
  | ex k vs h1 => rfl
  | no => rfl
theorem st_par {i j : Nat} {x y : Str} {a b : Expr} {d1 d2 : E} {px py pt pt2 : Pos} {kt k2} (hc : X.calm = true) (hN : X.N.Nodup) (hi : X.N[i]? = some x) (hj : X.N[j]? = some y) (hij : i ≠ j)
    (hx : X.env.scope.names.lookup x = some .local) (hy : X.env.scope.names.lookup y = some .local) (ha : PA X [a, b] (rdL T W c [d1, d2])) (hw : swappedStores [.Tuple [.Name x px, .Name y py] kt pt] (.Tuple [a, b] k2 pt2) X.env = pure (some [x, y])) :
    PS X (.Assign [.Tuple [.Name x px, .Name y py] kt pt] (.Tuple [a, b] k2 pt2) pos) (rdS T W c (.asg (.tup [.nm i, .nm j]) (.tup [d1, d2]))) := by
  refine PS.imp (ps_par hc hN hi hj hij hx hy ha hw rfl) fun D σ H ⟨as, r, h, p, g⟩ => ?_
  unfold exS at g
  rw [evL_two] at g
  refine ⟨as, r, h, p, (g.st (repx := rL) p).mono ?_⟩
  rintro us H1 ⟨as1, h1, vs, e1, p1, rl, ev, g1⟩
  have hl := evL_len ev
  rcases vs with _ | ⟨v, _ | ⟨w, _ | ⟨z, vs⟩⟩⟩
  · simp at hl
  · simp at hl
  · obtain ⟨u, u2, rfl, ru, ru2⟩ := rl2 rl
    simp only [bindT, bindTs] at g1
    exact ⟨u, u2, rfl, g1 as1 H1 _ Ext.refl ((p1.store i ru).store j ru2)⟩
  · simp at hl
theorem st_par3 {i j l : Nat} {x y z : Str} {a b e : Expr} {d1 d2 d3 : E} {px py pz pt pt2 : Pos} {kt k2} (hc : X.calm = true) (hN : X.N.Nodup) (hi : X.N[i]? = some x) (hj : X.N[j]? = some y) (hl : X.N[l]? = some z) (hij : i ≠ j) (hil : i ≠ l) (hjl : j ≠ l)
    (hx : X.env.scope.names.lookup x = some .local) (hy : X.env.scope.names.lookup y = some .local) (hz : X.env.scope.names.lookup z = some .local) (ha : PA X [a, b, e] (rdL T W c [d1, d2, d3]))
    (hw : swappedStores [.Tuple [.Name x px, .Name y py, .Name z pz] kt pt] (.Tuple [a, b, e] k2 pt2) X.env = pure (some [x, y, z])) :
    PS X (.Assign [.Tuple [.Name x px, .Name y py, .Name z pz] kt pt] (.Tuple [a, b, e] k2 pt2) pos) (rdS T W c (.asg (.tup [.nm i, .nm j, .nm l]) (.tup [d1, d2, d3]))) := by
  refine PS.imp (ps_par3 hc hN hi hj hl hij hil hjl hx hy hz ha hw rfl) fun D σ H ⟨as, r, h, p, g⟩ => ?_
  unfold exS at g
  rw [evL_three] at g
  refine ⟨as, r, h, p, (g.st (repx := rL) p).mono ?_⟩
  rintro us H1 ⟨as1, h1, vs, e1, p1, rl, ev, g1⟩
  have hl := evL_len ev
  rcases vs with _ | ⟨v, _ | ⟨w, _ | ⟨v3, _ | ⟨z, vs⟩⟩⟩⟩
  · simp at hl
  · simp at hl
  · simp at hl
  · obtain ⟨u, us2, rfl, ru, rl2'⟩ := rl.consE
    obtain ⟨u2, u3, rfl, ru2, ru3⟩ := rl2 rl2'
    simp only [bindT, bindTs] at g1
    exact ⟨u, u2, u3, rfl, g1 as1 H1 _ Ext.refl (((p1.store i ru).store j ru2).store l ru3)⟩
  · simp at hl
theorem st_ret {e : Expr} {d : E} (he : PE X e (rdE T W c d)) : PS X (.Return (some e) pos) (rdS T W c (.ret d)) := by
  refine PS.imp (ps_ret he) fun D σ H ⟨as, r, h, p, g⟩ => ?_
  unfold exS at g
  refine ⟨as, r, h, p, (g.st (repx := rV) p).mono ?_⟩
  rintro u H1 ⟨as1, h1, x, e1, p1, rx, _, g1⟩
  exact g1 as1 H1 u Ext.refl p1.hp rx
theorem st_retN : PS X (.Return none pos) (rdS T W c .retN) := by
  refine PS.imp ps_retN fun D σ H ⟨as, r, h, p, g⟩ => ?_
  unfold exS at g
  exact g as H _ Ext.refl p.hp .non
theorem st_brk : PS X (.Break pos) (rdS T W c .brk) := by
  refine PS.imp ps_break fun D σ H ⟨as, r, h, p, g⟩ => ?_
  unfold exS at g
  exact g as H σ Ext.refl p
theorem st_cnt : PS X (.Continue pos) (rdS T W c .cnt) := by
  refine PS.imp ps_continue fun D σ H ⟨as, r, h, p, g⟩ => ?_
  unfold exS at g
  exact g as H σ Ext.refl p
theorem st_ite {t : Expr} {a b : List Stmt} {d : E} {A B : List S} (ht : PT X t (rdT T W c d)) (ha : PSs X a (rdB T W c A)) (hb : PSs X b (rdB T W c B)) : PS X (.If t a b pos) (rdS T W c (.ite d A B)) := by
  refine PS.imp (ps_if ht ha hb) fun D σ H ⟨as, r, h, p, g⟩ => ?_
  unfold exS at g
  refine ⟨as, r, h, p, (g.st (repx := rB) p).mono ?_⟩
  rintro u H1 ⟨as1, h1, x, e1, p1, rfl, _, g1⟩
  cases x with
  | true => rw [if_pos rfl] at g1 ⊢; exact ⟨as1, r, h1, p1, g1⟩
  | false => rw [if_neg Bool.false_ne_true] at g1 ⊢; exact ⟨as1, r, h1, p1, g1⟩
theorem bs_nil : PSs X [] (rdB T W c []) := by
  refine PSs.imp pss_nil fun D σ H ⟨as, r, h, p, g⟩ => ?_
  unfold exB at g
  exact g.nxt p
theorem bs_cons {s : Stmt} {ss : List Stmt} {a : S} {as' : List S} (h1 : PS X s (rdS T W c a)) (h2 : PSs X ss (rdB T W c as')) : PSs X (s :: ss) (rdB T W c (a :: as')) := by
  refine PSs.imp (pss_cons h1 h2) fun D σ H ⟨as, r, h, p, g⟩ => ?_
  unfold exB at g
  refine ⟨as, r, h, p, ?_⟩
  cases q : exS c a r h with
  | nx r' h' =>
    rw [q] at g
    exact fun as1 H1 σ1 e1 p1 => ⟨as1, r', h', p1, g.ext e1⟩
  | rt v h' => rw [q] at g; exact g
  | bk r' h' => rw [q] at g; exact g
  | ct r' h' => rw [q] at g; exact g
  | ex k vs r' h' => rw [q] at g; exact g
  | no => rw [q] at g; exact g
/-- name op= e, ints -/
def ipA (o : Op) : TIp := fun x y H Q => ∃ i j, x = .int i ∧ y = .int j ∧ ((o = .add ∧ Q (.int (i + j)) H) ∨ (o = .sub ∧ Q (.int (i - j)) H))
theorem ip_aug {X : Cx} (o : Op) (ho : o = .add ∨ o = .sub) : PIp X o.py (ipA o) := by
  intro pins s σ H x y v u Q I r1 r2 h
  obtain ⟨i, j, rfl, rfl, q⟩ := h
  rcases q with ⟨rfl, q⟩ | ⟨rfl, q⟩
  · exact ip_add pins s σ H _ _ v u Q I r1 r2 ⟨i, j, rfl, rfl, q⟩
  · exact ip_sub pins s σ H _ _ v u Q I r1 r2 ⟨i, j, rfl, rfl, q⟩
theorem st_aug {i : Nat} {x : Str} {e : Expr} {d : E} {o : Op} {px : Pos} (hN : X.N.Nodup) (hi : X.N[i]? = some x) (hx : Loc X.env.scope x) (hf : X.fn x = true ∨ X.env.scope.names.lookup x = some .local) (ho : o = .add ∨ o = .sub) (he : PE X e (rdE T W c d)) :
    PS X (.AugAssign (.Name x px) o.py e pos) (rdS T W c (.aug i o d)) := by
  refine PS.imp (ps_aug hN hi hx he (ip_aug o ho) hf) fun D σ H ⟨as, r, h, p, g⟩ => ?_
  unfold exS at g
  split at g
  · rename_i k hk
    obtain ⟨u, hu, ru⟩ := p.env i _ hk
    rw [ru.intE] at hu
    refine ⟨_, hu, as, r, h, p, (g.st (repx := rV) p).mono ?_⟩
    rintro w H1 ⟨as1, h1, y, e1, p1, ry, _, g1⟩
    unfold augop at g1
    rcases ho with rfl | rfl
    · cases y with
      | int j => exact ⟨k, j, rfl, ry.intE, .inl ⟨rfl, g1 as1 H1 _ Ext.refl (p1.store i (.int _))⟩⟩
      | _ => exact g1.elim
    · cases y with
      | int j => exact ⟨k, j, rfl, ry.intE, .inr ⟨rfl, g1 as1 H1 _ Ext.refl (p1.store i (.int _))⟩⟩
      | _ => exact g1.elim
  · exact g.elim
/-- o[i] = v -/
def tSetA : TSet := fun o i v H Q => rSetL o i v H Q ∨ ∃ a H', o = .ref a ∧ DPut H a i v H' ∧ Q H'
theorem set_all (hu : X.A.units + 1 < cLine) : PSet X tSetA := by
  intro pins s σ H o i v ov iv u Q I ro ri rv h
  rcases h with h | ⟨a, H', rfl, g, q⟩
  · exact set_list pins s σ H o i v ov iv u Q I ro ri rv h
  · cases (show ov = Value.ref a from ro)
    exact d_setItem hu I g ri rv fun s' I' => ⟨H', I', q⟩
def notSlice : Expr → Bool
  | .Slice .. => false
  | _ => true
theorem sub_assign {o i : Expr} {tpos : Pos} {env : PySem.Env} (h : notSlice i = true) : ∀ v, assign (.Subscript o i tpos) env v = (do
      let ov ← holding [v] (eval o env)
      let iv ← holding [v, ov] (eval i env)
      standAt tpos
      holding [v, ov, iv] (setItem ov iv v)
      release [v, ov, iv] []) := by
  intro v
  cases i <;> first | rfl | exact absurd h Bool.false_ne_true
theorem plainIx {b : Expr} (h : notSlice b = true) : PlainIx b := by
  intro o i
  cases b <;> first | rfl | exact absurd h Bool.false_ne_true
theorem setop_snd {K : PySem.W.Frag} {as : List Addr} {H : Hp} {σ : L2.St} {r : Env} {h h' : PH} {o i v : PV} {ov iv vv : V} {Q : Hp → Prop} (p : Rp H as r σ h) (ro : RepV H as o ov) (ri : RepV H as i iv) (rv : RepV H as v vv) (e : setop o i v h = some h')
    (q : ∀ H', Ext H as H' as → Rp H' as r σ h' → Q H') : tSetA ov iv vv H Q := by
  unfold setop at e
  cases o with
  | obj n =>
    obtain ⟨a, rfl, qa⟩ := ro.objE
    simp only at e
    split at e
    · rename_i ho
      obtain ⟨j, hj, e⟩ := Option.map_eq_some_iff.mp e
      subst e
      obtain ⟨vs, la, z, _, ma⟩ := p.hp.lst (K := K) ho qa
      rw [ri.intE]
      refine .inl ⟨a, vs, _, j, rfl, rfl, ma rfl, by rw [← la.length]; exact hj, ?_⟩
      refine q _ (Ext.write qa) (p.to (Ext.write qa) (p.hp.write qa ⟨_, la.set rv j, by simpa using z, rfl⟩))
    · rename_i ho
      obtain ⟨k, hk, e⟩ := Option.bind_eq_some_iff.mp e
      split at e
      · rename_i hz
        cases e
        obtain ⟨ks, hH, rk⟩ := p.hp.dk ho qa
        rw [toKey_snd ri hk]
        refine .inr ⟨a, _, rfl, .k hH (by rw [← rk.length]; exact hz), ?_⟩
        exact q _ (Ext.write qa) (p.to (Ext.write qa) (p.hp.write qa ⟨_, rfl, put_snd rk k rv⟩))
      · cases e
    · rename_i ho
      obtain ⟨k, hk, e⟩ := Option.bind_eq_some_iff.mp e
      split at e
      · rename_i hz
        cases e
        obtain ⟨ks, hH, rk⟩ := p.hp.dt ho qa
        obtain ⟨b, rfl, hb⟩ := toTK_snd ri hk
        refine .inr ⟨a, _, rfl, .t hH hb (by rw [← rk.length]; exact hz), ?_⟩
        exact q _ (Ext.write qa) (p.to (Ext.write qa) (p.hp.write qa ⟨_, rfl, put_snd rk k rv⟩))
      · cases e
    · cases e
  | _ => cases e
theorem st_set {o i e : Expr} {O I' d : E} {tpos : Pos} (hu : X.A.units + 65 < cLine) (ho : PE X o (rdE T W c O)) (hi : PE X i (rdE T W c I')) (he : PE X e (rdE T W c d)) (hsl : notSlice i = true) (hs : noComp e = true) :
    PS X (.Assign [.Subscript o i tpos] e pos) (rdS T W c (.set O I' d)) := by
  have hw : swappedStores [.Subscript o i tpos] e X.env = pure none := by cases e <;> rfl
  refine PS.imp (ps_asg he (pg_sub ho hi (set_all (by omega)) (sub_assign hsl)) (swapsS_no hs) hw (each_map rfl)) fun D σ H ⟨as, r, h, p, g⟩ => ?_
  unfold exS at g
  refine ⟨as, r, h, p, (g.st (repx := rV) p).mono ?_⟩
  rintro u H1 ⟨as1, h1, v, e1, p1, rv, _, g1⟩
  refine ⟨as1, r, h1, p1, (g1.st (repx := rV) p1).mono ?_⟩
  rintro u2 H2 ⟨as2, h2, x, e2, p2, rx, _, g2⟩
  refine ⟨as2, r, h2, p2, (g2.st (repx := rV) p2).mono ?_⟩
  rintro u3 H3 ⟨as3, h3, y, e3, p3, ry, _, g3⟩
  cases hq : setop x y v h3 with
  | none => rw [hq] at g3; exact g3.elim
  | some h' =>
    rw [hq] at g3
    exact setop_snd (K := X.K) p3 (rx.ext p2.hp e3) ry (rv.ext p1.hp (e2.trans e3)) hq fun H' e' p' => g3 as3 H' σ e' p'
end

/-! ### loops -/
section
variable {X : Cx} {T : XTab} {W : WX} {c : Cc} {pos : Pos}
theorem st_whl {t : Expr} {b : List Stmt} {d : E} {B : List S} (hp : PassesOwn (model X.prog X.w) X.A X.env X.xe) (ht : PT X t (rdT T W c d)) (hb : PSs X b (rdB T W c B)) : PS X (.While t b [] pos) (rdS T W c (.whl d B)) := by
  refine PS.imp (ps_while hp ht hb) fun D σ H ⟨as, r, h, p, g⟩ => ?_
  unfold exS at g
  refine ⟨fun m σ H => ∃ as r h, Rp H as r σ h ∧ gotS T W (loopW (fun r h => match tst (evE c d r h) with
      | .ok true h1 => match exB c B r h1 with
        | .nx r' h' => Lp.go r' h'
        | .ct r' h' => .go r' h'
        | .bk r' h' => .out (.nx r' h')
        | z => .out z
      | .ok false h1 => .out (.nx r h1)
      | .ex k vs h1 => .out (.ex k vs r h1)
      | .no => .out .no) .no m r h) as H D, ⟨c.fuel, as, r, h, p, g⟩, ?_⟩
  rintro m σ H ⟨as, r, h, p, g⟩
  cases m with
  | zero => unfold loopW at g; exact g.elim
  | succ m =>
    unfold loopW at g
    refine ⟨as, r, h, p, ?_⟩
    cases q : tst (evE c d r h) with
    | ok v h1 =>
      intro as1 H1 u e1 rh ru
      cases ru
      rw [q] at g
      cases v with
      | true =>
        rw [if_pos rfl]
        refine ⟨fun σ' H' => ∃ as r h, Rp H' as r σ' h ∧ gotS T W (loopW (fun r h => match tst (evE c d r h) with
          | .ok true h1 => match exB c B r h1 with
            | .nx r' h' => Lp.go r' h'
            | .ct r' h' => .go r' h'
            | .bk r' h' => .out (.nx r' h')
            | z => .out z
          | .ok false h1 => .out (.nx r h1)
          | .ex k vs h1 => .out (.ex k vs r h1)
          | .no => .out .no) .no m r h) as H' D, fun σ' H' n => ⟨m, Nat.lt_succ_self m, n⟩, as1, r, h1, p.to e1 rh, ?_⟩
        cases q2 : exB c B r h1 with
        | nx r' h' => simp only [q2] at g; exact fun as' H' σ' e p' => ⟨as', r', h', p', (g.ext e1).ext e⟩
        | rt v h' => simp only [q2] at g; exact g.ext e1
        | bk r' h' => simp only [q2] at g; exact fun as' H' σ' e p' => ((g.ext e1).ext e).nxt p'
        | ct r' h' => simp only [q2] at g; exact fun as' H' σ' e p' => ⟨as', r', h', p', (g.ext e1).ext e⟩
        | ex c vs r' h' => simp only [q2] at g; exact g.ext e1
        | no => simp only [q2] at g; exact g.elim
      | false =>
        rw [if_neg Bool.false_ne_true]
        exact g as1 H1 σ e1 (p.to e1 rh)
    | ex k vs h1 =>
      rw [q] at g
      exact fun as' H' cls d e rh rx => g as' H' σ cls d e (p.to e rh) rx
    | no => rw [q] at g; exact g
theorem st_for {tg it : Expr} {b : List Stmt} {t : Tg} {d : E} {B : List S} (hp : PassesOwn (model X.prog X.w) X.A X.env X.xe) (hc : X.calm = true) (hi : L2.PI X tg it (rdI T W c d)) (hg : L2.PG X tg (rdG t)) (hb : PSs X b (rdB T W c B))
    (hs : ∀ x, foldedSetIterable it X.env x = pure x) : PS X (.For tg it b [] pos) (rdS T W c (.forS t d B)) := by
  refine PS.imp (ps_for hp hc hi hg hb hs) fun D σ H ⟨as, r, h, p, g⟩ => ?_
  unfold exS at g
  refine ⟨as, r, h, p, (g.st (repx := rJ) p).mono ?_⟩
  rintro J H0 ⟨as0, h0, w, e0, p0, jr, _, g0⟩
  refine ⟨fun i m σ H => ∃ as r h, Ext H0 as0 H as ∧ Rp H as r σ h ∧ gotS T W (loopIt w (fun x r h => match bindT t x r with
      | none => .out .no
      | some r1 => match exB c B r1 h with
        | .nx r' h' => Lp.go r' h'
        | .ct r' h' => .go r' h'
        | .bk r' h' => .out (.nx r' h')
        | z => .out z) (fun r h => .nx r h) .no m i r h) as H D, ⟨c.fuel, as0, r, h0, Ext.refl, p0, g0⟩, ?_⟩
  rintro i m σ H ⟨as, r, h, e, p, g⟩
  cases m with
  | zero => unfold loopIt at g; exact g.elim
  | succ m =>
    unfold loopIt at g
    have jq := jr i as H h e p.hp
    cases q : itAt w i h with
    | none => rw [q] at g; exact g.elim
    | some o =>
      rw [q] at g jq
      cases o with
      | none => exact .inl ⟨jq, g.nxt p⟩
      | some x =>
        obtain ⟨jg, jy⟩ := jq
        refine .inr ⟨jg, fun σ' H' => ∃ as r h, Ext H0 as0 H' as ∧ Rp H' as r σ' h ∧ gotS T W (loopIt w (fun x r h => match bindT t x r with
          | none => .out .no
          | some r1 => match exB c B r1 h with
            | .nx r' h' => Lp.go r' h'
            | .ct r' h' => .go r' h'
            | .bk r' h' => .out (.nx r' h')
            | z => .out z) (fun r h => .nx r h) .no m (i + 1) r h) as H' D, fun σ' H' n => ⟨m, Nat.lt_succ_self m, n⟩, fun v H1 y => ?_⟩
        obtain ⟨e1, rh1, rv⟩ := jy v H1 y
        have p1 := p.to e1 rh1
        refine ⟨as, r, h, x, p1, rv, ?_⟩
        simp only at g
        cases hb : bindT t x r with
        | none => rw [hb] at g; exact g
        | some r1 =>
          rw [hb] at g
          intro σ' p2
          refine ⟨as, r1, h, p2, ?_⟩
          cases q2 : exB c B r1 h with
          | nx r' h' => simp only [q2] at g; exact fun as' H' σ' e2 p' => ⟨as', r', h', (e.trans e1).trans e2, p', (g.ext e1).ext e2⟩
          | rt v h' => simp only [q2] at g; exact g.ext e1
          | bk r' h' => simp only [q2] at g; exact fun as' H' σ' e2 p' => ((g.ext e1).ext e2).nxt p'
          | ct r' h' => simp only [q2] at g; exact fun as' H' σ' e2 p' => ⟨as', r', h', (e.trans e1).trans e2, p', (g.ext e1).ext e2⟩
          | ex c vs r' h' => simp only [q2] at g; exact g.ext e1
          | no => simp only [q2] at g; exact g.elim
end
end EV
end
section
set_option Elab.async false
set_option linter.all false
set_option maxRecDepth 100000
/-! EvSnd9: comprehensions. -/
namespace EV
open PySem L2

section
variable {K : PySem.W.Frag} {H H1 H2 : Hp} {as as1 : List Addr} {h : PH} {p : Addr} {o : HO}
theorem Ext.own (e : Ext H as H1 as1) (hp : H p = none) : Ext H as H1 (as1 ++ [p]) := by
  obtain ⟨⟨nw, x, f⟩, k, t⟩ := e
  refine ⟨⟨nw ++ [p], by rw [x, List.append_assoc], fun a ha => ?_⟩, k, t⟩
  rcases List.mem_append.mp ha with z | z
  · exact f a z
  · rw [List.mem_singleton.mp z]; exact hp
theorem Ext.over (e : Ext H as H1 as1) (hp : H p = none) : Ext H as (upd H1 p o) as1 := by
  obtain ⟨m, k, t⟩ := e
  refine ⟨m, fun a u q hn => ?_, fun a u q => ?_⟩
  · rw [upd_ne (ne_of_none q hp)]; exact k a u q hn
  · by_cases ha : a = p
    · subst ha; exact ⟨_, upd_same⟩
    · rw [upd_ne ha]; exact t a u q
theorem RepH.side (r : RepH H as h) (np : ∀ vs, H p ≠ some (.tup vs)) (hn : p ∉ as) : RepH (upd H p o) as h := by
  refine ⟨r.len, r.nd, fun n u a q qa => ?_⟩
  obtain ⟨ho, e1, ro1⟩ := r.at_ n u a q qa
  have := ro1.adopt (o := o) (nw := []) np
  rw [List.append_nil] at this
  exact ⟨ho, by rw [upd_ne (fun z => hn (by rw [← z]; exact List.mem_of_getElem? qa))]; exact e1, this⟩
theorem RepV.side {x : PV} {v : V} (r : RepV H as x v) (np : ∀ vs, H p ≠ some (.tup vs)) : RepV (upd H p o) as x v := by
  have := r.adopt (o := o) (nw := []) np
  rw [List.append_nil] at this
  exact this
theorem RepL.side {x : List PV} {v : List V} (r : RepL H as x v) (np : ∀ vs, H p ≠ some (.tup vs)) : RepL (upd H p o) as x v := by
  have := r.adopt (o := o) (nw := []) np
  rw [List.append_nil] at this
  exact this
theorem upd_id (e : H p = some o) : upd H p o = H := by
  funext a
  by_cases ha : a = p
  · subst ha; rw [upd_same, e]
  · rw [upd_ne ha]
/-- a list beside becomes one's own -/
theorem RepH.take_in (r : RepH H as h) (e : H p = some o) (np : ∀ vs, H p ≠ some (.tup vs)) (hn : p ∉ as) {po : PO} (ro : RepO H as po o) : RepH H (as ++ [p]) (h ++ [po]) := by
  have := r.adopt (o := o) np hn ro
  rw [upd_id e] at this
  exact this
theorem lst_np {vs : List V} (e : H p = some (.lst vs)) : ∀ us, H p ≠ some (.tup us) := fun us z => by rw [e] at z; cases z
end

theorem wipe_at {σ : L2.St} {i : Nat} : ∀ {vs : List Nat}, i ∈ vs → (wipe σ vs)[i]? = if i < σ.length then some none else none
  | v :: vs, h => by
    unfold wipe
    by_cases hv : v = i
    · subst hv
      by_cases hl : v < (wipe σ vs).length
      · rw [List.getElem?_set_self hl, if_pos (by rw [wipe_length] at hl; exact hl)]
      · rw [List.getElem?_eq_none (by simpa using hl), if_neg (by rw [wipe_length] at hl; exact hl)]
    · rw [List.getElem?_set_ne hv]
      rcases List.mem_cons.mp h with z | z
      · exact absurd z.symm hv
      · exact wipe_at z
theorem wipe_fr {σ σ2 : L2.St} {vs ws : List Nat} (f : Fr ws (wipe σ vs) σ2) (hs : ∀ i ∈ ws, i ∈ vs) : wipe σ2 vs = wipe σ vs := by
  apply List.ext_getElem?
  intro i
  by_cases hi : i ∈ vs
  · rw [wipe_at hi, wipe_at hi, f.1, wipe_length]
  · rw [wipe_out hi, f.2 i (fun z => hi (hs i z))]
theorem wipeP_length (r : Env) : ∀ vs : List Nat, (wipeP r vs).length = r.length
  | [] => rfl
  | v :: vs => by unfold wipeP; rw [List.length_set, wipeP_length r vs]
theorem wipeP_some {r : Env} {i : Nat} {x : PV} : ∀ {vs : List Nat}, (wipeP r vs)[i]? = some (some x) → r[i]? = some (some x) ∧ i ∉ vs
  | [], h => ⟨h, by simp⟩
  | v :: vs, h => by
    unfold wipeP at h
    by_cases hi : v = i
    · subst hi
      by_cases hv : v < (wipeP r vs).length
      · rw [List.getElem?_set_self hv] at h; cases h
      · rw [List.getElem?_eq_none (by simpa using hv)] at h; cases h
    · rw [List.getElem?_set_ne hi] at h
      obtain ⟨h1, h2⟩ := wipeP_some h
      exact ⟨h1, by simp only [List.mem_cons, not_or]; exact ⟨fun e => hi e.symm, h2⟩⟩
theorem Rp.wiped {H : Hp} {as : List Addr} {r : Env} {σ : L2.St} {h : PH} (p : Rp H as r σ h) (vs : List Nat) : Rp H as (wipeP r vs) (wipe σ vs) h := by
  refine ⟨by rw [wipe_length, wipeP_length, p.len], fun i v e => ?_, p.hp⟩
  obtain ⟨e1, e2⟩ := wipeP_some e
  obtain ⟨u, hu, ru⟩ := p.env i v e1
  exact ⟨u, by rw [wipe_out e2]; exact hu, ru⟩

abbrev W0 : WX := fun _ _ _ _ => False
section
variable {T : XTab} {W : WX} {c : Cc} {σ : L2.St} {r : Env} {γ δ : Type}
/-- the loop of a comprehension -/
theorem lc_snd {w : EV.It} {J : L2.It} {H1 : Hp} {as1 : List Addr} {h1 : PH} {t : Tg} {own : List Nat} {dC dE : E} {f : List PV → PH → Rs γ} {rep : List Addr → Hp → γ → δ → Prop} {Q : δ → Hp → Prop} {Q0 : Hp → Prop} {D : Addr}
    (jr : JRep w H1 as1 J) (p : Rp H1 as1 r σ h1) (hD : H1 D = none) (hs : ∀ i ∈ tgS t, i ∈ own)
    (g : gotR T W ((loopIt w (compStep t own r (fun r h => evE c dC r h) (fun r h => evE c dE r h)) (fun acc h => Rs.ok acc h) .no c.fuel 0 [] h1).bnd f) as1 H1 σ rep Q)
    (fin : ∀ as H h acc av, Ext H1 as1 H as → RepH H as h → D ∉ as → H D = some (.lst av) → RepL H as acc av → acc.length ≤ sizeLine → gotR T W (f acc h) as1 H1 σ rep Q → Q0 H) :
    ∃ Wf : Nat → Nat → Hp → Prop, (∃ m, Wf 0 m (upd H1 D (.lst []))) ∧ ∀ i m H, Wf i m H →
      (J.stop i H ∧ Q0 H) ∨ (J.go i H ∧ ∃ Nx : Hp → Prop, (∀ H', Nx H' → ∃ m', m' < m ∧ Wf (i + 1) m' H') ∧ ∀ x H', J.yld i H x H' → rdGk t x (wipe σ own) H' fun σ2 H2 => wipe σ2 own = wipe σ own ∧ rdT T W0 c dC σ2 H2 fun b H3 =>
        if b = true then rdE T W0 c dE σ2 H3 fun y H4 => ∃ acc, H4 D = some (.lst acc) ∧ acc.length < sizeLine ∧ Nx (upd H4 D (.lst (acc ++ [y]))) else Nx H3) := by
  have nD : D ∉ as1 := fun hm => by
    obtain ⟨o, q⟩ := p.hp.there hm
    rw [hD] at q; cases q
  let Inv2 : Nat → Nat → Hp → Prop := fun i m H => ∃ as h acc av, Ext H1 as1 H as ∧ RepH H as h ∧ D ∉ as ∧ H D = some (.lst av) ∧ RepL H as acc av ∧ acc.length ≤ sizeLine ∧
    gotR T W ((loopIt w (compStep t own r (fun r h => evE c dC r h) (fun r h => evE c dE r h)) (fun acc h => Rs.ok acc h) .no m i acc h).bnd f) as1 H1 σ rep Q
  refine ⟨Inv2, ⟨c.fuel, as1, h1, [], [], Ext.refl.over hD, p.hp.beside hD, nD, upd_same, .nil, Nat.zero_le _, g⟩, ?_⟩
  rintro i m H ⟨as, h, acc, av, e, rh, nd, qd, la, hz, g⟩
  cases m with
  | zero => unfold loopIt at g; exact g.elim
  | succ m =>
    unfold loopIt at g
    have jq := jr i as H h e rh
    cases q : itAt w i h with
    | none => rw [q] at g; exact g.elim
    | some o =>
      rw [q] at g jq
      cases o with
      | none => exact .inl ⟨jq, fin as H h acc av e rh nd qd la hz g⟩
      | some x =>
        obtain ⟨jg, jy⟩ := jq
        refine .inr ⟨jg, Inv2 (i + 1) m, fun H' n => ⟨m, Nat.lt_succ_self m, n⟩, fun v H' y => ?_⟩
        obtain ⟨e', rh', rv⟩ := jy v H' y
        have qd' : H' D = some (.lst av) := e'.keep _ _ qd nd
        have la' := la.ext rh e'
        have p' : Rp H' as r σ h := p.to (e.trans e') rh'
        refine ⟨as, wipeP r own, h, x, p'.wiped own, rv, ?_⟩
        simp only [compStep] at g
        cases hb : bindT t x (wipeP r own) with
        | none => rw [hb] at g; exact g
        | some r1 =>
          simp only [hb] at g
          intro σ2 p2 fr
          refine ⟨wipe_fr fr hs, as, r1, h, p2, ?_⟩
          cases hc : tst (evE c dC r1 h) with
          | no => simp only [hc] at g; exact g
          | ex k vs h2 => simp only [hc] at g; exact g.elim
          | ok b h2 =>
            simp only [hc] at g
            intro as3 H3 b' e3 rh3 eb
            cases eb
            have nd3 : D ∉ as3 := fun hm => by
              obtain ⟨⟨nw, z, fz⟩, _, _⟩ := e3
              rw [z] at hm
              rcases List.mem_append.mp hm with z | z
              · exact nd z
              · rw [fz D z] at qd'; cases qd'
            have qd3 : H3 D = some (.lst av) := e3.keep _ _ qd' nd
            have la3 := la'.ext rh' e3
            cases b with
            | false =>
              rw [if_neg Bool.false_ne_true]
              exact ⟨as3, h2, acc, av, (e.trans e').trans e3, rh3, nd3, qd3, la3, hz, g⟩
            | true =>
              rw [if_pos rfl]
              refine ⟨as3, r1, h2, p2.to e3 rh3, ?_⟩
              cases he : evE c dE r1 h2 with
              | no => simp only [he] at g; exact g
              | ex k vs h3 => simp only [he] at g; exact g.elim
              | ok y h3 =>
                simp only [he] at g
                intro as4 H4 u e4 rh4 ru
                have nd4 : D ∉ as4 := fun hm => by
                  obtain ⟨⟨nw, z, fz⟩, _, _⟩ := e4
                  rw [z] at hm
                  rcases List.mem_append.mp hm with z | z
                  · exact nd3 z
                  · rw [fz D z] at qd3; cases qd3
                have qd4 : H4 D = some (.lst av) := e4.keep _ _ qd3 nd3
                have la4 := la3.ext rh3 e4
                by_cases hl : acc.length < sizeLine
                · rw [if_pos hl] at g
                  have np := lst_np qd4
                  refine ⟨av, qd4, by rw [← la4.length]; exact hl, as4, h3, acc ++ [y], av ++ [u], (((e.trans e').trans e3).trans e4).over hD, rh4.side np nd4, nd4, upd_same, (la4.side np).append (.cons (ru.side np) .nil), by simp; exact hl, g⟩
                · rw [if_neg hl] at g; exact g.elim
end
end EV
end
section
set_option Elab.async false
set_option linter.all false
set_option maxRecDepth 100000
/-! EvSndA: comprehensions as values, consumers. -/
namespace EV
open PySem L2

/-! ### sources -/
inductive SrcW (H : Hp) (as : List Addr) : EV.It → V → Prop
  | live {n : Nat} {a : Addr} : as[n]? = some a → SrcW H as (.live n) (.ref a)
  | tup {xs : List PV} {vs : List V} {a : Addr} : H a = some (.tup vs) → RepL H as xs vs → SrcW H as (.tvs xs) (.ref a)
  | lst {xs : List PV} {vs : List V} {a : Addr} : H a = some (.lst vs) → RepL H as xs vs → xs.length ≤ sizeLine → SrcW H as (.vals xs) (.ref a)
  | keys {kvs : List (Key × V)} {a : Addr} : H a = some (.dK kvs) → SrcW H as (.keys (kvs.map (·.1))) (.ref a)
abbrev rW : List Addr → Hp → EV.It → V → Prop := fun as H w u => SrcW H as w u
def rdW (T : XTab) (W : WX) (c : Cc) (d : E) : TE := fun σ H Q => ∃ as r h, Rp H as r σ h ∧ gotR T W (evI c d r h) as H σ rW Q

theorem paired_fst {κ : Type} {H : Hp} {as : List Addr} : ∀ {kvs : List (κ × PV)} {ks : List (κ × V)}, RepKV H as kvs ks → kvs.map (·.1) = ks.map (·.1)
  | _, _, .nil => rfl
  | _, _, .cons a b => by rw [List.map_cons, List.map_cons, a.1, paired_fst b]
section
variable {X : Cx} {T : XTab} {W : WX} {c : Cc} {pos p : Pos}
theorem w_its {e : Expr} {d : E} (he : PE X e (rdE T W c d)) : PE X e (rdW T W c (.its d)) := by
  refine PE.imp he fun σ H Q ⟨as, r, h, p, g⟩ => ?_
  unfold evI at g
  refine ⟨as, r, h, p, (g.bnd (repx := rV) p).mono ?_⟩
  rintro u H1 ⟨as1, h1, x, e1, p1, rx, _, g1⟩
  cases x with
  | tup xs =>
    obtain ⟨a, vs, rfl, q, l⟩ := rx.tupE
    exact g1.ok p1.hp (.tup q l)
  | obj n =>
    obtain ⟨a, rfl, qa⟩ := rx.objE
    unfold toItC at g1
    cases ho : h1[n]? with
    | none => simp only [ho] at g1; exact g1.elim
    | some o =>
      cases o with
      | lst fz xs => simp only [ho] at g1; exact g1.ok p1.hp (.live qa)
      | dK kvs =>
        simp only [ho] at g1
        obtain ⟨ks, e, rk⟩ := p1.hp.dk ho qa
        exact g1.ok p1.hp (by rw [paired_fst rk]; exact .keys e)
      | dT kvs => simp only [ho] at g1; exact g1.elim
  | _ => exact g1.elim
/-- the condition of a comprehension -/
theorem c_nil {X : Cx} {T : XTab} {c : Cc} : PTs X [] (rdT T EV.W0 c (.cst (.bl true))) := by
  refine ⟨fun pins s σ H Q I ⟨as, r, h, p, g⟩ => pts_nil.run pins s σ H Q I ?_⟩
  unfold evE at g
  exact g as H true Ext.refl p.hp rfl
theorem c_one {X : Cx} {T : XTab} {c : Cc} {e : Expr} {d : E} (h : PT X e (rdT T EV.W0 c d)) : PTs X [e] (rdT T EV.W0 c d) := pts_one h
section
variable {elt tg iter : Expr} {ifs : List Expr} {scope : Scope} {own : List (Str × Nat)} {dE dI dC : E} {t : Tg}
/-- the reading behind a comprehension -/
theorem lc_read {γ δ : Type} {as : List Addr} {H : Hp} {σ : L2.St} {r : Env} {h : PH} {vs : List Nat} {f : List PV → PH → Rs γ} {rep : List Addr → Hp → γ → δ → Prop} {Q : δ → Hp → Prop} {Q0 : VK} (hs : ∀ i ∈ tgS t, i ∈ vs) (p : Rp H as r σ h)
    (g : gotR T W ((evI c dI r h).bnd fun w h => (loopIt w (compStep t vs r (fun r h => evE c dC r h) (fun r h => evE c dE r h)) (fun acc h => Rs.ok acc h) .no c.fuel 0 [] h).bnd f) as H σ rep Q)
    (fin : ∀ as1 H1 h1 as H h acc av D, Rp H1 as1 r σ h1 → H1 D = none → Ext H1 as1 H as → RepH H as h → D ∉ as → H D = some (.lst av) → RepL H as acc av → acc.length ≤ sizeLine → gotR T W (f acc h) as1 H1 σ rep Q → Q0 (.ref D) H) :
    tLc (rdI T W c dI) (rdGk t) (rdT T EV.W0 c dC) (rdE T EV.W0 c dE) vs σ H Q0 := by
  refine ⟨as, r, h, p, (g.bnd (repx := rJ) p).mono ?_⟩
  rintro J H1 ⟨as1, h1, w, e1, p1, jr, _, g1⟩ D hD
  exact lc_snd jr p1 hD hs g1 fun as H h acc av e rh nd qd la hz g => fin as1 H1 h1 as H h acc av D p1 hD e rh nd qd la hz g
theorem lc_w (hs : ∀ i ∈ tgS t, i ∈ own.map (·.2)) {σ : L2.St} {H : Hp} {Q : VK} (q : rdW T W c (.itc dE t dI dC (own.map (·.2))) σ H Q) : tLc (rdI T W c dI) (rdGk t) (rdT T EV.W0 c dC) (rdE T EV.W0 c dE) (own.map (·.2)) σ H Q := by
  obtain ⟨as, r, h, p, g⟩ := q
  unfold evI at g
  refine lc_read hs p g fun as1 H1 h1 as H h acc av D p1 hD e rh nd qd la hz g => ?_
  exact g as H _ e rh (.lst qd la hz)
theorem lc_e (hs : ∀ i ∈ tgS t, i ∈ own.map (·.2)) {σ : L2.St} {H : Hp} {Q : VK} (q : rdE T W c (.comp dE t dI dC (own.map (·.2))) σ H Q) : tLc (rdI T W c dI) (rdGk t) (rdT T EV.W0 c dC) (rdE T EV.W0 c dE) (own.map (·.2)) σ H Q := by
  obtain ⟨as, r, h, p, g⟩ := q
  unfold evE at g
  unfold newList at g
  refine lc_read hs p g fun as1 H1 h1 as H h acc av D p1 hD e rh nd qd la hz g => ?_
  have rh2 : RepH H (as ++ [D]) (h ++ [.lst false acc]) := rh.take_in qd (lst_np qd) nd ⟨av, la, hz, rfl⟩
  have : RepV H (as ++ [D]) (.obj h.length) (.ref D) := .obj (by rw [← rh.len, List.getElem?_append_right (Nat.le_refl _)]; simp)
  exact g _ H _ (e.own hD) rh2 this
/-- a comprehension as a value; as what is handed on -/
theorem s_lc (hc : X.calm = true) (hN : X.N.Nodup) (hi : L2.PI X tg iter (rdI T W c dI)) (ok : BlkOk X.N X.env.scope scope own) (hs : ∀ i ∈ tgS t, i ∈ own.map (·.2))
    (hg : ∀ (s : Shared) (H : Hp) (C : Addr) (cl : List (Str × Addr)) (fp : List Addr), L2.PG (X.blk s H scope (compEnvC scope cl C X.env) fp) tg (rdGk t)) (ht : ∀ (s : Shared) (H : Hp) (C : Addr) (cl : List (Str × Addr)) (fp : List Addr), PTs (X.blk s H scope (compEnvC scope cl C X.env) fp) ifs (rdT T EV.W0 c dC))
    (he : ∀ (s : Shared) (H : Hp) (C : Addr) (cl : List (Str × Addr)) (fp : List Addr), PE (X.blk s H scope (compEnvC scope cl C X.env) fp) elt (rdE T EV.W0 c dE)) (hf : ∀ x, foldedSetIterable iter X.env x = pure x) :
    PE X (.ListComp elt [⟨tg, iter, ifs, 0⟩] scope pos) (rdE T W c (.comp dE t dI dC (own.map (·.2)))) :=
  PE.imp (pe_lc hc hN hi ok hg ht he hf) fun σ H Q q => lc_e hs q
theorem w_lc (hc : X.calm = true) (hN : X.N.Nodup) (hi : L2.PI X tg iter (rdI T W c dI)) (ok : BlkOk X.N X.env.scope scope own) (hs : ∀ i ∈ tgS t, i ∈ own.map (·.2))
    (hg : ∀ (s : Shared) (H : Hp) (C : Addr) (cl : List (Str × Addr)) (fp : List Addr), L2.PG (X.blk s H scope (compEnvC scope cl C X.env) fp) tg (rdGk t)) (ht : ∀ (s : Shared) (H : Hp) (C : Addr) (cl : List (Str × Addr)) (fp : List Addr), PTs (X.blk s H scope (compEnvC scope cl C X.env) fp) ifs (rdT T EV.W0 c dC))
    (he : ∀ (s : Shared) (H : Hp) (C : Addr) (cl : List (Str × Addr)) (fp : List Addr), PE (X.blk s H scope (compEnvC scope cl C X.env) fp) elt (rdE T EV.W0 c dE)) (hf : ∀ x, foldedSetIterable iter X.env x = pure x) :
    PE X (.ListComp elt [⟨tg, iter, ifs, 0⟩] scope pos) (rdW T W c (.itc dE t dI dC (own.map (·.2)))) :=
  PE.imp (pe_lc hc hN hi ok hg ht he hf) fun σ H Q q => lc_w hs q
/-- name = [..] on one line -/
theorem st_lc {i : Nat} {y : Str} {py spos : Pos} (hc : X.calm = true) (hN : X.N.Nodup) (hy : X.N[i]? = some y) (hyl : X.env.scope.names.lookup y = some .local)
    (hsw : swapsWith (.ListComp elt [⟨tg, iter, ifs, 0⟩] scope pos) (some (.Name y py)) spos.line X.env = pure true) (hi : L2.PI X tg iter (rdI T W c dI)) (ok : BlkOk X.N X.env.scope scope own) (hs : ∀ i ∈ tgS t, i ∈ own.map (·.2))
    (hg : ∀ (s : Shared) (H : Hp) (C : Addr) (cl : List (Str × Addr)) (fp : List Addr), L2.PG (X.blk s H scope (compEnvC scope cl C X.env) fp) tg (rdGk t)) (ht : ∀ (s : Shared) (H : Hp) (C : Addr) (cl : List (Str × Addr)) (fp : List Addr), PTs (X.blk s H scope (compEnvC scope cl C X.env) fp) ifs (rdT T EV.W0 c dC))
    (he : ∀ (s : Shared) (H : Hp) (C : Addr) (cl : List (Str × Addr)) (fp : List Addr), PE (X.blk s H scope (compEnvC scope cl C X.env) fp) elt (rdE T EV.W0 c dE)) (hf : ∀ x, foldedSetIterable iter X.env x = pure x) :
    PS X (.Assign [.Name y py] (.ListComp elt [⟨tg, iter, ifs, 0⟩] scope pos) spos) (rdS T W c (.asg (.nm i) (.comp dE t dI dC (own.map (·.2))))) := by
  refine PS.imp (ps_setLc hc hN hy hyl hsw hi ok hg ht he hf) fun D σ H ⟨as, r, h, p, g⟩ => ?_
  unfold exS at g
  refine lc_e hs ⟨as, r, h, p, (g.st (repx := rV) p).mono ?_⟩
  rintro u H1 ⟨as1, h1, x, e1, p1, rx, _, g1⟩
  unfold bindT at g1
  exact g1 as1 H1 _ Ext.refl (p1.store i rx)
end

/-! ### consumers -/
theorem insI_perm (x : Int) : ∀ xs : List Int, (insI x xs).Perm (x :: xs)
  | [] => .refl _
  | y :: ys => by
    unfold insI
    split
    · exact .refl _
    · exact ((insI_perm x ys).cons y).trans (.swap x y ys)
theorem sortI_perm : ∀ xs : List Int, (sortI xs).Perm xs
  | [] => .refl _
  | x :: xs => (insI_perm x _).trans ((sortI_perm xs).cons x)
theorem insI_pair (x : Int) : ∀ xs : List Int, xs.Pairwise (· ≤ ·) → (insI x xs).Pairwise (· ≤ ·)
  | [], _ => by simp [insI]
  | y :: ys, h => by
    unfold insI
    split
    · rename_i hx
      refine List.pairwise_cons.mpr ⟨fun z hz => ?_, h⟩
      rcases List.mem_cons.mp hz with e | hz
      · rw [e]; exact hx
      · exact Int.le_trans hx ((List.pairwise_cons.mp h).1 z hz)
    · rename_i hx
      obtain ⟨h1, h2⟩ := List.pairwise_cons.mp h
      refine List.pairwise_cons.mpr ⟨fun z hz => ?_, insI_pair x ys h2⟩
      rcases List.mem_cons.mp ((insI_perm x ys).mem_iff.mp hz) with e | hz
      · rw [e]; omega
      · exact h1 z hz
theorem sortI_pair : ∀ xs : List Int, (sortI xs).Pairwise (· ≤ ·)
  | [] => .nil
  | x :: xs => insI_pair x _ (sortI_pair xs)
theorem sorted_eq {xs ys : List Int} (h : ys.Perm xs) (hs : ys.Pairwise (· ≤ ·)) : ys = sortI xs :=
  (h.trans (sortI_perm xs).symm).eq_of_pairwise (fun a b _ _ h1 h2 => Int.le_antisymm h1 h2) hs (sortI_pair xs)
theorem foldl_min (n : Int) : ∀ ns : List Int, ns.foldl min n ∈ n :: ns ∧ ∀ y ∈ n :: ns, ns.foldl min n ≤ y := by
  intro ns
  induction ns generalizing n with
  | nil => exact ⟨by simp, by simp⟩
  | cons m ns ih =>
    obtain ⟨h1, h2⟩ := ih (min n m)
    rw [List.foldl_cons]
    have hm := h2 _ (List.mem_cons_self)
    refine ⟨?_, fun y hy => ?_⟩
    · rcases List.mem_cons.mp h1 with e | e
      · rw [e]
        rcases Int.le_total n m with z | z
        · rw [Int.min_eq_left z]; simp
        · rw [Int.min_eq_right z]; simp
      · simp [e]
    · rcases List.mem_cons.mp hy with e | hy
      · rw [e]; exact Int.le_trans hm (Int.min_le_left ..)
      · rcases List.mem_cons.mp hy with e | hy
        · rw [e]; exact Int.le_trans hm (Int.min_le_right ..)
        · exact h2 y (List.mem_cons_of_mem _ hy)
theorem foldl_max (n : Int) : ∀ ns : List Int, ns.foldl max n ∈ n :: ns ∧ ∀ y ∈ n :: ns, y ≤ ns.foldl max n := by
  intro ns
  induction ns generalizing n with
  | nil => exact ⟨by simp, by simp⟩
  | cons m ns ih =>
    obtain ⟨h1, h2⟩ := ih (max n m)
    rw [List.foldl_cons]
    have hm := h2 _ (List.mem_cons_self)
    refine ⟨?_, fun y hy => ?_⟩
    · rcases List.mem_cons.mp h1 with e | e
      · rw [e]
        rcases Int.le_total n m with z | z
        · rw [Int.max_eq_right z]; simp
        · rw [Int.max_eq_left z]; simp
      · simp [e]
    · rcases List.mem_cons.mp hy with e | hy
      · rw [e]; exact Int.le_trans (Int.le_max_left ..) hm
      · rcases List.mem_cons.mp hy with e | hy
        · rw [e]; exact Int.le_trans (Int.le_max_right ..) hm
        · exact h2 y (List.mem_cons_of_mem _ hy)
theorem callR_or {X : Cx} {f : Value} {r1 r2 : List V → Hp → VK → Prop} (h1 : CallR X f r1) (h2 : CallR X f r2) : CallR X f fun xs H Q => r1 xs H Q ∨ r2 xs H Q := fun pins s σ H xs us Q I r h => h.elim (h1 pins s σ H xs us Q I r) (h2 pins s σ H xs us Q I r)
def lw : EV.It → Bool
  | .live _ => true
  | .vals _ => true
  | _ => false
/-- a source that is a list: one's own, or beside -/
theorem src_list {K : PySem.W.Frag} {H : Hp} {as : List Addr} {h : PH} {w : EV.It} {u : V} (rh : RepH H as h) (s : SrcW H as w u) (hw : lw w = true) {xs : List PV} (e : itList w h = some xs) :
    ∃ a vs, u = .ref a ∧ SqL K H a vs ∧ RepL H as xs vs ∧ xs.length ≤ sizeLine := by
  cases s with
  | live qa =>
    unfold itList at e
    split at e
    · rename_i ho
      cases e
      obtain ⟨vs, la, z, sq, _⟩ := rh.lst (K := K) ho qa
      exact ⟨_, vs, rfl, sq, la, z⟩
    · cases e
  | lst q l z => cases e; exact ⟨_, _, rfl, .inl (.inl q), l, z⟩
  | tup q l => cases hw
  | keys q => cases hw
theorem con_read {d : E} {f : Fo} {r : List V → Hp → VK → Prop} (rule : ∀ {as H h w u σ Q}, RepH H as h → SrcW H as w u → gotR T W (conW f w h) as H σ rV Q → r [u] H Q) {σ : L2.St} {H : Hp} {Q : VK} (q : rdE T W c (.con f d) σ H Q) : tCB r (tCons (rdW T W c d) tNil) σ H Q := by
  show rdW T W c d σ H fun u H1 => r [u] H1 Q
  obtain ⟨as, r, h, p, g⟩ := q
  unfold evE at g
  refine ⟨as, r, h, p, (g.bnd (repx := rW) p).mono ?_⟩
  rintro u H1 ⟨as1, h1, w, e1, p1, sw, _, g1⟩
  exact rule p1.hp sw g1
end
end EV
end
section
set_option Elab.async false
set_option linter.all false
set_option maxRecDepth 100000
/-! EvSndB: consumers. -/
namespace EV
open PySem L2

theorem boot_tuple' : bootBuiltins "tuple" = some (.type "tuple") := by decide +kernel
theorem boot_list' : bootBuiltins "list" = some (.type "list") := by decide +kernel
theorem boot_all' : bootBuiltins "all" = some (.builtin "all") := by decide +kernel
theorem boot_any' : bootBuiltins "any" = some (.builtin "any") := by decide +kernel
theorem boot_sum' : bootBuiltins "sum" = some (.builtin "sum") := by decide +kernel
theorem boot_sorted' : bootBuiltins "sorted" = some (.builtin "sorted") := by decide +kernel
theorem intK_some : ∀ {ks : List Key} {ns : List Int}, intK ks = some ns → ks = ns.map Sum.inl
  | [], ns, e => by cases e; rfl
  | .inl i :: r, ns, e => by
    unfold intK at e
    obtain ⟨ms, hm, rfl⟩ := Option.map_eq_some_iff.mp e
    rw [intK_some hm]; rfl
  | .inr s :: r, ns, e => by cases e
theorem repL_keys {H : Hp} {as : List Addr} : ∀ (ks : List Key), RepL H as (ks.map ofKey) (ks.map kV)
  | [] => .nil
  | .inl i :: r => .cons (.int i) (repL_keys r)
  | .inr s :: r => .cons (.str s) (repL_keys r)
section
variable {X : Cx} {T : XTab} {W : WX} {c : Cc} {pos p : Pos} {e : Expr} {d : E}
theorem s_tuple (hg : Gl X "tuple") (hm : X.mg "tuple" = none) (he : PE X e (rdW T W c d)) (hs : noStar e = true) : PE X (.Call (.Name "tuple" p) [e] [] pos) (rdE T W c (.con .tuple (d))) := by
  refine PE.imp (pe_callTy call_tuple_of hg hm boot_tuple' (pa_cons he pa_nil (each_noStar hs)) (by decide) (by decide) (each_noStar hs) rfl) fun σ H Q q => con_read (fun {as H h w u σ Q} rh sw g => ?_) q
  cases sw with
  | @live n a qa =>
    unfold conW at g
    cases q : itList (.live n) h with
    | none => simp only [q] at g; exact g.elim
    | some xs =>
      simp only [q] at g
      obtain ⟨a, vs, ea, sq, l, z⟩ := src_list (K := X.K) rh (.live qa) rfl q
      cases ea
      unfold conop at g
      simp only [z, if_true] at g
      exact ⟨_, vs, rfl, .inl ⟨sq, fun l' hl => g.newTup rh l hl⟩⟩
  | lst q l z =>
    unfold conW itList conop at g
    simp only [z, if_true] at g
    exact ⟨_, _, rfl, .inl ⟨.inl (.inl q), fun l' hl => g.newTup rh l hl⟩⟩
  | tup q l => exact ⟨_, _, rfl, .inr ⟨.of q, g.ok rh (.tup q l)⟩⟩
  | keys q => exact g.elim
theorem s_list (hc : X.calm = true) (hg : Gl X "list") (hm : X.mg "list" = none) (he : PE X e (rdW T W c d)) (hs : noStar e = true) : PE X (.Call (.Name "list" p) [e] [] pos) (rdE T W c (.con .list (d))) := by
  refine PE.imp (pe_callTy (callR_or call_list_of (call_list_dK hc)) hg hm boot_list' (pa_cons he pa_nil (each_noStar hs)) (by decide) (by decide) (each_noStar hs) rfl) fun σ H Q q => con_read (fun {as H h w u σ Q} rh sw g => ?_) q
  cases sw with
  | @live n a qa =>
    unfold conW at g
    cases q : itList (.live n) h with
    | none => simp only [q] at g; exact g.elim
    | some xs =>
      simp only [q] at g
      obtain ⟨a, vs, ea, sq, l, z⟩ := src_list (K := X.K) rh (.live qa) rfl q
      cases ea
      unfold conop at g
      simp only [z, if_true] at g
      exact .inl ⟨_, vs, rfl, .inl sq, fun l' hl => g.newLst rh l z hl⟩
  | lst q l z =>
    unfold conW itList conop at g
    simp only [z, if_true] at g
    exact .inl ⟨_, _, rfl, .inl (.inl (.inl q)), fun l' hl => g.newLst rh l z hl⟩
  | tup q l =>
    unfold conW at g
    simp only at g
    split at g
    · rename_i z
      exact .inl ⟨_, _, rfl, .inr (.of q), fun l' hl => g.newLst rh l z hl⟩
    · exact g.elim
  | keys q =>
    rename_i kvs a
    unfold conW at g
    simp only at g
    split at g
    · rename_i z
      refine .inr ⟨_, kvs, rfl, q, fun q' hq => ?_⟩
      have l := repL_keys (H := H) (as := as) (kvs.map (·.1))
      have := g.newLst rh l (by simpa using z) hq
      rw [List.map_map] at this
      exact this
    · exact g.elim
/-- what reads a list of booleans -/
theorem con_bools {f : Fo} {as : List Addr} {H : Hp} {h : PH} {w : EV.It} {u : V} {σ : L2.St} {Q : VK} {F : List Bool → Bool} (hf : ∀ xs, conop f xs h = match blsOf xs with | some bs => .ok (.bl (F bs)) h | none => .no)
    (hk : ∀ ks, conW f (.keys ks) h = .no) (ht : ∀ xs, conW f (.tvs xs) h = .no) (rh : RepH H as h) (sw : SrcW H as w u) (g : gotR T W (conW f w h) as H σ rV Q) :
    ∃ (a : Addr) (bs : List Bool), [u] = [V.ref a] ∧ SqL X.K H a (bs.map V.bl) ∧ Q (.bl (F bs)) H := by
  have main : ∀ xs, itList w h = some xs → lw w = true → gotR T W (conop f xs h) as H σ rV Q → ∃ (a : Addr) (bs : List Bool), [u] = [V.ref a] ∧ SqL X.K H a (bs.map V.bl) ∧ Q (.bl (F bs)) H := fun xs e hw g => by
    obtain ⟨a, vs, ea, sq, l, z⟩ := src_list (K := X.K) rh sw hw e
    rw [hf] at g
    cases hb : blsOf xs with
    | none => rw [hb] at g; exact g.elim
    | some bs =>
      rw [hb] at g
      rw [l.bls _ _ _ hb] at sq
      exact ⟨a, bs, by rw [ea], sq, g.ok rh (.bl _)⟩
  cases sw with
  | @live n a qa =>
    unfold conW at g
    cases q : itList (.live n) h with
    | none => simp only [q] at g; exact g.elim
    | some xs => simp only [q] at g; exact main xs q rfl g
  | lst q l z => exact main _ rfl rfl g
  | tup q l => rw [ht] at g; exact g.elim
  | keys q => rw [hk] at g; exact g.elim
/-- what reads a list of ints -/
theorem con_ints {f : Fo} {as : List Addr} {H : Hp} {h : PH} {w : EV.It} {u : V} {σ : L2.St} {Q : VK} {F : List Int → Rs PV} (hf : ∀ xs, conop f xs h = match intsOf xs with | some bs => F bs | none => .no)
    (hk : ∀ ks, w ≠ .keys ks) (ht : ∀ xs, conW f (.tvs xs) h = .no) (rh : RepH H as h) (sw : SrcW H as w u) (g : gotR T W (conW f w h) as H σ rV Q) :
    ∃ (a : Addr) (bs : List Int), [u] = [V.ref a] ∧ SqL X.K H a (bs.map V.int) ∧ gotR T W (F bs) as H σ rV Q := by
  have main : ∀ xs, itList w h = some xs → lw w = true → gotR T W (conop f xs h) as H σ rV Q → ∃ (a : Addr) (bs : List Int), [u] = [V.ref a] ∧ SqL X.K H a (bs.map V.int) ∧ gotR T W (F bs) as H σ rV Q := fun xs e hw g => by
    obtain ⟨a, vs, ea, sq, l, z⟩ := src_list (K := X.K) rh sw hw e
    rw [hf] at g
    cases hb : intsOf xs with
    | none => rw [hb] at g; exact g.elim
    | some bs =>
      rw [hb] at g
      rw [l.ints _ _ _ hb] at sq
      exact ⟨a, bs, by rw [ea], sq, g⟩
  cases sw with
  | @live n a qa =>
    unfold conW at g
    cases q : itList (.live n) h with
    | none => simp only [q] at g; exact g.elim
    | some xs => simp only [q] at g; exact main xs q rfl g
  | lst q l z => exact main _ rfl rfl g
  | tup q l => rw [ht] at g; exact g.elim
  | keys q => exact absurd rfl (hk _)
theorem s_all (hc : X.calm = true) (hg : Gl X "all") (hm : X.mg "all" = none) (he : PE X e (rdW T W c d)) (hs : noStar e = true) : PE X (.Call (.Name "all" p) [e] [] pos) (rdE T W c (.con .all (d))) :=
  PE.imp (pe_callB (cr_all hc) hg hm boot_all' (pa_cons he pa_nil (each_noStar hs)) (by decide) (by decide) (each_noStar hs) rfl) fun σ H Q q => con_read (fun {as H h w u σ Q} rh sw g => con_bools (F := fun bs => bs.all id) (fun _ => rfl) (fun _ => rfl) (fun _ => rfl) rh sw g) q
theorem s_any (hc : X.calm = true) (hg : Gl X "any") (hm : X.mg "any" = none) (he : PE X e (rdW T W c d)) (hs : noStar e = true) : PE X (.Call (.Name "any" p) [e] [] pos) (rdE T W c (.con .any (d))) :=
  PE.imp (pe_callB (cr_any hc) hg hm boot_any' (pa_cons he pa_nil (each_noStar hs)) (by decide) (by decide) (each_noStar hs) rfl) fun σ H Q q => con_read (fun {as H h w u σ Q} rh sw g => con_bools (F := fun bs => bs.any id) (fun _ => rfl) (fun _ => rfl) (fun _ => rfl) rh sw g) q
theorem no_keys {f : Fo} {ks : List Key} {as : List Addr} {H : Hp} {h : PH} {σ : L2.St} {Q : VK} {w : EV.It} (hf : ∀ ks, conW f (.keys ks) h = .no) (g : gotR T W (conW f w h) as H σ rV Q) : ∀ ks, w ≠ .keys ks := fun ks e => by
  subst e
  rw [hf] at g
  exact g
theorem s_sum (hc : X.calm = true) (hg : Gl X "sum") (hm : X.mg "sum" = none) (he : PE X e (rdW T W c d)) (hs : noStar e = true) : PE X (.Call (.Name "sum" p) [e] [] pos) (rdE T W c (.con .sum (d))) := by
  refine PE.imp (pe_callB (cr_sum hc) hg hm boot_sum' (pa_cons he pa_nil (each_noStar hs)) (by decide) (by decide) (each_noStar hs) rfl) fun σ H Q q => con_read (fun {as H h w u σ Q} rh sw g => ?_) q
  obtain ⟨a, ns, e1, sq, g⟩ := con_ints (X := X) (F := fun ns => .ok (.int ns.sum) h) (fun _ => rfl) (no_keys (ks := []) (fun _ => rfl) g) (fun _ => rfl) rh sw g
  exact ⟨a, ns, e1, sq, g.ok rh (.int _)⟩
theorem s_minL (hc : X.calm = true) (hg : Gl X "min") (hm : X.mg "min" = none) (he : PE X e (rdW T W c d)) (hs : noStar e = true) : PE X (.Call (.Name "min" p) [e] [] pos) (rdE T W c (.con .min (d))) := by
  refine PE.imp (pe_callB (cr_min hc) hg hm boot_min' (pa_cons he pa_nil (each_noStar hs)) (by decide) (by decide) (each_noStar hs) rfl) fun σ H Q q => con_read (fun {as H h w u σ Q} rh sw g => ?_) q
  obtain ⟨a, ns, e1, sq, g⟩ := con_ints (X := X) (F := fun ns => match ns with | n :: ns => .ok (.int (ns.foldl min n)) h | [] => .no) (fun xs => by unfold conop; cases intsOf xs with | none => rfl | some l => cases l <;> rfl) (no_keys (ks := []) (fun _ => rfl) g) (fun _ => rfl) rh sw g
  cases ns with
  | nil => exact g.elim
  | cons n ns =>
    refine ⟨a, n :: ns, e1, sq, Nat.succ_pos _, fun m hm hy => ?_⟩
    have : m = ns.foldl min n := Int.le_antisymm (hy _ (foldl_min n ns).1) ((foldl_min n ns).2 m hm)
    rw [this]
    exact g.ok rh (.int _)
theorem s_maxL (hc : X.calm = true) (hg : Gl X "max") (hm : X.mg "max" = none) (he : PE X e (rdW T W c d)) (hs : noStar e = true) : PE X (.Call (.Name "max" p) [e] [] pos) (rdE T W c (.con .max (d))) := by
  refine PE.imp (pe_callB (cr_max hc) hg hm boot_max' (pa_cons he pa_nil (each_noStar hs)) (by decide) (by decide) (each_noStar hs) rfl) fun σ H Q q => con_read (fun {as H h w u σ Q} rh sw g => ?_) q
  obtain ⟨a, ns, e1, sq, g⟩ := con_ints (X := X) (F := fun ns => match ns with | n :: ns => .ok (.int (ns.foldl max n)) h | [] => .no) (fun xs => by unfold conop; cases intsOf xs with | none => rfl | some l => cases l <;> rfl) (no_keys (ks := []) (fun _ => rfl) g) (fun _ => rfl) rh sw g
  cases ns with
  | nil => exact g.elim
  | cons n ns =>
    refine ⟨a, n :: ns, e1, sq, Nat.succ_pos _, fun m hm hy => ?_⟩
    have : m = ns.foldl max n := Int.le_antisymm ((foldl_max n ns).2 m hm) (hy _ (foldl_max n ns).1)
    rw [this]
    exact g.ok rh (.int _)
theorem s_sorted (hc : X.calm = true) (hg : Gl X "sorted") (hm : X.mg "sorted" = none) (he : PE X e (rdW T W c d)) (hs : noStar e = true) : PE X (.Call (.Name "sorted" p) [e] [] pos) (rdE T W c (.con .sorted (d))) := by
  refine PE.imp (pe_callB (callR_or cr_sortedI (call_sortedDI hc)) hg hm boot_sorted' (pa_cons he pa_nil (each_noStar hs)) (by decide) (by decide) (each_noStar hs) rfl) fun σ H Q q => con_read (fun {as H h w u σ Q} rh sw g => ?_) q
  by_cases hk : ∃ ks, w = .keys ks
  · obtain ⟨ks, rfl⟩ := hk
    cases sw with
    | keys q =>
      rename_i kvs a
      unfold conW at g
      simp only at g
      cases hi : intK (kvs.map (·.1)) with
      | none => simp only [hi] at g; exact g.elim
      | some ns =>
        simp only [hi] at g
        split at g
        · rename_i z
          refine .inr ⟨a, kvs, ns, rfl, .inl q, intK_some hi, z, fun ys p hp hs hn => ?_⟩
          rw [sorted_eq hp hs]
          exact g.newLst rh (.ofInts _) (by rw [List.length_map, (sortI_perm ns).length_eq]; rw [sizeLine_eq]; omega) hn
        · exact g.elim
  · refine .inl ?_
    obtain ⟨a, ns, e1, sq, g⟩ := con_ints (X := X) (F := fun ns => if ns.length ≤ sizeLine then .ok (.obj h.length) (h ++ [.lst false ((sortI ns).map .int)]) else .no) (fun xs => rfl) (fun ks e => hk ⟨ks, e⟩) (fun _ => rfl) rh sw g
    split at g
    · rename_i z
      refine ⟨a, ns, e1, sq, fun ys p hp hs hn => ?_⟩
      rw [sorted_eq hp hs]
      exact g.newLst rh (.ofInts _) (by rw [List.length_map, (sortI_perm ns).length_eq]; exact z) hn
    · exact g.elim
/-- tuple(range(..)) -/
theorem rg_rep {H : Hp} {as : List Addr} {i j : Int} : RepL H as ((List.range (j - i).toNat).map fun k => PV.int (i + (k : Nat))) (rgV i j) := by
  unfold rgV
  have := RepL.ofInts (H := H) (as := as) ((List.range (j - i).toNat).map fun k => i + ((k : Nat) : Int))
  rw [List.map_map, List.map_map] at this
  exact this
theorem rng_end {as : List Addr} {H : Hp} {h : PH} {σ : L2.St} {Q : VK} {x y : PV} {u w : V} (rh : RepH H as h) (rx : RepV H as x u) (ry : RepV H as y w) (g : gotR T W ((rngOf x y h).bnd fun w h => conW .tuple w h) as H σ rV Q) :
    ∃ i j, u = .int i ∧ w = .int j ∧ RgOk i j ∧ ∀ q, H q = none → Q (.ref q) (upd H q (.tup (rgV i j))) := by
  unfold rngOf at g
  split at g
  · rename_i i j
    split at g
    · rename_i b
      simp only [Rs.bnd] at g
      unfold conW at g
      simp only at g
      split at g
      · rename_i b2
        refine ⟨i, j, rx.intE, ry.intE, ⟨b.1, b.2.1, b.2.2.1, b.2.2.2, b2.2.2⟩, fun q hq => g.newTup rh rg_rep hq⟩
      · exact g.elim
    · exact g.elim
  · exact g.elim
theorem s_tupRg2 {e2 : Expr} {d2 : E} {p2 pos2 : Pos} (hg : Gl X "tuple") (hm : X.mg "tuple" = none) (hc : X.calm = true) (hg2 : Gl X "range") (hm2 : X.mg "range" = none) (he : PE X e (rdE T W c d)) (he2 : PE X e2 (rdE T W c d2)) (hs : noStar e = true) (hs2 : noStar e2 = true) :
    PE X (.Call (.Name "tuple" p) [.Call (.Name "range" p2) [e, e2] [] pos2] [] pos) (rdE T W c (.con .tuple (.rng d d2))) := by
  refine PE.imp (pe_tupRg hc hg hm (prg_2 hg2 hm2 he he2 (each_noStar hs) (each_noStar hs2) (any_noStar (by simp [hs2])))) fun σ H Q ⟨as, r, h, p, g⟩ => ?_
  unfold evE evI at g
  simp only [bnd_assoc] at g
  refine ⟨as, r, h, p, (g.bnd (repx := rV) p).mono ?_⟩
  rintro u H1 ⟨as1, h1, x, e1, p1, rx, _, g1⟩
  refine ⟨as1, r, h1, p1, (g1.bnd (repx := rV) p1).mono ?_⟩
  rintro u2 H2 ⟨as2, h2, y, e2, p2, ry, _, g2⟩
  obtain ⟨i, j, z1, z2, ok, q⟩ := rng_end p2.hp (rx.ext p1.hp e2) ry g2
  exact ⟨i, j, z1, z2, ok, q⟩
theorem s_tupRg1 {p2 pos2 : Pos} (hg : Gl X "tuple") (hm : X.mg "tuple" = none) (hc : X.calm = true) (hg2 : Gl X "range") (hm2 : X.mg "range" = none) (he : PE X e (rdE T W c d)) (hs : noStar e = true) :
    PE X (.Call (.Name "tuple" p) [.Call (.Name "range" p2) [e] [] pos2] [] pos) (rdE T W c (.con .tuple (.rng (.cst (.int 0)) d))) := by
  refine PE.imp (pe_tupRg hc hg hm (prg_1 hg2 hm2 he (each_noStar hs))) fun σ H Q ⟨as, r, h, p, g⟩ => ?_
  unfold evE evI at g
  rw [show evE c (.cst (.int 0)) r h = .ok (.int 0) h by unfold evE; rfl] at g
  simp only [bnd_assoc] at g
  have g : gotR T W ((evE c d r h).bnd fun y h => (rngOf (.int 0) y h).bnd fun w h => conW .tuple w h) as H σ rV Q := g
  refine ⟨as, r, h, p, (g.bnd (repx := rV) p).mono ?_⟩
  rintro u H1 ⟨as1, h1, x, e1, p1, rx, _, g1⟩
  obtain ⟨i, j, z1, z2, ok, q⟩ := rng_end (u := .int 0) p1.hp (.int 0) rx g1
  cases z1
  exact ⟨j, z2, ok, q⟩
end
end EV
end
section
set_option Elab.async false
set_option linter.all false
set_option maxRecDepth 100000
set_option maxHeartbeats 1000000
/-! EvZip: tuple(zip(a, b)) of two tuples. -/
namespace EVZ
open PySem PySem.Spec PyProof.Rows RZ
open PySem.Sem (wp)
open PySem.Calls
section
variable {prog : Program} {w : World} {A : Around} {E : Value → Shared → Prop} {s : Shared}
variable {z TI TO i1 i2 l1 l2 : Addr} {xs ys : Array Value}
theorem heldT_item {T : Addr} {f : Bool} {oT : Obj} {k1 k2 : Nat} {x y : Value} {Q : Value → Shared → Prop} (D : ZipApart z TI TO i1 i2 l1 l2)
    (hz : IsZipHeld s.heap z TI TO T f) (hT : s.heap.get? T = some oT) (hTI : IsPair s.heap TI (.ref i1) (.ref i2))
    (h1 : s.heap.IsTupleIter i1 l1 k1) (h2 : s.heap.IsTupleIter i2 l2 k2) (hl1 : s.heap.IsTuple l1 xs) (hl2 : s.heap.IsTuple l2 ys) (hx : xs[k1]? = some x) (hy : ys[k2]? = some y)
    (hQ : ∀ h', IsZipHeld h' z TI TO T true → h'.IsTupleIter i1 l1 (k1 + 1) → h'.IsTupleIter i2 l2 (k2 + 1) → IsPair h' s.heap.objs.size x y → h'.objs.size = s.heap.objs.size + 1 →
      (∀ c o, c ≠ z → c ≠ i1 → c ≠ i2 → s.heap.get? c = some o → h'.get? c = some o) → Q (.ref s.heap.objs.size) { s with heap := h' }) :
    wpAny (model prog w) A (Builtin.«zip.__next__» ⟨[.ref z], []⟩) (fun fin s' => ∃ v, fin = .done (.ret v) ∧ Q v s') E s := by
  show wpAny _ _ (field (.ref z) 2 >>= _) _ _ _
  refine wpAny_bind (wpAny_field hz rfl (x := .bool false) rfl ?_)
  show wpAny _ _ (field (.ref z) 3 >>= _) _ _ _
  refine wpAny_bind (wpAny_field hz rfl (x := .ref TI) rfl ?_)
  refine wpAny_bind (wpAny_seqItems hTI rfl ?_)
  show wpAny _ _ (Builtin.SmallTypes.ownedTupleIsFree (.ref z) >>= _) _ _ _
  refine wpAny_bind (wpAny_tupleHeld_zip hz hT fun h₁ hz₁ hs₁ => ?_)
  simp only [Bool.false_eq_true, if_false]
  refine wpAny_bind ?_
  rw [← Array.forIn_toList]
  simp only [List.forIn_cons, List.forIn_nil]
  refine wpAny_bind (wpAny_bind (wpAny_holding ?_))
  show wpAny _ _ (Builtin.SmallTypes.nextOf (.ref i1) >>= _) _ _ _
  refine wpAny_bind (nextOf_tuple_item (s := { s with heap := h₁ }) (h1.extBut hs₁.extBut D.i1z) (hl1.extBut hs₁.extBut D.l1z) hx fun h₂ h1₂ hs₂ => wpAny_pure ?_)
  refine wpAny_pure ?_
  refine wpAny_bind (wpAny_bind (wpAny_holding ?_))
  show wpAny _ _ (Builtin.SmallTypes.nextOf (.ref i2) >>= _) _ _ _
  refine wpAny_bind (nextOf_tuple_item (s := { s with heap := h₂ }) ((h2.extBut hs₁.extBut D.i2z).extBut hs₂.extBut D.i12.symm) ((hl2.extBut hs₁.extBut D.l2z).extBut hs₂.extBut D.l2i1) hy fun h₃ h2₃ hs₃ => wpAny_pure ?_)
  refine wpAny_pure (wpAny_pure ?_)
  show wpAny _ _ (newTuple [x, y] >>= _) _ _ _
  refine wpAny_bind (wpAny_newTuple ?_)
  have hsz : h₃.objs.size = s.heap.objs.size := by rw [hs₃.1, hs₂.1, hs₁.1]
  have hz₃ : IsZipHeld h₃ z TI TO T true := hs₃.extBut _ _ D.i2z.symm (hs₂.extBut _ _ D.i1z.symm hz₁)
  have hk : ∀ c o, c ≠ z → c ≠ i1 → c ≠ i2 → s.heap.get? c = some o → h₃.get? c = some o := fun c o c1 c2 c3 e => hs₃.extBut _ _ c3 (hs₂.extBut _ _ c2 (hs₁.extBut _ _ c1 e))
  have h1₃ : h₃.IsTupleIter i1 l1 (k1 + 1) := h1₂.extBut hs₃.extBut D.i12
  refine wpAny_pure ⟨_, rfl, ?_⟩
  show Q (.ref h₃.objs.size) _
  have hp : IsPair (h₃.push { cls := .type "tuple", data := .seq #[x, y] }) h₃.objs.size x y := Heap.get?_push_size _ rfl
  have hz4 : (h₃.push { cls := .type "tuple", data := .seq #[x, y] }).objs.size = h₃.objs.size + 1 := Heap.size_push ..
  rw [hsz] at hp hz4 ⊢
  exact hQ _ (Heap.get?_push_of_some _ hz₃) (h1₃.at fun o e => Heap.get?_push_of_some _ e) (h2₃.at fun o e => Heap.get?_push_of_some _ e) hp hz4 fun c o c1 c2 c3 e => Heap.get?_push_of_some _ (hk c o c1 c2 c3 e)
theorem heldT_end {T : Addr} {f : Bool} {oT : Obj} {k1 k2 : Nat} {Q : Fin → Shared → Prop} (hh : A.handled = none) (D : ZipApart z TI TO i1 i2 l1 l2)
    (hz : IsZipHeld s.heap z TI TO T f) (hT : s.heap.get? T = some oT) (hTI : IsPair s.heap TI (.ref i1) (.ref i2))
    (h1 : s.heap.IsTupleIter i1 l1 k1) (h2 : s.heap.IsTupleIter i2 l2 k2) (hl1 : s.heap.IsTuple l1 xs) (hl2 : s.heap.IsTuple l2 ys) (hend : xs[k1]? = none ∨ ys[k2]? = none)
    (hE : ∀ h' e, (∀ c o, c ≠ z → c ≠ i1 → c ≠ i2 → s.heap.get? c = some o → h'.get? c = some o) → (∃ o, h'.get? e = some o ∧ o.cls = .type "StopIteration") → E (.ref e) { s with heap := h' }) :
    wpAny (model prog w) A (Builtin.«zip.__next__» ⟨[.ref z], []⟩) Q E s := by
  show wpAny _ _ (field (.ref z) 2 >>= _) _ _ _
  refine wpAny_bind (wpAny_field hz rfl (x := .bool false) rfl ?_)
  show wpAny _ _ (field (.ref z) 3 >>= _) _ _ _
  refine wpAny_bind (wpAny_field hz rfl (x := .ref TI) rfl ?_)
  refine wpAny_bind (wpAny_seqItems hTI rfl ?_)
  show wpAny _ _ (Builtin.SmallTypes.ownedTupleIsFree (.ref z) >>= _) _ _ _
  refine wpAny_bind (wpAny_tupleHeld_zip hz hT fun h₁ hz₁ hs₁ => ?_)
  simp only [Bool.false_eq_true, if_false]
  refine wpAny_bind ?_
  rw [← Array.forIn_toList]
  simp only [List.forIn_cons, List.forIn_nil]
  refine wpAny_bind (wpAny_bind (wpAny_holding ?_))
  show wpAny _ _ (Builtin.SmallTypes.nextOf (.ref i1) >>= _) _ _ _
  cases hx : xs[k1]? with
  | none =>
    refine wpAny_bind (nextOf_tuple_end (s := { s with heap := h₁ }) hh (h1.extBut hs₁.extBut D.i1z) (hl1.extBut hs₁.extBut D.l1z) hx fun h₂ e hs₂ he => ?_)
    exact hE h₂ e (fun c o c1 c2 _ x => hs₂ _ _ c2 (hs₁.extBut _ _ c1 x)) he
  | some x =>
    have hy : ys[k2]? = none := by rcases hend with h | h; rw [hx] at h; cases h; exact h
    refine wpAny_bind (nextOf_tuple_item (s := { s with heap := h₁ }) (h1.extBut hs₁.extBut D.i1z) (hl1.extBut hs₁.extBut D.l1z) hx fun h₂ h1₂ hs₂ => wpAny_pure ?_)
    refine wpAny_pure ?_
    refine wpAny_bind (wpAny_bind (wpAny_holding ?_))
    show wpAny _ _ (Builtin.SmallTypes.nextOf (.ref i2) >>= _) _ _ _
    refine wpAny_bind (nextOf_tuple_end (s := { s with heap := h₂ }) hh ((h2.extBut hs₁.extBut D.i2z).extBut hs₂.extBut D.i12.symm) ((hl2.extBut hs₁.extBut D.l2z).extBut hs₂.extBut D.l2i1) hy fun h₃ e hs₃ he => ?_)
    exact hE h₃ e (fun c o c1 c2 c3 x => hs₃ _ _ c3 (hs₂.extBut _ _ c2 (hs₁.extBut _ _ c1 x))) he
theorem nextT_held {T : Addr} {f : Bool} {oT : Obj} {k1 k2 : Nat} {x y : Value} {Q : Option Value → Shared → Prop} (D : ZipApart z TI TO i1 i2 l1 l2)
    (hz : IsZipHeld s.heap z TI TO T f) (hT : s.heap.get? T = some oT) (hTI : IsPair s.heap TI (.ref i1) (.ref i2))
    (h1 : s.heap.IsTupleIter i1 l1 k1) (h2 : s.heap.IsTupleIter i2 l2 k2) (hl1 : s.heap.IsTuple l1 xs) (hl2 : s.heap.IsTuple l2 ys) (hx : xs[k1]? = some x) (hy : ys[k2]? = some y)
    (hQ : ∀ h', IsZipHeld h' z TI TO T true → h'.IsTupleIter i1 l1 (k1 + 1) → h'.IsTupleIter i2 l2 (k2 + 1) → IsPair h' s.heap.objs.size x y → h'.objs.size = s.heap.objs.size + 1 →
      (∀ c o, c ≠ z → c ≠ i1 → c ≠ i2 → s.heap.get? c = some o → h'.get? c = some o) → Q (some (.ref s.heap.objs.size)) { s with heap := h' }) :
    wpAny (model prog w) A (pyNext (.ref z)) Q E s := by
  have hTy : s.TypeIs (.ref z) "zip" := ⟨_, hz, rfl⟩
  unfold pyNext
  exact wpAny_bind (wpAny_attempt (wpAny_callSpecial?_slot (name := Str.ofString "__next__") hTy F.slot_zip_next
    (wpAny_call_entry F.slot_zip_next hTy F.entry_zip_next
      (heldT_item D hz hT hTI h1 h2 hl1 hl2 hx hy fun h' a1 a3 a4 a5 a6 a7 => wpAny_pure (hQ h' a1 a3 a4 a5 a6 a7)) (F.args_zip_next_1 _))))
theorem nextT_heldEnd {T : Addr} {f : Bool} {oT : Obj} {k1 k2 : Nat} {Q : Option Value → Shared → Prop} (hh : A.handled = none) (D : ZipApart z TI TO i1 i2 l1 l2)
    (hz : IsZipHeld s.heap z TI TO T f) (hT : s.heap.get? T = some oT) (hTI : IsPair s.heap TI (.ref i1) (.ref i2))
    (h1 : s.heap.IsTupleIter i1 l1 k1) (h2 : s.heap.IsTupleIter i2 l2 k2) (hl1 : s.heap.IsTuple l1 xs) (hl2 : s.heap.IsTuple l2 ys) (hend : xs[k1]? = none ∨ ys[k2]? = none)
    (hQ : ∀ h', (∀ c o, c ≠ z → c ≠ i1 → c ≠ i2 → s.heap.get? c = some o → h'.get? c = some o) → Q none { s with heap := h' }) : wpAny (model prog w) A (pyNext (.ref z)) Q E s := by
  have hTy : s.TypeIs (.ref z) "zip" := ⟨_, hz, rfl⟩
  unfold pyNext
  refine wpAny_bind (wpAny_attempt (wpAny_callSpecial?_slot (name := Str.ofString "__next__") hTy F.slot_zip_next
    (wpAny_call_entry F.slot_zip_next hTy F.entry_zip_next (heldT_end hh D hz hT hTI h1 h2 hl1 hl2 hend fun h' e hk he => ?_) (F.args_zip_next_1 _))))
  obtain ⟨o, ho, hc⟩ := he
  refine wpAny_bind (wpAny_isInstance (T := "StopIteration") (b := true) ⟨o, ho, hc⟩ isSubtype_stop ?_)
  exact wpAny_pure (hQ _ hk)
/-- the zip, i pairs told -/
structure ZS (xs ys : Array Value) (z TI TO i1 i2 l1 l2 : Addr) (i : Nat) (h : Heap) : Prop where
  zip : (IsZip h z TI TO .none ∧ ∃ a b, IsPair h TO a b) ∨ ∃ T f oT, IsZipHeld h z TI TO T f ∧ h.get? T = some oT ∧ T ≠ z ∧ T ≠ TO ∧ T ≠ i1 ∧ T ≠ i2
  ti : IsPair h TI (.ref i1) (.ref i2)
  j1 : h.IsTupleIter i1 l1 i
  j2 : h.IsTupleIter i2 l2 i
  t1 : h.IsTuple l1 xs
  t2 : h.IsTuple l2 ys
  tob : ∃ o, h.get? TO = some o
theorem ZS.keep {i : Nat} {h h' : Heap} (Z : ZS xs ys z TI TO i1 i2 l1 l2 i h) {S : Addr} (hS : ∀ c o, c ≠ S → h.get? c = some o → h'.get? c = some o) (n1 : S ≠ z) (n2 : S ≠ TI) (n3 : S ≠ TO) (n4 : S ≠ i1) (n5 : S ≠ i2) (n6 : S ≠ l1) (n7 : S ≠ l2) (hT : ∀ b o, h.get? b = some o → ∃ o', h'.get? b = some o') : ZS xs ys z TI TO i1 i2 l1 l2 i h' where
  zip := by
    rcases Z.zip with ⟨a, b, c, e⟩ | ⟨T, f, oT, a, b, c⟩
    · exact .inl ⟨hS _ _ (Ne.symm n1) a, b, c, hS _ _ (Ne.symm n3) e⟩
    · obtain ⟨o, ho⟩ := hT T oT b
      exact .inr ⟨T, f, o, hS _ _ (Ne.symm n1) a, ho, c⟩
  ti := hS _ _ (Ne.symm n2) Z.ti
  j1 := Z.j1.at fun o e => hS _ _ (Ne.symm n4) e
  j2 := Z.j2.at fun o e => hS _ _ (Ne.symm n5) e
  t1 := by obtain ⟨o, e, r⟩ := Z.t1; exact ⟨o, hS _ _ (Ne.symm n6) e, r⟩
  t2 := by obtain ⟨o, e, r⟩ := Z.t2; exact ⟨o, hS _ _ (Ne.symm n7) e, r⟩
  tob := by obtain ⟨o, e⟩ := Z.tob; exact hT _ _ e
/-- one step -/
theorem next_item {i : Nat} {x y : Value} {Q : Option Value → Shared → Prop} (D : ZipApart z TI TO i1 i2 l1 l2) (Z : ZS xs ys z TI TO i1 i2 l1 l2 i s.heap) (hx : xs[i]? = some x) (hy : ys[i]? = some y)
    (hQ : ∀ h' T, ZS xs ys z TI TO i1 i2 l1 l2 (i + 1) h' → T = s.heap.objs.size → IsPair h' T x y → (∀ c o, c ≠ z → c ≠ TO → c ≠ i1 → c ≠ i2 → s.heap.get? c = some o → h'.get? c = some o) → Q (some (.ref T)) { s with heap := h' }) :
    wpAny (model prog w) A (pyNext (.ref z)) Q E s := by
  have ltz : z < s.heap.objs.size ∧ TO < s.heap.objs.size ∨ z < s.heap.objs.size := by
    rcases Z.zip with ⟨a, _, _, e⟩ | ⟨T, f, oT, a, _⟩
    · exact .inl ⟨Heap.lt_size a, Heap.lt_size e⟩
    · exact .inr (Heap.lt_size a)
  have lt1 : i1 < s.heap.objs.size := by obtain ⟨_, e, _⟩ := Z.j1; exact Heap.lt_size e
  have lt2 : i2 < s.heap.objs.size := by obtain ⟨_, e, _⟩ := Z.j2; exact Heap.lt_size e
  have up : ∀ {h' : Heap} {l : Addr} {us : Array Value}, s.heap.IsTuple l us → l ≠ z → l ≠ TO → l ≠ i1 → l ≠ i2 → (∀ c o, c ≠ z → c ≠ TO → c ≠ i1 → c ≠ i2 → s.heap.get? c = some o → h'.get? c = some o) → h'.IsTuple l us := fun ⟨o, e, r⟩ a1 a2 a3 a4 k => ⟨o, k _ _ a1 a2 a3 a4 e, r⟩
  rcases Z.zip with ⟨hz, a, b, hTO⟩ | ⟨T, f, oT, hz, hT, nz, nTO, n1, n2⟩
  · refine pyNext_zipT_item D hz Z.ti hTO Z.j1 Z.j2 Z.t1 Z.t2 hx hy fun h' a1 a2 a3 a4 a5 a6 a7 => hQ h' _ ⟨.inr ⟨s.heap.objs.size, false, _, a1, a5, ?_, ?_, ?_, ?_⟩, a7 _ _ D.TIz D.TITO D.TIi1 D.TIi2 Z.ti, a3, a4, up Z.t1 D.l1z D.l1TO D.l1i1 D.l1i2 a7, up Z.t2 D.l2z D.l2TO D.l2i1 D.l2i2 a7, ⟨_, a2⟩⟩ rfl a5 a7
    · exact Nat.ne_of_gt (Heap.lt_size hz)
    · exact Nat.ne_of_gt (Heap.lt_size hTO)
    · exact Nat.ne_of_gt lt1
    · exact Nat.ne_of_gt lt2
  · refine nextT_held D hz hT Z.ti Z.j1 Z.j2 Z.t1 Z.t2 hx hy fun h' a1 a3 a4 a5 a6 a7 => ?_
    have a7' : ∀ c o, c ≠ z → c ≠ TO → c ≠ i1 → c ≠ i2 → s.heap.get? c = some o → h'.get? c = some o := fun c o c1 _ c2 c3 e => a7 c o c1 c2 c3 e
    exact hQ h' _ ⟨.inr ⟨T, true, oT, a1, a7 _ _ nz n1 n2 hT, nz, nTO, n1, n2⟩, a7 _ _ D.TIz D.TIi1 D.TIi2 Z.ti, a3, a4, up Z.t1 D.l1z D.l1TO D.l1i1 D.l1i2 a7', up Z.t2 D.l2z D.l2TO D.l2i1 D.l2i2 a7', let ⟨o, e⟩ := Z.tob; ⟨o, a7 _ _ D.TOz D.TOi1 D.TOi2 e⟩⟩ rfl a5 a7'
theorem next_end {i : Nat} {Q : Option Value → Shared → Prop} (hh : A.handled = none) (D : ZipApart z TI TO i1 i2 l1 l2) (Z : ZS xs ys z TI TO i1 i2 l1 l2 i s.heap) (hend : xs[i]? = none ∨ ys[i]? = none)
    (hQ : ∀ h', (∀ c o, c ≠ z → c ≠ TO → c ≠ i1 → c ≠ i2 → s.heap.get? c = some o → h'.get? c = some o) → Q none { s with heap := h' }) : wpAny (model prog w) A (pyNext (.ref z)) Q E s := by
  rcases Z.zip with ⟨hz, a, b, hTO⟩ | ⟨T, f, oT, hz, hT, nz, nTO, n1, n2⟩
  · exact pyNext_zipT_end hh D hz Z.ti hTO Z.j1 Z.j2 Z.t1 Z.t2 hend hQ
  · exact nextT_heldEnd hh D hz hT Z.ti Z.j1 Z.j2 Z.t1 Z.t2 hend fun h' k => hQ h' fun c o c1 _ c2 c3 e => k c o c1 c2 c3 e
/-- what has been gathered -/
def Acc (xs ys : Array Value) (bad : List Addr) (n0 : Nat) (h : Heap) (acc : Array Value) (i : Nat) : Prop := acc.size = i ∧ ∀ (j : Nat) (v : Value), acc[j]? = some v → ∃ (T : Addr) (x y : Value), v = Value.ref T ∧ xs[j]? = some x ∧ ys[j]? = some y ∧ IsPair h T x y ∧ T ∉ bad ∧ n0 ≤ T
def Dst (acc : Array Value) : Prop := ∀ (j k : Nat) (v : Value), acc[j]? = some v → acc[k]? = some v → j = k
theorem zip_loop {S : Addr} {n n0 : Nat} {res : Value} {R : Result → Shared → Prop} (D : ZipApart z TI TO i1 i2 l1 l2) (n1 : S ≠ z) (n2 : S ≠ TI) (n3 : S ≠ TO) (n4 : S ≠ i1) (n5 : S ≠ i2) (n6 : S ≠ l1) (n7 : S ≠ l2) (hn : n ≤ sizeLine) (hm : n = min xs.size ys.size) :
    ∀ (k i : Nat) (A : Around) (s : Shared) (acc : Array Value) (c : Nat), A.handled = none → n - i = k → i ≤ n → n0 ≤ s.heap.objs.size → ZS xs ys z TI TO i1 i2 l1 l2 i s.heap → s.heap.get? S = some { cls := .type "list", dict := none, data := .seq acc c, slots := #[] } → Acc xs ys [S, z, TO, i1, i2] n0 s.heap acc i → Dst acc →
    (∀ h' acc' c', (∀ b o, b ∉ [S, z, TO, i1, i2] → s.heap.get? b = some o → h'.get? b = some o) → h'.get? S = some { cls := .type "list", dict := none, data := .seq acc' c', slots := #[] } → Acc xs ys [S, z, TO, i1, i2] n0 h' acc' n → Dst acc' → R (.ok (.ret res)) { s with heap := h' }) →
    codeAny (model prog w) A (.builtin "list.extend.loop" ⟨[.ref S, .ref z, res], []⟩) R s := by
  intro k
  induction k with
  | zero =>
    intro i A s acc c hh hk hi h0 Z hS ha hd hR
    have hin : i = n := by omega
    subst hin
    refine codeAny_builtin F.entry_extend_loop ?_
    rw [Around.under_plainId F.plain_extend_loop _]
    show wpAny _ A.in1 (pyNext (.ref z) >>= _) _ _ s
    have hend : xs[i]? = none ∨ ys[i]? = none := by
      rcases Nat.le_total xs.size ys.size with q | q
      · exact .inl (Array.getElem?_eq_none_iff.mpr (by omega))
      · exact .inr (Array.getElem?_eq_none_iff.mpr (by omega))
    refine wpAny_bind (next_end (A := A.in1) hh D Z hend fun h' kp => ?_)
    have kp' : ∀ b o, b ∉ [S, z, TO, i1, i2] → s.heap.get? b = some o → h'.get? b = some o := fun b o hb e => by
      simp only [List.mem_cons, not_or, List.not_mem_nil, not_false_eq_true, and_true] at hb
      exact kp b o hb.2.1 hb.2.2.1 hb.2.2.2.1 hb.2.2.2.2 e
    refine wpAny_pure (hR h' acc c kp' (kp S _ n1 n3 n4 n5 hS) ⟨ha.1, fun j v hj => ?_⟩ hd)
    obtain ⟨T, x, y, e1, e2, e3, e4, e5, e6⟩ := ha.2 j v hj
    exact ⟨T, x, y, e1, e2, e3, kp' _ _ e5 e4, e5, e6⟩
  | succ k ih =>
    intro i A s acc c hh hk hi h0 Z hS ha hd hR
    have hlt : i < n := by omega
    obtain ⟨x, hx⟩ : ∃ x, xs[i]? = some x := ⟨xs[i]'(by omega), by rw [Array.getElem?_eq_getElem]⟩
    obtain ⟨y, hy⟩ : ∃ y, ys[i]? = some y := ⟨ys[i]'(by omega), by rw [Array.getElem?_eq_getElem]⟩
    refine codeAny_builtin F.entry_extend_loop ?_
    rw [Around.under_plainId F.plain_extend_loop _]
    show wpAny _ A.in1 (pyNext (.ref z) >>= _) _ _ s
    refine wpAny_bind (next_item (A := A.in1) D Z hx hy fun h' T Z' eT hT kp => ?_)
    have hS' := kp S _ n1 n3 n4 n5 hS
    have lS : S < s.heap.objs.size := Heap.lt_size hS
    have lz : z < s.heap.objs.size ∧ i1 < s.heap.objs.size ∧ i2 < s.heap.objs.size := by
      refine ⟨?_, ?_, ?_⟩
      · rcases Z.zip with ⟨a, _⟩ | ⟨_, _, _, a, _⟩ <;> exact Heap.lt_size a
      · obtain ⟨_, e, _⟩ := Z.j1; exact Heap.lt_size e
      · obtain ⟨_, e, _⟩ := Z.j2; exact Heap.lt_size e
    have TnS : T ≠ S := by rw [eT]; exact Nat.ne_of_gt lS
    have TnTO : T ≠ TO := by
      obtain ⟨o, e⟩ := Z.tob
      rw [eT]; exact Nat.ne_of_gt (Heap.lt_size e)
    have hTb : T ∉ [S, z, TO, i1, i2] := by
      simp only [List.mem_cons, not_or, List.not_mem_nil, not_false_eq_true, and_true]
      exact ⟨TnS, by rw [eT]; exact Nat.ne_of_gt lz.1, TnTO, by rw [eT]; exact Nat.ne_of_gt lz.2.1, by rw [eT]; exact Nat.ne_of_gt lz.2.2⟩
    show wpAny _ A.in1 (updateSeq S (·.push (.ref T)) >>= _) _ _ _
    refine wpAny_bind ?_
    have oth : ∀ b o, b ≠ S → h'.get? b = some o → (h'.update S (Obj.mapSeq (·.push (Value.ref T)))).get? b = some o := fun b o hb e => (Heap.get?_update_other _ _ (Ne.symm hb)).trans e
    refine wpAny_updateSeq hS' rfl (wpAny_pure ⟨plainId_quiet F.plain_extend_loop _, ih (i + 1) A _ (acc.push (.ref T)) _ hh (by omega) hlt ?_ (Z'.keep oth n1 n2 n3 n4 n5 n6 n7 fun b o e => ?_) (Heap.get?_update_self _ hS' rfl) ⟨by rw [Array.size_push, ha.1], fun j v hj => ?_⟩ ?_ fun h'' acc' c' kp2 hS2 ha2 hd2 => ?_⟩)
      (by rw [ha.1]; omega) (by show (acc.push (.ref T)).size ≤ sizeLine + 1; rw [Array.size_push, ha.1]; omega)
    · have h2 := Heap.lt_size (oth _ _ TnS hT)
      refine Nat.le_of_lt (Nat.lt_of_le_of_lt ?_ h2)
      rw [eT]; exact h0
    · by_cases hb : b = S
      · subst hb; exact ⟨_, Heap.get?_update_self _ hS' rfl⟩
      · exact ⟨o, oth _ _ hb e⟩
    · rw [Array.getElem?_push] at hj
      split at hj
      · rename_i e
        cases hj
        rw [ha.1] at e
        subst e
        exact ⟨T, x, y, rfl, hx, hy, oth _ _ TnS hT, hTb, by rw [eT]; exact h0⟩
      · obtain ⟨T1, x1, y1, e1, e2, e3, e4, e5, e6⟩ := ha.2 j v hj
        refine ⟨T1, x1, y1, e1, e2, e3, ?_, e5, e6⟩
        simp only [List.mem_cons, not_or, List.not_mem_nil, not_false_eq_true, and_true] at e5
        exact oth _ _ e5.1 (kp _ _ e5.2.1 e5.2.2.1 e5.2.2.2.1 e5.2.2.2.2 e4)
    · have old : ∀ (j : Nat), acc[j]? = some (Value.ref T) → False := fun j hj => by
        obtain ⟨T1, x1, y1, e1, e2, e3, e4, e5, e6⟩ := ha.2 j _ hj
        cases e1
        have := Heap.lt_size e4
        rw [eT] at this
        exact Nat.lt_irrefl _ this
      intro j k v hj hk
      rw [Array.getElem?_push] at hj hk
      split at hj
      · split at hk
        · rename_i e1 e2; rw [e1, e2]
        · cases hj; exact (old _ hk).elim
      · split at hk
        · cases hk; exact (old _ hj).elim
        · exact hd j k v hj hk
    · refine hR h'' acc' c' (fun b o hb e => kp2 b o hb ?_) hS2 ha2 hd2
      simp only [List.mem_cons, not_or, List.not_mem_nil, not_false_eq_true, and_true] at hb
      exact oth _ _ hb.1 (kp _ _ hb.2.1 hb.2.2.1 hb.2.2.2.1 hb.2.2.2.2 e)
theorem zip_nolen : typeLookup (.type "zip") "__len__" = pure none := by rw [typeLookup_type, builtinLookup_eq_fast]; kernel_rfl
theorem zip_nohint : typeLookup (.type "zip") "__length_hint__" = pure none := by rw [typeLookup_type, builtinLookup_eq_fast]; kernel_rfl
theorem collect_zipT {n : Nat} {Q : List Value → Shared → Prop} (hh : A.handled = none) (D : ZipApart z TI TO i1 i2 l1 l2) (Z : ZS xs ys z TI TO i1 i2 l1 l2 0 s.heap) (hz : IsZip s.heap z TI TO .none) (hn : n ≤ sizeLine) (hm : n = min xs.size ys.size)
    (hQ : ∀ h' acc, (∀ b o, b ∉ [z, TO, i1, i2] → s.heap.get? b = some o → h'.get? b = some o) → Acc xs ys [s.heap.objs.size, z, TO, i1, i2] s.heap.objs.size h' acc n → Dst acc → Q acc.toList { s with heap := h' }) : wpAny (model prog w) A (collect (.ref z)) Q E s := by
  have lz : z < s.heap.objs.size := Heap.lt_size hz
  have lTI : TI < s.heap.objs.size := Heap.lt_size Z.ti
  have lTO : TO < s.heap.objs.size := by obtain ⟨o, e⟩ := Z.tob; exact Heap.lt_size e
  have lj1 : i1 < s.heap.objs.size := by obtain ⟨_, e, _⟩ := Z.j1; exact Heap.lt_size e
  have lj2 : i2 < s.heap.objs.size := by obtain ⟨_, e, _⟩ := Z.j2; exact Heap.lt_size e
  have ll1 : l1 < s.heap.objs.size := by obtain ⟨_, e, _⟩ := Z.t1; exact Heap.lt_size e
  have ll2 : l2 < s.heap.objs.size := by obtain ⟨_, e, _⟩ := Z.t2; exact Heap.lt_size e
  have hSI : s.heap.objs.size ≠ z := Nat.ne_of_gt lz
  unfold collect
  refine wpAny_bind (wpAny_runValue (codeAny_builtin F.entry_proto_collect ?_))
  rw [Around.under_plainId F.plain_proto_collect _]
  show wpAny _ A.in1 (newList [] >>= fun l => again (.builtin "list.__iadd__" ⟨[l, .ref z], []⟩)) _ _ s
  refine wpAny_bind (wpAny_newObj_type ?_)
  refine wpAny_pure ⟨plainId_quiet F.plain_list_iadd _, codeAny_builtin F.entry_list_iadd ?_⟩
  rw [Around.under_plainId F.plain_list_iadd _]
  show wpAny _ A.in1 (Builtin.List.listExtendWith (.ref s.heap.objs.size) (.ref z) (.ref s.heap.objs.size)) _ _ _
  generalize hh1 : s.heap.push { cls := .type "list", data := .seq ([] : List Value).toArray } = hp1
  have up1 : ∀ b o, s.heap.get? b = some o → hp1.get? b = some o := fun b o e => by rw [← hh1]; exact Heap.get?_push_of_some _ e
  have hz1 : IsZip hp1 z TI TO .none := up1 _ _ hz
  have hS₁ : hp1.get? s.heap.objs.size = some { cls := .type "list", data := .seq ([] : List Value).toArray } := by rw [← hh1]; exact Heap.get?_push_size _ rfl
  have hT1 : ({ s with heap := hp1 } : Shared).TypeIs (.ref z) "zip" := ⟨_, hz1, rfl⟩
  unfold Builtin.List.listExtendWith
  refine wpAny_bind (wpAny_typeOf hT1 ?_)
  have h1 : Builtin.List.listSameRef (.ref s.heap.objs.size) (.ref z) = false := by simp [Builtin.List.listSameRef, hSI]
  have h2 : (Value.type "zip" == Value.type "list") = false := by decide
  have h3 : (Value.type "zip" == Value.type "tuple") = false := by decide
  simp only [h1, h2, h3, Bool.or_false, Bool.false_eq_true, if_false]
  refine wpAny_bind (wpAny_pyIter_zip hz1 ?_)
  refine wpAny_bind (wpAny_holding ?_)
  unfold Builtin.List.listLengthHint
  refine wpAny_bind (wpAny_specialOf hT1 zip_nolen ?_)
  show wpAny _ A.in1 (specialOf (Value.ref z) (Str.ofString "__length_hint__") >>= _) _ _ _
  refine wpAny_bind (wpAny_specialOf hT1 zip_nohint ?_)
  refine wpAny_pure ?_
  show wpAny _ A.in1 (rule "list.extend.makes-room" >>= fun _ => Builtin.List.listTouch (.ref s.heap.objs.size) >>= fun _ =>
    again (.builtin "list.extend.loop" ⟨[.ref s.heap.objs.size, .ref z, .ref s.heap.objs.size], []⟩)) _ _ _
  refine wpAny_bind (wpAny_rule ?_)
  refine wpAny_bind ?_
  show wpAny _ A.in1 (updateSeq s.heap.objs.size (·.push .none) >>= fun _ => updateSeq s.heap.objs.size (·.pop)) _ _ _
  refine wpAny_bind (wpAny_updateSeq hS₁ rfl ?_)
  have hS₂ := Heap.get?_update_self (Obj.mapSeq (·.push Value.none)) hS₁ rfl
  refine wpAny_updateSeq hS₂ rfl ?_
  have hS₃ := Heap.get?_update_self (Obj.mapSeq (·.pop)) hS₂ rfl
  have oth : ∀ b o, b ≠ s.heap.objs.size → hp1.get? b = some o → ((hp1.update s.heap.objs.size (Obj.mapSeq (·.push Value.none))).update s.heap.objs.size (Obj.mapSeq (·.pop))).get? b = some o :=
    fun b o hb e => (Heap.get?_update_other _ _ (Ne.symm hb)).trans ((Heap.get?_update_other _ _ (Ne.symm hb)).trans e)
  have oth2 : ∀ b o, s.heap.get? b = some o → ((hp1.update s.heap.objs.size (Obj.mapSeq (·.push Value.none))).update s.heap.objs.size (Obj.mapSeq (·.pop))).get? b = some o := fun b o e => oth b o (Nat.ne_of_lt (Heap.lt_size e)) (up1 b o e)
  generalize (hp1.update s.heap.objs.size (Obj.mapSeq (·.push Value.none))).update s.heap.objs.size (Obj.mapSeq (·.pop)) = hp2 at hS₃ oth2 ⊢
  obtain ⟨c0, hS4⟩ : ∃ c, hp2.get? s.heap.objs.size = some { cls := .type "list", dict := none, data := .seq #[] c, slots := #[] } := ⟨_, hS₃⟩
  have Z2 : ZS xs ys z TI TO i1 i2 l1 l2 0 hp2 := Z.keep (S := s.heap.objs.size) (fun b o _ e => oth2 b o e) hSI (Nat.ne_of_gt lTI) (Nat.ne_of_gt lTO) (Nat.ne_of_gt lj1) (Nat.ne_of_gt lj2) (Nat.ne_of_gt ll1) (Nat.ne_of_gt ll2) fun b o e => ⟨o, oth2 b o e⟩
  have ha0 : Acc xs ys [s.heap.objs.size, z, TO, i1, i2] s.heap.objs.size hp2 #[] 0 := ⟨rfl, fun j v h => by simp at h⟩
  refine wpAny_pure ⟨plainId_quiet F.plain_extend_loop _, zip_loop (n := n) (n0 := s.heap.objs.size) D hSI (Nat.ne_of_gt lTI) (Nat.ne_of_gt lTO) (Nat.ne_of_gt lj1) (Nat.ne_of_gt lj2) (Nat.ne_of_gt ll1) (Nat.ne_of_gt ll2) hn hm n 0 A { s with heap := hp2 } #[] c0 hh rfl (Nat.zero_le _) (Nat.le_of_lt (Heap.lt_size hS4)) Z2 hS4 ha0 (fun j k v hj => by simp at hj) fun h' acc' c' kp hS' ha hd => ?_⟩
  show wpAny _ A (load s.heap.objs.size >>= _) _ _ _
  refine wpAny_bind (wpAny_load hS' ?_)
  refine wpAny_pure (hQ h' acc' (fun b o hb e => kp b o ?_ (oth2 b o e)) ha hd)
  simp only [List.mem_cons, not_or, List.not_mem_nil, not_false_eq_true, and_true] at hb ⊢
  exact ⟨Nat.ne_of_lt (Heap.lt_size e), hb⟩
theorem tuple_new_zip {n : Nat} {Q₁ : Value → Shared → Prop} (hh : A.handled = none) (D : ZipApart z TI TO i1 i2 l1 l2) (Z : ZS xs ys z TI TO i1 i2 l1 l2 0 s.heap) (hz : IsZip s.heap z TI TO .none) (hn : n ≤ sizeLine) (hm : n = min xs.size ys.size)
    (h : ∀ h' acc, (∀ b o, b ∉ [z, TO, i1, i2] → s.heap.get? b = some o → h'.get? b = some o) → Acc xs ys [s.heap.objs.size, z, TO, i1, i2] s.heap.objs.size h' acc n → Dst acc → Q₁ (.ref h'.objs.size) { s with heap := h'.push { cls := .type "tuple", data := .seq acc } }) :
    codeAny (model prog w) A (.call (.builtin "tuple.__new__") ⟨[.type "tuple", .ref z], []⟩) (wants Q₁ E) s := by
  refine codeAny_of_tree ?_
  show wpAny _ A.in1 (do checkBuiltinCall "tuple.__new__" ⟨[.type "tuple", .ref z], []⟩; again (.builtin "tuple.__new__" ⟨[.type "tuple", .ref z], []⟩)) _ _ s
  refine wpAny_bind (wpAny_of_eq (F.newCall_tuple_1 _) (wpAny_pure ⟨plainId_quiet F.plain_tuple_new _, codeAny_builtin F.entry_tuple_new ?_⟩))
  rw [Around.under_plainId F.plain_tuple_new _]
  have hsub := sub_tuple_self
  have hinit := init_tuple_lookup
  have hmh := madeHere_tuple
  have hTI : s.TypeIs (.ref z) "zip" := ⟨_, hz, rfl⟩
  have hh1 : A.in1.handled = none := hh
  wp_walk using wpAny_typeOf hTI, collect_zipT (A := A.in1) hh1 D Z hz hn hm
  intro h' acc hk hacc hd
  show wpAny _ _ (Builtin.Tuple.tupleExact acc.toList.toArray >>= fun v => ret v) _ _ _
  unfold Builtin.Tuple.tupleExact
  refine wpAny_bind (wpAny_newObj_type ?_ (by show acc.toList.toArray.size ≤ sizeLine; simp only [Array.toArray_toList]; rw [hacc.1]; exact hn))
  refine wpAny_pure ?_
  have e : acc.toList.toArray = acc := by simp
  rw [e]
  exact h h' acc hk hacc hd
theorem call_tuple_zip {n : Nat} {Q : Value → Shared → Prop} (hh : A.handled = none) (D : ZipApart z TI TO i1 i2 l1 l2) (Z : ZS xs ys z TI TO i1 i2 l1 l2 0 s.heap) (hz : IsZip s.heap z TI TO .none) (hn : n ≤ sizeLine) (hm : n = min xs.size ys.size)
    (hQ : ∀ h' acc, (∀ b o, b ∉ [z, TO, i1, i2] → s.heap.get? b = some o → h'.get? b = some o) → Acc xs ys [s.heap.objs.size, z, TO, i1, i2] s.heap.objs.size h' acc n → Dst acc → Q (.ref h'.objs.size) { s with heap := h'.push { cls := .type "tuple", data := .seq acc } }) :
    wpAny (model prog w) A (call (.type "tuple") [.ref z]) Q E s := by
  refine callType_codes (Q₁ := fun obj s₁ => s₁.TypeIs obj "tuple" ∧ Q obj s₁) F.called_tuple (F.typeCall_tuple_1 _) F.entry_object_init
    (tuple_new_zip (A := A.in1) hh D Z hz hn hm fun h' acc hk hacc hd => ⟨⟨_, Heap.get?_push_size _ rfl, rfl⟩, hQ h' acc hk hacc hd⟩) fun obj s₁ h₁ => ?_
  exact ⟨h₁.1, F.args_object_init_2 obj _, object_init_meets F.called_tuple.init.lookup F.called_tuple.made (by decide) prog w A.in1 _ s₁ ⟨h₁.1, rfl, h₁.2⟩⟩
end
namespace L2E
open L2
section
variable {X : Cx} {pins : List (Addr × Obj)} {σ : L2.St} {s : Shared}
/-- pairs that stand in h', tracked one behind another -/
theorem track_pairs {h' : Heap} : ∀ (ts : List (Addr × V × V)) (H : Hp) (G : Heap), (∀ b o, G.get? b = some o → h'.get? b = some o) → (∀ t ∈ ts, G.get? t.1 = none ∧ H t.1 = none ∧ ∃ u w, IsPair h' t.1 u w ∧ RelV t.2.1 u ∧ RelV t.2.2 w) → (ts.map (·.1)).Nodup →
    Inv X pins σ H { s with heap := G } → ∃ H2, Inv X pins σ H2 { s with heap := h' } ∧ (∀ b o, H b = some o → H2 b = some o) ∧ ∀ t ∈ ts, H2 t.1 = some (.tup [t.2.1, t.2.2]) := by
  intro ts
  induction ts with
  | nil => intro H G hG _ _ I; exact ⟨H, I.kept (t' := s.toks) hG, fun _ _ e => e, fun t ht => absurd ht (by simp)⟩
  | cons t r ih =>
    intro H G hG ht nd I
    obtain ⟨t1, t2, u, w, t3, t4, t5⟩ := ht t List.mem_cons_self
    rw [List.map_cons, List.nodup_cons] at nd
    obtain ⟨G1, g1, g2⟩ := restrict h' fun b => decide (b = t.1) || (G.get? b).isSome
    have k1 : ∀ b o, G.get? b = some o → G1.get? b = some o := fun b o e => by
      rw [g1 b (by simp [e])]; exact hG b o e
    have n1 : ∀ b, b ≠ t.1 → G.get? b = none → G1.get? b = none := fun b hb e => g2 b (by simp [hb, e])
    have p1 : IsPair G1 t.1 u w := by
      show G1.get? t.1 = _
      rw [g1 t.1 (by simp)]; exact t3
    have I1 : Inv X pins σ (upd H t.1 (.tup [t.2.1, t.2.2])) { s with heap := G1 } :=
      I.laidN (t' := s.toks) k1 t1 t2 (show ObjOk X.prog X.w _ G1 _ (.tup [t.2.1, t.2.2]) from ⟨by show 2 ≤ sizeLine; decide, [u, w], .cons t4 (.cons t5 .nil), ⟨_, p1, rfl, _, rfl⟩⟩)
    obtain ⟨H2, I2, a1, a2⟩ := ih (upd H t.1 (.tup [t.2.1, t.2.2])) G1 (fun b o e => by
        by_cases hb : (decide (b = t.1) || (G.get? b).isSome) = true
        · rw [g1 b hb] at e; exact e
        · rw [g2 b (Bool.eq_false_iff.mpr hb)] at e; cases e)
      (fun q hq => by
        have hne : q.1 ≠ t.1 := fun z => nd.1 (by rw [← z]; exact List.mem_map.mpr ⟨q, hq, rfl⟩)
        obtain ⟨q1, q2, q3⟩ := ht q (List.mem_cons_of_mem _ hq)
        exact ⟨n1 _ hne q1, by rw [upd_ne hne]; exact q2, q3⟩) nd.2 I1
    refine ⟨H2, I2, fun b o e => a1 b o (by rw [upd_ne (ne_of_none e t2)]; exact e), fun q hq => ?_⟩
    rcases List.mem_cons.mp hq with e | hq
    · rw [e]; exact a1 _ _ upd_same
    · exact a2 q hq
end
def adr : Value → Addr
  | .ref T => T
  | _ => 0
theorem vals_adr : ∀ {l : List Value}, (∀ v ∈ l, ∃ T, v = Value.ref T) → Vals ((l.map adr).map V.ref) l
  | [], _ => .nil
  | v :: l, h => by
    obtain ⟨T, e⟩ := h v List.mem_cons_self
    subst e
    exact .cons rfl (vals_adr fun v hv => h v (List.mem_cons_of_mem _ hv))
theorem nodup_adr : ∀ {l : List Value}, (∀ v ∈ l, ∃ T, v = Value.ref T) → l.Nodup → (l.map adr).Nodup
  | [], _, _ => .nil
  | v :: l, h, nd => by
    rw [List.nodup_cons] at nd
    rw [List.map_cons, List.nodup_cons]
    refine ⟨fun hm => ?_, nodup_adr (fun v hv => h v (List.mem_cons_of_mem _ hv)) nd.2⟩
    obtain ⟨u, hu, e⟩ := List.mem_map.mp hm
    obtain ⟨T, e1⟩ := h v List.mem_cons_self
    obtain ⟨U, e2⟩ := h u (List.mem_cons_of_mem _ hu)
    subst e1 e2
    have : U = T := e
    subst this
    exact nd.1 hu
theorem nodup_dst {acc : Array Value} (h : Dst acc) : acc.toList.Nodup := by
  refine List.pairwise_iff_getElem.mpr fun i j hi hj hij z => ?_
  have e1 : acc[i]? = some acc.toList[i] := by rw [← Array.getElem?_toList, List.getElem?_eq_getElem hi]
  have e2 : acc[j]? = some acc.toList[i] := by rw [← Array.getElem?_toList, z, List.getElem?_eq_getElem hj]
  exact absurd (h i j _ e1 e2) (Nat.ne_of_lt hij)
theorem ne_n {a b : Nat} (h : a ≠ b) : (a : Addr) ≠ (b : Addr) := h
theorem vals_back {xs : List V} {us : List Value} (r : Vals xs us) {j : Nat} {u : Value} (h : us[j]? = some u) : ∃ x, xs[j]? = some x ∧ RelV x u := by
  have hl : j < xs.length := by rw [r.length]; exact (List.getElem?_eq_some_iff.mp h).1
  obtain ⟨u', h1, h2⟩ := r.get (List.getElem?_eq_getElem hl)
  rw [h] at h1
  cases h1
  exact ⟨_, List.getElem?_eq_getElem hl, h2⟩
/-- tuple(zip(a, b)), a and b tuples -/
def tTupZip (K : PySem.W.Frag) (ta : TA) : TE := fun σ H Q => ta σ H fun vs H1 => ∃ (a b : Addr) (xs ys : List V), vs = [.ref a, .ref b] ∧ SqT K H1 a xs ∧ SqT K H1 b ys ∧
  ∀ (H2 : Hp) (ts : List Addr) (q : Addr), (∀ b o, H1 b = some o → H2 b = some o) → ts.length = min xs.length ys.length → (∀ (j : Nat) (t : Addr), ts[j]? = some t → ∃ x y, xs[j]? = some x ∧ ys[j]? = some y ∧ H2 t = some (.tup [x, y])) → H2 q = none → Q (.ref q) (upd H2 q (.tup (ts.map V.ref)))
theorem pe_tupZip {X : Cx} {e e2 : Expr} {ta : TA} {p pos p2 pos2 : Pos} (hc : X.calm = true) (hg : Gl X "tuple") (hm : X.mg "tuple" = none) (hg2 : Gl X "zip") (hm2 : X.mg "zip" = none) (ha : PA X [e, e2] ta)
    (hs : starEach [e, e2] X.env = (false, eval e X.env) :: starEach [e2] X.env) (hpl : (backTo pos2 (starEach [e2] X.env)).any (·.1) = false) :
    PE X (.Call (.Name "tuple" p) [.Call (.Name "zip" p2) [e, e2] [] pos2] [] pos) (tTupZip X.K ta) := by
  refine ⟨fun pins s σ H Q I h => ?_⟩
  refine Call_ (ld_blt I hg hm boot_tuple (PyProof.Rows.callWith_type1 (args_cons ?_ rfl) rfl))
  refine Call_ (ld_blt I hg2 hm2 PyProof.Rows.boot_zip (PyProof.Rows.callWith_type1 (thn (ha.run pos2 pins s σ H _ I h) fun us s1 ⟨vs, H1, I1, r1, q1⟩ => ?_) hs hpl))
  obtain ⟨a, b, xs, ys, ev, hqx, hqy, q1⟩ := q1
  subst ev
  obtain ⟨u1, u2, rfl, ra, rb⟩ : ∃ u1 u2, us = [u1, u2] ∧ RelV (.ref a) u1 ∧ RelV (.ref b) u2 := by
    cases r1 with
    | cons r rr => cases rr with
      | cons r2 rn => cases rn; exact ⟨_, _, rfl, r, r2⟩
  obtain rfl : u1 = .ref a := ra
  obtain rfl : u2 = .ref b := rb
  obtain ⟨its, rv, pa, hza⟩ := I1.tuple hqx
  obtain ⟨its2, rv2, pb, hzb⟩ := I1.tuple hqy
  have lx := rv.length
  have ly := rv2.length
  have la : a < s1.heap.objs.size := by obtain ⟨_, z, _⟩ := pa; exact Heap.lt_size z
  have lb : b < s1.heap.objs.size := by obtain ⟨_, z, _⟩ := pb; exact Heap.lt_size z
  show wpAny _ _ (call (.type "zip") [.ref a, .ref b]) _ _ _
  refine call_zipT pa pb fun h' z1 z2 z3 z4 z5 hsz kp => args_nil ?_
  have up : ∀ {l : Addr} {us : Array Value}, s1.heap.IsTuple l us → h'.IsTuple l us := fun ⟨o, e, r⟩ => ⟨o, kp _ _ e, r⟩
  have nn : ∀ i j : Nat, i ≠ j → s1.heap.objs.size + i ≠ s1.heap.objs.size + j := fun i j h e => h (Nat.add_left_cancel e)
  have na : ∀ (l : Addr) (i : Nat), l < s1.heap.objs.size → l ≠ s1.heap.objs.size + i := fun l i h => Nat.ne_of_lt (Nat.lt_of_lt_of_le h (Nat.le_add_right _ _))
  have D : ZipApart (s1.heap.objs.size + 4) (s1.heap.objs.size + 2) (s1.heap.objs.size + 3) s1.heap.objs.size (s1.heap.objs.size + 1) a b :=
    ⟨nn 2 4 (by decide), nn 3 4 (by decide), nn 0 4 (by decide), nn 1 4 (by decide), nn 2 3 (by decide), nn 2 0 (by decide), nn 2 1 (by decide), nn 3 0 (by decide), nn 3 1 (by decide), nn 0 1 (by decide),
      na a 4 la, na a 3 la, na a 0 la, na a 1 la, na b 4 lb, na b 3 lb, na b 0 lb, na b 1 lb⟩
  show wpAny _ _ (call (.type "tuple") [.ref (s1.heap.objs.size + 4)]) _ _ _
  refine call_tuple_zip (n := min its.length its2.length) (I1.ok.hd hc) D (s := { s1 with heap := h' }) ⟨.inl ⟨z1, _, _, z3⟩, z2, z4, z5, up pa, up pb, ⟨_, z3⟩⟩ z1 (by omega) (by simp) fun h2 acc kp2 ha hd => ?_
  have kp3 : ∀ c o, s1.heap.get? c = some o → h2.get? c = some o := fun c o e => by
    have lc := Heap.lt_size e
    refine kp2 c o ?_ (kp c o e)
    simp only [List.mem_cons, not_or, List.not_mem_nil, not_false_eq_true, and_true]
    exact ⟨na c 4 lc, na c 3 lc, na c 0 lc, na c 1 lc⟩
  have hsz : h'.objs.size = s1.heap.objs.size + 5 := hsz
  obtain ⟨G, g1, g2⟩ := restrict h2 fun c => (s1.heap.get? c).isSome
  have IG : Inv X pins σ H1 { s1 with heap := G } := I1.kept (t' := s1.toks) fun c o e => by rw [g1 c (by simp [e])]; exact kp3 c o e
  have isr : ∀ v ∈ acc.toList, ∃ T, v = Value.ref T := fun v hv => by
    obtain ⟨j, hj⟩ := List.getElem?_of_mem hv
    obtain ⟨T, _, _, e, _⟩ := ha.2 j v (by rw [← Array.getElem?_toList]; exact hj)
    exact ⟨T, e⟩
  have hlen : (acc.toList.map adr).length = min xs.length ys.length := by rw [List.length_map, Array.length_toList, ha.1, lx, ly]
  have get3 : ∀ (j : Nat) (t : Addr), (acc.toList.map adr)[j]? = some t → ∃ (u w : Value) (x y : V), xs[j]? = some x ∧ ys[j]? = some y ∧ IsPair h2 t u w ∧ RelV x u ∧ RelV y w ∧ s1.heap.objs.size ≤ t := fun j t e => by
    rw [List.getElem?_map] at e
    obtain ⟨v, hv, e⟩ := Option.map_eq_some_iff.mp e
    obtain ⟨T, u, w, e1, e2, e3, e4, _, e6⟩ := ha.2 j v (by rw [← Array.getElem?_toList]; exact hv)
    subst e1
    obtain rfl : T = t := e
    have hx : its[j]? = some u := by simpa using e2
    have hy : its2[j]? = some w := by simpa using e3
    obtain ⟨x, hx1, hx2⟩ := vals_back rv hx
    obtain ⟨y, hy1, hy2⟩ := vals_back rv2 hy
    have e6 : h'.objs.size ≤ T := e6
    exact ⟨u, w, x, y, hx1, hy1, e4, hx2, hy2, by omega⟩
  obtain ⟨H2, I2, a1, a2⟩ := track_pairs (h' := h2) ((acc.toList.map adr).zip (xs.zip ys)) H1 G (fun c o e => by
      by_cases hb : (s1.heap.get? c).isSome = true
      · rw [g1 c hb] at e; exact e
      · rw [g2 c (Bool.eq_false_iff.mpr hb)] at e; cases e)
    (fun t ht => by
      obtain ⟨j, hj⟩ := List.getElem?_of_mem ht
      rw [List.getElem?_zip_eq_some] at hj
      obtain ⟨j1, j2⟩ := hj
      rw [List.getElem?_zip_eq_some] at j2
      obtain ⟨u, w, x, y, b1, b2, b3, b4, b5, b6⟩ := get3 j _ j1
      have hn : s1.heap.get? t.1 = none := by
        cases q : s1.heap.get? t.1 with
        | none => rfl
        | some o => exact absurd (Heap.lt_size q) (Nat.not_lt.mpr b6)
      refine ⟨g2 _ (by rw [hn]; rfl), I1.hok.fresh b6, u, w, b3, ?_, ?_⟩
      · rw [j2.1] at b1; cases b1; exact b4
      · rw [j2.2] at b2; cases b2; exact b5)
    (by rw [List.map_fst_zip (by rw [hlen, List.length_zip]; exact Nat.le_refl _)]; exact nodup_adr isr (nodup_dst hd)) IG
  have I3 : Inv X pins σ (upd H2 h2.objs.size (.tup ((acc.toList.map adr).map V.ref))) { s1 with heap := h2.push { cls := .type "tuple", data := .seq acc } } :=
    I2.laid (t' := s1.toks) (fun c o e => Heap.get?_push_of_some _ e) (Nat.le_refl _) (show ObjOk X.prog X.w _ _ _ (.tup ((acc.toList.map adr).map V.ref)) from ⟨by rw [List.length_map, hlen]; omega, acc.toList, vals_adr isr, by rw [Array.toArray_toList]; exact IsTup.new _ _⟩)
  refine ⟨.ref h2.objs.size, _, I3, rfl, q1 H2 (acc.toList.map adr) h2.objs.size a1 hlen (fun j t e => ?_) (I2.hok.fresh (Nat.le_refl _))⟩
  obtain ⟨u, w, x, y, b1, b2, _⟩ := get3 j t e
  refine ⟨x, y, b1, b2, a2 (t, x, y) ?_⟩
  refine List.mem_of_getElem? (i := j) ?_
  rw [List.getElem?_zip_eq_some]
  exact ⟨e, by rw [List.getElem?_zip_eq_some]; exact ⟨b1, b2⟩⟩
end L2E
end EVZ
end
section
set_option Elab.async false
set_option linter.all false
set_option maxRecDepth 100000
/-! EvSndC: tuple(zip(a, b)). -/
namespace EV
open PySem L2

theorem rep_zip {H : Hp} {as : List Addr} {H2 : Hp} {h : PH} (rh : RepH H as h) (e : Ext H as H2 as) : ∀ {ps qs : List PV} {xs ys : List V} {ts : List Addr}, RepL H as ps xs → RepL H as qs ys → ts.length = min xs.length ys.length →
    (∀ (j : Nat) (t : Addr), ts[j]? = some t → ∃ x y, xs[j]? = some x ∧ ys[j]? = some y ∧ H2 t = some (.tup [x, y])) → RepL H2 as (List.zipWith (fun x y => .tup [x, y]) ps qs) (ts.map V.ref)
  | [], qs, xs, ys, ts, r1, r2, hl, ht => by
    rw [r1.nilE] at hl
    have : ts = [] := List.eq_nil_of_length_eq_zero (by simpa using hl)
    subst this
    exact .nil
  | p :: ps, [], xs, ys, ts, r1, r2, hl, ht => by
    rw [r2.nilE] at hl
    have : ts = [] := List.eq_nil_of_length_eq_zero (by simpa using hl)
    subst this
    exact .nil
  | p :: ps, q :: qs, xs, ys, ts, r1, r2, hl, ht => by
    obtain ⟨u, us, rfl, a1, a2⟩ := r1.consE
    obtain ⟨w, ws, rfl, b1, b2⟩ := r2.consE
    cases ts with
    | nil => simp at hl
    | cons t ts =>
      obtain ⟨x, y, e1, e2, e3⟩ := ht 0 t rfl
      cases e1
      cases e2
      refine .cons (.tup e3 (.cons (a1.ext rh e) (.cons (b1.ext rh e) .nil))) (rep_zip rh e a2 b2 (by simp at hl; omega) fun j t h => ?_)
      obtain ⟨x, y, h1, h2, h3⟩ := ht (j + 1) t (by simpa using h)
      exact ⟨x, y, by simpa using h1, by simpa using h2, h3⟩
theorem RepH.more {H H2 : Hp} {as : List Addr} {h : PH} (rh : RepH H as h) (e : ∀ b o, H b = some o → H2 b = some o) : Ext H as H2 as ∧ RepH H2 as h := by
  have e1 : Ext H as H2 as := ⟨⟨[], by simp⟩, fun a o q _ => e a o q, fun a o q => ⟨o, e a o q⟩⟩
  exact ⟨e1, rh.ext e1 fun a ha => by obtain ⟨o, q⟩ := rh.there ha; rw [q]; exact e a o q⟩
section
variable {X : Cx} {T : XTab} {W : WX} {c : Cc} {pos p p2 pos2 : Pos} {e e2 : Expr} {d d2 : E}
theorem s_tupZip (hc : X.calm = true) (hg : Gl X "tuple") (hm : X.mg "tuple" = none) (hg2 : Gl X "zip") (hm2 : X.mg "zip" = none) (ha : PA X [e, e2] (rdL T W c [d, d2])) (hs : noStar e = true) (hs2 : noStar e2 = true) :
    PE X (.Call (.Name "tuple" p) [.Call (.Name "zip" p2) [e, e2] [] pos2] [] pos) (rdE T W c (.con .tuple (.zip d d2))) := by
  refine PE.imp (EVZ.L2E.pe_tupZip hc hg hm hg2 hm2 ha (each_noStar hs) (any_noStar (by simp [hs2]))) fun σ H Q ⟨as, r, h, p, g⟩ => ?_
  unfold evE evI at g
  have e0 : (((evE c d r h).bnd fun x h => (evE c d2 r h).bnd fun y h => ofOptI h (zipIt x y h)).bnd fun w h => conW .tuple w h) = (evL c [d, d2] r h).bnd fun vs h => match vs with | [x, y] => (ofOptI h (zipIt x y h)).bnd fun w h => conW .tuple w h | _ => .no := by
    rw [ev2]
    simp only [bnd_assoc]
    rfl
  rw [e0] at g
  refine ⟨as, r, h, p, (g.bnd (repx := rL) p).mono ?_⟩
  rintro us H1 ⟨as1, h1, vs, e1, p1, rl, _, g1⟩
  split at g1
  · rename_i x y ev
    obtain ⟨u, w, rfl, ru, rw'⟩ := rl2 rl
    cases hz : zipIt x y h1 with
    | none => rw [hz] at g1; exact g1.elim
    | some it =>
      rw [hz] at g1
      have g1 : gotR T W (conW .tuple it h1) as1 H1 σ rV Q := g1
      unfold zipIt at hz
      split at hz
      · cases hz; exact g1.elim
      · rename_i xs ys h2 h3
        cases hz
        obtain ⟨a, b, rfl, sr, ws, sq⟩ := toIt_snd (K := X.K) p1.hp ru h2
        obtain ⟨a2, b2, rfl, sr2, ws2, sq2⟩ := toIt_snd (K := X.K) p1.hp rw' h3
        cases sr with
        | vals q1 l1 =>
        cases sr2 with
        | vals q2 l2 =>
        refine ⟨a, a2, _, _, rfl, .of q1, .of q2, fun H2 ts q ek hl ht hq => ?_⟩
        obtain ⟨e2, rh2⟩ := p1.hp.more ek
        have rz := rep_zip p1.hp e2 l1 l2 hl ht
        exact (g1.ext e2).newTup rh2 rz hq
      · cases hz
  · exact g1.elim
end
end EV
end
section
set_option Elab.async false
set_option linter.all false
set_option maxRecDepth 100000
/-! EvCmp: from the program's form to the own language. -/
namespace EV
open PySem L2

/-- the built-ins that are known -/
inductive Bn where
  | len | int | min | max | isinstance | tuple | list | all | any | sum | sorted | range | enumerate | zip | bool | str | dict
def Bn.nm : Bn → Str
  | .len => "len" | .int => "int" | .min => "min" | .max => "max" | .isinstance => "isinstance" | .tuple => "tuple" | .list => "list" | .all => "all" | .any => "any"
  | .sum => "sum" | .sorted => "sorted" | .range => "range" | .enumerate => "enumerate" | .zip => "zip" | .bool => "bool" | .str => "str" | .dict => "dict"
def Bn.ty : Bn → Option Ty
  | .int => some .int | .bool => some .bool | .str => some .str | .tuple => some .tuple | .list => some .list | .dict => some .dict
  | _ => none
theorem Bn.ty_nm {b : Bn} {t : Ty} (h : b.ty = some t) : b.nm = t.st := by
  cases b <;> first | (cases h; rfl) | cases h
def mtNm : Mt → Str
  | .append => "append" | .get1 => "get" | .get2 => "get" | .index => "index" | .pop => "pop"
/-- what a global name is -/
inductive GK where
  | fn (f : Nat) (ps : List Str) | con (g : Nat) | blt (b : Bn)
structure Gx where
  sc : Scope
  N : List Str
  tab : List (Str × GK)
  mts : List (Str × Mt)
  hot : Option Scope
  kws : List (Nat × Nat × List Str × List Nat)
  tds : List Nat
abbrev Rec := Gx → Expr → E
def Gx.slot (G : Gx) (x : Str) : Option Nat := G.N.findIdx? (· == x)
def Gx.gl (G : Gx) (x : Str) : Bool := decide (G.sc.names.lookup x = some .globalImplicit)
/-- a name that may be stored -/
def Gx.okT (G : Gx) (x : Str) : Bool := match G.sc.names.lookup x with
  | some .local => true
  | some .cell => match G.hot with
    | none => true
    | some s => s.names.lookup x == some .cell
  | _ => false
def Gx.blk (G : Gx) (scope : Scope) : Gx := { G with sc := relS scope G.sc, hot := some scope }
def opOf : Operator → Option Op
  | .Add => some .add | .Sub => some .sub | .Mult => some .mul | .FloorDiv => some .fdiv | .Mod => some .mod | .Pow => some .pow
  | _ => none
def cpOf : CmpOp → Option Cp
  | .Lt => some .lt | .LtE => some .le | .Gt => some .gt | .GtE => some .ge | .Eq => some .eq | .NotEq => some .ne | .Is => some .is | .IsNot => some .isnot | .In => some .isin | .NotIn => some .notin
theorem opOf_py {p : Operator} {o : Op} (h : opOf p = some o) : p = o.py := by cases p <;> first | (cases h; rfl) | cases h
theorem cpOf_py {p : CmpOp} {o : Cp} (h : cpOf p = some o) : p = o.py := by cases p <;> first | (cases h; rfl) | cases h

def cName (G : Gx) (x : Str) : E := match G.sc.names.lookup x with
  | some .globalImplicit => match G.tab.lookup x with
    | some (.con g) => .glb g
    | _ => .nop
  | some .globalExplicit => .nop
  | some _ => if (x == ("__debug__" : Str)) || (x == ("__classdict__" : Str)) then .nop else match G.slot x with
    | some i => .var i
    | none => .nop
  | none => .nop
def cConst : Const → E
  | .none => .cst .non
  | .bool b => .cst (.bl b)
  | .int i => .cst (.int i)
  | .str s => .cst (.str s)
  | _ => .nop
def cBool (r : Rec) (G : Gx) (op : BoolOp) : List Expr → E
  | [] => .nop
  | [a] => r G a
  | a :: b :: rest => match op with
    | .And => .and (r G a) (cBool r G op (b :: rest))
    | .Or => .or (r G a) (cBool r G op (b :: rest))
def cCmp (r : Rec) (G : Gx) (a : Expr) (ops : List CmpOp) (bs : List Expr) : E := match ops, bs with
  | [p], [b] => if behindInMarks p b then .nop else match cpOf p with
    | some o => .cmp o (r G a) (r G b)
    | none => .nop
  | [p, q], [b, e] => if lastMarks [p, q] [b, e] then .nop else match cpOf p, cpOf q with
    | some o, some o2 => .chn o o2 (r G a) (r G b) (r G e)
    | _, _ => .nop
  | _, _ => .nop
/-- plain as an index -/
def cPart (r : Rec) (G : Gx) : Option Expr → Option E
  | none => some .nop
  | some e => if (r G e).isNop then none else some (r G e)
def cSub (r : Rec) (G : Gx) (a b : Expr) : E := match b with
  | .Slice lo hi none _ => match cPart r G lo, cPart r G hi with
    | some l, some u => .slc (r G a) l u
    | _, _ => .nop
  | .Slice .. => .nop
  | b => .idx (r G a) (r G b)
/-- pairs of a display -/
def cPairs (r : Rec) (G : Gx) : List (Option Expr) → List Expr → Option (List (E × E))
  | [], [] => some []
  | some k :: ks, v :: vs => (cPairs r G ks vs).map ((r G k, r G v) :: ·)
  | _, _ => none
def cDict (r : Rec) (G : Gx) (ks : List (Option Expr)) (vs : List Expr) (pos : Pos) : E := match ks, vs with
  | [], [] => .dnew (G.tds.contains pos.line)
  | k :: ks, vs => if (k :: ks).length ≤ 15 then match cPairs r G (k :: ks) vs with
    | some prs => .dct (flatE prs)
    | none => .nop
    else .nop
  | _, _ => .nop
def ownOf (G : Gx) (scope : Scope) : List (Str × Nat) := scope.names.filterMap fun y => match y.2 with
  | .local => (G.slot y.1).map fun i => (y.1, i)
  | .cell => (G.slot y.1).map fun i => (y.1, i)
  | _ => none
def cTg : Nat → Gx → Expr → Option Tg
  | 0, _, _ => none
  | n + 1, G, e => match e with
    | .Name x _ => if G.okT x then (G.slot x).map .nm else none
    | .Tuple es _ _ => if es.all noStar then (optAll (cTg n G) es).map .tup else none
    | _ => none
def plainIt : Expr → Bool
  | .Set .. => false
  | _ => true
def isTupT : Expr → Bool
  | .Tuple .. => true
  | _ => false
def cItC (r : Rec) (G : Gx) (tg it : Expr) (b : Bn) (as : List Expr) : E := match b, as with
  | .range, [e] => if noStar e then .rng (.cst (.int 0)) (r G e) else .nop
  | .range, [e, e2] => if noStar e && noStar e2 then .rng (r G e) (r G e2) else .nop
  | .enumerate, [e] => if noStar e && isTupT tg then .enm (r G e) else .nop
  | .zip, [e, e2] => if noStar e && noStar e2 && isTupT tg then .zip (r G e) (r G e2) else .nop
  | _, _ => .itv (r G it)
/-- the call of a built-in -/
def bltOf (G : Gx) : Expr → Option (Bn × List Expr)
  | .Call (.Name y _) as [] _ => if G.gl y then match G.tab.lookup y with
    | some (.blt b) => some (b, as)
    | _ => none
    else none
  | _ => none
def cIt (r : Rec) (G : Gx) (tg it : Expr) : E := match bltOf G it with
  | some (b, as) => cItC r G tg it b as
  | none => .itv (r G it)
structure Cpr where
  elt : E
  t : Tg
  it : E
  cond : E
  own : List (Str × Nat)
def cComp (r : Rec) (G : Gx) (elt : Expr) (gens : List Comprehension) (scope : Scope) : Option Cpr := match gens with
  | [⟨tg, it, ifs, a⟩] => if a = 0 then if plainIt it then if blkC G.N G.sc scope (ownOf G scope) then match cTg 8 (G.blk scope) tg with
    | some t => if (tgS t).all (fun i => ((ownOf G scope).map (·.2)).contains i) then match ifs with
      | [] => some ⟨r (G.blk scope) elt, t, cIt r G tg it, .cst (.bl true), ownOf G scope⟩
      | [k] => some ⟨r (G.blk scope) elt, t, cIt r G tg it, r (G.blk scope) k, ownOf G scope⟩
      | _ => none
      else none
    | none => none
    else none else none else none
  | _ => none
/-- what a consumer is handed -/
def cW (r : Rec) (G : Gx) (e : Expr) : E := match e with
  | .ListComp elt gens scope _ => match cComp r G elt gens scope with
    | some q => .itc q.elt q.t q.it q.cond (q.own.map (·.2))
    | none => .its (r G e)
  | e => .its (r G e)
def cTup (r : Rec) (G : Gx) (e : Expr) : E := match bltOf G e with
  | some (.range, [a]) => if noStar a then .con .tuple (.rng (.cst (.int 0)) (r G a)) else .nop
  | some (.range, [a, b]) => if noStar a && noStar b then .con .tuple (.rng (r G a) (r G b)) else .nop
  | some (.zip, [a, b]) => if noStar a && noStar b then .con .tuple (.zip (r G a) (r G b)) else .nop
  | _ => .con .tuple (cW r G e)
def cIsi (r : Rec) (G : Gx) (e ty : Expr) : E := match ty with
  | .Name y _ => if G.gl y then match G.tab.lookup y with
    | some (.blt b) => match b.ty with
      | some t => .bf (.isinst t) [r G e]
      | none => .nop
    | _ => .nop
    else .nop
  | _ => .nop
def cBlt1 (r : Rec) (G : Gx) (b : Bn) (e : Expr) : E := match b with
  | .len => .bf .len [r G e]
  | .int => .bf .int [r G e]
  | .tuple => cTup r G e
  | .list => .con .list (cW r G e)
  | .all => .con .all (cW r G e)
  | .any => .con .any (cW r G e)
  | .sum => .con .sum (cW r G e)
  | .min => .con .min (cW r G e)
  | .max => .con .max (cW r G e)
  | .sorted => .con .sorted (cW r G e)
  | _ => .nop
def cBlt2 (r : Rec) (G : Gx) (b : Bn) (e e2 : Expr) : E := match b with
  | .min => .bf .min [r G e, r G e2]
  | .max => .bf .max [r G e, r G e2]
  | .isinstance => cIsi r G e e2
  | _ => .nop
def cBlt (r : Rec) (G : Gx) (b : Bn) (es : List Expr) : E := match es with
  | [e] => if noStar e then cBlt1 r G b e else .nop
  | [e, e2] => if noStar e && noStar e2 then cBlt2 r G b e e2 else .nop
  | _ => .nop
def kwVal : Keyword → Expr
  | ⟨_, e, _⟩ => e
def cFn (r : Rec) (G : Gx) (f : Nat) (es : List Expr) (kws : List Keyword) : E := if es.all noStar then match kws with
  | [] => .call f (es.map (r G))
  | kws => match kwNm kws with
    | some ks => match G.kws.find? (fun q => q.1 == f && (q.2.1 == es.length && q.2.2.1 == ks)) with
      | some q => .callK f (es.map (r G)) (kws.map fun k => r G (kwVal k)) q.2.2.2
      | none => .nop
    | none => .nop
  else .nop
def cMt (r : Rec) (G : Gx) (o : Expr) (m : Mt) (es : List Expr) : E := match m, es with
  | .append, [e] => if noStar e then .mt .append (r G o) [r G e] else .nop
  | .index, [e] => if noStar e then .mt .index (r G o) [r G e] else .nop
  | .get1, [e] => if noStar e then .mt .get1 (r G o) [r G e] else .nop
  | .get1, [e, d] => if noStar e && noStar d then .mt .get2 (r G o) [r G e, r G d] else .nop
  | _, _ => .nop
def cCall (r : Rec) (G : Gx) (f : Expr) (es : List Expr) (kws : List Keyword) (cpos : Pos) : E := match f with
  | .Name x _ => if G.gl x then match G.tab.lookup x with
    | some (.fn f _) => cFn r G f es kws
    | some (.blt b) => match kws with
      | [] => cBlt r G b es
      | _ => .nop
    | _ => .nop
    else .nop
  | .Attribute o m apos => match kws with
    | [] => if plainBase o && (apos.endLine == cpos.line) then match G.mts.lookup m with
      | some k => cMt r G o k es
      | none => .nop
      else .nop
    | _ => .nop
  | _ => .nop
def cStep (r : Rec) : Rec := fun G e => match e with
  | .Name x _ => cName G x
  | .Constant k _ _ => cConst k
  | .Tuple es _ _ => if es.all noStar then .tup (es.map (r G)) else .nop
  | .List es _ => if es.all noStar then .lst (es.map (r G)) else .nop
  | .BinOp a p b _ => match opOf p with
    | some o => .bin o (r G a) (r G b)
    | none => .nop
  | .UnaryOp .USub a _ => .neg (r G a)
  | .UnaryOp .Not a _ => .not (r G a)
  | .BoolOp op vs _ => cBool r G op vs
  | .Compare a ops bs _ => cCmp r G a ops bs
  | .IfExp t a b _ => .ite (r G t) (r G a) (r G b)
  | .Subscript a b _ => cSub r G a b
  | .Dict ks vs pos => cDict r G ks vs pos
  | .Call f es kws pos => cCall r G f es kws pos
  | .ListComp elt gens scope _ => match cComp r G elt gens scope with
    | some q => .comp q.elt q.t q.it q.cond (q.own.map (·.2))
    | none => .nop
  | _ => .nop
def cE : Nat → Rec
  | 0 => fun _ _ => .nop
  | n + 1 => cStep (cE n)

/-! ### statements -/
/-- how a tuple on both sides is stored -/
def swDec (sc : Scope) (ts vs : List Expr) : Option (Option (List Str)) :=
  if (!(ts.length == 2 || ts.length == 3) || vs.length != ts.length) = true then some none else
  if (vs.any fun | .Starred .. => true | _ => false) = true then some none else
  let line := (ts.head?.map (·.pos.line)).getD 0
  let names := ts.filterMap fun
    | .Name id pos => if (sc.names.lookup id == some .local && pos.line == line) = true then some id else none
    | _ => none
  if (names.length != ts.length || names.eraseDups.length != names.length) = true then some none else
  if vs.all (foldedForSure 8) = true then some none else
  if vs.all (constantsAlone 8) = true then none else some (some names)
def cPar (r : Rec) (G : Gx) (ts vs : List Expr) : S := match ts, vs with
  | [.Name x _, .Name y _], [a, b] => match G.slot x, G.slot y with
    | some i, some j => if G.sc.names.lookup x = some .local ∧ G.sc.names.lookup y = some .local ∧ i ≠ j ∧ noStar a = true ∧ noStar b = true then .asg (.tup [.nm i, .nm j]) (.tup [r G a, r G b]) else .bad
    | _, _ => .bad
  | [.Name x _, .Name y _, .Name z _], [a, b, e] => match G.slot x, G.slot y, G.slot z with
    | some i, some j, some l => if G.sc.names.lookup x = some .local ∧ G.sc.names.lookup y = some .local ∧ G.sc.names.lookup z = some .local ∧ (i ≠ j ∧ i ≠ l ∧ j ≠ l) ∧ noStar a = true ∧ noStar b = true ∧ noStar e = true then .asg (.tup [.nm i, .nm j, .nm l]) (.tup [r G a, r G b, r G e]) else .bad
    | _, _, _ => .bad
  | _, _ => .bad
def parNm : List Expr → List Str
  | [] => []
  | .Name x _ :: r => x :: parNm r
  | _ :: r => parNm r
def cAsgT (r : Rec) (G : Gx) (tg : Expr) (ts : List Expr) (e : Expr) : S := match e with
  | .Tuple vs _ _ => match swDec G.sc ts vs with
    | some none => match cTg 8 G tg with
      | some t => .asg t (r G e)
      | none => .bad
    | some (some ns) => if ns = parNm ts then cPar r G ts vs else .bad
    | none => .bad
  | e => if noComp e then match cTg 8 G tg with
      | some t => .asg t (r G e)
      | none => .bad
    else .bad
def swLc (G : Gx) (x : Str) (px lpos : Pos) (scope : Scope) : Bool := decide (G.sc.names.lookup x = some .local) && (px.line == lpos.line) && !(scope.names.any fun (n, k) => n == x && (k == .local || k == .cell))
def cAsgN (r : Rec) (G : Gx) (x : Str) (px : Pos) (e : Expr) : S := if G.okT x then match G.slot x with
  | some i => match e with
    | .ListComp elt gens scope lpos => match cComp r G elt gens scope with
      | some q => .asg (.nm i) (.comp q.elt q.t q.it q.cond (q.own.map (·.2)))
      | none => .bad
    | e => if noComp e then .asg (.nm i) (r G e) else .bad
  | none => .bad
  else .bad
def cAsg (r : Rec) (G : Gx) (tg e : Expr) : S := match tg with
  | .Name x px => cAsgN r G x px e
  | .Subscript o i _ => if notSlice i && noComp e then .set (r G o) (r G i) (r G e) else .bad
  | .Tuple ts _ _ => cAsgT r G tg ts e
  | _ => .bad
def cAug (r : Rec) (G : Gx) (tg : Expr) (p : Operator) (e : Expr) : S := match tg with
  | .Name x _ => if G.okT x then match G.slot x, opOf p with
    | some i, some .add => .aug i .add (r G e)
    | some i, some .sub => .aug i .sub (r G e)
    | _, _ => .bad
    else .bad
  | _ => .bad
mutual
def cS (r : Rec) (G : Gx) : Stmt → S
  | .Pass _ => .pass
  | .Expr e _ => if noComp e then .expr (r G e) else .bad
  | .Return none _ => .retN
  | .Return (some e) _ => .ret (r G e)
  | .Break _ => .brk
  | .Continue _ => .cnt
  | .Assign [tg] e _ => cAsg r G tg e
  | .AugAssign tg p e _ => cAug r G tg p e
  | .If t a b _ => .ite (r G t) (cB r G a) (cB r G b)
  | .While t b [] _ => .whl (r G t) (cB r G b)
  | .For tg it b [] _ => if plainIt it then match cTg 8 G tg with
    | some t => .forS t (cIt r G tg it) (cB r G b)
    | none => .bad
    else .bad
  | .Try b (_ :: _) [] [] _ => .tryN (cB r G b)
  | _ => .bad
def cB (r : Rec) (G : Gx) : List Stmt → List S
  | [] => []
  | s :: ss => cS r G s :: cB r G ss
end
end EV
end
section
set_option Elab.async false
set_option linter.all false
set_option maxRecDepth 100000
/-! EvCmpS: the compile function is sound. -/
namespace EV
open PySem L2

structure OkX (X : Cx) (G : Gx) (T : XTab) (W : WX) (c : Cc) : Prop where
  sc : X.env.scope = G.sc
  N : X.N = G.N
  nd : X.N.Nodup
  calm : X.calm = true
  un : X.A.units + 65 < cLine
  tk : Takes X W
  po : PassesOwn (model X.prog X.w) X.A X.env X.xe
  fn : ∀ x, match G.hot with
    | none => X.fn x = true
    | some s => X.fn x = (s.names.lookup x == some .cell)
  kd : X.env.scope.kind = .function
  gf : ∀ x f ps, G.tab.lookup x = some (.fn f ps) → ∃ k fa fd, FnOk X.prog X.w X.K X.mg X.base (L2.CX X.prog X.w) k fa fd ps (spF T c.call f) ∧ Room k X.A ∧ X.mg x = some (.ref fa) ∧ PySem.W.keepIn X.K (.ref fa) = true ∧ Binds X.K fd ps [] ∧ (x == ("__debug__" : Str)) = false ∧
    ∀ n ks ord, (f, n, ks, ord) ∈ G.kws → KwOk X fd ps n ks ord
  gc : ∀ x g, G.tab.lookup x = some (.con g) → ∃ u v y, X.mg x = some u ∧ RelV v u ∧ c.glb g = some y ∧ (∀ H as, RepV H as y v) ∧ (x == ("__debug__" : Str)) = false
  gb : ∀ x b, G.tab.lookup x = some (.blt b) → x = b.nm ∧ X.mg x = none
  gm : ∀ x m, G.mts.lookup x = some m → x = mtNm m

theorem optAll_len {α β : Type} {f : α → Option β} : ∀ {xs : List α} {ys : List β}, optAll f xs = some ys → ys.length = xs.length
  | [], ys, h => by cases h; rfl
  | x :: xs, ys, h => by
    obtain ⟨y, zs, h1, h2, rfl⟩ := optAll_consE h
    simp [optAll_len h2]
theorem takesN {X : Cx} : Takes X EV.W0 := fun _ _ ⟨_, _, _, _, _, _, _, _, _, _, _, _, _, _, _, _, w⟩ => w.elim
section
variable {X : Cx} {G : Gx} {T : XTab} {W : WX} {c : Cc} {pos : Pos}
theorem Gx.slotN (O : OkX X G T W c) {x : Str} {i : Nat} (h : G.slot x = some i) : X.N[i]? = some x := by
  rw [O.N]
  unfold Gx.slot at h
  obtain ⟨h1, h2, h3⟩ := List.findIdx?_eq_some_iff_getElem.mp h
  rw [List.getElem?_eq_getElem h1]
  simpa using h2
theorem OkX.gl (O : OkX X G T W c) {x : Str} (h : G.gl x = true) : Gl X x := by
  unfold Gx.gl at h
  show X.env.scope.names.lookup x = _
  rw [O.sc]
  exact of_decide_eq_true h
theorem OkX.okT (O : OkX X G T W c) {x : Str} (h : G.okT x = true) : Loc X.env.scope x ∧ (X.fn x = true ∨ X.env.scope.names.lookup x = some .local) := by
  unfold Gx.okT at h
  have F := O.fn x
  unfold L2.Loc
  rw [O.sc]
  split at h
  · rename_i q; exact ⟨.inl q, .inr q⟩
  · rename_i q
    refine ⟨.inr q, .inl ?_⟩
    cases hh : G.hot with
    | none => rw [hh] at F; exact F
    | some s => rw [hh] at F h; rw [F]; exact h
  · cases h
theorem OkX.blk (O : OkX X G T W c) {s : Shared} {H : Hp} {C : Addr} {cl : List (Str × Addr)} {fp : List Addr} {scope : Scope} (hk : scope.kind = .function) : OkX (X.blk s H scope (compEnvC scope cl C X.env) fp) (G.blk scope) T EV.W0 c where
  sc := by show relS scope X.env.scope = relS scope G.sc; rw [O.sc]
  N := O.N
  nd := O.nd
  calm := O.calm
  un := O.un
  tk := takesN
  po := PassesOwn.never
  fn := fun x => rfl
  kd := hk
  gf := O.gf
  gc := O.gc
  gb := O.gb
  gm := O.gm
theorem OkX.nox (O : OkX X G T W c) : OkX X.nox G T EV.W0 c where
  sc := O.sc
  N := O.N
  nd := O.nd
  calm := O.calm
  un := O.un
  tk := takesN
  po := PassesOwn.never
  fn := O.fn
  kd := O.kd
  gf := O.gf
  gc := O.gc
  gb := O.gb
  gm := O.gm
end
/-- what compiling must keep -/
def Snd (r : Rec) : Prop := ∀ (X : Cx) (G : Gx) (T : XTab) (W : WX) (c : Cc), OkX X G T W c → ∀ e : Expr, PE X e (rdE T W c (r G e)) ∧ PT X e (rdT T W c (r G e))

section
variable {X : Cx} {G : Gx} {T : XTab} {W : WX} {c : Cc} {pos : Pos}
theorem pe_nop {e : Expr} : PE X e (rdE T W c .nop) := ⟨fun pins s σ H Q I ⟨as, r, h, p, g⟩ => by unfold evE at g; exact g.elim⟩
theorem pt_nop {e : Expr} : PT X e (rdT T W c .nop) := ⟨fun pins s σ H Q I ⟨as, r, h, p, g⟩ => by unfold evE at g; exact g.elim⟩
theorem ps_bad {s : Stmt} : PS X s (rdS T W c .bad) := ⟨fun pins s σ H Q I ⟨as, r, h, p, g⟩ => by unfold exS at g; exact g.elim⟩
theorem both_nop {e : Expr} : PE X e (rdE T W c .nop) ∧ PT X e (rdT T W c .nop) := ⟨pe_nop, pt_nop⟩
theorem both_val {e : Expr} {d : E} (h : PE X e (rdE T W c d)) (hi : ∀ whole, isTrue e X.env whole = (do let v ← whole; standAt e.pos; holding [v] (truthy v))) : PE X e (rdE T W c d) ∧ PT X e (rdT T W c d) := ⟨h, s_tstVal h hi⟩
theorem s_iteT {t a b : Expr} {A B D : E} (ht : PT X t (rdT T W c D)) (ha : PT X a (rdT T W c A)) (hb : PT X b (rdT T W c B)) : PT X (.IfExp t a b pos) (rdT T W c (.ite D A B)) := by
  refine ⟨fun pins s σ H Q I ⟨as, r, h, p, g⟩ => ?_⟩
  unfold evE at g
  have e : tst ((tst (evE c D r h)).bnd fun x h => if x = true then evE c A r h else evE c B r h) = (tst (evE c D r h)).bnd fun x h => tst (if x = true then evE c A r h else evE c B r h) := by
    cases tst (evE c D r h) <;> rfl
  rw [e] at g
  show wpAny _ _ (do if ← isTrue t X.env (eval t X.env) then isTrue a X.env (eval a X.env) else isTrue b X.env (eval b X.env)) _ _ _
  refine wpAny_bind (thn (ht.run pins s σ H _ I ⟨as, r, h, p, (g.bnd (repx := rB) p)⟩) fun x s1 ⟨H1, I1, as1, h1, v, e1, p1, ev, _, g1⟩ => ?_)
  cases ev
  cases x with
  | true => exact ha.run pins s1 σ H1 Q I1 ⟨as1, r, h1, p1, g1⟩
  | false => exact hb.run pins s1 σ H1 Q I1 ⟨as1, r, h1, p1, g1⟩
variable {r : Rec} (S : Snd r) (O : OkX X G T W c)
include S O
theorem pa_map {es : List Expr} (h : es.all noStar = true) : PA X es (rdL T W c (es.map (r G))) := by
  induction es with
  | nil => exact s_nil
  | cons e es ih =>
    rw [List.all_cons, Bool.and_eq_true] at h
    exact s_cons (S X G T W c O e).1 (ih h.2) h.1
theorem cName_ok {x : Str} : PE X (.Name x pos) (rdE T W c (cName G x)) := by
  unfold cName
  split
  · rename_i q
    split
    · rename_i g hg
      obtain ⟨u, v, y, h1, h2, h3, h4, h5⟩ := O.gc x g hg
      exact s_glb (pe_glob (O.gl (by unfold Gx.gl; exact decide_eq_true q)) h1 h2 h5) h3 h4
    · exact pe_nop
  · exact pe_nop
  · rename_i k q1 q2 q
    split
    · exact pe_nop
    · rename_i hn
      split
      · rename_i i hi
        simp only [Bool.or_eq_true, not_or, Bool.not_eq_true] at hn
        refine s_var (Gx.slotN O hi) ?_ hn.1 hn.2
        unfold Vis
        rw [O.sc, q]
        cases k with
        | «local» => exact .inl rfl
        | cell => exact .inr (.inl rfl)
        | free => exact .inr (.inr rfl)
        | globalExplicit => exact absurd rfl (q2 · )
        | globalImplicit => exact absurd rfl (q1 · )
      · exact pe_nop
  · exact pe_nop
omit S O in
theorem cConst_ok {k : Const} {j : Nat} : PE X (.Constant k j pos) (rdE T W c (cConst k)) := by
  cases k with
  | none => exact s_cst pe_non fun _ _ => .non
  | bool b => exact s_cst pe_bl fun _ _ => .bl b
  | int i => exact s_cst pe_int fun _ _ => .int i
  | str s => exact s_cst pe_str fun _ _ => .str s
  | _ => exact pe_nop
theorem cBool_ok {op : BoolOp} : ∀ {vs : List Expr}, vs ≠ [] → PE X (.BoolOp op vs pos) (rdE T W c (cBool r G op vs)) ∧ PW X (.BoolOp op vs pos) (rdT T W c (cBool r G op vs))
  | [], h => absurd rfl h
  | [a], _ => by
    obtain ⟨h1, h2⟩ := S X G T W c O a
    refine ⟨s_one h1, ?_⟩
    cases op with
    | And => exact s_oneAnd h2
    | Or => exact s_oneOr h2
  | a :: b :: rest, _ => by
    obtain ⟨h1, h2⟩ := S X G T W c O a
    obtain ⟨h3, h4⟩ := cBool_ok (op := op) (vs := b :: rest) (by simp)
    cases op with
    | And => exact ⟨s_and h1 h3, s_andT h2 h4⟩
    | Or => exact ⟨s_or h1 h3, s_orT h2 h4⟩
theorem cBool_all {op : BoolOp} {vs : List Expr} : PE X (.BoolOp op vs pos) (rdE T W c (cBool r G op vs)) ∧ PT X (.BoolOp op vs pos) (rdT T W c (cBool r G op vs)) := by
  cases vs with
  | nil => exact both_nop
  | cons a vs => exact ⟨(cBool_ok S O (by simp)).1, (cBool_ok S O (by simp)).2.pt⟩
theorem cCmp_ok {a : Expr} {ops : List CmpOp} {bs : List Expr} : PE X (.Compare a ops bs pos) (rdE T W c (cCmp r G a ops bs)) ∧ PT X (.Compare a ops bs pos) (rdT T W c (cCmp r G a ops bs)) := by
  unfold cCmp
  split
  · rename_i p b
    split
    · exact both_nop
    · rename_i hm
      have hm := Bool.eq_false_iff.mpr hm
      split
      · rename_i o ho
        rw [cpOf_py ho] at hm ⊢
        exact ⟨s_cmp o O.un (S X G T W c O a).1 (S X G T W c O b).1 hm, s_cmpT o O.un (S X G T W c O a).1 (S X G T W c O b).1 hm⟩
      · exact both_nop
  · rename_i p q b e
    split
    · exact both_nop
    · rename_i hm
      have hm := Bool.eq_false_iff.mpr hm
      split
      · rename_i o o2 ho ho2
        rw [cpOf_py ho, cpOf_py ho2] at hm ⊢
        exact ⟨s_chn o o2 O.un (S X G T W c O a).1 (S X G T W c O b).1 (S X G T W c O e).1 hm, s_chnT o o2 O.un (S X G T W c O a).1 (S X G T W c O b).1 (S X G T W c O e).1 hm⟩
      · exact both_nop
  · exact both_nop
theorem cPart_ok {lo : Option Expr} {l : E} (h : cPart r G lo = some l) : L2.PO X lo (rdO T W c l) := by
  unfold cPart at h
  cases lo with
  | none => cases h; exact s_noPart
  | some e =>
    simp only at h
    split at h
    · cases h
    · rename_i hn
      cases h
      exact s_part (S X G T W c O e).1 (Bool.eq_false_iff.mpr hn)
theorem cSub_ok {a b : Expr} : PE X (.Subscript a b pos) (rdE T W c (cSub r G a b)) := by
  unfold cSub
  split
  · split
    · rename_i h1 h2
      exact s_slc (S X G T W c O a).1 (cPart_ok S O h1) (cPart_ok S O h2)
    · exact pe_nop
  · exact pe_nop
  · rename_i h1 h2
    refine s_idx O.un (S X G T W c O a).1 (S X G T W c O b).1 (plainIx ?_)
    cases b <;> first | rfl | exact absurd rfl (h2 _ _ _ _)
theorem cPairs_ok : ∀ {ks : List (Option Expr)} {vs : List Expr} {prs : List (E × E)}, cPairs r G ks vs = some prs → PPs X pos ks vs (prs.map fun p => (rdE T W c p.1, rdE T W c p.2)) ∧ ks.all (·.isSome) = true ∧ ks.length = vs.length ∧ prs.length = ks.length
  | [], [], prs, h => by cases h; exact ⟨pps_nil, rfl, rfl, rfl⟩
  | some k :: ks, v :: vs, prs, h => by
    unfold cPairs at h
    obtain ⟨q, hq, rfl⟩ := Option.map_eq_some_iff.mp h
    obtain ⟨h1, h2, h3, h4⟩ := cPairs_ok hq
    exact ⟨pps_cons (S X G T W c O k).1 (S X G T W c O v).1 h1, by rw [List.all_cons, h2]; rfl, by simp [h3], by simp [h4]⟩
  | some k :: ks, [], prs, h => by cases h
  | none :: ks, vs, prs, h => by cases vs <;> cases h
  | [], v :: vs, prs, h => by cases h
theorem cDict_ok {ks : List (Option Expr)} {vs : List Expr} : PE X (.Dict ks vs pos) (rdE T W c (cDict r G ks vs pos)) := by
  unfold cDict
  split
  · cases G.tds.contains pos.line with
    | true => exact s_dnewT
    | false => exact s_dnewK
  · split
    · rename_i h15
      split
      · rename_i prs hp
        obtain ⟨h1, h2, h3, h4⟩ := cPairs_ok S O hp
        exact s_dct h1 h2 h3 (by simp) h15 h4
      · exact pe_nop
    · exact pe_nop
  · exact pe_nop
omit S in
theorem cTg_ok : ∀ {n : Nat} {tg : Expr} {t : Tg}, cTg n G tg = some t → L2.PG X tg (rdGk t) ∧ noStar tg = true := by
  intro n
  induction n with
  | zero => intro tg t h; cases h
  | succ n ih =>
    intro tg t h
    unfold cTg at h
    split at h
    · split at h
      · rename_i x px hx
        obtain ⟨i, hi, rfl⟩ := Option.map_eq_some_iff.mp h
        obtain ⟨h1, h2⟩ := O.okT hx
        exact ⟨g_name O.nd (Gx.slotN O hi) h1 h2, rfl⟩
      · cases h
    · split at h
      · rename_i es k p hs
        obtain ⟨ts, hts, rfl⟩ := Option.map_eq_some_iff.mp h
        have main : ∀ (es : List Expr) (ts : List Tg), es.all noStar = true → optAll (cTg n G) es = some ts → L2.PGs X es (rdGks ts) ∧ es.length = ts.length := by
          intro es
          induction es with
          | nil => intro ts _ h; cases h; exact ⟨g_nil, rfl⟩
          | cons e es ih2 =>
            intro ts hs h
            rw [List.all_cons, Bool.and_eq_true] at hs
            obtain ⟨t, us, h1, h2, rfl⟩ := optAll_consE h
            obtain ⟨q1, q2⟩ := ih2 us hs.2 h2
            exact ⟨g_cons (ih h1).1 q1 hs.1, by simp [q2]⟩
        obtain ⟨q1, q2⟩ := main es ts hs hts
        exact ⟨g_tup O.calm q1 hs q2, rfl⟩
      · cases h
    · cases h
omit S in
theorem bltOf_ok {e : Expr} {b : Bn} {as : List Expr} (h : bltOf G e = some (b, as)) : ∃ p q, e = .Call (.Name b.nm p) as [] q ∧ Gl X b.nm ∧ X.mg b.nm = none := by
  unfold bltOf at h
  split at h
  · split at h
    · rename_i y p as' q hg
      split at h
      · rename_i b' hb
        cases h
        obtain ⟨e, hm⟩ := O.gb y b hb
        have g := O.gl hg
        rw [e] at g hm
        exact ⟨p, q, by rw [e], g, hm⟩
      · cases h
    · cases h
  · cases h
theorem pa1 {e : Expr} (h : noStar e = true) : PA X [e] (rdL T W c [r G e]) := s_cons (S X G T W c O e).1 s_nil h
theorem pa2 {e e2 : Expr} (h : noStar e = true) (h2 : noStar e2 = true) : PA X [e, e2] (rdL T W c [r G e, r G e2]) := s_cons (S X G T W c O e).1 (pa1 S O h2) h
omit S O in
theorem pi_nop {tg it : Expr} : L2.PI X tg it (rdI T W c .nop) := ⟨fun pins s σ H R I ⟨as, r, h, p, g⟩ => by unfold evI at g; exact g.elim⟩
theorem cIt_ok {tg it : Expr} : L2.PI X tg it (rdI T W c (cIt r G tg it)) := by
  unfold cIt
  split
  · rename_i b as hb
    obtain ⟨p, q, rfl, hg, hm⟩ := bltOf_ok O hb
    unfold cItC
    split
    · split
      · rename_i hs; exact i_rng1 hg hm (pa1 S O hs) hs
      · exact pi_nop
    · split
      · rename_i hs; simp only [Bool.and_eq_true] at hs; exact i_rng2 hg hm (pa2 S O hs.1 hs.2) hs.1 hs.2
      · exact pi_nop
    · split
      · rename_i hs
        simp only [Bool.and_eq_true] at hs
        cases tg <;> first | exact i_enm hg hm (pa1 S O hs.1) hs.1 | exact absurd hs.2 Bool.false_ne_true
      · exact pi_nop
    · split
      · rename_i hs
        simp only [Bool.and_eq_true] at hs
        cases tg <;> first | exact i_zip hg hm (pa2 S O hs.1.1 hs.1.2) hs.1.1 hs.1.2 | exact absurd hs.2 Bool.false_ne_true
      · exact pi_nop
    · exact i_val (S X G T W c O _).1
  · exact i_val (S X G T W c O _).1
omit S O in
theorem plainIt_ok {it : Expr} (h : plainIt it = true) {env : PySem.Env} : ∀ x, foldedSetIterable it env x = pure x := by
  intro x
  cases it <;> first | rfl | exact absurd h Bool.false_ne_true
/-- a comprehension's parts -/
theorem cComp_ok {elt : Expr} {gens : List Comprehension} {scope : Scope} {q : Cpr} (h : cComp r G elt gens scope = some q) : ∃ tg it ifs, gens = [⟨tg, it, ifs, 0⟩] ∧ L2.PI X tg it (rdI T W c q.it) ∧ BlkOk X.N X.env.scope scope q.own ∧ (∀ i ∈ tgS q.t, i ∈ q.own.map (·.2)) ∧
    (∀ (s : Shared) (H : Hp) (C : Addr) (cl : List (Str × Addr)) (fp : List Addr), L2.PG (X.blk s H scope (compEnvC scope cl C X.env) fp) tg (rdGk q.t)) ∧ (∀ (s : Shared) (H : Hp) (C : Addr) (cl : List (Str × Addr)) (fp : List Addr), PTs (X.blk s H scope (compEnvC scope cl C X.env) fp) ifs (rdT T EV.W0 c q.cond)) ∧
    (∀ (s : Shared) (H : Hp) (C : Addr) (cl : List (Str × Addr)) (fp : List Addr), PE (X.blk s H scope (compEnvC scope cl C X.env) fp) elt (rdE T EV.W0 c q.elt)) ∧ ∀ x, foldedSetIterable it X.env x = pure x := by
  unfold cComp at h
  split at h
  · rename_i tg it ifs a
    split at h
    · rename_i ha
      subst ha
      split at h
      · rename_i hp
        split at h
        · rename_i hb
          have hb : BlkOk X.N X.env.scope scope (ownOf G scope) := by rw [O.N, O.sc]; exact blkOk_by hb
          have hk := hb.kind
          split at h
          · rename_i t ht
            split at h
            · rename_i ho
              have ho : ∀ i ∈ tgS t, i ∈ (ownOf G scope).map (·.2) := fun i hi => by
                have := List.all_eq_true.mp ho i hi
                simpa using this
              split at h
              · cases h
                exact ⟨tg, it, [], rfl, cIt_ok S O, hb, ho, fun s H C cl fp => (cTg_ok (O.blk hk) ht).1, fun s H C cl fp => c_nil, fun s H C cl fp => (S _ _ T EV.W0 c (O.blk hk) elt).1, plainIt_ok hp⟩
              · rename_i k
                cases h
                exact ⟨tg, it, [k], rfl, cIt_ok S O, hb, ho, fun s H C cl fp => (cTg_ok (O.blk hk) ht).1, fun s H C cl fp => c_one (S _ _ T EV.W0 c (O.blk hk) k).2, fun s H C cl fp => (S _ _ T EV.W0 c (O.blk hk) elt).1, plainIt_ok hp⟩
              · cases h
            · cases h
          · cases h
        · cases h
      · cases h
    · cases h
  · cases h
theorem cLc_ok {elt : Expr} {gens : List Comprehension} {scope : Scope} {q : Cpr} (h : cComp r G elt gens scope = some q) : PE X (.ListComp elt gens scope pos) (rdE T W c (.comp q.elt q.t q.it q.cond (q.own.map (·.2)))) ∧ PE X (.ListComp elt gens scope pos) (rdW T W c (.itc q.elt q.t q.it q.cond (q.own.map (·.2)))) := by
  obtain ⟨tg, it, ifs, rfl, h1, h2, h3, h4, h5, h6, h7⟩ := cComp_ok S O h
  exact ⟨s_lc O.calm O.nd h1 h2 h3 h4 h5 h6 h7, w_lc O.calm O.nd h1 h2 h3 h4 h5 h6 h7⟩
theorem cW_ok {e : Expr} : PE X e (rdW T W c (cW r G e)) := by
  unfold cW
  split
  · split
    · rename_i hq; exact (cLc_ok S O hq).2
    · exact w_its (S X G T W c O _).1
  · exact w_its (S X G T W c O _).1
theorem cTup_ok {e : Expr} {p : Pos} (hg : Gl X "tuple") (hm : X.mg "tuple" = none) (hs : noStar e = true) : PE X (.Call (.Name "tuple" p) [e] [] pos) (rdE T W c (cTup r G e)) := by
  unfold cTup
  split
  · rename_i a hb
    obtain ⟨p, q, rfl, hg2, hm2⟩ := bltOf_ok O hb
    split
    · rename_i hs2; exact s_tupRg1 hg hm O.calm hg2 hm2 (S X G T W c O a).1 hs2
    · exact pe_nop
  · rename_i a b hb
    obtain ⟨p, q, rfl, hg2, hm2⟩ := bltOf_ok O hb
    split
    · rename_i hs2; simp only [Bool.and_eq_true] at hs2; exact s_tupRg2 hg hm O.calm hg2 hm2 (S X G T W c O a).1 (S X G T W c O b).1 hs2.1 hs2.2
    · exact pe_nop
  · rename_i a b hb
    obtain ⟨p, q, rfl, hg2, hm2⟩ := bltOf_ok O hb
    split
    · rename_i hs2; simp only [Bool.and_eq_true] at hs2; exact s_tupZip O.calm hg hm hg2 hm2 (pa2 S O hs2.1 hs2.2) hs2.1 hs2.2
    · exact pe_nop
  · exact s_tuple hg hm (cW_ok S O) hs
theorem cIsi_ok {e ty : Expr} {p : Pos} (hg : Gl X "isinstance") (hm : X.mg "isinstance" = none) (hs : noStar e = true) : PE X (.Call (.Name "isinstance" p) [e, ty] [] pos) (rdE T W c (cIsi r G e ty)) := by
  unfold cIsi
  split
  · split
    · rename_i y p2 hy
      split
      · rename_i b hb
        obtain ⟨ey, hmy⟩ := O.gb y b hb
        split
        · rename_i t ht
          have gy := O.gl hy
          rw [ey, Bn.ty_nm ht] at gy hmy
          rw [ey, Bn.ty_nm ht]
          exact s_isi t hg hm gy hmy (S X G T W c O e).1 hs
        · exact pe_nop
      · exact pe_nop
    · exact pe_nop
  · exact pe_nop
theorem cBlt_ok {b : Bn} {es : List Expr} {p : Pos} (hg : Gl X b.nm) (hm : X.mg b.nm = none) : PE X (.Call (.Name b.nm p) es [] pos) (rdE T W c (cBlt r G b es)) := by
  unfold cBlt
  split
  · rename_i e
    split
    · rename_i hs
      cases b <;> first
        | exact pe_nop
        | exact s_len hg hm (pa1 S O hs) hs
        | exact s_int hg hm (pa1 S O hs) hs
        | exact cTup_ok S O hg hm hs
        | exact s_list O.calm hg hm (cW_ok S O) hs
        | exact s_all O.calm hg hm (cW_ok S O) hs
        | exact s_any O.calm hg hm (cW_ok S O) hs
        | exact s_sum O.calm hg hm (cW_ok S O) hs
        | exact s_minL O.calm hg hm (cW_ok S O) hs
        | exact s_maxL O.calm hg hm (cW_ok S O) hs
        | exact s_sorted O.calm hg hm (cW_ok S O) hs
    · exact pe_nop
  · rename_i e e2
    split
    · rename_i hs
      simp only [Bool.and_eq_true] at hs
      cases b <;> first
        | exact pe_nop
        | exact s_min O.calm hg hm (pa2 S O hs.1 hs.2) hs.1 hs.2
        | exact s_max O.calm hg hm (pa2 S O hs.1 hs.2) hs.1 hs.2
        | exact cIsi_ok S O hg hm hs.1
    · exact pe_nop
  · exact pe_nop
theorem pk_map : ∀ {kws : List Keyword}, L2.PK X kws (rdL T W c (kws.map fun k => r G (kwVal k)))
  | [] => s_knil
  | ⟨n, e, p⟩ :: kws => s_kcons (S X G T W c O e).1 pk_map
theorem cFn_ok {x : Str} {f : Nat} {ps : List Str} {es : List Expr} {kws : List Keyword} {p : Pos} (hg : Gl X x) (hf : G.tab.lookup x = some (.fn f ps)) : PE X (.Call (.Name x p) es kws pos) (rdE T W c (cFn r G f es kws)) := by
  obtain ⟨k, fa, fd, F, hr, hm, hk, hb, hd, hkw⟩ := O.gf x f ps hf
  unfold cFn
  split
  · rename_i hs
    split
    · exact s_call F hr O.tk hg hm hk hb (pa_map S O hs) hs (by simp) hd
    · split
      · rename_i ks hks
        split
        · rename_i q hq
          have h1 := List.find?_some hq
          have h2 := List.mem_of_find?_eq_some hq
          obtain ⟨q1, q2, q3, q4⟩ := q
          simp only [Bool.and_eq_true, beq_iff_eq] at h1
          obtain ⟨rfl, rfl, rfl⟩ := h1
          refine s_callK F hr O.tk hg hm hk (by rw [List.length_map]; exact hkw _ _ _ h2) (pa_map S O hs) (pk_map S O) hks hs (by simp) ?_ hd
          rw [List.length_map]
          exact (optAll_len hks).symm
        · exact pe_nop
      · exact pe_nop
  · exact pe_nop
theorem cMt_ok {o : Expr} {m : Mt} {es : List Expr} {apos : Pos} (hb : plainBase o = true) (hl : (apos.endLine == pos.line) = true) : PE X (.Call (.Attribute o (mtNm m) apos) es [] pos) (rdE T W c (cMt r G o m es)) := by
  unfold cMt
  split
  · split
    · rename_i hs; exact s_append hb hl (S X G T W c O o).1 (pa1 S O hs) hs
    · exact pe_nop
  · split
    · rename_i hs; exact s_index O.un hb hl (S X G T W c O o).1 (pa1 S O hs) hs
    · exact pe_nop
  · split
    · rename_i e hs; exact s_get1 O.un hb hl (S X G T W c O o).1 (S X G T W c O e).1 hs
    · exact pe_nop
  · split
    · rename_i e d hs; simp only [Bool.and_eq_true] at hs; exact s_get2 O.un hb hl (S X G T W c O o).1 (S X G T W c O e).1 (S X G T W c O d).1 hs.1 hs.2
    · exact pe_nop
  · exact pe_nop
theorem cCall_ok {f : Expr} {es : List Expr} {kws : List Keyword} : PE X (.Call f es kws pos) (rdE T W c (cCall r G f es kws pos)) := by
  unfold cCall
  split
  · rename_i x p
    split
    · rename_i hg
      split
      · rename_i f ps hf; exact cFn_ok S O (O.gl hg) hf
      · rename_i b hb
        split
        · obtain ⟨e, hm⟩ := O.gb x b hb
          have g := O.gl hg
          rw [e] at g hm ⊢
          exact cBlt_ok S O g hm
        · exact pe_nop
      · exact pe_nop
    · exact pe_nop
  · rename_i o m apos
    split
    · split
      · rename_i hb
        simp only [Bool.and_eq_true] at hb
        split
        · rename_i k hk
          rw [O.gm m k hk]
          exact cMt_ok S O hb.1 hb.2
        · exact pe_nop
      · exact pe_nop
    · exact pe_nop
  · exact pe_nop
end
theorem cStep_ok {r : Rec} (S : Snd r) : Snd (cStep r) := by
  intro X G T W c O e
  cases e with
  | Name x p => exact both_val (cName_ok S O) fun _ => rfl
  | Constant k j p => exact both_val cConst_ok fun _ => rfl
  | Tuple es k p =>
    refine both_val ?_ fun _ => rfl
    show PE X _ (rdE T W c (if es.all noStar then _ else _))
    split
    · rename_i hs; exact s_tup (pa_map S O hs)
    · exact pe_nop
  | List es p =>
    refine both_val ?_ fun _ => rfl
    show PE X _ (rdE T W c (if es.all noStar then _ else _))
    split
    · rename_i hs; exact s_lst (pa_map S O hs)
    · exact pe_nop
  | BinOp a o b p =>
    refine both_val ?_ fun _ => rfl
    show PE X _ (rdE T W c (match opOf o with | some o => _ | none => _))
    split
    · rename_i o' ho; rw [opOf_py ho]; exact s_bin o' (S X G T W c O a).1 (S X G T W c O b).1
    · exact pe_nop
  | UnaryOp op a p =>
    cases op with
    | USub => exact both_val (s_neg (S X G T W c O a).1) fun _ => rfl
    | Not => exact ⟨s_not (S X G T W c O a).1, s_notT (S X G T W c O a).2⟩
    | _ => exact both_nop
  | BoolOp op vs p => exact cBool_all S O
  | Compare a ops bs p => exact cCmp_ok S O
  | IfExp t a b p => exact ⟨s_ite (S X G T W c O t).2 (S X G T W c O a).1 (S X G T W c O b).1, s_iteT (S X G T W c O t).2 (S X G T W c O a).2 (S X G T W c O b).2⟩
  | Subscript a b p => exact both_val (cSub_ok S O) fun _ => rfl
  | Dict ks vs p => exact both_val (cDict_ok S O) fun _ => rfl
  | Call f es kws p => exact both_val (cCall_ok S O) fun _ => rfl
  | ListComp elt gens scope p =>
    refine both_val ?_ fun _ => rfl
    show PE X _ (rdE T W c (match cComp r G elt gens scope with | some q => _ | none => _))
    split
    · rename_i hq; exact (cLc_ok S O hq).1
    · exact pe_nop
  | _ => exact both_nop
theorem cE_ok : ∀ n : Nat, Snd (cE n)
  | 0 => fun X G T W c O e => both_nop
  | n + 1 => cStep_ok (cE_ok n)
end EV
end
section
set_option Elab.async false
set_option linter.all false
set_option maxRecDepth 100000
/-! EvCmpB: statements. -/
namespace EV
open PySem L2

theorem swapped_dec {sc : Scope} {env : PySem.Env} {ts vs : List Expr} {k1 k2 : Nat} {p1 p2 : Pos} {o : Option (List Str)} (hs : env.scope = sc) (hk : env.scope.kind = .function) (h : swDec sc ts vs = some o) :
    swappedStores [.Tuple ts k1 p1] (.Tuple vs k2 p2) env = pure o := by
  subst hs
  have hb : env.blockKind = .function := by unfold Env.blockKind; rw [hk]; rfl
  unfold swDec at h
  unfold swappedStores
  simp only [hb, Env.kindOf, bne_self_eq_false, Bool.or_false]
  simp only at h
  split at h
  · rename_i q; cases h; exact if_pos q
  · rename_i q
    refine (if_neg q).trans ?_
    split at h
    · rename_i q; cases h; exact if_pos q
    · rename_i q
      refine (if_neg q).trans ?_
      split at h
      · rename_i q; cases h; exact if_pos q
      · rename_i q
        refine (if_neg q).trans ?_
        split at h
        · rename_i q; cases h; exact if_pos q
        · rename_i q
          refine (if_neg q).trans ?_
          split at h
          · cases h
          · rename_i q
            cases h
            exact if_neg q
theorem swaps_lc {elt : Expr} {gens : List Comprehension} {scope : Scope} {lpos px : Pos} {x : Str} {l : Nat} {env : PySem.Env} (hk : env.scope.kind = .function) :
    swapsWith (.ListComp elt gens scope lpos) (some (.Name x px)) l env = pure (env.scope.names.lookup x == some .local && (px.line == lpos.line) && !(scope.names.any fun (n, k) => n == x && (k == .local || k == .cell))) := by
  have hb : env.blockKind = .function := by unfold Env.blockKind; rw [hk]; rfl
  unfold swapsWith
  simp only [hb, Env.kindOf, Expr.pos]
  rfl
section
variable {X : Cx} {G : Gx} {T : XTab} {W : WX} {c : Cc} {pos : Pos}
theorem st_nameG {i : Nat} {x : Str} {e : Expr} {d : E} {px : Pos} (hN : X.N.Nodup) (hi : X.N[i]? = some x) (hx : L2.Loc X.env.scope x) (hf : X.fn x = true ∨ X.env.scope.names.lookup x = some .local) (he : PE X e (rdE T W c d)) (hs : swapsWith e (some (.Name x px)) pos.line X.env = pure false) : PS X (.Assign [.Name x px] e pos) (rdS T W c (.asg (.nm i) d)) := by
  refine PS.imp (ps_set hN hi hx he hs hf) fun D σ H q => ?_
  obtain ⟨as, r, h, p, g⟩ := q
  unfold exS at g
  refine ⟨as, r, h, p, (g.st (repx := rV) p).mono ?_⟩
  rintro u H1 ⟨as1, h1, x, e1, p1, rx, _, g1⟩
  unfold bindT at g1
  exact g1 as1 H1 _ Ext.refl (p1.store i rx)
variable {r : Rec} (S : Snd r) (O : OkX X G T W c)
include S O
theorem cAsgN_ok {x : Str} {px : Pos} {e : Expr} : PS X (.Assign [.Name x px] e pos) (rdS T W c (cAsgN r G x px e)) := by
  unfold cAsgN
  split
  · rename_i hx
    obtain ⟨h1, h2⟩ := O.okT hx
    split
    · rename_i i hi
      have hi := Gx.slotN O hi
      split
      · rename_i elt gens scope lpos
        split
        · rename_i q hq
          have hw := swaps_lc (elt := elt) (gens := gens) (scope := scope) (lpos := lpos) (px := px) (x := x) (l := pos.line) O.kd
          cases hb : (X.env.scope.names.lookup x == some .local && (px.line == lpos.line) && !(scope.names.any fun (n, k) => n == x && (k == .local || k == .cell))) with
          | false => rw [hb] at hw; exact st_nameG O.nd hi h1 h2 (cLc_ok S O hq).1 hw
          | true =>
            rw [hb] at hw
            have hl : X.env.scope.names.lookup x = some .local := by
              simp only [Bool.and_eq_true, beq_iff_eq] at hb
              exact hb.1.1
            obtain ⟨tg, it, ifs, rfl, q1, q2, q3, q4, q5, q6, q7⟩ := cComp_ok S O hq
            exact st_lc O.calm O.nd hi hl hw q1 q2 q3 q4 q5 q6 q7
        · exact ps_bad
      · split
        · rename_i hn; exact st_name O.nd hi h1 h2 (S X G T W c O e).1 hn
        · exact ps_bad
    · exact ps_bad
  · exact ps_bad
theorem cPar_ok {ts vs : List Expr} {k1 k2 : Nat} {p1 p2 : Pos} (hw : swappedStores [.Tuple ts k1 p1] (.Tuple vs k2 p2) X.env = pure (some (parNm ts))) : PS X (.Assign [.Tuple ts k1 p1] (.Tuple vs k2 p2) pos) (rdS T W c (cPar r G ts vs)) := by
  unfold cPar
  split
  · split
    · rename_i hi hj
      split
      · rename_i hc
        obtain ⟨c1, c2, c3, c4, c5⟩ := hc
        exact st_par O.calm O.nd (Gx.slotN O hi) (Gx.slotN O hj) c3 (by rw [O.sc]; exact c1) (by rw [O.sc]; exact c2) (pa2 S O c4 c5) hw
      · exact ps_bad
    · exact ps_bad
  · split
    · rename_i hi hj hl
      split
      · rename_i hc
        obtain ⟨c1, c2, c3, ⟨c4, c5, c6⟩, c7, c8, c9⟩ := hc
        exact st_par3 O.calm O.nd (Gx.slotN O hi) (Gx.slotN O hj) (Gx.slotN O hl) c4 c5 c6 (by rw [O.sc]; exact c1) (by rw [O.sc]; exact c2) (by rw [O.sc]; exact c3) (s_cons (S X G T W c O _).1 (pa2 S O c8 c9) c7) hw
      · exact ps_bad
    · exact ps_bad
  · exact ps_bad
theorem cAsgT_ok {ts : List Expr} {k1 : Nat} {p1 : Pos} {e : Expr} : PS X (.Assign [.Tuple ts k1 p1] e pos) (rdS T W c (cAsgT r G (.Tuple ts k1 p1) ts e)) := by
  unfold cAsgT
  split
  · rename_i vs k2 p2
    split
    · rename_i hd
      split
      · rename_i t ht
        obtain ⟨h1, h2⟩ := cTg_ok O ht
        exact st_tgtT (g_of h1) (S X G T W c O _).1 rfl (swapped_dec O.sc O.kd hd) h2
      · exact ps_bad
    · rename_i ns hd
      split
      · rename_i hn
        rw [hn] at hd
        exact cPar_ok S O (swapped_dec O.sc O.kd hd)
      · exact ps_bad
    · exact ps_bad
  · rename_i hne
    split
    · rename_i hn
      split
      · rename_i t ht
        obtain ⟨h1, h2⟩ := cTg_ok O ht
        refine st_tgt (g_of h1) (S X G T W c O _).1 hn ?_ h2
        cases e <;> first | rfl | exact absurd rfl (hne _ _ _)
      · exact ps_bad
    · exact ps_bad
theorem cAsg_ok {tg e : Expr} : PS X (.Assign [tg] e pos) (rdS T W c (cAsg r G tg e)) := by
  unfold cAsg
  split
  · exact cAsgN_ok S O
  · split
    · rename_i hs
      simp only [Bool.and_eq_true] at hs
      exact st_set O.un (S X G T W c O _).1 (S X G T W c O _).1 (S X G T W c O e).1 hs.1 hs.2
    · exact ps_bad
  · exact cAsgT_ok S O
  · exact ps_bad
theorem cAug_ok {tg e : Expr} {p : Operator} : PS X (.AugAssign tg p e pos) (rdS T W c (cAug r G tg p e)) := by
  unfold cAug
  split
  · split
    · rename_i hx
      obtain ⟨h1, h2⟩ := O.okT hx
      split
      · rename_i i hi ho
        rw [opOf_py ho]
        exact st_aug O.nd (Gx.slotN O hi) h1 h2 (.inl rfl) (S X G T W c O e).1
      · rename_i i hi ho
        rw [opOf_py ho]
        exact st_aug O.nd (Gx.slotN O hi) h1 h2 (.inr rfl) (S X G T W c O e).1
      · exact ps_bad
    · exact ps_bad
  · exact ps_bad
omit S O in
theorem st_tryN {b : List Stmt} {h0 : ExceptHandler} {hs : List ExceptHandler} {B : List EV.S} (hb : PSs X.nox b (rdB T EV.W0 c B)) : PS X (.Try b (h0 :: hs) [] [] pos) (rdS T W c (.tryN B)) := by
  refine PS.imp (ps_try_thru0 hb) fun D σ H ⟨as, r, h, p, g⟩ => ?_
  unfold exS at g
  refine ⟨as, r, h, p, ?_⟩
  cases q : exB c B r h with
  | ex k vs r' h' => rw [q] at g; exact g.elim
  | nx r' h' => rw [q] at g; exact g
  | rt v h' => rw [q] at g; exact g
  | bk r' h' => rw [q] at g; exact g
  | ct r' h' => rw [q] at g; exact g
  | no => rw [q] at g; exact g
end
section
variable {r : Rec} (S : Snd r)
include S
mutual
theorem cS_ok : ∀ (s : Stmt) {X : Cx} {G : Gx} {T : XTab} {W : WX} {c : Cc}, OkX X G T W c → PS X s (rdS T W c (cS r G s))
  | .Pass _, X, G, T, W, c, O => by unfold cS; exact st_pass
  | .Expr e _, X, G, T, W, c, O => by
    unfold cS
    split
    · rename_i hn; exact st_expr (S X G T W c O e).1 hn
    · exact ps_bad
  | .Return none _, X, G, T, W, c, O => by unfold cS; exact st_retN
  | .Return (some e) _, X, G, T, W, c, O => by unfold cS; exact st_ret (S X G T W c O e).1
  | .Break _, X, G, T, W, c, O => by unfold cS; exact st_brk
  | .Continue _, X, G, T, W, c, O => by unfold cS; exact st_cnt
  | .Assign [tg] e _, X, G, T, W, c, O => by unfold cS; exact cAsg_ok S O
  | .Assign [] e _, X, G, T, W, c, O => by unfold cS; exact ps_bad
  | .Assign (_ :: _ :: _) e _, X, G, T, W, c, O => by unfold cS; exact ps_bad
  | .AugAssign tg p e _, X, G, T, W, c, O => by unfold cS; exact cAug_ok S O
  | .If t a b _, X, G, T, W, c, O => by unfold cS; exact st_ite (S X G T W c O t).2 (cB_ok a O) (cB_ok b O)
  | .While t b [] _, X, G, T, W, c, O => by unfold cS; exact st_whl O.po (S X G T W c O t).2 (cB_ok b O)
  | .While t b (_ :: _) _, X, G, T, W, c, O => by unfold cS; exact ps_bad
  | .For tg it b [] _, X, G, T, W, c, O => by
    unfold cS
    split
    · rename_i hp
      split
      · rename_i t ht
        exact st_for O.po O.calm (cIt_ok S O) (g_of (cTg_ok O ht).1) (cB_ok b O) (plainIt_ok hp)
      · exact ps_bad
    · exact ps_bad
  | .For tg it b (_ :: _) _, X, G, T, W, c, O => by unfold cS; exact ps_bad
  | .Try b (_ :: _) [] [] _, X, G, T, W, c, O => by unfold cS; exact st_tryN (cB_ok b O.nox)
  | .Try b [] _ _ _, X, G, T, W, c, O => by unfold cS; exact ps_bad
  | .Try b (_ :: _) (_ :: _) _ _, X, G, T, W, c, O => by unfold cS; exact ps_bad
  | .Try b (_ :: _) [] (_ :: _) _, X, G, T, W, c, O => by unfold cS; exact ps_bad
  | .FunctionDef .., X, G, T, W, c, O => by unfold cS; exact ps_bad
  | .AsyncFunctionDef .., X, G, T, W, c, O => by unfold cS; exact ps_bad
  | .ClassDef .., X, G, T, W, c, O => by unfold cS; exact ps_bad
  | .Delete .., X, G, T, W, c, O => by unfold cS; exact ps_bad
  | .TypeAlias .., X, G, T, W, c, O => by unfold cS; exact ps_bad
  | .AnnAssign .., X, G, T, W, c, O => by unfold cS; exact ps_bad
  | .AsyncFor .., X, G, T, W, c, O => by unfold cS; exact ps_bad
  | .With .., X, G, T, W, c, O => by unfold cS; exact ps_bad
  | .AsyncWith .., X, G, T, W, c, O => by unfold cS; exact ps_bad
  | .Match .., X, G, T, W, c, O => by unfold cS; exact ps_bad
  | .Raise .., X, G, T, W, c, O => by unfold cS; exact ps_bad
  | .TryStar .., X, G, T, W, c, O => by unfold cS; exact ps_bad
  | .Assert .., X, G, T, W, c, O => by unfold cS; exact ps_bad
  | .Import .., X, G, T, W, c, O => by unfold cS; exact ps_bad
  | .ImportFrom .., X, G, T, W, c, O => by unfold cS; exact ps_bad
  | .Global .., X, G, T, W, c, O => by unfold cS; exact ps_bad
  | .Nonlocal .., X, G, T, W, c, O => by unfold cS; exact ps_bad
theorem cB_ok : ∀ (ss : List Stmt) {X : Cx} {G : Gx} {T : XTab} {W : WX} {c : Cc}, OkX X G T W c → PSs X ss (rdB T W c (cB r G ss))
  | [], X, G, T, W, c, O => by unfold cB; exact bs_nil
  | s :: ss, X, G, T, W, c, O => by unfold cB; exact bs_cons (cS_ok s O) (cB_ok ss O)
end
end
theorem test_red (r : Rec) (G : Gx) (p : Pos) : cS r G (.If (.Name "x" p) [.Pass p] [] p) = .ite (r G (.Name "x" p)) [.pass] [] := by with_unfolding_all rfl
end EV
end
section
set_option Elab.async false
set_option linter.all false
set_option maxRecDepth 100000
/-! EvFn: defs; what the interpreter says of a call is what the call does. -/
namespace EV
open PySem L2

/-! ### what a call leaves -/
section
variable {H H' : Hp} {as : List Addr}
mutual
theorem RepV.cut {n : Nat} : ∀ {x : PV} {v : V}, x.old n = true → RepV H as x v → RepV H (as.take n) x v
  | _, _, _, .non => .non
  | _, _, _, .bl b => .bl b
  | _, _, _, .int i => .int i
  | _, _, _, .str s => .str s
  | _, _, h, .tup q l => .tup q (RepL.cut (by unfold PV.old at h; exact h) l)
  | .obj m, .ref a, h, .obj q => .obj (n := m) (a := a) (by
      unfold PV.old at h
      rw [List.getElem?_take_of_lt (of_decide_eq_true h)]; exact q)
theorem RepL.cut {n : Nat} : ∀ {x : List PV} {v : List V}, oldL n x = true → RepL H as x v → RepL H (as.take n) x v
  | _, _, _, .nil => .nil
  | _, _, h, .cons a b => by
    unfold oldL at h
    rw [Bool.and_eq_true] at h
    exact .cons (RepV.cut h.1 a) (RepL.cut h.2 b)
end
theorem RepKV.cut {κ : Type} {n : Nat} : ∀ {x : List (κ × PV)} {v : List (κ × V)}, oldL n (x.map (·.2)) = true → RepKV H as x v → RepKV H (as.take n) x v
  | _, _, _, .nil => .nil
  | _, _, h, .cons a b => by
    rw [List.map_cons] at h
    unfold oldL at h
    rw [Bool.and_eq_true] at h
    exact .cons ⟨a.1, a.2.cut h.1⟩ (RepKV.cut h.2 b)
theorem RepO.cut {n : Nat} {o : PO} {ho : HO} (h : o.old n = true) (r : RepO H as o ho) : RepO H (as.take n) o ho := by
  cases o with
  | lst fz xs => obtain ⟨vs, l, z, c⟩ := r; exact ⟨vs, l.cut h, z, c⟩
  | dK kvs => obtain ⟨ks, c, l⟩ := r; exact ⟨ks, c, l.cut h⟩
  | dT kvs => obtain ⟨ks, c, l⟩ := r; exact ⟨ks, c, l.cut h⟩
theorem RepH.cut {n : Nat} {h : PH} (r : RepH H as h) (ho : (h.take n).all (·.old n) = true) : RepH H (as.take n) (h.take n) := by
  refine ⟨by rw [List.length_take, List.length_take, r.len], List.Sublist.nodup (List.take_sublist n as) r.nd, fun m o a q qa => ?_⟩
  have hm : m < n := by
    have := (List.getElem?_eq_some_iff.mp q).1
    rw [List.length_take] at this
    omega
  have hold := List.all_eq_true.mp ho o (List.mem_of_getElem? q)
  rw [List.getElem?_take_of_lt hm] at q qa
  obtain ⟨u, e, ro⟩ := r.at_ m o a q qa
  exact ⟨u, e, ro.cut hold⟩
theorem Ext.cut {as' : List Addr} {n : Nat} (e : Ext H as H' as') (hn : n = as.length) : Ext H as H' (as'.take n) := by
  obtain ⟨⟨nw, x, f⟩, k, t⟩ := e
  refine ⟨⟨[], ?_, fun a ha => absurd ha (by simp)⟩, k, t⟩
  rw [x, hn, List.take_left', List.append_nil]
  rfl
/-- the end of a call -/
theorem gc_snd {as' : List Addr} {h h' : PH} {v : PV} {u : V} (e : Ext H as H' as') (rh0 : RepH H as h) (rh : RepH H' as' h') (rv : RepV H' as' v u) :
    ∃ as2, Ext H as H' as2 ∧ RepH H' as2 (gc h.length v h') ∧ RepV H' as2 v u := by
  unfold gc
  split
  · rename_i ho
    rw [Bool.and_eq_true] at ho
    exact ⟨as'.take h.length, e.cut rh0.len.symm, rh.cut ho.2, rv.cut ho.1⟩
  · exact ⟨as', e, rh, rv⟩
theorem gcL_snd {T : XTab} {as' : List Addr} {h h' : PH} {k : Nat} {vs : List PV} {cls : Value} {d : Option Addr} (e : Ext H as H' as') (rh0 : RepH H as h) (rh : RepH H' as' h') (rx : ExRep T H' as' k vs cls d) :
    ∃ as2, Ext H as H' as2 ∧ RepH H' as2 (gcL h.length vs h') ∧ ExRep T H' as2 k vs cls d := by
  unfold gcL
  split
  · rename_i ho
    rw [Bool.and_eq_true] at ho
    refine ⟨as'.take h.length, e.cut rh0.len.symm, rh.cut ho.2, ?_⟩
    obtain ⟨C, fs, h1, h2, h3⟩ := rx
    refine ⟨C, fs, h1, h2, ?_⟩
    rcases h3 with h3 | ⟨dd, us, e1, e2, e3, e4⟩
    · exact .inl h3
    · exact .inr ⟨dd, us, e1, e2, e3.cut ho.1, e4⟩
  · exact ⟨as', e, rh, rx⟩
end

/-! ### defs -/
structure Dn where
  x : Str
  qual : Str
  params : Arguments
  body : List Stmt
  scope : Scope
  N : List Str
  ps : List Str
structure Law where
  tab : List (Str × GK)
  mts : List (Str × Mt)
  kws : List (Nat × Nat × List Str × List Nat)
  tds : List Nat
  fuel : Nat
  dn : Nat → Option Dn
def Law.G (L : Law) (d : Dn) : Gx := ⟨d.scope, d.N, L.tab, L.mts, none, L.kws, L.tds⟩
def KwOkK (K : PySem.W.Frag) (fd : FuncData) (ps : List Str) (n : Nat) (ks : List Str) (ord : List Nat) : Prop :=
  ∀ (s : Shared) (us ws zs : List Value), us.length = n → ws.length = ks.length → K.In s.heap → pickA ord (us ++ ws) = some zs → BindsTo s fd ⟨us, ks.zip ws⟩ (ps.zip zs)
/-- what is known of a def -/
structure DefOk (L : Law) (P : Prog) (K : PySem.W.Frag) (mg : Str → Option Value) (x : Str) (f : Nat) (ps : List Str) (fa : Addr) (fd : FuncData) (d : Dn) : Prop where
  dn : L.dn f = some d
  pse : d.ps = ps
  fun_ : FunD K d.x d.qual d.params d.body d.scope [] [] fa fd
  sc : FnScope d.N d.ps d.scope
  mg : mg x = some (.ref fa)
  bind : Binds K fd ps []
  ndb : (x == ("__debug__" : Str)) = false
  kw : ∀ n ks ord, (f, n, ks, ord) ∈ L.kws → KwOkK K fd ps n ks ord
  own : P.defs f = some ⟨d.ps.length, d.N.length, cB (cE L.fuel) (L.G d) d.body⟩
structure LawOk (L : Law) (P : Prog) (K : PySem.W.Frag) (mg : Str → Option Value) : Prop where
  fn : ∀ x f ps, L.tab.lookup x = some (.fn f ps) → ∃ d fa fd, DefOk L P K mg x f ps fa fd d
  con : ∀ x g, L.tab.lookup x = some (.con g) → ∃ u v y, mg x = some u ∧ RelV v u ∧ P.glb g = some y ∧ (∀ H as, RepV H as y v) ∧ (x == ("__debug__" : Str)) = false
  blt : ∀ x b, L.tab.lookup x = some (.blt b) → x = b.nm ∧ mg x = none
  mts : ∀ x m, L.mts.lookup x = some m → x = mtNm m
section
variable {L : Law} {P : Prog} {prog : Program} {w : World} {K : PySem.W.Frag} {mg : Str → Option Value} {base : Heap} {T : XTab}
theorem rp_start {H : Hp} {as : List Addr} {h : PH} {xs : List PV} {vs : List V} {N : List Str} (rh : RepH H as h) (rl : RepL H as xs vs) : Rp H as (xs.map some ++ List.replicate (N.length - xs.length) none) (L2.start N vs) h := by
  refine ⟨?_, fun i v e => ?_, rh⟩
  · unfold L2.start; simp [rl.length]
  · by_cases hi : i < xs.length
    · rw [List.getElem?_append_left (by simpa using hi), List.getElem?_map] at e
      obtain ⟨y, hy, e⟩ := Option.map_eq_some_iff.mp e
      cases e
      obtain ⟨u, hu, ru⟩ := rl.get hy
      refine ⟨u, ?_, ru⟩
      unfold L2.start
      rw [List.getElem?_append_left (by rw [List.length_map, ← rl.length]; exact hi), List.getElem?_map, hu]; rfl
    · rw [List.getElem?_append_right (by simpa using Nat.le_of_not_lt hi), List.getElem?_replicate] at e
      split at e <;> cases e
theorem fn_ok (LO : LawOk L P K mg) : ∀ (k : Nat) (x : Str) (f : Nat) (ps : List Str) (fa : Addr) (fd : FuncData) (d : Dn), DefOk L P K mg x f ps fa fd d → FnOk prog w K mg base (L2.CX prog w) (k + 1) fa fd ps (spF T (callF P k) f) := by
  intro k
  induction k with
  | zero =>
    intro x f ps fa fd d D
    rw [← D.pse]
    refine D.fun_.ok D.sc (fun vs H Q E ⟨as, xs, h, rl, rh, g⟩ => ?_) (fun cdv A outer s H vs Q E hr ⟨as, xs, h, rl, rh, g⟩ => ?_)
    · unfold callF at g; exact g.elim
    · unfold callF at g; exact g.elim
  | succ k ih =>
    intro x f ps fa fd d D
    rw [← D.pse]
    refine D.fun_.ok D.sc (fun vs H Q E ⟨as, xs, h, rl, rh, g⟩ => ?_) (fun cdv A outer s H vs Q E hr ⟨as, xs, h, rl, rh, g⟩ => ?_)
    · unfold callF at g
      rw [D.own] at g
      simp only at g
      split at g
      · rename_i hl
        rw [← rl.length]
        by_cases hz : xs.length = d.ps.length
        · exact hz
        · rw [if_neg hz] at hl; cases hl
      · rename_i hl
        rw [← rl.length]
        by_cases hz : xs.length = d.ps.length
        · exact hz
        · rw [if_neg hz] at hl; cases hl
      · exact g.elim
    · refine ⟨rdB T (fun cls d _ H => E cls d H) (P.cc k) (cB (cE L.fuel) (L.G d) d.body), cB_ok (cE_ok L.fuel) d.body (G := L.G d) (c := P.cc k) ?_, ?_⟩
      · refine { sc := rfl, N := rfl, nd := D.sc.nd, calm := rfl, un := ?_, tk := takes_of rfl rfl rfl rfl, po := passes_of rfl, fn := fun x => rfl, kd := D.sc.kind, gf := ?_, gc := LO.con, gb := LO.blt, gm := LO.mts }
        · have := hr.un
          show (A.deeper _).units + 65 < cLine
          omega
        · intro x' f' ps' hx
          obtain ⟨d', fa', fd', D'⟩ := LO.fn x' f' ps' hx
          exact ⟨k + 1, fa', fd', ih x' f' ps' fa' fd' d' D', hr, D'.mg, D'.fun_.kp, D'.bind, D'.ndb, D'.kw⟩
      · refine ⟨as, _, h, rp_start rh rl, ?_⟩
        unfold callF at g
        rw [D.own] at g
        simp only at g
        by_cases hz : xs.length = d.ps.length
        · rw [if_pos hz] at g
          have g2 : match outOf h.length (exB (P.cc k) (cB (cE L.fuel) (L.G d) d.body) (xs.map some ++ List.replicate (d.N.length - d.ps.length) none) h) with
            | .ok v h' => ∀ as' H' u, Ext H as H' as' → RepH H' as' h' → RepV H' as' v u → Q u H'
            | .ex k ws h' => ∀ as' H' cls d, Ext H as H' as' → RepH H' as' h' → ExRep T H' as' k ws cls d → E cls d H'
            | .no => False := g
          rw [hz]
          generalize exB (P.cc k) (cB (cE L.fuel) (L.G d) d.body) (xs.map some ++ List.replicate (d.N.length - d.ps.length) none) h = z at g2
          cases z with
          | nx r' h' =>
            intro as' H' σ' e p'
            obtain ⟨as2, e2, rh2, rv2⟩ := gc_snd e rh p'.hp (.non (H := H') (as := as'))
            exact g2 as2 H' .non e2 rh2 rv2
          | rt v h' =>
            intro as' H' u e rh' rv
            obtain ⟨as2, e2, rh2, rv2⟩ := gc_snd e rh rh' rv
            exact g2 as2 H' u e2 rh2 rv2
          | ex c vs r' h' =>
            intro as' H' σ' cls dd e p' rx
            obtain ⟨as2, e2, rh2, rx2⟩ := gcL_snd e rh p'.hp rx
            exact g2 as2 H' cls dd e2 rh2 rx2
          | bk r' h' => exact g2.elim
          | ct r' h' => exact g2.elim
          | no => exact g2.elim
        · rw [if_neg hz] at g; exact g.elim
end
end EV
end
section
set_option Elab.async false
set_option linter.all false
set_option maxRecDepth 100000
/-! EvHead: from a table of defs to the law's end. -/
namespace EV
open PySem PySem.Spec PyProof.Rows L2

structure Tb where
  D : List Dn
  cons : List (Str × Int)
  blts : List Bn
  mts : List Mt
  kws : List (Nat × Nat × List Str × List Nat)
  tds : List Nat
  fuel : Nat
  loop : Nat
def Dn.d (d : Dn) : He.DefD := ⟨(d.x, none), d.x, d.qual, d.params, d.body, d.scope, [], []⟩
def tabFn : Nat → List Dn → List (Str × GK)
  | _, [] => []
  | i, d :: r => (d.x, .fn i d.ps) :: tabFn (i + 1) r
def tabCon : Nat → List (Str × Int) → List (Str × GK)
  | _, [] => []
  | i, q :: r => (q.1, .con i) :: tabCon (i + 1) r
def Tb.law (S : Tb) : Law := ⟨tabFn 0 S.D ++ (tabCon 0 S.cons ++ S.blts.map fun b => (b.nm, .blt b)), S.mts.map fun m => (mtNm m, m), S.kws, S.tds, S.fuel, fun f => S.D[f]?⟩
def Tb.own (S : Tb) (d : Dn) : FD := ⟨d.ps.length, d.N.length, cB (cE S.fuel) (S.law.G d) d.body⟩
def Tb.prog (S : Tb) : Prog := ⟨fun f => (S.D[f]?).map S.own, fun g => (S.cons[g]?).map fun q => .int q.2, S.loop⟩
def Tb.fa (S : Tb) : List He.Fa := (S.D.map fun d => .glo d.x) ++ ((S.cons.map fun q => .int q.1 q.2) ++ S.blts.map fun b => .free b.nm)
def Tb.fn (S : Tb) : List He.DefD := S.D.map Dn.d

structure DefFix (d : Dn) : Prop where
  sc : FnScope d.N d.ps d.scope
  bind : ∀ (K : PySem.W.Frag) (fa : Addr) (fd : FuncData), FunD K d.x d.qual d.params d.body d.scope [] [] fa fd → Binds K fd d.ps []
  ndb : (d.x == ("__debug__" : Str)) = false
def KwFix (d : Dn) (q : Nat × Nat × List Str × List Nat) : Prop := ∀ (K : PySem.W.Frag) (fa : Addr) (fd : FuncData), FunD K d.x d.qual d.params d.body d.scope [] [] fa fd → KwOkK K fd d.ps q.2.1 q.2.2.1 q.2.2.2
def AllL {α : Type} (p : α → Prop) : List α → Prop
  | [] => True
  | x :: r => p x ∧ AllL p r
theorem AllL.of {α : Type} {p : α → Prop} : ∀ {l : List α}, AllL p l → ∀ x ∈ l, p x
  | _ :: _, h, x, hx => by
    rcases List.mem_cons.mp hx with e | hx
    · rw [e]; exact h.1
    · exact AllL.of h.2 x hx
theorem tabFn_mem : ∀ {D : List Dn} {i : Nat} {x : Str} {g : GK}, (x, g) ∈ tabFn i D → ∃ j d, D[j]? = some d ∧ x = d.x ∧ g = .fn (i + j) d.ps
  | d :: r, i, x, g, h => by
    unfold tabFn at h
    rcases List.mem_cons.mp h with e | h
    · cases e; exact ⟨0, d, rfl, rfl, rfl⟩
    · obtain ⟨j, d', h1, h2, h3⟩ := tabFn_mem h
      exact ⟨j + 1, d', by simpa using h1, h2, by rw [h3]; congr 1; omega⟩
  | [], i, x, g, h => absurd h (by simp [tabFn])
theorem tabCon_mem : ∀ {D : List (Str × Int)} {i : Nat} {x : Str} {g : GK}, (x, g) ∈ tabCon i D → ∃ j d, D[j]? = some d ∧ x = d.1 ∧ g = .con (i + j)
  | d :: r, i, x, g, h => by
    unfold tabCon at h
    rcases List.mem_cons.mp h with e | h
    · cases e; exact ⟨0, d, rfl, rfl, rfl⟩
    · obtain ⟨j, d', h1, h2, h3⟩ := tabCon_mem h
      exact ⟨j + 1, d', by simpa using h1, h2, by rw [h3]; congr 1; omega⟩
  | [], i, x, g, h => absurd h (by simp [tabCon])
theorem says_fact {fa : List He.Fa} {fn : List He.DefD} {K : PySem.W.Frag} (c : He.SaysD fa fn K) {f : He.Fa} (h : f ∈ fa) : f.ok K = true := by
  obtain ⟨i, hi⟩ := List.getElem?_of_mem h
  exact c.fact i hi
theorem says_def {fa : List He.Fa} {fn : List He.DefD} {K : PySem.W.Frag} (c : He.SaysD fa fn K) {d : He.DefD} (h : d ∈ fn) : ∃ fd, FunD K d.name d.qual d.params d.body d.scope (d.dvs K) (d.kws K) (He.fAd K d.at_) fd := by
  obtain ⟨i, hi⟩ := List.getElem?_of_mem h
  exact c.def_ i hi
section
variable {S : Tb} {K : PySem.W.Frag} {h : Heap} {mg : Str → Option Value}
theorem Tb.defOk (c : He.SaysD S.fa S.fn K) (X : K.In h) (G : h.Ns mainGlobals mg) (fx : AllL DefFix S.D) (kx : AllL (fun q => ∃ d, S.D[q.1]? = some d ∧ KwFix d q) S.kws) {f : Nat} {d : Dn} (hd : S.D[f]? = some d) :
    ∃ fd, DefOk S.law S.prog K mg d.x f d.ps (He.ga K d.x) fd d := by
  have hm := List.mem_of_getElem? hd
  have F := fx.of d hm
  obtain ⟨fd, Fd⟩ := says_def c (d := d.d) (List.mem_map.mpr ⟨d, hm, rfl⟩)
  have Fd : FunD K d.x d.qual d.params d.body d.scope [] [] (He.ga K d.x) fd := Fd
  refine ⟨fd, { dn := hd, pse := rfl, fun_ := Fd, sc := F.sc, mg := He.glo_ok X G (says_fact c (List.mem_append_left _ (List.mem_map.mpr ⟨d, hm, rfl⟩))), bind := F.bind K _ fd Fd, ndb := F.ndb, kw := fun n ks ord hq => ?_, own := ?_ }⟩
  · obtain ⟨d', h1, h2⟩ := kx.of _ hq
    have e : d' = d := by
      have h1 : S.D[f]? = some d' := h1
      rw [hd] at h1
      exact (Option.some.inj h1).symm
    subst e
    exact h2 K _ fd Fd
  · show (S.D[f]?).map S.own = _
    rw [hd]; rfl
theorem Tb.ok (c : He.SaysD S.fa S.fn K) (X : K.In h) (G : h.Ns mainGlobals mg) (fx : AllL DefFix S.D) (kx : AllL (fun q => ∃ d, S.D[q.1]? = some d ∧ KwFix d q) S.kws) (cx : S.cons.all (fun q => !(q.1 == ("__debug__" : Str))) = true) : LawOk S.law S.prog K mg where
  fn := fun x f ps hx => by
    rcases List.mem_append.mp (PySem.mem_of_lookup hx) with m | m
    · obtain ⟨j, d, h1, rfl, e⟩ := tabFn_mem m
      rw [Nat.zero_add] at e
      cases e
      obtain ⟨fd, D⟩ := Tb.defOk c X G fx kx h1
      exact ⟨d, _, fd, D⟩
    · rcases List.mem_append.mp m with m | m
      · obtain ⟨j, d, h1, _, e⟩ := tabCon_mem m
        cases e
      · obtain ⟨b, _, e⟩ := List.mem_map.mp m
        cases e
  con := fun x g hx => by
    rcases List.mem_append.mp (PySem.mem_of_lookup hx) with m | m
    · obtain ⟨j, d, h1, _, e⟩ := tabFn_mem m
      cases e
    · rcases List.mem_append.mp m with m | m
      · obtain ⟨j, q, h1, rfl, e⟩ := tabCon_mem m
        rw [Nat.zero_add] at e
        cases e
        have hm := List.mem_of_getElem? h1
        obtain ⟨t, ht⟩ := He.int_ok X G (says_fact c (List.mem_append_right _ (List.mem_append_left _ (List.mem_map.mpr ⟨q, hm, rfl⟩))))
        refine ⟨_, .int q.2, .int q.2, ht, ⟨t, rfl⟩, ?_, fun _ _ => .int _, ?_⟩
        · show (S.cons[g]?).map _ = _
          rw [h1]; rfl
        · have := List.all_eq_true.mp cx q hm
          simpa using this
      · obtain ⟨b, _, e⟩ := List.mem_map.mp m
        cases e
  blt := fun x b hx => by
    rcases List.mem_append.mp (PySem.mem_of_lookup hx) with m | m
    · obtain ⟨j, d, h1, _, e⟩ := tabFn_mem m
      cases e
    · rcases List.mem_append.mp m with m | m
      · obtain ⟨j, q, h1, _, e⟩ := tabCon_mem m
        cases e
      · obtain ⟨b', hb, e⟩ := List.mem_map.mp m
        cases e
        exact ⟨rfl, He.free_ok X G (says_fact c (List.mem_append_right _ (List.mem_append_right _ (List.mem_map.mpr ⟨b, hb, rfl⟩))))⟩
  mts := fun x m hx => by
    obtain ⟨m', _, e⟩ := List.mem_map.mp (PySem.mem_of_lookup hx)
    cases e
    rfl
end

/-! ### the hook: no list among what is known -/
def noList (K : PySem.W.Frag) : Bool := K.all fun p => decide (p.2.cls ≠ .type "list")
def obsL (n : Nat) (fa : List He.Fa) (fn : List He.DefD) (g : Addr → Option Obj) : Bool × He.AlD :=
  let K := He.frG g (He.asD g n)
  (noList K, He.obsD fa fn K)
def hookL (n : Nat) (fa : List He.Fa) (fn : List He.DefD) : PySem.W.Hook where
  α := Bool × He.AlD
  obs := fun s => obsL n fa fn s.heap.get?
  val := fun _ => (true, He.valD fn)
  says := fun _ h => ∃ K : PySem.W.Frag, K.In h ∧ He.SaysD fa fn K ∧ noList K = true
  of := fun _ _ e => ⟨_, He.frG_in, congrArg Prod.snd e, congrArg Prod.fst e⟩
  keeps := fun _ _ _ ⟨K, hK, c⟩ k => ⟨K, PySem.W.Frag.In.keeps hK k, c⟩
theorem obsL_eq {n : Nat} {fa : List He.Fa} {fn : List He.DefD} {g : Addr → Option Obj} {s : Shared} (h : ∀ a, g a = s.heap.get? a) : obsL n fa fn g = (hookL n fa fn).obs s := by
  have e : g = s.heap.get? := funext h
  rw [e] <;> rfl
theorem lookup_mem {α β : Type} [BEq α] [LawfulBEq α] : ∀ {l : List (α × β)} {a : α} {b : β}, l.lookup a = some b → (a, b) ∈ l
  | (k, v) :: r, a, b, h => by
    rw [List.lookup_cons] at h
    cases hb : a == k with
    | true =>
      rw [hb] at h
      cases h
      rw [eq_of_beq hb]
      exact List.mem_cons_self
    | false =>
      rw [hb] at h
      exact List.mem_cons_of_mem _ (lookup_mem h)
theorem no_list {K : PySem.W.Frag} (h : noList K = true) {H : Hp} {a : Addr} {xs : List V} (s : SqL K H a xs) : Rd H a (.lst xs) := by
  rcases s with s | ⟨o, its, n, e, hc, _⟩
  · exact s
  · have := List.all_eq_true.mp h (a, o) (lookup_mem e)
    exact absurd hc (of_decide_eq_true this)
/-- the law's wish -/
theorem sp_law {T : XTab} {P : Prog} {k f : Nat} {K : PySem.W.Frag} (hk : noList K = true) {H : Hp} {a : Addr} {ns : List Int} (hO : Only H) (hS : SqL K H a (ns.map V.int)) (hl : ns.length ≤ sizeLine)
    (hm : ∃ h', callF P k f [.obj 0] [.lst true (ns.map .int)] = .ok (.bl true) h') : spF T (callF P k) f [.ref a] H (fun v _ => v = .bl true) fun _ _ _ => False := by
  obtain ⟨h', hm⟩ := hm
  refine ⟨[a], [.obj 0], [.lst true (ns.map .int)], .cons (.obj rfl) .nil, ⟨rfl, by simp, fun n o b q qa => ?_⟩, ?_⟩
  · cases n with
    | zero =>
      cases q
      cases qa
      have frz : ∃ o, H a = some (.frz o (.lst (ns.map V.int))) := by
        rcases no_list hk hS with e | ⟨o, e⟩
        · rcases hO a with z | ⟨o, xs, z⟩
          · rw [e] at z; cases z
          · rw [e] at z; cases z
        · exact ⟨o, e⟩
      obtain ⟨o, e⟩ := frz
      exact ⟨_, e, ns.map V.int, .ofInts ns, by rw [List.length_map]; exact hl, ⟨o, rfl⟩⟩
    | succ n => cases q
  · rw [hm]
    exact fun as' H' u e rh rv => rv.blE
def CXn (P : Program) : CXT := fun outer H s E e s' => ∃ w, L2.CX P w outer H s E e s'
theorem cx_never {P : Program} {w : World} {outer : List PySem.Env} {H : Hp} {s s' : Shared} {e : Value} (z : L2.CX P w outer H s (fun _ _ _ => False) e s') : False := by
  obtain ⟨_, _, _, _, _, _, _, _, _, _, _, _, w⟩ := z
  exact w
theorem fn_wide {P : Program} {w : World} {K : PySem.W.Frag} {mg : Str → Option Value} {base : Heap} {k : Nat} {f : Addr} {fd : FuncData} {ps : List Str} {sp : Sp} (F : FnOk P w K mg base (L2.CX P w) k f fd ps sp) : FnOk P w K mg base (CXn P) k f fd ps sp :=
  ⟨F.len, fun A outer s H args us vs Q E hr he hb hv hs => codeAny_mono (F.run A outer s H args us vs Q E hr he hb hv hs) fun r s' hq => by
    cases r with
    | error e => exact ⟨w, hq⟩
    | ok fl => cases fl <;> exact hq⟩
theorem law_end {l : PySem.W.OpenLaw} {n k f m : Nat} {q : Program} {loose : List Str} {XP : (Str → Option Value) → Heap → Prop} {d : DefRec} {x : Str} {S : Tb} {dl : Dn} {dep : Nat}
    (hn : l.most = some n) (hn2 : n ≤ sizeLine) (hdf : d.params.defaults = []) (hr : Room (k + 1) callerA)
    (fx : AllL DefFix S.D) (kx : AllL (fun q => ∃ d, S.D[q.1]? = some d ∧ KwFix d q) S.kws) (cx : S.cons.all (fun q => !(q.1 == ("__debug__" : Str))) = true) (hd : S.D[f]? = some dl) (hx : dl.x = d.name) (hps : dl.ps = [x])
    (hb : ∀ (K : PySem.W.Frag) (fa : Addr) (fd : FuncData), FunD K dl.x dl.qual dl.params dl.body dl.scope [] [] fa fd → ∀ (s : Shared) (u : Value), BindsTo s fd ⟨[u], []⟩ [(x, u)])
    (hm : ∀ ns : List Int, ns.length ≤ n → ∃ h', callF S.prog k f [.obj 0] [.lst true (ns.map .int)] = .ok (.bl true) h') :
    PySem.W.WalkO q loose XP (hookL dep S.fa S.fn).says l.row.toRowW d [] (fun f vs => PySem.call f vs) := by
  refine L2.walk_ofE (l := l) (k := k + 1) (x := x) (CX := CXn l.prog) hn hn2 hdf hr ?F ?cx
  case cx =>
    intro H s e s' ⟨w, z⟩
    exact cx_never z
  case F =>
    intro w mg fa h ⟨K, KX, c, nl⟩ G hmg
    obtain ⟨fd, D⟩ := Tb.defOk c KX G fx kx hd
    have e : He.ga K dl.x = fa := by
      have := D.mg
      rw [hx, hmg] at this
      rw [hx]
      injection this with z
      injection z with z
      exact z.symm
    rw [e] at D
    refine ⟨K, fd, spF (fun _ => none) (callF S.prog k) f, KX, hb K _ fd D.fun_, fun H a ns hl hO hS => sp_law nl hO hS (Nat.le_trans hl hn2) (hm ns hl), fun base _ _ => ?_⟩
    rw [← hps]
    exact fn_wide (fn_ok (Tb.ok c KX G fx kx cx) k dl.x f dl.ps fa fd dl D)
end EV
end
section
set_option Elab.async false
set_option linter.all false
set_option maxRecDepth 100000
set_option maxHeartbeats 0
namespace Lw
open PySem PySem.Spec PyProof.Rows L2
def top (i : Nat) : Stmt := PySem.Challenge.pw_whatelse_k00_boxes_words_and_runs.main.body.getD i (.Pass ⟨0, 0, 0, 0⟩)
def dn (x : Str) (i : Nat) (N ps : List Str) : EV.Dn := ⟨x, x, defArgs (top i), defBody (top i), defScope (top i), N, ps⟩
def d0 : EV.Dn := dn "is_integer" 15 ["value"] ["value"]
def d1 : EV.Dn := dn "is_within" 16 ["value", "least", "most"] ["value", "least", "most"]
def d2 : EV.Dn := dn "is_step" 17 ["value", "answers", "states"] ["value", "answers", "states"]
def d3 : EV.Dn := dn "need_row" 18 ["box", "state", "row", "value", "step"] ["box", "state"]
def d4 : EV.Dn := dn "need_box" 19 ["box", "state"] ["box"]
def d5 : EV.Dn := dn "is_box" 20 ["value"] ["value"]
def d6 : EV.Dn := dn "need_state" 21 ["box", "state"] ["box", "state"]
def d7 : EV.Dn := dn "is_word" 22 ["inputs", "value", "one"] ["inputs", "value"]
def d8 : EV.Dn := dn "need_word_of" 23 ["inputs", "word", "place", "value"] ["inputs", "word"]
def d9 : EV.Dn := dn "way_of" 24 ["table", "state", "word", "found", "here", "value", "answer"] ["table", "state", "word"]
def d10 : EV.Dn := dn "need_asked" 25 ["box", "state", "word"] ["box", "state", "word"]
def d11 : EV.Dn := dn "answers_of" 26 ["box", "word"] ["box", "word"]
def d12 : EV.Dn := dn "end_of" 27 ["box", "word"] ["box", "word"]
def d13 : EV.Dn := dn "answers_from" 28 ["box", "state", "word"] ["box", "state", "word"]
def d14 : EV.Dn := dn "end_from" 29 ["box", "state", "word"] ["box", "state", "word"]
def d15 : EV.Dn := dn "first_words" 30 ["table", "found", "waiting", "at", "here", "value", "step"] ["table"]
def d16 : EV.Dn := dn "coming_states" 31 ["box"] ["box"]
def d17 : EV.Dn := dn "first_word" 32 ["box", "state"] ["box", "state"]
def d18 : EV.Dn := dn "end_behind" 33 ["box", "word", "turns", "ends", "here", "tail"] ["box", "word", "turns"]
def d19 : EV.Dn := dn "is_told_pair" 37 ["value", "inputs", "answers"] ["value", "inputs", "answers"]
def d20 : EV.Dn := dn "need_run_at" 38 ["body", "number", "run", "place", "pair"] ["body", "number"]
def d21 : EV.Dn := dn "need_body" 39 ["body", "number"] ["body"]
def d22 : EV.Dn := dn "word_of_run" 40 ["run", "given", "answer"] ["run"]
def d23 : EV.Dn := dn "need_beside" 41 ["body", "box"] ["body", "box"]
def d24 : EV.Dn := dn "misfit_of" 42 ["body", "box", "number", "run", "answers", "place", "pair"] ["body", "box"]
def d25 : EV.Dn := dn "does_fit" 43 ["body", "box"] ["body", "box"]
def d26 : EV.Dn := dn "first_misfit" 44 ["body", "box"] ["body", "box"]
def d27 : EV.Dn := dn "fits_body" 45 ["body", "box"] ["body", "box"]
def d28 : EV.Dn := dn "run_of" 46 ["box", "word"] ["box", "word"]
def d29 : EV.Dn := dn "body_of" 47 ["box", "words", "number", "word"] ["box", "words"]
def d30 : EV.Dn := dn "_law_begun" 49 ["script", "turn", "cells", "great", "mixing", "cell"] ["script", "turn"]
def d31 : EV.Dn := dn "_law_draw" 50 ["m", "limit", "found", "spot", "cells", "extra", "cell", "blend"] ["m", "limit"]
def d32 : EV.Dn := dn "_law_of" 51 ["m", "some"] ["m", "some"]
def d33 : EV.Dn := dn "_law_same" 52 ["told", "due", "one", "far"] ["told", "due"]
def d34 : EV.Dn := dn "_law_table" 53 ["m", "many", "inputs_so", "answers_so", "found", "state", "value"] ["m", "many", "inputs_so", "answers_so"]
def d35 : EV.Dn := dn "_law_word" 54 ["m", "inputs_so", "most", "turn"] ["m", "inputs_so", "most"]
def d36 : EV.Dn := dn "_law_led" 55 ["table", "state", "word", "found", "here", "value", "answer"] ["table", "state", "word"]
def d37 : EV.Dn := dn "_law_firsts" 56 ["table", "found", "fresh", "later", "state", "value", "step"] ["table"]
def d38 : EV.Dn := dn "_law_effect" 57 ["table", "word", "state"] ["table", "word"]
def d39 : EV.Dn := dn "_law_drawn_box" 58 ["m", "inputs_so", "answers_so", "many", "table", "rows", "state", "value"] ["m"]
def d40 : EV.Dn := dn "_law_turned" 59 ["effect", "turns", "found", "power", "left", "state"] ["effect", "turns"]
def d41 : EV.Dn := dn "_law_box_right" 60 ["m", "box_so", "inputs_so", "answers_so", "table", "word", "state", "due", "there", "told", "firsts", "effect", "turns", "one"] ["m", "box_so"]
def d42 : EV.Dn := dn "_law_body_right" 61 ["m", "box_so", "inputs_so", "answers_so", "table", "words", "rows", "body_so", "spot", "place", "value", "answer", "wrong", "turn", "word"] ["m", "box_so"]
def d43 : EV.Dn := dn "law" 62 ["script", "turn", "m", "box_so"] ["script"]
def D0_ : List EV.Dn := [d0, d1, d2, d3, d4, d5, d6, d7, d8, d9, d10, d11, d12, d13, d14, d15, d16, d17, d18, d19, d20, d21, d22, d23, d24, d25, d26, d27, d28, d29]
def D1_ : List EV.Dn := [d30, d31, d32, d33, d34, d35, d36, d37, d38, d39, d40, d41, d42, d43]
def D : List EV.Dn := D0_ ++ D1_
def cons0_ : List (Str × Int) := [("MOST_INPUTS", 4), ("MOST_ANSWERS", 9), ("MOST_STATES", 60), ("MOST_WORD", 200000), ("MOST_TURNS", 1000000000000000000), ("MOST_RUNS", 60), ("MOST_RUN", 40)]
def cons : List (Str × Int) := cons0_
def blts : List EV.Bn := [.len, .int, .min, .isinstance, .tuple, .list, .all, .sorted, .range, .enumerate, .zip, .bool, .str]
def mts : List EV.Mt := [.append, .index, .get1]
def kws : List (Nat × Nat × List Str × List Nat) := [(12, 0, ["word", "box"], [1, 0]), (17, 0, ["state", "box"], [1, 0]), (18, 0, ["turns", "word", "box"], [2, 1, 0]), (27, 0, ["box", "body"], [1, 0]), (13, 0, ["word", "state", "box"], [2, 1, 0])]
def S : EV.Tb := ⟨D, cons, blts, mts, kws, [], 40, 1000000000⟩
theorem f0 : EV.DefFix d0 := ⟨⟨rfl, rfl, rfl, by decide +kernel, rfl, by decide +kernel, by decide +kernel⟩, fun K fa fd F => F.bindsN fun _ _ _ _ _ _ us hl => match us, hl with | [_], _ => rfl, by decide +kernel⟩
theorem f1 : EV.DefFix d1 := ⟨⟨rfl, rfl, rfl, by decide +kernel, rfl, by decide +kernel, by decide +kernel⟩, fun K fa fd F => F.bindsN fun _ _ _ _ _ _ us hl => match us, hl with | [_, _, _], _ => rfl, by decide +kernel⟩
theorem f2 : EV.DefFix d2 := ⟨⟨rfl, rfl, rfl, by decide +kernel, rfl, by decide +kernel, by decide +kernel⟩, fun K fa fd F => F.bindsN fun _ _ _ _ _ _ us hl => match us, hl with | [_, _, _], _ => rfl, by decide +kernel⟩
theorem f3 : EV.DefFix d3 := ⟨⟨rfl, rfl, rfl, by decide +kernel, rfl, by decide +kernel, by decide +kernel⟩, fun K fa fd F => F.bindsN fun _ _ _ _ _ _ us hl => match us, hl with | [_, _], _ => rfl, by decide +kernel⟩
theorem f4 : EV.DefFix d4 := ⟨⟨rfl, rfl, rfl, by decide +kernel, rfl, by decide +kernel, by decide +kernel⟩, fun K fa fd F => F.bindsN fun _ _ _ _ _ _ us hl => match us, hl with | [_], _ => rfl, by decide +kernel⟩
theorem f5 : EV.DefFix d5 := ⟨⟨rfl, rfl, rfl, by decide +kernel, rfl, by decide +kernel, by decide +kernel⟩, fun K fa fd F => F.bindsN fun _ _ _ _ _ _ us hl => match us, hl with | [_], _ => rfl, by decide +kernel⟩
theorem f6 : EV.DefFix d6 := ⟨⟨rfl, rfl, rfl, by decide +kernel, rfl, by decide +kernel, by decide +kernel⟩, fun K fa fd F => F.bindsN fun _ _ _ _ _ _ us hl => match us, hl with | [_, _], _ => rfl, by decide +kernel⟩
theorem f7 : EV.DefFix d7 := ⟨⟨rfl, rfl, rfl, by decide +kernel, rfl, by decide +kernel, by decide +kernel⟩, fun K fa fd F => F.bindsN fun _ _ _ _ _ _ us hl => match us, hl with | [_, _], _ => rfl, by decide +kernel⟩
theorem f8 : EV.DefFix d8 := ⟨⟨rfl, rfl, rfl, by decide +kernel, rfl, by decide +kernel, by decide +kernel⟩, fun K fa fd F => F.bindsN fun _ _ _ _ _ _ us hl => match us, hl with | [_, _], _ => rfl, by decide +kernel⟩
theorem f9 : EV.DefFix d9 := ⟨⟨rfl, rfl, rfl, by decide +kernel, rfl, by decide +kernel, by decide +kernel⟩, fun K fa fd F => F.bindsN fun _ _ _ _ _ _ us hl => match us, hl with | [_, _, _], _ => rfl, by decide +kernel⟩
theorem f10 : EV.DefFix d10 := ⟨⟨rfl, rfl, rfl, by decide +kernel, rfl, by decide +kernel, by decide +kernel⟩, fun K fa fd F => F.bindsN fun _ _ _ _ _ _ us hl => match us, hl with | [_, _, _], _ => rfl, by decide +kernel⟩
theorem f11 : EV.DefFix d11 := ⟨⟨rfl, rfl, rfl, by decide +kernel, rfl, by decide +kernel, by decide +kernel⟩, fun K fa fd F => F.bindsN fun _ _ _ _ _ _ us hl => match us, hl with | [_, _], _ => rfl, by decide +kernel⟩
theorem f12 : EV.DefFix d12 := ⟨⟨rfl, rfl, rfl, by decide +kernel, rfl, by decide +kernel, by decide +kernel⟩, fun K fa fd F => F.bindsN fun _ _ _ _ _ _ us hl => match us, hl with | [_, _], _ => rfl, by decide +kernel⟩
theorem f13 : EV.DefFix d13 := ⟨⟨rfl, rfl, rfl, by decide +kernel, rfl, by decide +kernel, by decide +kernel⟩, fun K fa fd F => F.bindsN fun _ _ _ _ _ _ us hl => match us, hl with | [_, _, _], _ => rfl, by decide +kernel⟩
theorem f14 : EV.DefFix d14 := ⟨⟨rfl, rfl, rfl, by decide +kernel, rfl, by decide +kernel, by decide +kernel⟩, fun K fa fd F => F.bindsN fun _ _ _ _ _ _ us hl => match us, hl with | [_, _, _], _ => rfl, by decide +kernel⟩
theorem f15 : EV.DefFix d15 := ⟨⟨rfl, rfl, rfl, by decide +kernel, rfl, by decide +kernel, by decide +kernel⟩, fun K fa fd F => F.bindsN fun _ _ _ _ _ _ us hl => match us, hl with | [_], _ => rfl, by decide +kernel⟩
theorem f16 : EV.DefFix d16 := ⟨⟨rfl, rfl, rfl, by decide +kernel, rfl, by decide +kernel, by decide +kernel⟩, fun K fa fd F => F.bindsN fun _ _ _ _ _ _ us hl => match us, hl with | [_], _ => rfl, by decide +kernel⟩
theorem f17 : EV.DefFix d17 := ⟨⟨rfl, rfl, rfl, by decide +kernel, rfl, by decide +kernel, by decide +kernel⟩, fun K fa fd F => F.bindsN fun _ _ _ _ _ _ us hl => match us, hl with | [_, _], _ => rfl, by decide +kernel⟩
theorem f18 : EV.DefFix d18 := ⟨⟨rfl, rfl, rfl, by decide +kernel, rfl, by decide +kernel, by decide +kernel⟩, fun K fa fd F => F.bindsN fun _ _ _ _ _ _ us hl => match us, hl with | [_, _, _], _ => rfl, by decide +kernel⟩
theorem f19 : EV.DefFix d19 := ⟨⟨rfl, rfl, rfl, by decide +kernel, rfl, by decide +kernel, by decide +kernel⟩, fun K fa fd F => F.bindsN fun _ _ _ _ _ _ us hl => match us, hl with | [_, _, _], _ => rfl, by decide +kernel⟩
theorem f20 : EV.DefFix d20 := ⟨⟨rfl, rfl, rfl, by decide +kernel, rfl, by decide +kernel, by decide +kernel⟩, fun K fa fd F => F.bindsN fun _ _ _ _ _ _ us hl => match us, hl with | [_, _], _ => rfl, by decide +kernel⟩
theorem f21 : EV.DefFix d21 := ⟨⟨rfl, rfl, rfl, by decide +kernel, rfl, by decide +kernel, by decide +kernel⟩, fun K fa fd F => F.bindsN fun _ _ _ _ _ _ us hl => match us, hl with | [_], _ => rfl, by decide +kernel⟩
theorem f22 : EV.DefFix d22 := ⟨⟨rfl, rfl, rfl, by decide +kernel, rfl, by decide +kernel, by decide +kernel⟩, fun K fa fd F => F.bindsN fun _ _ _ _ _ _ us hl => match us, hl with | [_], _ => rfl, by decide +kernel⟩
theorem f23 : EV.DefFix d23 := ⟨⟨rfl, rfl, rfl, by decide +kernel, rfl, by decide +kernel, by decide +kernel⟩, fun K fa fd F => F.bindsN fun _ _ _ _ _ _ us hl => match us, hl with | [_, _], _ => rfl, by decide +kernel⟩
theorem f24 : EV.DefFix d24 := ⟨⟨rfl, rfl, rfl, by decide +kernel, rfl, by decide +kernel, by decide +kernel⟩, fun K fa fd F => F.bindsN fun _ _ _ _ _ _ us hl => match us, hl with | [_, _], _ => rfl, by decide +kernel⟩
theorem f25 : EV.DefFix d25 := ⟨⟨rfl, rfl, rfl, by decide +kernel, rfl, by decide +kernel, by decide +kernel⟩, fun K fa fd F => F.bindsN fun _ _ _ _ _ _ us hl => match us, hl with | [_, _], _ => rfl, by decide +kernel⟩
theorem f26 : EV.DefFix d26 := ⟨⟨rfl, rfl, rfl, by decide +kernel, rfl, by decide +kernel, by decide +kernel⟩, fun K fa fd F => F.bindsN fun _ _ _ _ _ _ us hl => match us, hl with | [_, _], _ => rfl, by decide +kernel⟩
theorem f27 : EV.DefFix d27 := ⟨⟨rfl, rfl, rfl, by decide +kernel, rfl, by decide +kernel, by decide +kernel⟩, fun K fa fd F => F.bindsN fun _ _ _ _ _ _ us hl => match us, hl with | [_, _], _ => rfl, by decide +kernel⟩
theorem f28 : EV.DefFix d28 := ⟨⟨rfl, rfl, rfl, by decide +kernel, rfl, by decide +kernel, by decide +kernel⟩, fun K fa fd F => F.bindsN fun _ _ _ _ _ _ us hl => match us, hl with | [_, _], _ => rfl, by decide +kernel⟩
theorem f29 : EV.DefFix d29 := ⟨⟨rfl, rfl, rfl, by decide +kernel, rfl, by decide +kernel, by decide +kernel⟩, fun K fa fd F => F.bindsN fun _ _ _ _ _ _ us hl => match us, hl with | [_, _], _ => rfl, by decide +kernel⟩
theorem f30 : EV.DefFix d30 := ⟨⟨rfl, rfl, rfl, by decide +kernel, rfl, by decide +kernel, by decide +kernel⟩, fun K fa fd F => F.bindsN fun _ _ _ _ _ _ us hl => match us, hl with | [_, _], _ => rfl, by decide +kernel⟩
theorem f31 : EV.DefFix d31 := ⟨⟨rfl, rfl, rfl, by decide +kernel, rfl, by decide +kernel, by decide +kernel⟩, fun K fa fd F => F.bindsN fun _ _ _ _ _ _ us hl => match us, hl with | [_, _], _ => rfl, by decide +kernel⟩
theorem f32 : EV.DefFix d32 := ⟨⟨rfl, rfl, rfl, by decide +kernel, rfl, by decide +kernel, by decide +kernel⟩, fun K fa fd F => F.bindsN fun _ _ _ _ _ _ us hl => match us, hl with | [_, _], _ => rfl, by decide +kernel⟩
theorem f33 : EV.DefFix d33 := ⟨⟨rfl, rfl, rfl, by decide +kernel, rfl, by decide +kernel, by decide +kernel⟩, fun K fa fd F => F.bindsN fun _ _ _ _ _ _ us hl => match us, hl with | [_, _], _ => rfl, by decide +kernel⟩
theorem f34 : EV.DefFix d34 := ⟨⟨rfl, rfl, rfl, by decide +kernel, rfl, by decide +kernel, by decide +kernel⟩, fun K fa fd F => F.bindsN fun _ _ _ _ _ _ us hl => match us, hl with | [_, _, _, _], _ => rfl, by decide +kernel⟩
theorem f35 : EV.DefFix d35 := ⟨⟨rfl, rfl, rfl, by decide +kernel, rfl, by decide +kernel, by decide +kernel⟩, fun K fa fd F => F.bindsN fun _ _ _ _ _ _ us hl => match us, hl with | [_, _, _], _ => rfl, by decide +kernel⟩
theorem f36 : EV.DefFix d36 := ⟨⟨rfl, rfl, rfl, by decide +kernel, rfl, by decide +kernel, by decide +kernel⟩, fun K fa fd F => F.bindsN fun _ _ _ _ _ _ us hl => match us, hl with | [_, _, _], _ => rfl, by decide +kernel⟩
theorem f37 : EV.DefFix d37 := ⟨⟨rfl, rfl, rfl, by decide +kernel, rfl, by decide +kernel, by decide +kernel⟩, fun K fa fd F => F.bindsN fun _ _ _ _ _ _ us hl => match us, hl with | [_], _ => rfl, by decide +kernel⟩
theorem f38 : EV.DefFix d38 := ⟨⟨rfl, rfl, rfl, by decide +kernel, rfl, by decide +kernel, by decide +kernel⟩, fun K fa fd F => F.bindsN fun _ _ _ _ _ _ us hl => match us, hl with | [_, _], _ => rfl, by decide +kernel⟩
theorem f39 : EV.DefFix d39 := ⟨⟨rfl, rfl, rfl, by decide +kernel, rfl, by decide +kernel, by decide +kernel⟩, fun K fa fd F => F.bindsN fun _ _ _ _ _ _ us hl => match us, hl with | [_], _ => rfl, by decide +kernel⟩
theorem f40 : EV.DefFix d40 := ⟨⟨rfl, rfl, rfl, by decide +kernel, rfl, by decide +kernel, by decide +kernel⟩, fun K fa fd F => F.bindsN fun _ _ _ _ _ _ us hl => match us, hl with | [_, _], _ => rfl, by decide +kernel⟩
theorem f41 : EV.DefFix d41 := ⟨⟨rfl, rfl, rfl, by decide +kernel, rfl, by decide +kernel, by decide +kernel⟩, fun K fa fd F => F.bindsN fun _ _ _ _ _ _ us hl => match us, hl with | [_, _], _ => rfl, by decide +kernel⟩
theorem f42 : EV.DefFix d42 := ⟨⟨rfl, rfl, rfl, by decide +kernel, rfl, by decide +kernel, by decide +kernel⟩, fun K fa fd F => F.bindsN fun _ _ _ _ _ _ us hl => match us, hl with | [_, _], _ => rfl, by decide +kernel⟩
theorem f43 : EV.DefFix d43 := ⟨⟨rfl, rfl, rfl, by decide +kernel, rfl, by decide +kernel, by decide +kernel⟩, fun K fa fd F => F.bindsN fun _ _ _ _ _ _ us hl => match us, hl with | [_], _ => rfl, by decide +kernel⟩
theorem fx : EV.AllL EV.DefFix D := ⟨f0, f1, f2, f3, f4, f5, f6, f7, f8, f9, f10, f11, f12, f13, f14, f15, f16, f17, f18, f19, f20, f21, f22, f23, f24, f25, f26, f27, f28, f29, f30, f31, f32, f33, f34, f35, f36, f37, f38, f39, f40, f41, f42, f43, trivial⟩
theorem kw0 : EV.KwFix d12 (12, 0, ["word", "box"], [1, 0]) := fun K fa fd F s us ws zs hu hw hK hp => by
  obtain ⟨oc, od, dV, kV, doc, pm, an, cdv, ct, osl, rfl, lk, hcd, hD, hK2⟩ := F.ex
  rcases hD with ⟨_, rfl⟩ | ⟨e, _⟩
  · match us, ws, hu, hw with
    | [], [w0, w1], _, _ => cases hp; exact .of_eq rfl
  · exact absurd rfl e
theorem kw1 : EV.KwFix d17 (17, 0, ["state", "box"], [1, 0]) := fun K fa fd F s us ws zs hu hw hK hp => by
  obtain ⟨oc, od, dV, kV, doc, pm, an, cdv, ct, osl, rfl, lk, hcd, hD, hK2⟩ := F.ex
  rcases hD with ⟨_, rfl⟩ | ⟨e, _⟩
  · match us, ws, hu, hw with
    | [], [w0, w1], _, _ => cases hp; exact .of_eq rfl
  · exact absurd rfl e
theorem kw2 : EV.KwFix d18 (18, 0, ["turns", "word", "box"], [2, 1, 0]) := fun K fa fd F s us ws zs hu hw hK hp => by
  obtain ⟨oc, od, dV, kV, doc, pm, an, cdv, ct, osl, rfl, lk, hcd, hD, hK2⟩ := F.ex
  rcases hD with ⟨_, rfl⟩ | ⟨e, _⟩
  · match us, ws, hu, hw with
    | [], [w0, w1, w2], _, _ => cases hp; exact .of_eq rfl
  · exact absurd rfl e
theorem kw3 : EV.KwFix d27 (27, 0, ["box", "body"], [1, 0]) := fun K fa fd F s us ws zs hu hw hK hp => by
  obtain ⟨oc, od, dV, kV, doc, pm, an, cdv, ct, osl, rfl, lk, hcd, hD, hK2⟩ := F.ex
  rcases hD with ⟨_, rfl⟩ | ⟨e, _⟩
  · match us, ws, hu, hw with
    | [], [w0, w1], _, _ => cases hp; exact .of_eq rfl
  · exact absurd rfl e
theorem kw4 : EV.KwFix d13 (13, 0, ["word", "state", "box"], [2, 1, 0]) := fun K fa fd F s us ws zs hu hw hK hp => by
  obtain ⟨oc, od, dV, kV, doc, pm, an, cdv, ct, osl, rfl, lk, hcd, hD, hK2⟩ := F.ex
  rcases hD with ⟨_, rfl⟩ | ⟨e, _⟩
  · match us, ws, hu, hw with
    | [], [w0, w1, w2], _, _ => cases hp; exact .of_eq rfl
  · exact absurd rfl e
theorem kx : EV.AllL (fun q => ∃ d, S.D[q.1]? = some d ∧ EV.KwFix d q) S.kws := ⟨⟨d12, rfl, kw0⟩, ⟨d17, rfl, kw1⟩, ⟨d18, rfl, kw2⟩, ⟨d27, rfl, kw3⟩, ⟨d13, rfl, kw4⟩, trivial⟩
end Lw
end
section
set_option Elab.async false
set_option linter.all false
set_option maxRecDepth 100000
set_option maxHeartbeats 0
namespace Lw
open PySem EV
/-- is_integer -/
def b0 : List EV.S := [.ret (.and (.bf (.isinst .int) [.var 0]) (.not (.bf (.isinst .bool) [.var 0])))]
theorem b0_eq : S.own d0 = ⟨1, 1, b0⟩ := by kernel_rfl
theorem p0 : S.prog.defs 0 = some ⟨1, 1, b0⟩ := congrArg some b0_eq
/-- is_within -/
def b1 : List EV.S := [.ret (.and (.call 0 [.var 0]) (.chn .le .le (.var 1) (.var 0) (.var 2)))]
theorem b1_eq : S.own d1 = ⟨3, 3, b1⟩ := by kernel_rfl
theorem p1 : S.prog.defs 1 = some ⟨3, 3, b1⟩ := congrArg some b1_eq
/-- is_step -/
def b2 : List EV.S := [.ite (.or (.not (.bf (.isinst .tuple) [.var 0])) (.cmp .ne (.bf .len [.var 0]) (.cst (.int 2)))) [.ret (.cst (.bl false))] [], .ret (.and (.call 1 [.idx (.var 0) (.cst (.int 0)), .cst (.int 0), .bin .sub (.var 1) (.cst (.int 1))]) (.call 1 [.idx (.var 0) (.cst (.int 1)), .cst (.int 0), .bin .sub (.var 2) (.cst (.int 1))]))]
theorem b2_eq : S.own d2 = ⟨3, 3, b2⟩ := by kernel_rfl
theorem p2 : S.prog.defs 2 = some ⟨3, 3, b2⟩ := congrArg some b2_eq
/-- need_row -/
def b3 : List EV.S := [.asg (.nm 2) (.idx (.idx (.var 0) (.cst (.int 2))) (.var 1)), .ite (.or (.not (.bf (.isinst .tuple) [.var 2])) (.cmp .ne (.bf .len [.var 2]) (.idx (.var 0) (.cst (.int 0))))) [.bad] [], .forS (.tup [.nm 3, .nm 4]) (.enm (.var 2)) [.ite (.not (.call 2 [.var 4, .idx (.var 0) (.cst (.int 1)), .bf .len [.idx (.var 0) (.cst (.int 2))]])) [.bad] []]]
theorem b3_eq : S.own d3 = ⟨2, 5, b3⟩ := by kernel_rfl
theorem p3 : S.prog.defs 3 = some ⟨2, 5, b3⟩ := congrArg some b3_eq
/-- need_box -/
def b4 : List EV.S := [.ite (.or (.not (.bf (.isinst .tuple) [.var 0])) (.cmp .ne (.bf .len [.var 0]) (.cst (.int 3)))) [.bad] [], .ite (.not (.call 1 [.idx (.var 0) (.cst (.int 0)), .cst (.int 1), .glb 0])) [.bad] [], .ite (.not (.call 1 [.idx (.var 0) (.cst (.int 1)), .cst (.int 1), .glb 1])) [.bad] [], .ite (.or (.not (.bf (.isinst .tuple) [.idx (.var 0) (.cst (.int 2))])) (.not (.chn .le .le (.cst (.int 1)) (.bf .len [.idx (.var 0) (.cst (.int 2))]) (.glb 2)))) [.bad] [], .forS (.nm 1) (.rng (.cst (.int 0)) (.bf .len [.idx (.var 0) (.cst (.int 2))])) [.expr (.call 3 [.var 0, .var 1])], .ret (.var 0)]
theorem b4_eq : S.own d4 = ⟨1, 2, b4⟩ := by kernel_rfl
theorem p4 : S.prog.defs 4 = some ⟨1, 2, b4⟩ := congrArg some b4_eq
/-- is_box -/
def b5 : List EV.S := [.tryN [.expr (.call 4 [.var 0])], .ret (.cst (.bl true))]
theorem b5_eq : S.own d5 = ⟨1, 1, b5⟩ := by kernel_rfl
theorem p5 : S.prog.defs 5 = some ⟨1, 1, b5⟩ := congrArg some b5_eq
/-- need_state -/
def b6 : List EV.S := [.ite (.not (.call 1 [.var 1, .cst (.int 0), .bin .sub (.bf .len [.idx (.var 0) (.cst (.int 2))]) (.cst (.int 1))])) [.bad] []]
theorem b6_eq : S.own d6 = ⟨2, 2, b6⟩ := by kernel_rfl
theorem p6 : S.prog.defs 6 = some ⟨2, 2, b6⟩ := congrArg some b6_eq
/-- is_word -/
def b7 : List EV.S := [.ite (.or (.not (.bf (.isinst .tuple) [.var 1])) (.cmp .gt (.bf .len [.var 1]) (.glb 3))) [.ret (.cst (.bl false))] [], .ret (.con .all (.itc (.call 1 [.var 2, .cst (.int 0), .bin .sub (.var 0) (.cst (.int 1))]) (.nm 2) (.itv (.var 1)) (.cst (.bl true)) [2]))]
theorem b7_eq : S.own d7 = ⟨2, 3, b7⟩ := by kernel_rfl
theorem p7 : S.prog.defs 7 = some ⟨2, 3, b7⟩ := congrArg some b7_eq
/-- need_word_of -/
def b8 : List EV.S := [.ite (.or (.not (.bf (.isinst .tuple) [.var 1])) (.cmp .gt (.bf .len [.var 1]) (.glb 3))) [.bad] [], .forS (.tup [.nm 2, .nm 3]) (.enm (.var 1)) [.ite (.not (.call 1 [.var 3, .cst (.int 0), .bin .sub (.var 0) (.cst (.int 1))])) [.bad] []]]
theorem b8_eq : S.own d8 = ⟨2, 4, b8⟩ := by kernel_rfl
theorem p8 : S.prog.defs 8 = some ⟨2, 4, b8⟩ := congrArg some b8_eq
/-- way_of -/
def b9 : List EV.S := [.asg (.tup [.nm 3, .nm 4]) (.tup [.lst [], .var 1]), .forS (.nm 5) (.itv (.var 2)) [.asg (.tup [.nm 6, .nm 4]) (.idx (.idx (.var 0) (.var 4)) (.var 5)), .expr (.mt .append (.var 3) [.var 6])], .ret (.tup [.con .tuple (.its (.var 3)), .var 4])]
theorem b9_eq : S.own d9 = ⟨3, 7, b9⟩ := by kernel_rfl
theorem p9 : S.prog.defs 9 = some ⟨3, 7, b9⟩ := congrArg some b9_eq
/-- need_asked -/
def b10 : List EV.S := [.expr (.call 4 [.var 0]), .expr (.call 6 [.var 0, .var 1]), .expr (.call 8 [.idx (.var 0) (.cst (.int 0)), .var 2])]
theorem b10_eq : S.own d10 = ⟨3, 3, b10⟩ := by kernel_rfl
theorem p10 : S.prog.defs 10 = some ⟨3, 3, b10⟩ := congrArg some b10_eq
/-- answers_of -/
def b11 : List EV.S := [.expr (.call 4 [.var 0]), .expr (.call 8 [.idx (.var 0) (.cst (.int 0)), .var 1]), .ret (.idx (.call 9 [.idx (.var 0) (.cst (.int 2)), .cst (.int 0), .var 1]) (.cst (.int 0)))]
theorem b11_eq : S.own d11 = ⟨2, 2, b11⟩ := by kernel_rfl
theorem p11 : S.prog.defs 11 = some ⟨2, 2, b11⟩ := congrArg some b11_eq
/-- end_of -/
def b12 : List EV.S := [.expr (.call 4 [.var 0]), .expr (.call 8 [.idx (.var 0) (.cst (.int 0)), .var 1]), .ret (.idx (.call 9 [.idx (.var 0) (.cst (.int 2)), .cst (.int 0), .var 1]) (.cst (.int 1)))]
theorem b12_eq : S.own d12 = ⟨2, 2, b12⟩ := by kernel_rfl
theorem p12 : S.prog.defs 12 = some ⟨2, 2, b12⟩ := congrArg some b12_eq
/-- answers_from -/
def b13 : List EV.S := [.expr (.call 10 [.var 0, .var 1, .var 2]), .ret (.idx (.call 9 [.idx (.var 0) (.cst (.int 2)), .var 1, .var 2]) (.cst (.int 0)))]
theorem b13_eq : S.own d13 = ⟨3, 3, b13⟩ := by kernel_rfl
theorem p13 : S.prog.defs 13 = some ⟨3, 3, b13⟩ := congrArg some b13_eq
/-- end_from -/
def b14 : List EV.S := [.expr (.call 10 [.var 0, .var 1, .var 2]), .ret (.idx (.call 9 [.idx (.var 0) (.cst (.int 2)), .var 1, .var 2]) (.cst (.int 1)))]
theorem b14_eq : S.own d14 = ⟨3, 3, b14⟩ := by kernel_rfl
theorem p14 : S.prog.defs 14 = some ⟨3, 3, b14⟩ := congrArg some b14_eq
/-- first_words -/
def b15 : List EV.S := [.asg (.tup [.nm 1, .nm 2, .nm 3]) (.tup [.dct [.cst (.int 0), .tup []], .lst [.cst (.int 0)], .cst (.int 0)]), .whl (.cmp .lt (.var 3) (.bf .len [.var 2])) [.asg (.tup [.nm 4, .nm 3]) (.tup [.idx (.var 2) (.var 3), .bin .add (.var 3) (.cst (.int 1))]), .forS (.tup [.nm 5, .nm 6]) (.enm (.idx (.var 0) (.var 4))) [.ite (.cmp .notin (.idx (.var 6) (.cst (.int 1))) (.var 1)) [.set (.var 1) (.idx (.var 6) (.cst (.int 1))) (.bin .add (.idx (.var 1) (.var 4)) (.tup [.var 5])), .expr (.mt .append (.var 2) [.idx (.var 6) (.cst (.int 1))])] []]], .ret (.var 1)]
theorem b15_eq : S.own d15 = ⟨1, 7, b15⟩ := by kernel_rfl
theorem p15 : S.prog.defs 15 = some ⟨1, 7, b15⟩ := congrArg some b15_eq
/-- coming_states -/
def b16 : List EV.S := [.expr (.call 4 [.var 0]), .ret (.con .tuple (.its (.con .sorted (.its (.call 15 [.idx (.var 0) (.cst (.int 2))])))))]
theorem b16_eq : S.own d16 = ⟨1, 1, b16⟩ := by kernel_rfl
theorem p16 : S.prog.defs 16 = some ⟨1, 1, b16⟩ := congrArg some b16_eq
/-- first_word -/
def b17 : List EV.S := [.expr (.call 4 [.var 0]), .expr (.call 6 [.var 0, .var 1]), .ret (.mt .get2 (.call 15 [.idx (.var 0) (.cst (.int 2))]) [.var 1, .cst .non])]
theorem b17_eq : S.own d17 = ⟨2, 2, b17⟩ := by kernel_rfl
theorem p17 : S.prog.defs 17 = some ⟨2, 2, b17⟩ := congrArg some b17_eq
/-- end_behind -/
def b18 : List EV.S := [.expr (.call 4 [.var 0]), .expr (.call 8 [.idx (.var 0) (.cst (.int 0)), .var 1]), .ite (.not (.call 1 [.var 2, .cst (.int 0), .glb 4])) [.bad] [], .asg (.tup [.nm 3, .nm 4]) (.tup [.lst [.cst (.int 0)], .idx (.call 9 [.idx (.var 0) (.cst (.int 2)), .cst (.int 0), .var 1]) (.cst (.int 1))]), .whl (.cmp .notin (.var 4) (.var 3)) [.expr (.mt .append (.var 3) [.var 4]), .asg (.nm 4) (.idx (.call 9 [.idx (.var 0) (.cst (.int 2)), .var 4, .var 1]) (.cst (.int 1)))], .ite (.cmp .lt (.var 2) (.bf .len [.var 3])) [.ret (.idx (.var 3) (.var 2))] [], .asg (.nm 5) (.mt .index (.var 3) [.var 4]), .ret (.idx (.var 3) (.bin .add (.var 5) (.bin .mod (.bin .sub (.var 2) (.var 5)) (.bin .sub (.bf .len [.var 3]) (.var 5)))))]
theorem b18_eq : S.own d18 = ⟨3, 6, b18⟩ := by kernel_rfl
theorem p18 : S.prog.defs 18 = some ⟨3, 6, b18⟩ := congrArg some b18_eq
/-- is_told_pair -/
def b19 : List EV.S := [.ite (.or (.not (.bf (.isinst .tuple) [.var 0])) (.cmp .ne (.bf .len [.var 0]) (.cst (.int 2)))) [.ret (.cst (.bl false))] [], .ret (.and (.call 1 [.idx (.var 0) (.cst (.int 0)), .cst (.int 0), .bin .sub (.var 1) (.cst (.int 1))]) (.call 1 [.idx (.var 0) (.cst (.int 1)), .cst (.int 0), .bin .sub (.var 2) (.cst (.int 1))]))]
theorem b19_eq : S.own d19 = ⟨3, 3, b19⟩ := by kernel_rfl
theorem p19 : S.prog.defs 19 = some ⟨3, 3, b19⟩ := congrArg some b19_eq
/-- need_run_at -/
def b20 : List EV.S := [.asg (.nm 2) (.idx (.idx (.var 0) (.cst (.int 2))) (.var 1)), .ite (.or (.not (.bf (.isinst .tuple) [.var 2])) (.not (.chn .le .le (.cst (.int 1)) (.bf .len [.var 2]) (.glb 6)))) [.bad] [], .forS (.tup [.nm 3, .nm 4]) (.enm (.var 2)) [.ite (.not (.call 19 [.var 4, .idx (.var 0) (.cst (.int 0)), .idx (.var 0) (.cst (.int 1))])) [.bad] []]]
theorem b20_eq : S.own d20 = ⟨2, 5, b20⟩ := by kernel_rfl
theorem p20 : S.prog.defs 20 = some ⟨2, 5, b20⟩ := congrArg some b20_eq
/-- need_body -/
def b21 : List EV.S := [.ite (.or (.not (.bf (.isinst .tuple) [.var 0])) (.cmp .ne (.bf .len [.var 0]) (.cst (.int 3)))) [.bad] [], .ite (.not (.call 1 [.idx (.var 0) (.cst (.int 0)), .cst (.int 1), .glb 0])) [.bad] [], .ite (.not (.call 1 [.idx (.var 0) (.cst (.int 1)), .cst (.int 1), .glb 1])) [.bad] [], .ite (.or (.not (.bf (.isinst .tuple) [.idx (.var 0) (.cst (.int 2))])) (.cmp .gt (.bf .len [.idx (.var 0) (.cst (.int 2))]) (.glb 5))) [.bad] [], .forS (.nm 1) (.rng (.cst (.int 0)) (.bf .len [.idx (.var 0) (.cst (.int 2))])) [.expr (.call 20 [.var 0, .var 1])], .ret (.var 0)]
theorem b21_eq : S.own d21 = ⟨1, 2, b21⟩ := by kernel_rfl
theorem p21 : S.prog.defs 21 = some ⟨1, 2, b21⟩ := congrArg some b21_eq
/-- word_of_run -/
def b22 : List EV.S := [.ret (.con .tuple (.itc (.var 1) (.tup [.nm 1, .nm 2]) (.itv (.var 0)) (.cst (.bl true)) [1, 2]))]
theorem b22_eq : S.own d22 = ⟨1, 3, b22⟩ := by kernel_rfl
theorem p22 : S.prog.defs 22 = some ⟨1, 3, b22⟩ := congrArg some b22_eq
/-- need_beside -/
def b23 : List EV.S := [.expr (.call 21 [.var 0]), .expr (.call 4 [.var 1]), .ite (.cmp .ne (.slc (.var 0) (.nop) (.cst (.int 2))) (.slc (.var 1) (.nop) (.cst (.int 2)))) [.bad] []]
theorem b23_eq : S.own d23 = ⟨2, 2, b23⟩ := by kernel_rfl
theorem p23 : S.prog.defs 23 = some ⟨2, 2, b23⟩ := congrArg some b23_eq
/-- misfit_of -/
def b24 : List EV.S := [.forS (.tup [.nm 2, .nm 3]) (.enm (.idx (.var 0) (.cst (.int 2)))) [.asg (.nm 4) (.idx (.call 9 [.idx (.var 1) (.cst (.int 2)), .cst (.int 0), .call 22 [.var 3]]) (.cst (.int 0))), .forS (.tup [.nm 5, .nm 6]) (.enm (.var 3)) [.ite (.cmp .ne (.idx (.var 6) (.cst (.int 1))) (.idx (.var 4) (.var 5))) [.ret (.tup [.var 2, .var 5])] []]], .ret (.cst .non)]
theorem b24_eq : S.own d24 = ⟨2, 7, b24⟩ := by kernel_rfl
theorem p24 : S.prog.defs 24 = some ⟨2, 7, b24⟩ := congrArg some b24_eq
/-- does_fit -/
def b25 : List EV.S := [.ret (.cmp .is (.call 24 [.var 0, .var 1]) (.cst .non))]
theorem b25_eq : S.own d25 = ⟨2, 2, b25⟩ := by kernel_rfl
theorem p25 : S.prog.defs 25 = some ⟨2, 2, b25⟩ := congrArg some b25_eq
/-- first_misfit -/
def b26 : List EV.S := [.expr (.call 23 [.var 0, .var 1]), .ret (.call 24 [.var 0, .var 1])]
theorem b26_eq : S.own d26 = ⟨2, 2, b26⟩ := by kernel_rfl
theorem p26 : S.prog.defs 26 = some ⟨2, 2, b26⟩ := congrArg some b26_eq
/-- fits_body -/
def b27 : List EV.S := [.expr (.call 23 [.var 0, .var 1]), .ret (.call 25 [.var 0, .var 1])]
theorem b27_eq : S.own d27 = ⟨2, 2, b27⟩ := by kernel_rfl
theorem p27 : S.prog.defs 27 = some ⟨2, 2, b27⟩ := congrArg some b27_eq
/-- run_of -/
def b28 : List EV.S := [.ret (.con .tuple (.zip (.var 1) (.idx (.call 9 [.idx (.var 0) (.cst (.int 2)), .cst (.int 0), .var 1]) (.cst (.int 0)))))]
theorem b28_eq : S.own d28 = ⟨2, 2, b28⟩ := by kernel_rfl
theorem p28 : S.prog.defs 28 = some ⟨2, 2, b28⟩ := congrArg some b28_eq
/-- body_of -/
def b29 : List EV.S := [.expr (.call 4 [.var 0]), .ite (.or (.not (.bf (.isinst .tuple) [.var 1])) (.cmp .gt (.bf .len [.var 1]) (.glb 5))) [.bad] [], .forS (.tup [.nm 2, .nm 3]) (.enm (.var 1)) [.ite (.or (.not (.call 7 [.idx (.var 0) (.cst (.int 0)), .var 3])) (.not (.chn .le .le (.cst (.int 1)) (.bf .len [.var 3]) (.glb 6)))) [.bad] []], .ret (.tup [.idx (.var 0) (.cst (.int 0)), .idx (.var 0) (.cst (.int 1)), .con .tuple (.itc (.call 28 [.var 0, .var 3]) (.nm 3) (.itv (.var 1)) (.cst (.bl true)) [3])])]
theorem b29_eq : S.own d29 = ⟨2, 4, b29⟩ := by kernel_rfl
theorem p29 : S.prog.defs 29 = some ⟨2, 4, b29⟩ := congrArg some b29_eq
/-- _law_begun -/
def b30 : List EV.S := [.asg (.nm 2) (.bin .add (.slc (.var 0) (.var 1) (.nop)) (.slc (.var 0) (.nop) (.var 1))), .asg (.nm 3) (.comp (.var 5) (.nm 5) (.itv (.var 2)) (.cmp .ge (.var 5) (.bin .pow (.cst (.int 10)) (.cst (.int 18)))) [5]), .asg (.nm 4) (.bin .add (.cst (.int 83)) (.bin .mul (.cst (.int 7)) (.var 1))), .forS (.nm 5) (.itv (.var 2)) [.asg (.nm 4) (.bin .mod (.bf .int [.bin .add (.bin .mul (.var 4) (.cst (.int 48271))) (.var 5)]) (.cst (.int 2147483647)))], .ret (.dct [.cst (.str "whole"), .ite (.cmp .ne (.var 3) (.lst [])) (.idx (.var 3) (.cst (.int 0))) (.cst (.int 0)), .cst (.str "mixing"), .var 4, .cst (.str "cells"), .bin .add (.var 2) (.lst [.bin .add (.bin .mul (.cst (.int 59)) (.var 1)) (.cst (.int 23))]), .cst (.str "spot"), .cst (.int 0)])]
theorem b30_eq : S.own d30 = ⟨2, 6, b30⟩ := by kernel_rfl
theorem p30 : S.prog.defs 30 = some ⟨2, 6, b30⟩ := congrArg some b30_eq
/-- _law_draw -/
def b31 : List EV.S := [.ite (.cmp .gt (.idx (.var 0) (.cst (.str "whole"))) (.cst (.int 0))) [.asg (.nm 2) (.bin .mod (.bf .int [.idx (.var 0) (.cst (.str "whole"))]) (.var 1)), .set (.var 0) (.cst (.str "whole")) (.bin .fdiv (.idx (.var 0) (.cst (.str "whole"))) (.var 1)), .ret (.var 2)] [], .asg (.nm 3) (.idx (.var 0) (.cst (.str "spot"))), .set (.var 0) (.cst (.str "spot")) (.bin .add (.var 3) (.cst (.int 1))), .asg (.tup [.nm 4, .nm 5]) (.tup [.idx (.var 0) (.cst (.str "cells")), .bin .add (.idx (.var 0) (.cst (.str "mixing"))) (.bin .mul (.bin .mul (.cst (.int 40503)) (.var 3)) (.var 3))]), .asg (.nm 6) (.idx (.var 4) (.bin .mod (.bf .int [.var 3]) (.bf .len [.var 4]))), .asg (.nm 7) (.bin .mod (.bf .int [.bin .add (.bin .mul (.var 6) (.bin .add (.bin .mul (.cst (.int 2)) (.var 3)) (.cst (.int 3)))) (.var 5)]) (.cst (.int 2147483647))), .asg (.nm 7) (.bin .mod (.bf .int [.bin .add (.bin .add (.bin .mul (.var 7) (.var 7)) (.bin .mul (.cst (.int 69621)) (.var 3))) (.idx (.var 0) (.cst (.str "mixing")))]) (.cst (.int 2147483629))), .ret (.bin .mod (.bin .fdiv (.bin .mod (.bf .int [.bin .add (.bin .mul (.var 7) (.cst (.int 48271))) (.var 3)]) (.cst (.int 2147483647))) (.cst (.int 11))) (.var 1))]
theorem b31_eq : S.own d31 = ⟨2, 8, b31⟩ := by kernel_rfl
theorem p31 : S.prog.defs 31 = some ⟨2, 8, b31⟩ := congrArg some b31_eq
/-- _law_of -/
def b32 : List EV.S := [.ret (.idx (.var 1) (.call 31 [.var 0, .bf .len [.var 1]]))]
theorem b32_eq : S.own d32 = ⟨2, 2, b32⟩ := by kernel_rfl
theorem p32 : S.prog.defs 32 = some ⟨2, 2, b32⟩ := congrArg some b32_eq
/-- _law_same -/
def b33 : List EV.S := [.ite (.bf (.isinst .tuple) [.var 1]) [.ite (.or (.not (.bf (.isinst .tuple) [.var 0])) (.cmp .ne (.bf .len [.var 0]) (.bf .len [.var 1]))) [.ret (.cst (.bl false))] [], .ret (.con .all (.itc (.call 33 [.var 2, .var 3]) (.tup [.nm 2, .nm 3]) (.zip (.var 0) (.var 1)) (.cst (.bl true)) [2, 3]))] [], .ite (.bf (.isinst .list) [.var 1]) [.ite (.or (.not (.bf (.isinst .list) [.var 0])) (.cmp .ne (.bf .len [.var 0]) (.bf .len [.var 1]))) [.ret (.cst (.bl false))] [], .ret (.con .all (.itc (.call 33 [.var 2, .var 3]) (.tup [.nm 2, .nm 3]) (.zip (.var 0) (.var 1)) (.cst (.bl true)) [2, 3]))] [], .ite (.bf (.isinst .bool) [.var 1]) [.ret (.and (.bf (.isinst .bool) [.var 0]) (.cmp .eq (.var 0) (.var 1)))] [], .ite (.bf (.isinst .int) [.var 1]) [.ret (.and (.bf (.isinst .int) [.var 0]) (.and (.not (.bf (.isinst .bool) [.var 0])) (.cmp .eq (.var 0) (.var 1))))] [], .ite (.bf (.isinst .str) [.var 1]) [.ret (.and (.bf (.isinst .str) [.var 0]) (.cmp .eq (.var 0) (.var 1)))] [], .ret (.and (.cmp .is (.var 0) (.cst .non)) (.cmp .is (.var 1) (.cst .non)))]
theorem b33_eq : S.own d33 = ⟨2, 4, b33⟩ := by kernel_rfl
theorem p33 : S.prog.defs 33 = some ⟨2, 4, b33⟩ := congrArg some b33_eq
/-- _law_table -/
def b34 : List EV.S := [.asg (.nm 4) (.lst []), .forS (.nm 5) (.rng (.cst (.int 0)) (.var 1)) [.expr (.mt .append (.var 4) [.con .tuple (.itc (.tup [.call 31 [.var 0, .var 3], .call 31 [.var 0, .var 1]]) (.nm 6) (.rng (.cst (.int 0)) (.var 2)) (.cst (.bl true)) [6])])], .ret (.con .tuple (.its (.var 4)))]
theorem b34_eq : S.own d34 = ⟨4, 7, b34⟩ := by kernel_rfl
theorem p34 : S.prog.defs 34 = some ⟨4, 7, b34⟩ := congrArg some b34_eq
/-- _law_word -/
def b35 : List EV.S := [.ret (.con .tuple (.itc (.call 31 [.var 0, .var 1]) (.nm 3) (.rng (.cst (.int 0)) (.call 31 [.var 0, .bin .add (.var 2) (.cst (.int 1))])) (.cst (.bl true)) [3]))]
theorem b35_eq : S.own d35 = ⟨3, 4, b35⟩ := by kernel_rfl
theorem p35 : S.prog.defs 35 = some ⟨3, 4, b35⟩ := congrArg some b35_eq
/-- _law_led -/
def b36 : List EV.S := [.asg (.tup [.nm 3, .nm 4]) (.tup [.tup [], .var 1]), .forS (.nm 5) (.itv (.var 2)) [.asg (.tup [.nm 6, .nm 4]) (.idx (.idx (.var 0) (.var 4)) (.var 5)), .asg (.nm 3) (.bin .add (.var 3) (.tup [.var 6]))], .ret (.tup [.var 3, .var 4])]
theorem b36_eq : S.own d36 = ⟨3, 7, b36⟩ := by kernel_rfl
theorem p36 : S.prog.defs 36 = some ⟨3, 7, b36⟩ := congrArg some b36_eq
/-- _law_firsts -/
def b37 : List EV.S := [.asg (.tup [.nm 1, .nm 2]) (.tup [.dct [.cst (.int 0), .tup []], .lst [.cst (.int 0)]]), .whl (.cmp .ne (.var 2) (.lst [])) [.asg (.nm 3) (.lst []), .forS (.nm 4) (.itv (.var 2)) [.forS (.tup [.nm 5, .nm 6]) (.enm (.idx (.var 0) (.var 4))) [.ite (.cmp .notin (.idx (.var 6) (.cst (.int 1))) (.var 1)) [.set (.var 1) (.idx (.var 6) (.cst (.int 1))) (.bin .add (.idx (.var 1) (.var 4)) (.tup [.var 5])), .expr (.mt .append (.var 3) [.idx (.var 6) (.cst (.int 1))])] []]], .asg (.nm 2) (.var 3)], .ret (.var 1)]
theorem b37_eq : S.own d37 = ⟨1, 7, b37⟩ := by kernel_rfl
theorem p37 : S.prog.defs 37 = some ⟨1, 7, b37⟩ := congrArg some b37_eq
/-- _law_effect -/
def b38 : List EV.S := [.ret (.con .tuple (.itc (.idx (.call 36 [.var 0, .var 2, .var 1]) (.cst (.int 1))) (.nm 2) (.rng (.cst (.int 0)) (.bf .len [.var 0])) (.cst (.bl true)) [2]))]
theorem b38_eq : S.own d38 = ⟨2, 3, b38⟩ := by kernel_rfl
theorem p38 : S.prog.defs 38 = some ⟨2, 3, b38⟩ := congrArg some b38_eq
/-- _law_drawn_box -/
def b39 : List EV.S := [.asg (.tup [.nm 1, .nm 2]) (.tup [.bin .add (.cst (.int 1)) (.call 31 [.var 0, .cst (.int 4)]), .bin .add (.cst (.int 1)) (.call 31 [.var 0, .call 32 [.var 0, .lst [.cst (.int 2), .cst (.int 9)]]])]), .asg (.nm 3) (.bin .add (.cst (.int 1)) (.call 31 [.var 0, .call 32 [.var 0, .lst [.cst (.int 3), .cst (.int 8), .cst (.int 60)]]])), .asg (.nm 4) (.call 34 [.var 0, .var 3, .var 1, .var 2]), .ite (.cmp .eq (.call 31 [.var 0, .cst (.int 3)]) (.cst (.int 0))) [.asg (.nm 5) (.lst []), .forS (.nm 6) (.rng (.cst (.int 0)) (.var 3)) [.expr (.mt .append (.var 5) [.con .tuple (.itc (.tup [.call 31 [.var 0, .var 2], .bf .min [.bin .sub (.var 3) (.cst (.int 1)), .bin .add (.var 6) (.call 31 [.var 0, .cst (.int 3)])]]) (.nm 7) (.rng (.cst (.int 0)) (.var 1)) (.cst (.bl true)) [7])])], .asg (.nm 4) (.con .tuple (.its (.var 5)))] [], .ret (.tup [.var 1, .var 2, .var 4])]
theorem b39_eq : S.own d39 = ⟨1, 8, b39⟩ := by kernel_rfl
theorem p39 : S.prog.defs 39 = some ⟨1, 8, b39⟩ := congrArg some b39_eq
/-- _law_turned -/
def b40 : List EV.S := [.asg (.tup [.nm 2, .nm 3, .nm 4]) (.tup [.con .tuple (.rng (.cst (.int 0)) (.bf .len [.var 0])), .var 0, .var 1]), .whl (.cmp .gt (.var 4) (.cst (.int 0))) [.ite (.cmp .eq (.bin .mod (.bf .int [.var 4]) (.cst (.int 2))) (.cst (.int 1))) [.asg (.nm 2) (.con .tuple (.itc (.idx (.var 3) (.var 5)) (.nm 5) (.itv (.var 2)) (.cst (.bl true)) [5]))] [], .asg (.tup [.nm 3, .nm 4]) (.tup [.con .tuple (.itc (.idx (.var 3) (.var 5)) (.nm 5) (.itv (.var 3)) (.cst (.bl true)) [5]), .bin .fdiv (.var 4) (.cst (.int 2))])], .ret (.var 2)]
theorem b40_eq : S.own d40 = ⟨2, 6, b40⟩ := by kernel_rfl
theorem p40 : S.prog.defs 40 = some ⟨2, 6, b40⟩ := congrArg some b40_eq
/-- _law_box_right -/
def b41 : List EV.S := [.asg (.tup [.nm 2, .nm 3, .nm 4]) (.var 1), .asg (.tup [.nm 5, .nm 6]) (.tup [.call 35 [.var 0, .var 2, .call 32 [.var 0, .lst [.cst (.int 3), .cst (.int 8), .cst (.int 200)]]], .call 31 [.var 0, .bf .len [.var 4]]]), .asg (.tup [.nm 7, .nm 8]) (.call 36 [.var 4, .cst (.int 0), .var 5]), .asg (.nm 9) (.tup [.call 4 [.var 1], .call 5 [.var 1], .call 11 [.var 1, .var 5], .callK 12 [] [.var 5, .var 1] [1, 0]]), .ite (.not (.call 33 [.var 9, .tup [.var 1, .cst (.bl true), .var 7, .var 8]])) [.ret (.cst (.bl false))] [], .asg (.tup [.nm 7, .nm 8]) (.call 36 [.var 4, .var 6, .var 5]), .ite (.not (.call 33 [.tup [.callK 13 [] [.var 5, .var 6, .var 1] [2, 1, 0], .call 14 [.var 1, .var 6, .var 5]], .tup [.var 7, .var 8]])) [.ret (.cst (.bl false))] [], .asg (.nm 10) (.call 37 [.var 4]), .asg (.nm 9) (.tup [.call 16 [.var 1], .comp (.call 17 [.var 1, .var 13]) (.nm 13) (.rng (.cst (.int 0)) (.bf .len [.var 4])) (.cst (.bl true)) [13], .callK 17 [] [.var 6, .var 1] [1, 0]]), .ite (.not (.call 33 [.var 9, .tup [.con .tuple (.its (.con .sorted (.its (.con .list (.its (.var 10)))))), .comp (.mt .get2 (.var 10) [.var 13, .cst .non]) (.nm 13) (.rng (.cst (.int 0)) (.bf .len [.var 4])) (.cst (.bl true)) [13], .mt .get2 (.var 10) [.var 6, .cst .non]]])) [.ret (.cst (.bl false))] [], .asg (.nm 11) (.call 38 [.var 4, .slc (.var 5) (.nop) (.cst (.int 9))]), .forS (.nm 12) (.itv (.tup [.cst (.int 0), .cst (.int 1), .call 31 [.var 0, .cst (.int 5)], .call 31 [.var 0, .cst (.int 200)], .bin .pow (.cst (.int 10)) (.cst (.int 18)), .bin .sub (.bin .pow (.cst (.int 10)) (.cst (.int 18))) (.call 31 [.var 0, .bin .pow (.cst (.int 10)) (.cst (.int 6))])])) [.ite (.not (.call 33 [.call 18 [.var 1, .slc (.var 5) (.nop) (.cst (.int 9)), .var 12], .idx (.call 40 [.var 11, .var 12]) (.cst (.int 0))])) [.ret (.cst (.bl false))] []], .ret (.call 33 [.callK 18 [] [.cst (.int 7), .tup [], .var 1] [2, 1, 0], .cst (.int 0)])]
theorem b41_eq : S.own d41 = ⟨2, 14, b41⟩ := by kernel_rfl
theorem p41 : S.prog.defs 41 = some ⟨2, 14, b41⟩ := congrArg some b41_eq
/-- _law_body_right -/
def b42 : List EV.S := [.asg (.tup [.nm 2, .nm 3, .nm 4]) (.var 1), .asg (.nm 5) (.con .tuple (.itc (.bin .add (.tup [.call 31 [.var 0, .var 2]]) (.call 35 [.var 0, .var 2, .call 32 [.var 0, .lst [.cst (.int 4), .cst (.int 39)]]])) (.nm 13) (.rng (.cst (.int 0)) (.call 31 [.var 0, .cst (.int 6)])) (.cst (.bl true)) [13])), .asg (.nm 6) (.comp (.con .tuple (.itc (.tup [.var 10, .var 11]) (.tup [.nm 10, .nm 11]) (.zip (.var 14) (.idx (.call 36 [.var 4, .cst (.int 0), .var 14]) (.cst (.int 0)))) (.cst (.bl true)) [10, 11])) (.nm 14) (.itv (.var 5)) (.cst (.bl true)) [14]), .asg (.nm 7) (.tup [.var 2, .var 3, .con .tuple (.its (.var 6))]), .ite (.not (.call 33 [.tup [.call 29 [.var 1, .var 5], .call 27 [.var 7, .var 1], .call 26 [.var 7, .var 1]], .tup [.var 7, .cst (.bl true), .cst .non]])) [.ret (.cst (.bl false))] [], .ite (.or (.cmp .eq (.var 6) (.lst [])) (.cmp .eq (.var 3) (.cst (.int 1)))) [.ret (.cst (.bl true))] [], .asg (.nm 8) (.call 31 [.var 0, .bf .len [.var 6]]), .asg (.nm 9) (.call 31 [.var 0, .bf .len [.idx (.var 6) (.var 8)]]), .asg (.tup [.nm 10, .nm 11]) (.idx (.idx (.var 6) (.var 8)) (.var 9)), .asg (.nm 12) (.tup [.var 10, .bin .mod (.bf .int [.bin .add (.bin .add (.var 11) (.cst (.int 1))) (.call 31 [.var 0, .bin .sub (.var 3) (.cst (.int 1))])]) (.var 3)]), .set (.var 6) (.var 8) (.bin .add (.bin .add (.slc (.idx (.var 6) (.var 8)) (.nop) (.var 9)) (.tup [.var 12])) (.slc (.idx (.var 6) (.var 8)) (.bin .add (.var 9) (.cst (.int 1))) (.nop))), .asg (.nm 7) (.tup [.var 2, .var 3, .con .tuple (.its (.var 6))]), .ret (.call 33 [.tup [.callK 27 [] [.var 1, .var 7] [1, 0], .call 26 [.var 7, .var 1]], .tup [.cst (.bl false), .tup [.var 8, .var 9]]])]
theorem b42_eq : S.own d42 = ⟨2, 15, b42⟩ := by kernel_rfl
theorem p42 : S.prog.defs 42 = some ⟨2, 15, b42⟩ := congrArg some b42_eq
/-- law -/
def b43 : List EV.S := [.forS (.nm 1) (.rng (.cst (.int 0)) (.bin .add (.cst (.int 1)) (.bf .min [.cst (.int 2), .bf .len [.var 0]]))) [.asg (.nm 2) (.call 30 [.var 0, .var 1]), .asg (.nm 3) (.call 39 [.var 2]), .ite (.or (.not (.call 41 [.var 2, .var 3])) (.not (.call 42 [.var 2, .var 3]))) [.ret (.cst (.bl false))] []], .ret (.cst (.bl true))]
theorem b43_eq : S.own d43 = ⟨1, 4, b43⟩ := by kernel_rfl
theorem p43 : S.prog.defs 43 = some ⟨1, 4, b43⟩ := congrArg some b43_eq
end Lw
end
section
set_option Elab.async false
set_option linter.all false
set_option maxRecDepth 100000
/-! EvCalc: reckoning with the interpreter. -/
namespace EV
open PySem

theorem callF_def {P : Prog} {k f : Nat} {vs : List PV} {h : PH} {d : FD} (hd : P.defs f = some d) (hl : vs.length = d.np) : callF P (k + 1) f vs h = outOf h.length (exB (P.cc k) d.body (vs.map some ++ List.replicate (d.ns - d.np) none) h) := by
  conv => lhs; unfold callF
  simp only [hd, hl, if_true]
  rfl
def Cal (P : Prog) (K f : Nat) (vs : List PV) (h : PH) (r : Rs PV) : Prop := ∀ k, K ≤ k → callF P k f vs h = r
theorem Cal.at {P : Prog} {K f : Nat} {vs : List PV} {h : PH} {r : Rs PV} (c : Cal P K f vs h r) {k : Nat} (hk : K ≤ k) : (P.cc k).call f vs h = r := c k hk
theorem Cal.mk {P : Prog} {K f : Nat} {vs : List PV} {h : PH} {r : Rs PV} {d : FD} (hd : P.defs f = some d) (hl : vs.length = d.np)
    (q : ∀ k, K ≤ k → outOf h.length (exB (P.cc k) d.body (vs.map some ++ List.replicate (d.ns - d.np) none) h) = r) : Cal P (K + 1) f vs h r := fun k hk => by
  obtain ⟨j, rfl⟩ : ∃ j, k = j + 1 := ⟨k - 1, by omega⟩
  rw [callF_def hd hl]
  exact q j (by omega)
theorem Cal.mono {P : Prog} {K K' f : Nat} {vs : List PV} {h : PH} {r : Rs PV} (c : Cal P K f vs h r) (hk : K ≤ K') : Cal P K' f vs h r := fun k h => c k (Nat.le_trans hk h)
/-! ### the end of a call -/
theorem gc_len {v : PV} {h : PH} : gc h.length v h = h := by
  unfold gc
  split
  · rw [List.take_length]
  · rfl
mutual
theorem PV.old_mono {n m : Nat} (hn : n ≤ m) : ∀ v : PV, v.old n = true → v.old m = true
  | .obj a, h => by unfold PV.old at h ⊢; exact decide_eq_true (Nat.lt_of_lt_of_le (of_decide_eq_true h) hn)
  | .tup xs, h => by unfold PV.old at h ⊢; exact oldL_mono hn xs h
  | .non, _ => rfl
  | .bl _, _ => rfl
  | .int _, _ => rfl
  | .str _, _ => rfl
theorem oldL_mono {n m : Nat} (hn : n ≤ m) : ∀ xs : List PV, oldL n xs = true → oldL m xs = true
  | [], _ => rfl
  | x :: xs, h => by
    unfold oldL at h ⊢
    rw [Bool.and_eq_true] at h ⊢
    exact ⟨PV.old_mono hn x h.1, oldL_mono hn xs h.2⟩
end
theorem PO.old_mono {n m : Nat} (hn : n ≤ m) {o : PO} (h : o.old n = true) : o.old m = true := by
  cases o with
  | lst fz xs => exact oldL_mono hn xs h
  | dK kvs => exact oldL_mono hn _ h
  | dT kvs => exact oldL_mono hn _ h
/-- whatever stands refers to what stands -/
def Cl (h : PH) : Prop := h.all (·.old h.length) = true
theorem gc_app {v : PV} {h g : PH} (c : Cl h) (hv : v.old h.length = true) : gc h.length v (h ++ g) = h := by
  unfold gc
  rw [List.take_left, if_pos]
  rw [hv]
  exact c
theorem Cl.app {h g : PH} (c : Cl h) (hg : g.all (·.old h.length) = true) : Cl (h ++ g) := by
  unfold Cl at *
  rw [List.all_append, Bool.and_eq_true]
  constructor
  · rw [List.all_eq_true] at c ⊢
    exact fun o ho => PO.old_mono (by simp) (c o ho)
  · rw [List.all_eq_true] at hg ⊢
    exact fun o ho => PO.old_mono (by simp) (hg o ho)
theorem oldL_ints {n : Nat} : ∀ ns : List Int, oldL n (ns.map PV.int) = true
  | [] => rfl
  | i :: ns => by show (true && oldL n _) = true; rw [oldL_ints ns]; rfl
theorem oldL_all {n : Nat} : ∀ {xs : List PV}, (∀ x ∈ xs, x.old n = true) → oldL n xs = true
  | [], _ => rfl
  | x :: xs, h => by
    unfold oldL
    rw [h x List.mem_cons_self, oldL_all fun y hy => h y (List.mem_cons_of_mem _ hy)]; rfl
/-! ### loops -/
/-- a loop that goes on to its end, or leaves with r -/
theorem loopIt_ind {σ ρ : Type} {it : It} {step : PV → σ → PH → Lp σ ρ} {done : σ → PH → ρ} {bad : ρ} {N : Nat} {I : Nat → σ → PH → Prop} {Post : ρ → Prop}
    (hend : ∀ s h, I N s h → itAt it N h = some none ∧ Post (done s h))
    (hstep : ∀ i s h, i < N → I i s h → ∃ x, itAt it i h = some (some x) ∧ ((∃ s' h', step x s h = .go s' h' ∧ I (i + 1) s' h') ∨ ∃ r, step x s h = .out r ∧ Post r)) :
    ∀ (m n i : Nat) (s : σ) (h : PH), N - i = m → i ≤ N → N - i < n → I i s h → Post (loopIt it step done bad n i s h) := by
  intro m
  induction m with
  | zero =>
    intro n i s h hm hi hn hI
    obtain ⟨n, rfl⟩ : ∃ k, n = k + 1 := ⟨n - 1, by omega⟩
    have : i = N := by omega
    subst this
    obtain ⟨h1, h2⟩ := hend s h hI
    unfold loopIt
    rw [h1]
    exact h2
  | succ m ih =>
    intro n i s h hm hi hn hI
    obtain ⟨n, rfl⟩ : ∃ k, n = k + 1 := ⟨n - 1, by omega⟩
    obtain ⟨x, hx, hs⟩ := hstep i s h (by omega) hI
    unfold loopIt
    rw [hx]
    simp only
    rcases hs with ⟨s', h', e, I'⟩ | ⟨r, e, p⟩
    · rw [e]
      exact ih n (i + 1) s' h' (by omega) (by omega) (by omega) I'
    · rw [e]; exact p
theorem loopIt_run {σ ρ : Type} {it : It} {step : PV → σ → PH → Lp σ ρ} {done : σ → PH → ρ} {bad : ρ} {N n : Nat} {I : Nat → σ → PH → Prop} {Post : ρ → Prop} {s : σ} {h : PH} (hn : N < n) (h0 : I 0 s h)
    (hend : ∀ s h, I N s h → itAt it N h = some none ∧ Post (done s h))
    (hstep : ∀ i s h, i < N → I i s h → ∃ x, itAt it i h = some (some x) ∧ ((∃ s' h', step x s h = .go s' h' ∧ I (i + 1) s' h') ∨ ∃ r, step x s h = .out r ∧ Post r)) : Post (loopIt it step done bad n 0 s h) :=
  loopIt_ind hend hstep (N - 0) n 0 s h rfl (Nat.zero_le _) (by omega) h0
/-- while -/
theorem loopW_run {σ ρ : Type} {step : σ → PH → Lp σ ρ} {bad : ρ} {I : Nat → σ → PH → Prop} {Post : ρ → Prop}
    (hstep : ∀ m s h, I m s h → (∃ s' h' m', step s h = .go s' h' ∧ m' < m ∧ I m' s' h') ∨ ∃ r, step s h = .out r ∧ Post r) : ∀ (n m : Nat) (s : σ) (h : PH), m < n → I m s h → Post (loopW step bad n s h) := by
  intro n
  induction n with
  | zero => intro m s h hm; omega
  | succ n ih =>
    intro m s h hm hI
    unfold loopW
    rcases hstep m s h hI with ⟨s', h', m', e, hlt, I'⟩ | ⟨r, e, p⟩
    · rw [e]; exact ih m' s' h' (by omega) I'
    · rw [e]; exact p
theorem atI_nat {α : Type} {xs : List α} {n : Nat} {x : α} (h : xs[n]? = some x) : L2.atI xs (n : Int) = some x := by
  have hl := (List.getElem?_eq_some_iff.mp h).1
  unfold L2.atI L2.ixN
  rw [if_pos (by omega), if_pos (by omega)]
  simpa using h
/-! ### values -/
@[simp] theorem evL_nil {c : Cc} {r : Env} {h : PH} : evL c [] r h = .ok [] h := by unfold evL; rfl
@[simp] theorem evL_cons {c : Cc} {r : Env} {h : PH} {e : E} {es : List E} : evL c (e :: es) r h = (evE c e r h).bnd fun v h => (evL c es r h).bnd fun vs h => .ok (v :: vs) h := by (conv => lhs; unfold evL) <;> rfl
@[simp] theorem bnd_ok {α β : Type} {a : α} {h : PH} {f : α → PH → Rs β} : (Rs.ok a h).bnd f = f a h := rfl
@[simp] theorem st_ok {α : Type} {a : α} {h : PH} {r : Env} {f : α → PH → Rt} : (Rs.ok a h).st r f = f a h := rfl
@[simp] theorem tst_ok {b : Bool} {h : PH} : tst (.ok (.bl b) h) = .ok b h := rfl
@[simp] theorem ofOpt_some {v : PV} {h : PH} : ofOpt h (some v) = .ok v h := rfl
@[simp] theorem ofOptB_some {v : Bool} {h : PH} : ofOptB h (some v) = .ok (.bl v) h := rfl
@[simp] theorem ofOptI_some {v : It} {h : PH} : ofOptI h (some v) = .ok v h := rfl
section
variable {c : Cc} {r : Env} {h : PH}
@[simp] theorem ev_cst {v : PV} : evE c (.cst v) r h = .ok v h := by unfold evE; rfl
theorem ev_var {i : Nat} : evE c (.var i) r h = match r[i]? with | some (some v) => .ok v h | _ => .no := by unfold evE; rfl
@[simp] theorem ev_varE {i : Nat} {v : PV} (e : r[i]? = some (some v)) : evE c (.var i) r h = .ok v h := by rw [ev_var, e]
@[simp] theorem ev_tup {es : List E} : evE c (.tup es) r h = (evL c es r h).bnd fun vs h => if vs.length ≤ sizeLine then .ok (.tup vs) h else .no := by (conv => lhs; unfold evE) <;> rfl
@[simp] theorem ev_lst {es : List E} : evE c (.lst es) r h = (evL c es r h).bnd fun vs h => if vs.length ≤ sizeLine then .ok (.obj h.length) (h ++ [.lst false vs]) else .no := by (conv => lhs; unfold evE) <;> rfl
@[simp] theorem ev_bin {o : Op} {a b : E} : evE c (.bin o a b) r h = (evE c a r h).bnd fun x h => (evE c b r h).bnd fun y h => binop o x y h := by (conv => lhs; unfold evE) <;> rfl
@[simp] theorem ev_not {a : E} : evE c (.not a) r h = (tst (evE c a r h)).bnd fun x h => .ok (.bl (!x)) h := by (conv => lhs; unfold evE) <;> rfl
@[simp] theorem ev_and {a b : E} : evE c (.and a b) r h = (tst (evE c a r h)).bnd fun x h => if x = true then (tst (evE c b r h)).bnd fun y h => .ok (.bl y) h else .ok (.bl false) h := by (conv => lhs; unfold evE) <;> rfl
@[simp] theorem ev_or {a b : E} : evE c (.or a b) r h = (tst (evE c a r h)).bnd fun x h => if x = true then .ok (.bl true) h else (tst (evE c b r h)).bnd fun y h => .ok (.bl y) h := by (conv => lhs; unfold evE) <;> rfl
@[simp] theorem ev_cmp {o : Cp} {a b : E} : evE c (.cmp o a b) r h = (evE c a r h).bnd fun x h => (evE c b r h).bnd fun y h => ofOptB h (cmpop o x y h) := by (conv => lhs; unfold evE) <;> rfl
@[simp] theorem ev_chn {o p : Cp} {a b e : E} : evE c (.chn o p a b e) r h = (evE c a r h).bnd fun x h => (evE c b r h).bnd fun y h => match cmpop o x y h with
    | some true => (evE c e r h).bnd fun z h => ofOptB h (cmpop p y z h)
    | some false => .ok (.bl false) h
    | none => .no := by (conv => lhs; unfold evE) <;> rfl
@[simp] theorem ev_ite {t a b : E} : evE c (.ite t a b) r h = (tst (evE c t r h)).bnd fun x h => if x = true then evE c a r h else evE c b r h := by (conv => lhs; unfold evE) <;> rfl
@[simp] theorem ev_idx {a b : E} : evE c (.idx a b) r h = (evE c a r h).bnd fun x h => (evE c b r h).bnd fun y h => ofOpt h (idxop x y h) := by (conv => lhs; unfold evE) <;> rfl
@[simp] theorem ev_call {f : Nat} {es : List E} : evE c (.call f es) r h = (evL c es r h).bnd fun vs h => c.call f vs h := by (conv => lhs; unfold evE) <;> rfl
@[simp] theorem ev_callK {f : Nat} {es ks : List E} {ord : List Nat} : evE c (.callK f es ks ord) r h = (evL c es r h).bnd fun vs h => (evL c ks r h).bnd fun us h => match pick (vs ++ us) ord with
    | some ws => c.call f ws h
    | none => .no := by (conv => lhs; unfold evE) <;> rfl
@[simp] theorem ev_bf {b : Bf} {es : List E} : evE c (.bf b es) r h = (evL c es r h).bnd fun vs h => ofOpt h (bfop b vs h) := by (conv => lhs; unfold evE) <;> rfl
@[simp] theorem ev_mt {m : Mt} {o : E} {es : List E} : evE c (.mt m o es) r h = (evE c o r h).bnd fun x h => if mtTy m x h = true then (evL c es r h).bnd fun vs h => mtop m x vs h else .no := by (conv => lhs; unfold evE) <;> rfl
@[simp] theorem ev_slc {a lo hi : E} : evE c (.slc a lo hi) r h = (evE c a r h).bnd fun x h =>
    (if lo.isNop then .ok none h else optInt (evE c lo r h)).bnd fun l h =>
    (if hi.isNop then .ok none h else optInt (evE c hi r h)).bnd fun u h => slcop x l u h := by (conv => lhs; unfold evE) <;> rfl
@[simp] theorem ev_dct {es : List E} : evE c (.dct es) r h = (evL c es r h).bnd fun vs h => match pairsK vs [] with
    | some kvs => if vs.length ≤ 30 then .ok (.obj h.length) (h ++ [.dK kvs]) else .no
    | none => .no := by (conv => lhs; unfold evE) <;> rfl
@[simp] theorem ev_con {f : Fo} {it : E} : evE c (.con f it) r h = (evI c it r h).bnd fun w h => conW f w h := by (conv => lhs; unfold evE) <;> rfl
@[simp] theorem ev_glb {g : Nat} : evE c (.glb g) r h = ofOpt h (c.glb g) := by unfold evE; rfl
@[simp] theorem evi_itv {e : E} : evI c (.itv e) r h = (evE c e r h).bnd fun x h => ofOptI h (toIt x h) := by (conv => lhs; unfold evI) <;> rfl
@[simp] theorem evi_its {e : E} : evI c (.its e) r h = (evE c e r h).bnd fun x h => ofOptI h (toItC x h) := by (conv => lhs; unfold evI) <;> rfl
@[simp] theorem evi_rng {a b : E} : evI c (.rng a b) r h = (evE c a r h).bnd fun x h => (evE c b r h).bnd fun y h => rngOf x y h := by (conv => lhs; unfold evI) <;> rfl
@[simp] theorem evi_enm {e : E} : evI c (.enm e) r h = (evE c e r h).bnd fun x h => ofOptI h ((toIt x h).map .enm) := by (conv => lhs; unfold evI) <;> rfl
@[simp] theorem evi_zip {a b : E} : evI c (.zip a b) r h = (evE c a r h).bnd fun x h => (evE c b r h).bnd fun y h => ofOptI h (zipIt x y h) := by (conv => lhs; unfold evI) <;> rfl
@[simp] theorem ex_nil : exB c [] r h = .nx r h := by unfold exB; rfl
theorem ex_cons {s : S} {ss : List S} : exB c (s :: ss) r h = match exS c s r h with | .nx r' h' => exB c ss r' h' | z => z := by (conv => lhs; unfold exB) <;> rfl
theorem ex_cons_nx {s : S} {ss : List S} {r' : Env} {h' : PH} (e : exS c s r h = .nx r' h') : exB c (s :: ss) r h = exB c ss r' h' := by rw [ex_cons, e]
theorem ex_cons_rt {s : S} {ss : List S} {v : PV} {h' : PH} (e : exS c s r h = .rt v h') : exB c (s :: ss) r h = .rt v h' := by rw [ex_cons, e]
@[simp] theorem ex_ret {e : E} : exS c (.ret e) r h = (evE c e r h).st r fun v h => .rt v h := by (conv => lhs; unfold exS) <;> rfl
@[simp] theorem ex_expr {e : E} : exS c (.expr e) r h = (evE c e r h).st r fun _ h => .nx r h := by (conv => lhs; unfold exS) <;> rfl
@[simp] theorem ex_asg {t : Tg} {e : E} : exS c (.asg t e) r h = (evE c e r h).st r fun v h => match bindT t v r with
    | some r' => .nx r' h
    | none => .no := by (conv => lhs; unfold exS) <;> rfl
@[simp] theorem ex_ite {t : E} {a b : List S} : exS c (.ite t a b) r h = (tst (evE c t r h)).st r fun x h => if x = true then exB c a r h else exB c b r h := by (conv => lhs; unfold exS) <;> rfl
@[simp] theorem ex_set {o i e : E} : exS c (.set o i e) r h = (evE c e r h).st r fun v h => (evE c o r h).st r fun x h => (evE c i r h).st r fun y h => match setop x y v h with
    | some h => .nx r h
    | none => .no := by (conv => lhs; unfold exS) <;> rfl
theorem ex_for {t : Tg} {it : E} {b : List S} : exS c (.forS t it b) r h = (evI c it r h).st r fun w h => loopIt w (fun x r h => match bindT t x r with
      | none => .out .no
      | some r1 => match exB c b r1 h with
        | .nx r' h' => .go r' h'
        | .ct r' h' => .go r' h'
        | .bk r' h' => .out (.nx r' h')
        | z => .out z) (fun r h => .nx r h) .no c.fuel 0 r h := by (conv => lhs; unfold exS) <;> rfl
@[simp] theorem ex_tryN {b : List S} : exS c (.tryN b) r h = match exB c b r h with
    | .ex .. => .no
    | z => z := by (conv => lhs; unfold exS) <;> rfl
@[simp] theorem out_rt {n : Nat} {v : PV} : outOf n (.rt v h) = .ok v (gc n v h) := rfl
@[simp] theorem out_nx {n : Nat} : outOf n (.nx r h) = .ok .non (gc n .non h) := rfl
end
/-! ### loops, as statements and as comprehensions -/
theorem for_run {c : Cc} {r : Env} {h h1 : PH} {t : Tg} {it : E} {b : List S} {w : It} {N : Nat} {I : Nat → Env → PH → Prop} {Post : Rt → Prop} (hw : evI c it r h = .ok w h1) (hN : N < c.fuel) (h0 : I 0 r h1)
    (hend : ∀ r h, I N r h → itAt w N h = some none ∧ Post (.nx r h))
    (hstep : ∀ i r h, i < N → I i r h → ∃ x r1, itAt w i h = some (some x) ∧ bindT t x r = some r1 ∧ ((∃ r' h', exB c b r1 h = .nx r' h' ∧ I (i + 1) r' h') ∨ ∃ v h', exB c b r1 h = .rt v h' ∧ Post (.rt v h'))) : Post (exS c (.forS t it b) r h) := by
  rw [ex_for, hw, st_ok]
  refine loopIt_run (N := N) (I := I) (Post := Post) hN h0 hend fun i r h hi hI => ?_
  obtain ⟨x, r1, hx, hb, q⟩ := hstep i r h hi hI
  refine ⟨x, hx, ?_⟩
  simp only [hb]
  rcases q with ⟨r', h', e, I'⟩ | ⟨v, h', e, p⟩
  · exact .inl ⟨r', h', by rw [e], I'⟩
  · exact .inr ⟨.rt v h', by rw [e], p⟩
theorem whl_run {c : Cc} {r : Env} {h : PH} {t : E} {b : List S} {I : Nat → Env → PH → Prop} {Post : Rt → Prop} {m : Nat} (hm : m < c.fuel) (h0 : I m r h)
    (hstep : ∀ m r h, I m r h → (∃ h1 r' h' m', evE c t r h = .ok (.bl true) h1 ∧ exB c b r h1 = .nx r' h' ∧ m' < m ∧ I m' r' h') ∨ ∃ h1, evE c t r h = .ok (.bl false) h1 ∧ Post (.nx r h1)) : Post (exS c (.whl t b) r h) := by
  unfold exS
  refine loopW_run (I := I) (Post := Post) (fun m r h hI => ?_) c.fuel m r h hm h0
  rcases hstep m r h hI with ⟨h1, r', h', m', e1, e2, hlt, I'⟩ | ⟨h1, e, p⟩
  · exact .inl ⟨r', h', m', by simp only [e1, tst_ok, e2], hlt, I'⟩
  · exact .inr ⟨.nx r h1, by simp only [e, tst_ok], p⟩
theorem comp_run {c : Cc} {r : Env} {h : PH} {t : Tg} {own : List Nat} {cond elt : E} {w : It} {N : Nat} {I : Nat → List PV → PH → Prop} (hN : N < c.fuel) (h0 : I 0 [] h)
    (hend : ∀ acc h, I N acc h → itAt w N h = some none)
    (hstep : ∀ i acc h, i < N → I i acc h → ∃ x r1 b h1, itAt w i h = some (some x) ∧ bindT t x (wipeP r own) = some r1 ∧ evE c cond r1 h = .ok (.bl b) h1 ∧ (if b = true then ∃ y h2, evE c elt r1 h1 = .ok y h2 ∧ acc.length < sizeLine ∧ I (i + 1) (acc ++ [y]) h2 else I (i + 1) acc h1)) :
    ∃ acc h', loopIt w (compStep t own r (fun r h => evE c cond r h) (fun r h => evE c elt r h)) (fun acc h => Rs.ok acc h) .no c.fuel 0 [] h = .ok acc h' ∧ I N acc h' := by
  refine loopIt_run (N := N) (I := I) (Post := fun x => ∃ acc h', x = Rs.ok acc h' ∧ I N acc h') hN h0 (fun acc h hI => ⟨hend acc h hI, acc, h, rfl, hI⟩) fun i acc h hi hI => ?_
  obtain ⟨x, r1, b, h1, hx, hb, hc, q⟩ := hstep i acc h hi hI
  refine ⟨x, hx, .inl ?_⟩
  unfold compStep
  simp only [hb, hc, tst_ok]
  cases b with
  | true =>
    rw [if_pos rfl] at q
    obtain ⟨y, h2, e, hz, I'⟩ := q
    exact ⟨acc ++ [y], h2, by simp only [e, hz, if_true], I'⟩
  | false =>
    rw [if_neg Bool.false_ne_true] at q
    exact ⟨acc, h1, rfl, q⟩
/-- nothing changes but the list grows -/
theorem comp_list {c : Cc} {r : Env} {h : PH} {t : Tg} {own : List Nat} {elt : E} {w : It} (ys : List PV) (hN : ys.length < c.fuel) (hz : ys.length ≤ sizeLine) (hend : itAt w ys.length h = some none)
    (hstep : ∀ (i : Nat) (y : PV), ys[i]? = some y → ∃ x r1, itAt w i h = some (some x) ∧ bindT t x (wipeP r own) = some r1 ∧ evE c elt r1 h = .ok y h) :
    loopIt w (compStep t own r (fun r h => evE c (.cst (.bl true)) r h) (fun r h => evE c elt r h)) (fun acc h => Rs.ok acc h) .no c.fuel 0 [] h = .ok ys h := by
  obtain ⟨acc, h', e, ha, hh⟩ := comp_run (c := c) (r := r) (t := t) (own := own) (cond := .cst (.bl true)) (elt := elt) (w := w) (h := h) (N := ys.length) (I := fun i acc h' => acc = ys.take i ∧ h' = h) hN ⟨by simp, rfl⟩ (fun acc h' ⟨_, e⟩ => by rw [e]; exact hend) (fun i acc h' hi ⟨ha, hh⟩ => by
    subst hh
    obtain ⟨x, r1, h1, h2, h3⟩ := hstep i ys[i] (List.getElem?_eq_getElem hi)
    refine ⟨x, r1, true, h', h1, h2, ev_cst, ?_⟩
    rw [if_pos rfl]
    refine ⟨_, h', h3, by rw [ha, List.length_take]; omega, ?_, rfl⟩
    rw [ha, List.take_succ, List.getElem?_eq_getElem hi]; rfl)
  rw [e, ha, hh, List.take_length]
theorem evi_itc {c : Cc} {r : Env} {h : PH} {elt it cond : E} {t : Tg} {own : List Nat} : evI c (.itc elt t it cond own) r h = (evI c it r h).bnd fun w h =>
    valsIt (loopIt w (compStep t own r (fun r h => evE c cond r h) (fun r h => evE c elt r h)) (fun acc h => .ok acc h) .no c.fuel 0 [] h) := by (conv => lhs; unfold evI) <;> rfl
theorem ev_comp {c : Cc} {r : Env} {h : PH} {elt it cond : E} {t : Tg} {own : List Nat} : evE c (.comp elt t it cond own) r h = (evI c it r h).bnd fun w h =>
    newList (loopIt w (compStep t own r (fun r h => evE c cond r h) (fun r h => evE c elt r h)) (fun acc h => .ok acc h) .no c.fuel 0 [] h) := by (conv => lhs; unfold evE) <;> rfl
@[simp] theorem itAt_vals {xs : List PV} {i : Nat} {h : PH} : itAt (.vals xs) i h = some xs[i]? := by unfold itAt; rfl
theorem itAt_rng {lo : Int} {n i : Nat} {h : PH} : itAt (.rng lo n) i h = some (if i < n then some (.int (lo + i)) else none) := by unfold itAt; rfl
theorem itAt_live {n i : Nat} {h : PH} {fz : Bool} {xs : List PV} (e : h[n]? = some (.lst fz xs)) : itAt (.live n) i h = some xs[i]? := by unfold itAt; rw [e]
theorem itAt_enm {xs : List PV} {i : Nat} {h : PH} : itAt (.enm (.vals xs)) i h = some (xs[i]?.map fun x => .tup [.int i, x]) := by
  unfold itAt
  rw [itAt_vals]
  cases xs[i]? <;> rfl
theorem itAt_zip {xs ys : List PV} {i : Nat} {h : PH} {x y : PV} (hx : xs[i]? = some x) (hy : ys[i]? = some y) : itAt (.zip (.vals xs) (.vals ys)) i h = some (some (.tup [x, y])) := by
  unfold itAt
  rw [itAt_vals, itAt_vals, hx, hy]
theorem itAt_zipE {xs ys : List PV} {i : Nat} {h : PH} (hx : xs[i]? = none) : itAt (.zip (.vals xs) (.vals ys)) i h = some none := by
  unfold itAt
  rw [itAt_vals, itAt_vals, hx]
end EV
end
section
set_option Elab.async false
set_option linter.all false
set_option maxRecDepth 100000
namespace Lw
open PySem EV
abbrev P := S.prog
/-! ### data -/
abbrev nI (n : Nat) : PV := .int (n : Int)
def pv2 (p : Nat × Nat) : PV := .tup [nI p.1, nI p.2]
def rowP (r : List (Nat × Nat)) : PV := .tup (r.map pv2)
def tabP (t : List (List (Nat × Nat))) : PV := .tup (t.map rowP)
structure Box where
  n : Nat
  A : Nat
  t : List (List (Nat × Nat))
def Box.pv (b : Box) : PV := .tup [nI b.n, nI b.A, tabP b.t]
structure Box.Ok (b : Box) : Prop where
  n1 : 1 ≤ b.n
  n4 : b.n ≤ 4
  a1 : 1 ≤ b.A
  a9 : b.A ≤ 9
  t1 : 1 ≤ b.t.length
  t60 : b.t.length ≤ 60
  row : ∀ r ∈ b.t, r.length = b.n ∧ ∀ p ∈ r, p.1 < b.A ∧ p.2 < b.t.length
abbrev wrdP (w : List Nat) : PV := .tup (w.map nI)
theorem fuelE {k : Nat} : (P.cc k).fuel = 1000000000 := rfl
theorem glbE {k g : Nat} : (P.cc k).glb g = (S.cons[g]?).map fun q => PV.int q.2 := rfl
theorem size_big {n : Nat} (h : n ≤ 1048576) : n ≤ sizeLine := by rw [sizeLine_eq]; omega
theorem c0 {i : Int} {h : PH} : Cal P 1 0 [.int i] h (.ok (.bl true) h) := Cal.mk p0 rfl fun k hk => by
  simp [b0, ex_cons, bfop, isTy, gc_len]
theorem c1 {i lo hi : Int} {h : PH} : Cal P 2 1 [.int i, .int lo, .int hi] h (.ok (.bl (decide (lo ≤ i ∧ i ≤ hi))) h) := Cal.mk p1 rfl fun k hk => by
  have e0 : (P.cc k).call 0 [.int i] h = _ := c0.at hk
  by_cases h1 : lo ≤ i
  · simp [b1, ex_cons, e0, cmpop, h1, gc_len]
  · simp [b1, ex_cons, e0, cmpop, h1, gc_len]
theorem c1t {i lo hi : Int} {h : PH} (h1 : lo ≤ i) (h2 : i ≤ hi) : Cal P 2 1 [.int i, .int lo, .int hi] h (.ok (.bl true) h) := by
  have := c1 (i := i) (lo := lo) (hi := hi) (h := h)
  rw [show decide (lo ≤ i ∧ i ≤ hi) = true from decide_eq_true ⟨h1, h2⟩] at this
  exact this
theorem c2 {p : Nat × Nat} {A M : Nat} {h : PH} (h1 : p.1 < A) (h2 : p.2 < M) : Cal P 3 2 [pv2 p, nI A, nI M] h (.ok (.bl true) h) := Cal.mk p2 rfl fun k hk => by
  have e1 : (P.cc k).call 1 [.int p.1, .int 0, .int ((A : Int) - 1)] h = _ := (c1t (by omega) (by omega)).at hk
  have e2 : (P.cc k).call 1 [.int p.2, .int 0, .int ((M : Int) - 1)] h = _ := (c1t (by omega) (by omega)).at hk
  have i0 : L2.atI [nI p.1, nI p.2] 0 = some (nI p.1) := atI_nat (n := 0) rfl
  have i1 : L2.atI [nI p.1, nI p.2] 1 = some (nI p.2) := atI_nat (n := 1) rfl
  simp [b2, ex_cons, pv2, bfop, isTy, lenOf, cmpop, pyEq, toD, PyData.eqv, idxop, i0, i1, binop, e1, e2, gc_len]
theorem row_get {b : Box} (o : b.Ok) {i : Nat} (hi : i < b.t.length) : ∃ r, b.t[i]? = some r ∧ r.length = b.n ∧ ∀ p ∈ r, p.1 < b.A ∧ p.2 < b.t.length :=
  ⟨b.t[i], List.getElem?_eq_getElem hi, o.row _ (List.getElem_mem hi)⟩
theorem idx_tab {t : List (List (Nat × Nat))} {i : Nat} {r : List (Nat × Nat)} (e : t[i]? = some r) {h : PH} : idxop (tabP t) (nI i) h = some (rowP r) := by
  show L2.atI (t.map rowP) (i : Int) = _
  exact atI_nat (by rw [List.getElem?_map, e]; rfl)
theorem idx_row {r : List (Nat × Nat)} {i : Nat} {p : Nat × Nat} (e : r[i]? = some p) {h : PH} : idxop (rowP r) (nI i) h = some (pv2 p) := by
  show L2.atI (r.map pv2) (i : Int) = _
  exact atI_nat (by rw [List.getElem?_map, e]; rfl)
theorem idx_box0 {b : Box} {h : PH} : idxop b.pv (.int 0) h = some (nI b.n) := atI_nat (n := 0) rfl
theorem idx_box1 {b : Box} {h : PH} : idxop b.pv (.int 1) h = some (nI b.A) := atI_nat (n := 1) rfl
theorem idx_box2 {b : Box} {h : PH} : idxop b.pv (.int 2) h = some (tabP b.t) := atI_nat (n := 2) rfl
theorem idx_pair0 {p : Nat × Nat} {h : PH} : idxop (pv2 p) (.int 0) h = some (nI p.1) := atI_nat (n := 0) rfl
theorem idx_pair1 {p : Nat × Nat} {h : PH} : idxop (pv2 p) (.int 1) h = some (nI p.2) := atI_nat (n := 1) rfl
theorem len_tab {t : List (List (Nat × Nat))} {h : PH} : lenOf (tabP t) h = some t.length := by show some (t.map rowP).length = _; rw [List.length_map]
theorem len_row {t : List (Nat × Nat)} {h : PH} : lenOf (rowP t) h = some t.length := by show some (t.map pv2).length = _; rw [List.length_map]
theorem len_wrd {w : List Nat} {h : PH} : lenOf (wrdP w) h = some w.length := by show some (w.map nI).length = _; rw [List.length_map]
theorem cmp_ne {i j : Int} {h : PH} : cmpop .ne (.int i) (.int j) h = some (!decide (i = j)) := by
  simp [cmpop, pyEq, toD, PyData.eqv]
  exact (Bool.beq_eq_decide_eq i j)
theorem cmp_eq {i j : Int} {h : PH} : cmpop .eq (.int i) (.int j) h = some (decide (i = j)) := by
  simp [cmpop, pyEq, toD, PyData.eqv]
  exact (Bool.beq_eq_decide_eq i j)
theorem isT_tup {xs : List PV} {h : PH} : isTy .tuple (.tup xs) h = some true := rfl
theorem c3 {b : Box} (o : b.Ok) {i : Nat} (hi : i < b.t.length) {h : PH} : Cal P 4 3 [b.pv, nI i] h (.ok .non h) := Cal.mk p3 rfl fun k hk => by
  obtain ⟨r, e, hl, hr⟩ := row_get o hi
  have s1 : exS (P.cc k) (.asg (.nm 2) (.idx (.idx (.var 0) (.cst (.int 2))) (.var 1))) [some b.pv, some (nI i), none, none, none] h = .nx [some b.pv, some (nI i), some (rowP r), none, none] h := by
    simp [idx_box2, idx_tab e, bindT]
  have s2 : exS (P.cc k) (.ite (.or (.not (.bf (.isinst .tuple) [.var 2])) (.cmp .ne (.bf .len [.var 2]) (.idx (.var 0) (.cst (.int 0))))) [.bad] []) [some b.pv, some (nI i), some (rowP r), none, none] h = .nx [some b.pv, some (nI i), some (rowP r), none, none] h := by
    simp [bfop, rowP, isT_tup]
    simp [lenOf, idx_box0, cmp_ne, hl]
  have s3 : ∃ r', exS (P.cc k) (.forS (.tup [.nm 3, .nm 4]) (.enm (.var 2)) [.ite (.not (.call 2 [.var 4, .idx (.var 0) (.cst (.int 1)), .bf .len [.idx (.var 0) (.cst (.int 2))]])) [.bad] []]) [some b.pv, some (nI i), some (rowP r), none, none] h = .nx r' h := by
    refine for_run (w := .enm (.vals (r.map pv2))) (N := r.length) (I := fun _ r1 h1 => h1 = h ∧ ∃ x y, r1 = [some b.pv, some (nI i), some (rowP r), x, y]) (Post := fun x => ∃ r', x = .nx r' h) (h1 := h) (by simp [rowP, toIt]) (by rw [fuelE, hl]; have := o.n4; omega) ⟨rfl, _, _, rfl⟩ (fun r1 h1 ⟨e1, _⟩ => ⟨by rw [itAt_enm]; simp, r1, by rw [e1]⟩) fun j r1 h1 hj ⟨e1, x, y, e2⟩ => ?_
    subst e1 e2
    refine ⟨.tup [.int j, pv2 r[j]], [some b.pv, some (nI i), some (rowP r), some (.int j), some (pv2 r[j])], by rw [itAt_enm]; simp [hj], by simp [bindT, bindTs], .inl ⟨[some b.pv, some (nI i), some (rowP r), some (.int j), some (pv2 r[j])], h1, ?_, rfl, _, _, rfl⟩⟩
    have e2 : (P.cc k).call 2 [pv2 r[j], nI b.A, nI b.t.length] h1 = _ := (c2 (hr _ (List.getElem_mem hj)).1 (hr _ (List.getElem_mem hj)).2).at hk
    simp [ex_cons, idx_box1, idx_box2, bfop, len_tab, e2]
  obtain ⟨r', s3⟩ := s3
  show outOf _ (exB _ _ [some b.pv, some (nI i), none, none, none] h) = _
  rw [show (FD.mk 2 5 b3).body = b3 from rfl]
  unfold b3
  rw [ex_cons_nx s1, ex_cons_nx s2, ex_cons_nx s3, ex_nil, out_nx, gc_len]
end Lw
end
section
set_option Elab.async false
set_option linter.all false
set_option maxRecDepth 100000
namespace Lw
open PySem EV
theorem g0 {k : Nat} : (P.cc k).glb 0 = some (.int 4) := rfl
theorem g1 {k : Nat} : (P.cc k).glb 1 = some (.int 9) := rfl
theorem g2 {k : Nat} : (P.cc k).glb 2 = some (.int 60) := rfl
theorem g3 {k : Nat} : (P.cc k).glb 3 = some (.int 200000) := rfl
theorem g4 {k : Nat} : (P.cc k).glb 4 = some (.int 1000000000000000000) := rfl
theorem g5 {k : Nat} : (P.cc k).glb 5 = some (.int 60) := rfl
theorem g6 {k : Nat} : (P.cc k).glb 6 = some (.int 40) := rfl
theorem rng_ok {n : Nat} {h : PH} (hn : n ≤ 1048576) : rngOf (.int 0) (.int (n : Int)) h = .ok (.rng 0 n) h := by
  unfold rngOf
  simp only
  rw [if_pos (by omega)]
  simp
theorem evi_rng0 {c : Cc} {r : EV.Env} {h : PH} {b : E} {n : Nat} (e : evE c b r h = .ok (.int (n : Int)) h) (hn : n ≤ 1048576) : evI c (.rng (.cst (.int 0)) b) r h = .ok (.rng 0 n) h := by
  rw [evi_rng, ev_cst, bnd_ok, e, bnd_ok]
  exact rng_ok hn
theorem c4 {b : Box} (o : b.Ok) {h : PH} : Cal P 5 4 [b.pv] h (.ok b.pv h) := Cal.mk p4 rfl fun k hk => by
  have e1 : (P.cc k).call 1 [nI b.n, .int 1, .int 4] h = _ := (c1t (by have := o.n1; omega) (by have := o.n4; omega)).at (by omega)
  have e2 : (P.cc k).call 1 [nI b.A, .int 1, .int 9] h = _ := (c1t (by have := o.a1; omega) (by have := o.a9; omega)).at (by omega)
  have t1 : isTy .tuple b.pv h = some true := rfl
  have t2 : isTy .tuple (tabP b.t) h = some true := rfl
  have l1 : lenOf b.pv h = some 3 := rfl
  have s1 : exS (P.cc k) (.ite (.or (.not (.bf (.isinst .tuple) [.var 0])) (.cmp .ne (.bf .len [.var 0]) (.cst (.int 3)))) [.bad] []) [some b.pv, none] h = .nx [some b.pv, none] h := by
    simp [bfop, t1, l1, cmp_ne]
  have s2 : exS (P.cc k) (.ite (.not (.call 1 [.idx (.var 0) (.cst (.int 0)), .cst (.int 1), .glb 0])) [.bad] []) [some b.pv, none] h = .nx [some b.pv, none] h := by
    simp [idx_box0, g0, e1]
  have s3 : exS (P.cc k) (.ite (.not (.call 1 [.idx (.var 0) (.cst (.int 1)), .cst (.int 1), .glb 1])) [.bad] []) [some b.pv, none] h = .nx [some b.pv, none] h := by
    simp [idx_box1, g1, e2]
  have s4 : exS (P.cc k) (.ite (.or (.not (.bf (.isinst .tuple) [.idx (.var 0) (.cst (.int 2))])) (.not (.chn .le .le (.cst (.int 1)) (.bf .len [.idx (.var 0) (.cst (.int 2))]) (.glb 2)))) [.bad] []) [some b.pv, none] h = .nx [some b.pv, none] h := by
    have q1 : decide ((1 : Int) ≤ (b.t.length : Int)) = true := decide_eq_true (by have := o.t1; omega)
    have q2 : decide ((b.t.length : Int) ≤ 60) = true := decide_eq_true (by have := o.t60; omega)
    simp [idx_box2, bfop, t2, len_tab, g2, cmpop, q1, q2]
  have s5 : ∃ r', exS (P.cc k) (.forS (.nm 1) (.rng (.cst (.int 0)) (.bf .len [.idx (.var 0) (.cst (.int 2))])) [.expr (.call 3 [.var 0, .var 1])]) [some b.pv, none] h = .nx r' h ∧ ∃ x, r' = [some b.pv, x] := by
    refine for_run (w := .rng 0 b.t.length) (N := b.t.length) (I := fun _ r1 h1 => h1 = h ∧ ∃ x, r1 = [some b.pv, x]) (Post := fun x => ∃ r', x = .nx r' h ∧ ∃ x, r' = [some b.pv, x]) (h1 := h) ?_ (by rw [fuelE]; have := o.t60; omega) ⟨rfl, _, rfl⟩ (fun r1 h1 ⟨q1, x, q2⟩ => ⟨by rw [itAt_rng]; simp, r1, by rw [q1], x, q2⟩) fun j r1 h1 hj ⟨q1, x, q2⟩ => ?_
    · exact evi_rng0 (by simp [idx_box2, bfop, len_tab]) (by have := o.t60; omega)
    · subst q1 q2
      refine ⟨nI j, [some b.pv, some (nI j)], by rw [itAt_rng]; simp [hj], by simp [bindT], .inl ⟨[some b.pv, some (nI j)], h1, ?_, rfl, _, rfl⟩⟩
      have e3 : (P.cc k).call 3 [b.pv, nI j] h1 = _ := (c3 o hj).at hk
      simp [ex_cons, e3]
  obtain ⟨r', s5, x, er⟩ := s5
  show outOf _ (exB _ _ [some b.pv, none] h) = _
  rw [show (FD.mk 1 2 b4).body = b4 from rfl]
  unfold b4
  rw [ex_cons_nx s1, ex_cons_nx s2, ex_cons_nx s3, ex_cons_nx s4, ex_cons_nx s5, er]
  simp [ex_cons, gc_len]
theorem c5 {b : Box} (o : b.Ok) {h : PH} : Cal P 6 5 [b.pv] h (.ok (.bl true) h) := Cal.mk p5 rfl fun k hk => by
  have e1 : (P.cc k).call 4 [b.pv] h = _ := (c4 o).at hk
  simp [b5, ex_cons, e1, gc_len]
theorem c6 {b : Box} {s : Nat} (hs : s < b.t.length) {h : PH} : Cal P 3 6 [b.pv, nI s] h (.ok .non h) := Cal.mk p6 rfl fun k hk => by
  have e1 : (P.cc k).call 1 [nI s, .int 0, .int ((b.t.length : Int) - 1)] h = _ := (c1t (by omega) (by omega)).at hk
  simp [b6, ex_cons, idx_box2, bfop, len_tab, binop, e1, gc_len]
/-- a word for n inputs -/
def WOk (n : Nat) (w : List Nat) : Prop := w.length ≤ 200000 ∧ ∀ x ∈ w, x < n
theorem c8 {n : Nat} {w : List Nat} (o : WOk n w) {h : PH} : Cal P 3 8 [nI n, wrdP w] h (.ok .non h) := Cal.mk p8 rfl fun k hk => by
  have s1 : exS (P.cc k) (.ite (.or (.not (.bf (.isinst .tuple) [.var 1])) (.cmp .gt (.bf .len [.var 1]) (.glb 3))) [.bad] []) [some (nI n), some (wrdP w), none, none] h = .nx [some (nI n), some (wrdP w), none, none] h := by
    have q : ¬ ((200000 : Int) < (w.length : Int)) := by have := o.1; omega
    simp [bfop, isT_tup, lenOf, g3, cmpop]
    simp [q]
  have s2 : ∃ r', exS (P.cc k) (.forS (.tup [.nm 2, .nm 3]) (.enm (.var 1)) [.ite (.not (.call 1 [.var 3, .cst (.int 0), .bin .sub (.var 0) (.cst (.int 1))])) [.bad] []]) [some (nI n), some (wrdP w), none, none] h = .nx r' h := by
    refine for_run (w := .enm (.vals (w.map nI))) (N := w.length) (I := fun _ r1 h1 => h1 = h ∧ ∃ x y, r1 = [some (nI n), some (wrdP w), x, y]) (Post := fun x => ∃ r', x = .nx r' h) (h1 := h) (by simp [toIt]) (by rw [fuelE]; have := o.1; omega) ⟨rfl, _, _, rfl⟩ (fun r1 h1 ⟨e1, _⟩ => ⟨by rw [itAt_enm]; simp, r1, by rw [e1]⟩) fun j r1 h1 hj ⟨e1, x, y, e2⟩ => ?_
    subst e1 e2
    refine ⟨.tup [.int j, nI w[j]], [some (nI n), some (wrdP w), some (.int j), some (nI w[j])], by rw [itAt_enm]; simp [hj], by simp [bindT, bindTs], .inl ⟨[some (nI n), some (wrdP w), some (.int j), some (nI w[j])], h1, ?_, rfl, _, _, rfl⟩⟩
    have hlt := o.2 w[j] (List.getElem_mem hj)
    have e2 : (P.cc k).call 1 [nI w[j], .int 0, .int ((n : Int) - 1)] h1 = _ := (c1t (by omega) (by omega)).at hk
    simp [ex_cons, binop, e2]
  obtain ⟨r', s2⟩ := s2
  show outOf _ (exB _ _ [some (nI n), some (wrdP w), none, none] h) = _
  rw [show (FD.mk 2 4 b8).body = b8 from rfl]
  unfold b8
  rw [ex_cons_nx s1, ex_cons_nx s2, ex_nil, out_nx, gc_len]
theorem c7 {n : Nat} {w : List Nat} (o : WOk n w) {h : PH} (cl : Cl h) : Cal P 3 7 [nI n, wrdP w] h (.ok (.bl true) h) := Cal.mk p7 rfl fun k hk => by
  have s1 : exS (P.cc k) (.ite (.or (.not (.bf (.isinst .tuple) [.var 1])) (.cmp .gt (.bf .len [.var 1]) (.glb 3))) [.ret (.cst (.bl false))] []) [some (nI n), some (wrdP w), none] h = .nx [some (nI n), some (wrdP w), none] h := by
    have q : ¬ ((200000 : Int) < (w.length : Int)) := by have := o.1; omega
    simp [bfop, isT_tup, lenOf, g3, cmpop]
    simp [q]
  have s2 := comp_list (c := P.cc k) (r := [some (nI n), some (wrdP w), none]) (h := h) (t := .nm 2) (own := [2]) (elt := .call 1 [.var 2, .cst (.int 0), .bin .sub (.var 0) (.cst (.int 1))]) (w := .vals (w.map nI)) (w.map fun _ => PV.bl true) (by rw [fuelE, List.length_map]; have := o.1; omega) (by rw [List.length_map]; exact size_big (by have := o.1; omega)) (by simp) fun i y hy => by
    rw [List.getElem?_map] at hy
    obtain ⟨x, hx, rfl⟩ := Option.map_eq_some_iff.mp hy
    have hlt := o.2 x (List.mem_of_getElem? hx)
    have e2 : (P.cc k).call 1 [nI x, .int 0, .int ((n : Int) - 1)] h = _ := (c1t (by omega) (by omega)).at hk
    refine ⟨nI x, [some (nI n), some (wrdP w), some (nI x)], by simp [hx], by simp [bindT, wipeP], ?_⟩
    simp [binop, e2]
  show outOf _ (exB _ _ [some (nI n), some (wrdP w), none] h) = _
  rw [show (FD.mk 2 3 b7).body = b7 from rfl]
  unfold b7
  rw [ex_cons_nx s1]
  have hb : ∀ m : List Nat, blsOf (m.map fun _ => PV.bl true) = some (m.map fun _ => true) := by
    intro m
    induction m with
    | nil => rfl
    | cons x m ih => simp [blsOf, ih]
  have ha : ∀ m : List Nat, (m.map fun _ => true).all id = true := by
    intro m
    induction m with
    | nil => rfl
    | cons x m ih => simp
  have e : evE (P.cc k) (.con .all (.itc (.call 1 [.var 2, .cst (.int 0), .bin .sub (.var 0) (.cst (.int 1))]) (.nm 2) (.itv (.var 1)) (.cst (.bl true)) [2])) [some (nI n), some (wrdP w), none] h = .ok (.bl true) h := by
    simp only [ev_con, evi_itc, evi_itv]
    rw [ev_varE (v := wrdP w) rfl, bnd_ok]
    show ((ofOptI h (some (.vals (w.map nI)))).bnd _).bnd _ = _
    rw [ofOptI_some, bnd_ok, s2]
    simp only [valsIt, bnd_ok, conW, itList, conop, hb, ha]
  rw [ex_cons, ex_ret, e, st_ok]
  simp [gc_len]
end Lw
end
section
set_option Elab.async false
set_option linter.all false
set_option maxRecDepth 100000
namespace Lw
open PySem EV
theorem get_last {h : PH} {o : PO} : (h ++ [o])[h.length]? = some o := by simp
theorem set_last {h : PH} {o o' : PO} : (h ++ [o]).set h.length o' = h ++ [o'] := by simp
/-! ### runs -/
def stp (t : List (List (Nat × Nat))) (s x : Nat) : Nat × Nat := ((t[s]?.getD [])[x]?).getD (0, 0)
def stepR (t : List (List (Nat × Nat))) (q : List Nat × Nat) (x : Nat) : List Nat × Nat := (q.1 ++ [(stp t q.2 x).1], (stp t q.2 x).2)
def runR (t : List (List (Nat × Nat))) (s : Nat) (w : List Nat) : List Nat × Nat := w.foldl (stepR t) ([], s)
theorem runR_take {t : List (List (Nat × Nat))} {s : Nat} {w : List Nat} {i : Nat} {x : Nat} (h : w[i]? = some x) : runR t s (w.take (i + 1)) = stepR t (runR t s (w.take i)) x := by
  unfold runR
  rw [List.take_succ, h, List.foldl_append]; rfl
theorem stp_ok {b : Box} (o : b.Ok) {s x : Nat} (hs : s < b.t.length) (hx : x < b.n) : ∃ r, b.t[s]? = some r ∧ r[x]? = some (stp b.t s x) ∧ (stp b.t s x).1 < b.A ∧ (stp b.t s x).2 < b.t.length := by
  obtain ⟨r, e, hl, hr⟩ := row_get o hs
  have hx' : x < r.length := by omega
  refine ⟨r, e, ?_, ?_⟩
  · unfold stp
    rw [e]
    simp [hx']
  · have : stp b.t s x = r[x] := by unfold stp; rw [e]; simp [hx']
    rw [this]
    exact hr _ (List.getElem_mem hx')
theorem runR_ok {b : Box} (o : b.Ok) {s : Nat} (hs : s < b.t.length) : ∀ (w : List Nat) (acc : List Nat), (∀ x ∈ w, x < b.n) → (∀ a ∈ acc, a < b.A) → (w.foldl (stepR b.t) (acc, s)).2 < b.t.length ∧ (∀ a ∈ (w.foldl (stepR b.t) (acc, s)).1, a < b.A) ∧ (w.foldl (stepR b.t) (acc, s)).1.length = acc.length + w.length := by
  intro w
  induction w generalizing s with
  | nil => intro acc _ ha; exact ⟨hs, ha, rfl⟩
  | cons x w ih =>
    intro acc hw ha
    obtain ⟨r, _, _, h1, h2⟩ := stp_ok o hs (hw x List.mem_cons_self)
    obtain ⟨q1, q2, q3⟩ := ih h2 (acc ++ [(stp b.t s x).1]) (fun y hy => hw y (List.mem_cons_of_mem _ hy)) fun a hm => by
      rcases List.mem_append.mp hm with m | m
      · exact ha a m
      · rw [List.mem_singleton.mp m]; exact h1
    exact ⟨q1, q2, by rw [List.foldl_cons]; show (w.foldl (stepR b.t) (acc ++ [_], _)).1.length = _; rw [q3]; simp; omega⟩
theorem run_len {b : Box} (o : b.Ok) {s : Nat} (hs : s < b.t.length) {w : List Nat} (hw : ∀ x ∈ w, x < b.n) : (runR b.t s w).1.length = w.length := by
  have := (runR_ok o hs w [] hw (by simp)).2.2
  simpa [runR] using this
theorem run_end {b : Box} (o : b.Ok) {s : Nat} (hs : s < b.t.length) {w : List Nat} (hw : ∀ x ∈ w, x < b.n) : (runR b.t s w).2 < b.t.length := (runR_ok o hs w [] hw (by simp)).1
theorem run_ans {b : Box} (o : b.Ok) {s : Nat} (hs : s < b.t.length) {w : List Nat} (hw : ∀ x ∈ w, x < b.n) : ∀ a ∈ (runR b.t s w).1, a < b.A := (runR_ok o hs w [] hw (by simp)).2.1
theorem mem_take {w : List Nat} {n i : Nat} (hw : ∀ x ∈ w, x < n) : ∀ x ∈ w.take i, x < n := fun x hx => hw x (List.mem_of_mem_take hx)
theorem wrd_old {n : Nat} {w : List Nat} : (wrdP w).old n = true := by
  show oldL n (w.map nI) = true
  exact oldL_all fun x hx => by obtain ⟨y, _, rfl⟩ := List.mem_map.mp hx; rfl
theorem oldL_nI {n : Nat} {w : List Nat} : oldL n (w.map nI) = true := oldL_all fun x hx => by obtain ⟨y, _, rfl⟩ := List.mem_map.mp hx; rfl
theorem c9s {b : Box} (o : b.Ok) {s : Nat} {w : List Nat} (q : List Nat × Nat) {v : Nat} (hq : q.2 < b.t.length) (hv : v < b.n) (hlen : q.1.length < sizeLine) {h : PH} {k : Nat} {y : Option PV} : exB (P.cc k) [.asg (.tup [.nm 6, .nm 4]) (.idx (.idx (.var 0) (.var 4)) (.var 5)), .expr (.mt .append (.var 3) [.var 6])] [some (tabP b.t), some (nI s), some (wrdP w), some (.obj h.length), some (nI q.2), some (nI v), y] (h ++ [.lst false (q.1.map nI)]) =
    .nx [some (tabP b.t), some (nI s), some (wrdP w), some (.obj h.length), some (nI (stp b.t q.2 v).2), some (nI v), some (nI (stp b.t q.2 v).1)] (h ++ [.lst false ((stepR b.t q v).1.map nI)]) := by
  obtain ⟨r, e1, e2, e3, e4⟩ := stp_ok o hq hv
  have a1 : exS (P.cc k) (.asg (.tup [.nm 6, .nm 4]) (.idx (.idx (.var 0) (.var 4)) (.var 5))) [some (tabP b.t), some (nI s), some (wrdP w), some (.obj h.length), some (nI q.2), some (nI v), y] (h ++ [.lst false (q.1.map nI)]) =
      .nx [some (tabP b.t), some (nI s), some (wrdP w), some (.obj h.length), some (nI (stp b.t q.2 v).2), some (nI v), some (nI (stp b.t q.2 v).1)] (h ++ [.lst false (q.1.map nI)]) := by
    have e : evE (P.cc k) (.idx (.idx (.var 0) (.var 4)) (.var 5)) [some (tabP b.t), some (nI s), some (wrdP w), some (.obj h.length), some (nI q.2), some (nI v), y] (h ++ [.lst false (q.1.map nI)]) = .ok (pv2 (stp b.t q.2 v)) (h ++ [.lst false (q.1.map nI)]) := by
      simp [idx_tab e1, idx_row e2]
    rw [ex_asg, e, st_ok]
    rfl
  have a2 : exS (P.cc k) (.expr (.mt .append (.var 3) [.var 6])) [some (tabP b.t), some (nI s), some (wrdP w), some (.obj h.length), some (nI (stp b.t q.2 v).2), some (nI v), some (nI (stp b.t q.2 v).1)] (h ++ [.lst false (q.1.map nI)]) =
      .nx [some (tabP b.t), some (nI s), some (wrdP w), some (.obj h.length), some (nI (stp b.t q.2 v).2), some (nI v), some (nI (stp b.t q.2 v).1)] (h ++ [.lst false ((stepR b.t q v).1.map nI)]) := by
    simp [mtTy, mtop, hlen, stepR]
  rw [ex_cons_nx a1, ex_cons_nx a2, ex_nil]
theorem c9 {b : Box} (o : b.Ok) {s : Nat} (hs : s < b.t.length) {w : List Nat} (hw : WOk b.n w) {h : PH} (cl : Cl h) : Cal P 1 9 [tabP b.t, nI s, wrdP w] h (.ok (.tup [wrdP (runR b.t s w).1, nI (runR b.t s w).2]) h) := Cal.mk p9 rfl fun k hk => by
  have s1 : exS (P.cc k) (.asg (.tup [.nm 3, .nm 4]) (.tup [.lst [], .var 1])) [some (tabP b.t), some (nI s), some (wrdP w), none, none, none, none] h = .nx [some (tabP b.t), some (nI s), some (wrdP w), some (.obj h.length), some (nI s), none, none] (h ++ [.lst false []]) := by
    simp [size_big, bindT, bindTs]
  have s2 : ∃ x y, exS (P.cc k) (.forS (.nm 5) (.itv (.var 2)) [.asg (.tup [.nm 6, .nm 4]) (.idx (.idx (.var 0) (.var 4)) (.var 5)), .expr (.mt .append (.var 3) [.var 6])]) [some (tabP b.t), some (nI s), some (wrdP w), some (.obj h.length), some (nI s), none, none] (h ++ [.lst false []]) =
      .nx [some (tabP b.t), some (nI s), some (wrdP w), some (.obj h.length), some (nI (runR b.t s w).2), x, y] (h ++ [.lst false ((runR b.t s w).1.map nI)]) := by
    refine for_run (w := .vals (w.map nI)) (N := w.length) (h1 := h ++ [.lst false []]) (I := fun i r1 h1 => h1 = h ++ [.lst false ((runR b.t s (w.take i)).1.map nI)] ∧ ∃ x y, r1 = [some (tabP b.t), some (nI s), some (wrdP w), some (.obj h.length), some (nI (runR b.t s (w.take i)).2), x, y])
      (Post := fun z => ∃ x y, z = .nx [some (tabP b.t), some (nI s), some (wrdP w), some (.obj h.length), some (nI (runR b.t s w).2), x, y] (h ++ [.lst false ((runR b.t s w).1.map nI)])) (by simp [toIt]) (by rw [fuelE]; have := hw.1; omega) ⟨rfl, _, _, rfl⟩ (fun r1 h1 ⟨q1, x, y, q2⟩ => ⟨by simp, x, y, by rw [q1, q2, List.take_length]⟩) fun j r1 h1 hj ⟨q1, x, y, q2⟩ => ?_
    subst q1 q2
    have hx : w[j]? = some w[j] := List.getElem?_eq_getElem hj
    have hlt := hw.2 _ (List.getElem_mem hj)
    have hst := run_end o hs (mem_take (i := j) hw.2)
    rw [runR_take hx]
    have hlen : (runR b.t s (w.take j)).1.length < sizeLine := by
      rw [run_len o hs (mem_take hw.2), List.length_take, sizeLine_eq]
      have := hw.1; omega
    refine ⟨nI w[j], [some (tabP b.t), some (nI s), some (wrdP w), some (.obj h.length), some (nI (runR b.t s (w.take j)).2), some (nI w[j]), y], by simp [hj], by simp [bindT], .inl ⟨[some (tabP b.t), some (nI s), some (wrdP w), some (.obj h.length), some (nI (stp b.t (runR b.t s (w.take j)).2 w[j]).2), some (nI w[j]), some (nI (stp b.t (runR b.t s (w.take j)).2 w[j]).1)], h ++ [.lst false ((stepR b.t (runR b.t s (w.take j)) w[j]).1.map nI)], ?_, rfl, _, _, rfl⟩⟩
    exact c9s o _ hst hlt hlen
  obtain ⟨x, y, s2⟩ := s2
  have hz : ((runR b.t s w).1.map nI).length ≤ sizeLine := by
    rw [List.length_map, run_len o hs hw.2, sizeLine_eq]
    have := hw.1; omega
  have s3 : exS (P.cc k) (.ret (.tup [.con .tuple (.its (.var 3)), .var 4])) [some (tabP b.t), some (nI s), some (wrdP w), some (.obj h.length), some (nI (runR b.t s w).2), x, y] (h ++ [.lst false ((runR b.t s w).1.map nI)]) = .rt (.tup [wrdP (runR b.t s w).1, nI (runR b.t s w).2]) (h ++ [.lst false ((runR b.t s w).1.map nI)]) := by
    rw [List.length_map] at hz
    simp [toItC, conW, itList, conop, hz]
    simp [size_big]
  show outOf _ (exB _ _ [some (tabP b.t), some (nI s), some (wrdP w), none, none, none, none] h) = _
  rw [show (FD.mk 3 7 b9).body = b9 from rfl]
  unfold b9
  rw [ex_cons_nx s1, ex_cons_nx s2, ex_cons_rt s3, out_rt, gc_app cl]
  show ((wrdP (runR b.t s w).1).old h.length && (true && true)) = true
  rw [wrd_old]; rfl
end Lw
end
section
set_option Elab.async false
set_option linter.all false
set_option maxRecDepth 100000
namespace Lw
open PySem EV
theorem idx_res0 {q : List Nat × Nat} {h : PH} : idxop (.tup [wrdP q.1, nI q.2]) (.int 0) h = some (wrdP q.1) := atI_nat (n := 0) rfl
theorem idx_res1 {q : List Nat × Nat} {h : PH} : idxop (.tup [wrdP q.1, nI q.2]) (.int 1) h = some (nI q.2) := atI_nat (n := 1) rfl
section
variable {b : Box} (o : b.Ok) {s : Nat} (hs : s < b.t.length) {w : List Nat} (hw : WOk b.n w) {h : PH} (cl : Cl h)
include o hw cl
theorem c11 : Cal P 6 11 [b.pv, wrdP w] h (.ok (wrdP (runR b.t 0 w).1) h) := Cal.mk p11 rfl fun k hk => by
  have e1 : (P.cc k).call 4 [b.pv] h = _ := (c4 o).at hk
  have e2 : (P.cc k).call 8 [nI b.n, wrdP w] h = _ := (c8 hw).at (by omega)
  have e3 : (P.cc k).call 9 [tabP b.t, .int 0, wrdP w] h = _ := (c9 o (s := 0) (by have := o.t1; omega) hw cl).at (by omega)
  simp [b11, ex_cons, e1, e2, e3, idx_box0, idx_box2, idx_res0, gc_len]
theorem c12 : Cal P 6 12 [b.pv, wrdP w] h (.ok (nI (runR b.t 0 w).2) h) := Cal.mk p12 rfl fun k hk => by
  have e1 : (P.cc k).call 4 [b.pv] h = _ := (c4 o).at hk
  have e2 : (P.cc k).call 8 [nI b.n, wrdP w] h = _ := (c8 hw).at (by omega)
  have e3 : (P.cc k).call 9 [tabP b.t, .int 0, wrdP w] h = _ := (c9 o (s := 0) (by have := o.t1; omega) hw cl).at (by omega)
  simp [b12, ex_cons, e1, e2, e3, idx_box0, idx_box2, idx_res1, gc_len]
include hs
omit cl in
theorem c10 : Cal P 6 10 [b.pv, nI s, wrdP w] h (.ok .non h) := Cal.mk p10 rfl fun k hk => by
  have e1 : (P.cc k).call 4 [b.pv] h = _ := (c4 o).at hk
  have e2 : (P.cc k).call 8 [nI b.n, wrdP w] h = _ := (c8 hw).at (by omega)
  have e3 : (P.cc k).call 6 [b.pv, nI s] h = _ := (c6 hs).at (by omega)
  simp [b10, ex_cons, e1, e2, e3, idx_box0, gc_len]
theorem c13 : Cal P 7 13 [b.pv, nI s, wrdP w] h (.ok (wrdP (runR b.t s w).1) h) := Cal.mk p13 rfl fun k hk => by
  have e1 : (P.cc k).call 10 [b.pv, nI s, wrdP w] h = _ := (c10 o hs hw).at hk
  have e3 : (P.cc k).call 9 [tabP b.t, nI s, wrdP w] h = _ := (c9 o hs hw cl).at (by omega)
  simp [b13, ex_cons, e1, e3, idx_box2, idx_res0, gc_len]
theorem c14 : Cal P 7 14 [b.pv, nI s, wrdP w] h (.ok (nI (runR b.t s w).2) h) := Cal.mk p14 rfl fun k hk => by
  have e1 : (P.cc k).call 10 [b.pv, nI s, wrdP w] h = _ := (c10 o hs hw).at hk
  have e3 : (P.cc k).call 9 [tabP b.t, nI s, wrdP w] h = _ := (c9 o hs hw cl).at (by omega)
  simp [b14, ex_cons, e1, e3, idx_box2, idx_res1, gc_len]
omit cl in
theorem c36 : Cal P 1 36 [tabP b.t, nI s, wrdP w] h (.ok (.tup [wrdP (runR b.t s w).1, nI (runR b.t s w).2]) h) := Cal.mk p36 rfl fun k hk => by
  have s1 : exS (P.cc k) (.asg (.tup [.nm 3, .nm 4]) (.tup [.tup [], .var 1])) [some (tabP b.t), some (nI s), some (wrdP w), none, none, none, none] h = .nx [some (tabP b.t), some (nI s), some (wrdP w), some (wrdP []), some (nI s), none, none] h := by
    simp [size_big, bindT, bindTs]
  have s2 : ∃ x y, exS (P.cc k) (.forS (.nm 5) (.itv (.var 2)) [.asg (.tup [.nm 6, .nm 4]) (.idx (.idx (.var 0) (.var 4)) (.var 5)), .asg (.nm 3) (.bin .add (.var 3) (.tup [.var 6]))]) [some (tabP b.t), some (nI s), some (wrdP w), some (wrdP []), some (nI s), none, none] h =
      .nx [some (tabP b.t), some (nI s), some (wrdP w), some (wrdP (runR b.t s w).1), some (nI (runR b.t s w).2), x, y] h := by
    refine for_run (w := .vals (w.map nI)) (N := w.length) (h1 := h) (I := fun i r1 h1 => h1 = h ∧ ∃ x y, r1 = [some (tabP b.t), some (nI s), some (wrdP w), some (wrdP (runR b.t s (w.take i)).1), some (nI (runR b.t s (w.take i)).2), x, y])
      (Post := fun z => ∃ x y, z = .nx [some (tabP b.t), some (nI s), some (wrdP w), some (wrdP (runR b.t s w).1), some (nI (runR b.t s w).2), x, y] h) (by simp [toIt]) (by rw [fuelE]; have := hw.1; omega) ⟨rfl, _, _, rfl⟩ (fun r1 h1 ⟨q1, x, y, q2⟩ => ⟨by simp, x, y, by rw [q1, q2, List.take_length]⟩) fun j r1 h1 hj ⟨q1, x, y, q2⟩ => ?_
    subst q1 q2
    have hx : w[j]? = some w[j] := List.getElem?_eq_getElem hj
    have hlt := hw.2 _ (List.getElem_mem hj)
    have hst := run_end o hs (mem_take (i := j) hw.2)
    obtain ⟨r, e1, e2, e3, e4⟩ := stp_ok o hst hlt
    rw [runR_take hx]
    have hlen : (runR b.t s (w.take j)).1.length + 1 ≤ sizeLine := by
      rw [run_len o hs (mem_take hw.2), List.length_take, sizeLine_eq]
      have := hw.1; omega
    refine ⟨nI w[j], [some (tabP b.t), some (nI s), some (wrdP w), some (wrdP (runR b.t s (w.take j)).1), some (nI (runR b.t s (w.take j)).2), some (nI w[j]), y], by simp [hj], by simp [bindT], .inl ⟨[some (tabP b.t), some (nI s), some (wrdP w), some (wrdP (stepR b.t (runR b.t s (w.take j)) w[j]).1), some (nI (stp b.t (runR b.t s (w.take j)).2 w[j]).2), some (nI w[j]), some (nI (stp b.t (runR b.t s (w.take j)).2 w[j]).1)], h1, ?_, rfl, _, _, rfl⟩⟩
    have a1 : exS (P.cc k) (.asg (.tup [.nm 6, .nm 4]) (.idx (.idx (.var 0) (.var 4)) (.var 5))) [some (tabP b.t), some (nI s), some (wrdP w), some (wrdP (runR b.t s (w.take j)).1), some (nI (runR b.t s (w.take j)).2), some (nI w[j]), y] h1 =
        .nx [some (tabP b.t), some (nI s), some (wrdP w), some (wrdP (runR b.t s (w.take j)).1), some (nI (stp b.t (runR b.t s (w.take j)).2 w[j]).2), some (nI w[j]), some (nI (stp b.t (runR b.t s (w.take j)).2 w[j]).1)] h1 := by
      have e : evE (P.cc k) (.idx (.idx (.var 0) (.var 4)) (.var 5)) [some (tabP b.t), some (nI s), some (wrdP w), some (wrdP (runR b.t s (w.take j)).1), some (nI (runR b.t s (w.take j)).2), some (nI w[j]), y] h1 = .ok (pv2 (stp b.t (runR b.t s (w.take j)).2 w[j])) h1 := by
        simp [idx_tab e1, idx_row e2]
      rw [ex_asg, e, st_ok]
      rfl
    have a2 : exS (P.cc k) (.asg (.nm 3) (.bin .add (.var 3) (.tup [.var 6]))) [some (tabP b.t), some (nI s), some (wrdP w), some (wrdP (runR b.t s (w.take j)).1), some (nI (stp b.t (runR b.t s (w.take j)).2 w[j]).2), some (nI w[j]), some (nI (stp b.t (runR b.t s (w.take j)).2 w[j]).1)] h1 =
        .nx [some (tabP b.t), some (nI s), some (wrdP w), some (wrdP (stepR b.t (runR b.t s (w.take j)) w[j]).1), some (nI (stp b.t (runR b.t s (w.take j)).2 w[j]).2), some (nI w[j]), some (nI (stp b.t (runR b.t s (w.take j)).2 w[j]).1)] h1 := by
      have e : evE (P.cc k) (.bin .add (.var 3) (.tup [.var 6])) [some (tabP b.t), some (nI s), some (wrdP w), some (wrdP (runR b.t s (w.take j)).1), some (nI (stp b.t (runR b.t s (w.take j)).2 w[j]).2), some (nI w[j]), some (nI (stp b.t (runR b.t s (w.take j)).2 w[j]).1)] h1 = .ok (wrdP (stepR b.t (runR b.t s (w.take j)) w[j]).1) h1 := by
        simp [size_big, binop, hlen, stepR]
      rw [ex_asg, e, st_ok]
      rfl
    rw [ex_cons_nx a1, ex_cons_nx a2, ex_nil]
  obtain ⟨x, y, s2⟩ := s2
  show outOf _ (exB _ _ [some (tabP b.t), some (nI s), some (wrdP w), none, none, none, none] h) = _
  rw [show (FD.mk 3 7 b36).body = b36 from rfl]
  unfold b36
  rw [ex_cons_nx s1, ex_cons_nx s2]
  simp [ex_cons, size_big, gc_len]
end
end Lw
end
section
set_option Elab.async false
set_option linter.all false
set_option maxRecDepth 100000
namespace Lw
open PySem EV
/-- f, i times -/
def itf (f : Nat → Nat) : Nat → Nat → Nat
  | 0, s => s
  | i + 1, s => f (itf f i s)
theorem itf_add (f : Nat → Nat) (i j s : Nat) : itf f (i + j) s = itf f i (itf f j s) := by
  induction i with
  | zero => simp [itf]
  | succ i ih => rw [Nat.succ_add]; show f _ = f _; rw [ih]
theorem itf_lt {f : Nat → Nat} {M : Nat} (hf : ∀ s, s < M → f s < M) : ∀ i s, s < M → itf f i s < M
  | 0, s, h => h
  | i + 1, s, h => hf _ (itf_lt hf i s h)
theorem itf_mod {f : Nat → Nat} {s t p : Nat} (hp : 0 < p) (e : itf f (t + p) s = itf f t s) : ∀ n, itf f (t + n) s = itf f (t + n % p) s := by
  intro n
  induction n using Nat.strongRecOn with
  | _ n ih =>
    by_cases h : n < p
    · rw [Nat.mod_eq_of_lt h]
    · have hn : n = (n - p) + p := by omega
      have e1 : itf f (t + n) s = itf f (t + (n - p)) s := by
        have : t + n = (n - p) + (t + p) := by omega
        rw [this, itf_add, e, ← itf_add]
        congr 1; omega
      rw [e1, ih (n - p) (by omega)]
      congr 2
      conv => rhs; rw [hn, Nat.add_mod_right]
def eff (t : List (List (Nat × Nat))) (w : List Nat) (s : Nat) : Nat := (runR t s w).2
theorem eff_lt {b : Box} (o : b.Ok) {w : List Nat} (hw : ∀ x ∈ w, x < b.n) : ∀ s, s < b.t.length → eff b.t w s < b.t.length := fun s hs => run_end o hs hw
def mapP (M : Nat) (f : Nat → Nat) : PV := .tup ((List.range M).map fun s => nI (f s))
theorem idx_map {M : Nat} {f : Nat → Nat} {s : Nat} (hs : s < M) {h : PH} : idxop (mapP M f) (nI s) h = some (nI (f s)) := by
  show L2.atI ((List.range M).map fun s => nI (f s)) (s : Int) = _
  exact atI_nat (by rw [List.getElem?_map, List.getElem?_range hs]; rfl)
theorem map_old {n M : Nat} {f : Nat → Nat} : (mapP M f).old n = true := by
  show oldL n _ = true
  exact oldL_all fun x hx => by obtain ⟨y, _, rfl⟩ := List.mem_map.mp hx; rfl
theorem c38 {b : Box} (o : b.Ok) {w : List Nat} (hw : WOk b.n w) {h : PH} : Cal P 2 38 [tabP b.t, wrdP w] h (.ok (mapP b.t.length (eff b.t w)) h) := Cal.mk p38 rfl fun k hk => by
  have s2 := comp_list (c := P.cc k) (r := [some (tabP b.t), some (wrdP w), none]) (h := h) (t := .nm 2) (own := [2]) (elt := .idx (.call 36 [.var 0, .var 2, .var 1]) (.cst (.int 1))) (w := .rng 0 b.t.length) ((List.range b.t.length).map fun s => nI (eff b.t w s)) (by rw [fuelE, List.length_map, List.length_range]; have := o.t60; omega) (by rw [List.length_map, List.length_range]; exact size_big (by have := o.t60; omega)) (by rw [itAt_rng]; simp) fun i y hy => by
    rw [List.getElem?_map] at hy
    obtain ⟨x, hx, rfl⟩ := Option.map_eq_some_iff.mp hy
    have hi : i < b.t.length := by have := (List.getElem?_eq_some_iff.mp hx).1; simpa using this
    rw [List.getElem?_range hi] at hx
    cases hx
    have e2 : (P.cc k).call 36 [tabP b.t, nI i, wrdP w] h = _ := (c36 o hi hw).at hk
    refine ⟨nI i, [some (tabP b.t), some (wrdP w), some (nI i)], by rw [itAt_rng]; simp [hi], by simp [bindT, wipeP], ?_⟩
    simp [e2, idx_res1, eff]
  show outOf _ (exB _ _ [some (tabP b.t), some (wrdP w), none] h) = _
  rw [show (FD.mk 2 3 b38).body = b38 from rfl]
  unfold b38
  have e : evE (P.cc k) (.con .tuple (.itc (.idx (.call 36 [.var 0, .var 2, .var 1]) (.cst (.int 1))) (.nm 2) (.rng (.cst (.int 0)) (.bf .len [.var 0])) (.cst (.bl true)) [2])) [some (tabP b.t), some (wrdP w), none] h = .ok (mapP b.t.length (eff b.t w)) h := by
    rw [ev_con, evi_itc, evi_rng0 (n := b.t.length) (by simp [bfop, len_tab]) (by have := o.t60; omega), bnd_ok, s2]
    have hz : b.t.length ≤ sizeLine := size_big (by have := o.t60; omega)
    simp [valsIt, conW, itList, conop, hz, mapP]
  rw [ex_cons, ex_ret, e, st_ok]
  simp [gc_len]
/-- tuple([power[state] for state in found]) -/
theorem comp_pow {k M : Nat} {f g : Nat → Nat} (hM : M ≤ 60) (hg : ∀ s, s < M → g s < M) {e1 : Nat} {h : PH} {x0 x1 x2 x4 x5 : Option PV} {v : Nat} {r : EV.Env} (hr : r = [x0, x1, x2, some (mapP M f), x4, x5]) (hv : r[v]? = some (some (mapP M g))) :
    evE (P.cc k) (.con .tuple (.itc (.idx (.var 3) (.var 5)) (.nm 5) (.itv (.var v)) (.cst (.bl true)) [5])) r h = .ok (mapP M fun s => f (g s)) h := by
  have s2 := comp_list (c := P.cc k) (r := r) (h := h) (t := .nm 5) (own := [5]) (elt := .idx (.var 3) (.var 5)) (w := .vals ((List.range M).map fun s => nI (g s))) ((List.range M).map fun s => nI (f (g s))) (by rw [fuelE, List.length_map, List.length_range]; omega) (by rw [List.length_map, List.length_range]; exact size_big (by omega)) (by simp) fun i y hy => by
    rw [List.getElem?_map] at hy
    obtain ⟨x, hx, rfl⟩ := Option.map_eq_some_iff.mp hy
    have hi : i < M := by have := (List.getElem?_eq_some_iff.mp hx).1; simpa using this
    rw [List.getElem?_range hi] at hx
    cases hx
    refine ⟨nI (g i), [x0, x1, x2, some (mapP M f), x4, some (nI (g i))], by rw [itAt_vals, List.getElem?_map, List.getElem?_range hi]; rfl, by rw [hr]; simp [bindT, wipeP], ?_⟩
    simp [idx_map (hg i hi)]
  have hz : M ≤ sizeLine := size_big (by omega)
  rw [ev_con, evi_itc, evi_itv, ev_varE hv, bnd_ok]
  show ((ofOptI h (some (.vals ((List.range M).map fun s => nI (g s))))).bnd _).bnd _ = _
  rw [ofOptI_some, bnd_ok, s2]
  simp [valsIt, conW, itList, conop, hz, mapP]
theorem c40 {M : Nat} (h1 : 1 ≤ M) (hM : M ≤ 60) {f : Nat → Nat} (hf : ∀ s, s < M → f s < M) {turns : Nat} (ht : turns < 2 ^ 60) {h : PH} : Cal P 1 40 [mapP M f, nI turns] h (.ok (mapP M (itf f turns)) h) := Cal.mk p40 rfl fun k hk => by
  have hz : M ≤ sizeLine := size_big (by omega)
  have lM : ∀ {g : Nat → Nat} {h : PH}, lenOf (mapP M g) h = some M := fun {g h} => by show some (List.length _) = _; rw [List.length_map, List.length_range]
  have s1 : exS (P.cc k) (.asg (.tup [.nm 2, .nm 3, .nm 4]) (.tup [.con .tuple (.rng (.cst (.int 0)) (.bf .len [.var 0])), .var 0, .var 1])) [some (mapP M f), some (nI turns), none, none, none, none] h = .nx [some (mapP M f), some (nI turns), some (mapP M (itf f 0)), some (mapP M f), some (nI turns), none] h := by
    have e : evE (P.cc k) (.con .tuple (.rng (.cst (.int 0)) (.bf .len [.var 0]))) [some (mapP M f), some (nI turns), none, none, none, none] h = .ok (mapP M (itf f 0)) h := by
      rw [ev_con, evi_rng0 (n := M) (by simp [bfop, lM]) (by omega), bnd_ok]
      unfold conW
      simp only
      rw [if_pos (by omega)]
      unfold mapP itf
      simp
    rw [ex_asg, ev_tup, evL_cons, e, bnd_ok]
    simp [size_big, bindT, bindTs]
  have s2 : ∃ x y, exS (P.cc k) (.whl (.cmp .gt (.var 4) (.cst (.int 0))) [.ite (.cmp .eq (.bin .mod (.bf .int [.var 4]) (.cst (.int 2))) (.cst (.int 1))) [.asg (.nm 2) (.con .tuple (.itc (.idx (.var 3) (.var 5)) (.nm 5) (.itv (.var 2)) (.cst (.bl true)) [5]))] [], .asg (.tup [.nm 3, .nm 4]) (.tup [.con .tuple (.itc (.idx (.var 3) (.var 5)) (.nm 5) (.itv (.var 3)) (.cst (.bl true)) [5]), .bin .fdiv (.var 4) (.cst (.int 2))])]) [some (mapP M f), some (nI turns), some (mapP M (itf f 0)), some (mapP M f), some (nI turns), none] h =
      .nx [some (mapP M f), some (nI turns), some (mapP M (itf f turns)), x, y, none] h := by
    refine whl_run (m := 60) (by rw [fuelE]; omega) (I := fun m r1 h1 => h1 = h ∧ ∃ c p left, c + left * p = turns ∧ left < 2 ^ m ∧ r1 = [some (mapP M f), some (nI turns), some (mapP M (itf f c)), some (mapP M (itf f p)), some (nI left), none])
      (Post := fun z => ∃ x y, z = .nx [some (mapP M f), some (nI turns), some (mapP M (itf f turns)), x, y, none] h) ⟨rfl, 0, 1, turns, by omega, ht, rfl⟩ fun m r1 h1 ⟨q1, c, p, left, q2, q3, q4⟩ => ?_
    subst q1 q4
    by_cases h0 : 0 < left
    · refine .inl ?_
      obtain ⟨m', rfl⟩ : ∃ m', m = m' + 1 := by
        cases m with
        | zero => simp at q3; omega
        | succ m' => exact ⟨m', rfl⟩
      have ec : ∀ r2 : EV.Env, r2[4]? = some (some (nI left)) → evE (P.cc k) (.cmp .eq (.bin .mod (.bf .int [.var 4]) (.cst (.int 2))) (.cst (.int 1))) r2 h1 = .ok (.bl (decide (left % 2 = 1))) h1 := fun r2 hr2 => by
        have e1 : evE (P.cc k) (.bin .mod (.bf .int [.var 4]) (.cst (.int 2))) r2 h1 = .ok (nI (left % 2)) h1 := by
          rw [ev_bin, ev_bf, evL_cons, ev_varE hr2, bnd_ok, evL_nil, bnd_ok, bnd_ok]
          show (Rs.ok (PV.int left) h1).bnd _ = _
          rw [bnd_ok, ev_cst, bnd_ok]
          show (if (0 : Int) < 2 then Rs.ok (PV.int ((left : Int) % 2)) h1 else .no) = _
          rw [if_pos (by decide)]
          rfl
        rw [ev_cmp, e1, bnd_ok, ev_cst, bnd_ok, cmp_eq]
        simp
        omega
      have ed : ∀ r2 : EV.Env, r2[4]? = some (some (nI left)) → evE (P.cc k) (.bin .fdiv (.var 4) (.cst (.int 2))) r2 h1 = .ok (nI (left / 2)) h1 := fun r2 hr2 => by
        rw [ev_bin, ev_varE hr2, bnd_ok, ev_cst, bnd_ok]
        show (if (0 : Int) < 2 ∧ (2 : Int) < 1073741824 then Rs.ok (PV.int ((left : Int) / 2)) h1 else .no) = _
        rw [if_pos (by decide)]
        rfl
      have ip : ∀ s, s < M → itf f p s < M := itf_lt hf p
      have ic : ∀ s, s < M → itf f c s < M := itf_lt hf c
      have ea : ∀ c' : Nat, exS (P.cc k) (.asg (.tup [.nm 3, .nm 4]) (.tup [.con .tuple (.itc (.idx (.var 3) (.var 5)) (.nm 5) (.itv (.var 3)) (.cst (.bl true)) [5]), .bin .fdiv (.var 4) (.cst (.int 2))])) [some (mapP M f), some (nI turns), some (mapP M (itf f c')), some (mapP M (itf f p)), some (nI left), none] h1 =
          .nx [some (mapP M f), some (nI turns), some (mapP M (itf f c')), some (mapP M (itf f (p + p))), some (nI (left / 2)), none] h1 := fun c' => by
        rw [ex_asg, ev_tup, evL_cons, comp_pow (e1 := 0) hM ip rfl (v := 3) rfl, bnd_ok, evL_cons, ed _ rfl, bnd_ok, evL_nil]
        have : (fun s => itf f p (itf f p s)) = itf f (p + p) := funext fun s => (itf_add f p p s).symm
        rw [this]
        simp [size_big, bindT, bindTs]
      have hhalf : left / 2 < 2 ^ m' := by rw [Nat.pow_succ] at q3; omega
      by_cases hodd : left % 2 = 1
      · refine ⟨h1, [some (mapP M f), some (nI turns), some (mapP M (itf f (p + c))), some (mapP M (itf f (p + p))), some (nI (left / 2)), none], h1, m', ?_, ?_, Nat.lt_succ_self _, rfl, p + c, p + p, left / 2, ?_, hhalf, rfl⟩
        · simp [cmpop, h0]
        · have a1 : exS (P.cc k) (.ite (.cmp .eq (.bin .mod (.bf .int [.var 4]) (.cst (.int 2))) (.cst (.int 1))) [.asg (.nm 2) (.con .tuple (.itc (.idx (.var 3) (.var 5)) (.nm 5) (.itv (.var 2)) (.cst (.bl true)) [5]))] []) [some (mapP M f), some (nI turns), some (mapP M (itf f c)), some (mapP M (itf f p)), some (nI left), none] h1 =
              .nx [some (mapP M f), some (nI turns), some (mapP M (itf f (p + c))), some (mapP M (itf f p)), some (nI left), none] h1 := by
            rw [ex_ite, ec _ rfl, tst_ok, st_ok, if_pos (decide_eq_true hodd), ex_cons, ex_asg, comp_pow (e1 := 0) hM ic rfl (v := 2) rfl, st_ok]
            have : (fun s => itf f p (itf f c s)) = itf f (p + c) := funext fun s => (itf_add f p c s).symm
            rw [this]
            simp [bindT]
          rw [ex_cons_nx a1, ex_cons_nx (ea _), ex_nil]
        · rw [← q2]
          have : left = 2 * (left / 2) + 1 := by omega
          conv => rhs; rw [this]
          rw [Nat.add_mul, Nat.mul_add]
          have : 2 * (left / 2) * p = left / 2 * p + left / 2 * p := by rw [Nat.mul_assoc, Nat.two_mul]
          omega
      · refine ⟨h1, [some (mapP M f), some (nI turns), some (mapP M (itf f c)), some (mapP M (itf f (p + p))), some (nI (left / 2)), none], h1, m', ?_, ?_, Nat.lt_succ_self _, rfl, c, p + p, left / 2, ?_, hhalf, rfl⟩
        · simp [cmpop, h0]
        · have a1 : exS (P.cc k) (.ite (.cmp .eq (.bin .mod (.bf .int [.var 4]) (.cst (.int 2))) (.cst (.int 1))) [.asg (.nm 2) (.con .tuple (.itc (.idx (.var 3) (.var 5)) (.nm 5) (.itv (.var 2)) (.cst (.bl true)) [5]))] []) [some (mapP M f), some (nI turns), some (mapP M (itf f c)), some (mapP M (itf f p)), some (nI left), none] h1 =
              .nx [some (mapP M f), some (nI turns), some (mapP M (itf f c)), some (mapP M (itf f p)), some (nI left), none] h1 := by
            rw [ex_ite, ec _ rfl, tst_ok, st_ok, if_neg (by simp [hodd]), ex_nil]
          rw [ex_cons_nx a1, ex_cons_nx (ea _), ex_nil]
        · rw [← q2]
          have : left = 2 * (left / 2) := by omega
          conv => rhs; rw [this]
          rw [Nat.mul_add]
          have : 2 * (left / 2) * p = left / 2 * p + left / 2 * p := by rw [Nat.mul_assoc, Nat.two_mul]
          omega
    · refine .inr ⟨h1, by simp [cmpop, h0], ?_⟩
      have : left = 0 := by omega
      subst this
      rw [Nat.zero_mul, Nat.add_zero] at q2
      rw [q2]
      exact ⟨_, _, rfl⟩
  obtain ⟨x, y, s2⟩ := s2
  show outOf _ (exB _ _ [some (mapP M f), some (nI turns), none, none, none, none] h) = _
  rw [show (FD.mk 2 6 b40).body = b40 from rfl]
  unfold b40
  rw [ex_cons_nx s1, ex_cons_nx s2]
  simp [ex_cons, gc_len]
end Lw
end
section
set_option Elab.async false
set_option linter.all false
set_option maxRecDepth 100000
namespace Lw
open PySem EV
theorem pigeon : ∀ (M : Nat) (l : List Nat), l.Nodup → (∀ x ∈ l, x < M) → l.length ≤ M
  | 0, l, _, h => by
    cases l with
    | nil => exact Nat.le_refl _
    | cons x l => exact absurd (h x List.mem_cons_self) (Nat.not_lt_zero _)
  | M + 1, l, nd, h => by
    by_cases hm : M ∈ l
    · have := pigeon M (l.erase M) (nd.erase M) fun x hx => by
        rw [List.Nodup.mem_erase_iff nd] at hx
        have := h x hx.2
        omega
      rw [List.length_erase_of_mem hm] at this
      omega
    · have := pigeon M l nd fun x hx => by
        have := h x hx
        have hne : x ≠ M := fun e => hm (by rw [← e]; exact hx)
        omega
      omega
theorem optAll_ints {h : PH} {n : Nat} : ∀ l : List Nat, optAll (toD h n) (l.map nI) = some (l.map fun a : Nat => PyData.int (a : Int))
  | [] => rfl
  | a :: l => by
    have e : toD h n (nI a) = some (.int a) := by cases n <;> rfl
    simp only [List.map_cons, optAll, e, optAll_ints l]
theorem toD_list {h : PH} {n : Nat} {fz : Bool} {l : List Nat} (e : h[n]? = some (.lst fz (l.map nI))) : toD h 60 (.obj n) = some (.list (l.map fun a : Nat => PyData.int (a : Int))) := by
  show (match h[n]? with | some (.lst _ xs) => (match optAll (toD h 59) xs with | none => none | some ds => some (PyData.list ds)) | _ => none) = _
  rw [e]
  simp only [optAll_ints]
theorem eqv_int {a b : Nat} : PyData.eqv (.int (a : Int)) (.int (b : Int)) = decide (a = b) := by
  simp [PyData.eqv]
  by_cases h : a = b <;> simp [h]
  omega
theorem isIn_list {h : PH} {n x : Nat} {fz : Bool} {l : List Nat} (e : h[n]? = some (.lst fz (l.map nI))) : isIn h (nI x) (.obj n) = some (decide (x ∈ l)) := by
  unfold isIn
  simp only [e, toD_list e]
  show some ((l.map fun a : Nat => PyData.int (a : Int)).any fun z => PyData.eqv z (.int x)) = _
  rw [List.any_map]
  congr 1
  rw [Bool.eq_iff_iff, List.any_eq_true, decide_eq_true_iff]
  constructor
  · rintro ⟨a, ha, e⟩
    have e : PyData.eqv (.int (a : Int)) (.int (x : Int)) = true := e
    rw [eqv_int] at e
    rw [← of_decide_eq_true e]; exact ha
  · intro hx
    exact ⟨x, hx, by show PyData.eqv (.int (x : Int)) (.int (x : Int)) = true; rw [eqv_int]; exact decide_eq_true rfl⟩
theorem index_list {h : PH} {n x : Nat} {fz : Bool} {l : List Nat} (e : h[n]? = some (.lst fz (l.map nI))) (hx : x ∈ l) : ∃ i, l[i]? = some x ∧ mtop .index (.obj n) [nI x] h = .ok (nI i) h := by
  have hf : ∃ i, (l.map fun a : Nat => PyData.int (a : Int)).findIdx? (fun z => PyData.eqv z (.int x)) = some i ∧ l[i]? = some x := by
    cases q : (l.map fun a : Nat => PyData.int (a : Int)).findIdx? (fun z => PyData.eqv z (.int x)) with
    | none =>
      have := List.findIdx?_eq_none_iff.mp q (.int x) (List.mem_map.mpr ⟨x, hx, rfl⟩)
      rw [eqv_int] at this
      simp at this
    | some i =>
      obtain ⟨hi, h1, _⟩ := List.findIdx?_eq_some_iff_getElem.mp q
      refine ⟨i, rfl, ?_⟩
      rw [List.getElem_map, eqv_int] at h1
      rw [List.length_map] at hi
      rw [List.getElem?_eq_getElem hi, of_decide_eq_true h1]
  obtain ⟨i, h1, h2⟩ := hf
  refine ⟨i, h2, ?_⟩
  have e2 : toD h 60 (nI x) = some (.int x) := rfl
  unfold mtop
  simp only [e, toD_list e, e2, h1]
def orb (f : Nat → Nat) (j : Nat) : List Nat := (List.range j).map fun i => itf f i 0
theorem orb_get {f : Nat → Nat} {j i : Nat} (h : i < j) : (orb f j)[i]? = some (itf f i 0) := by unfold orb; rw [List.getElem?_map, List.getElem?_range h]; rfl
theorem orb_succ {f : Nat → Nat} {j : Nat} : orb f (j + 1) = orb f j ++ [itf f j 0] := by unfold orb; rw [List.range_succ, List.map_append]; rfl
theorem orb_len {f : Nat → Nat} {j : Nat} : (orb f j).length = j := by unfold orb; rw [List.length_map, List.length_range]
theorem idx_obj {h : PH} {n i : Nat} {x : Nat} {fz : Bool} {l : List Nat} (e : h[n]? = some (.lst fz (l.map nI))) (hx : l[i]? = some x) : idxop (.obj n) (nI i) h = some (nI x) := by
  unfold idxop
  simp only [e]
  exact atI_nat (by rw [List.getElem?_map, hx]; rfl)
theorem c18 {b : Box} (o : b.Ok) {w : List Nat} (hw : WOk b.n w) {turns : Nat} (ht : turns ≤ 1000000000000000000) {h : PH} (cl : Cl h) : Cal P 6 18 [b.pv, wrdP w, nI turns] h (.ok (nI (itf (eff b.t w) turns 0)) h) := Cal.mk p18 rfl fun k hk => by
  have hM := o.t60
  have h0 : 0 < b.t.length := o.t1
  have hf := eff_lt o hw.2
  generalize hfe : eff b.t w = f at hf
  have fe : ∀ s, (runR b.t s w).2 = f s := fun s => by rw [← hfe]; rfl
  have e1 : (P.cc k).call 4 [b.pv] h = _ := (c4 o).at hk
  have e2 : (P.cc k).call 8 [nI b.n, wrdP w] h = _ := (c8 hw).at (by omega)
  have e3 : (P.cc k).call 1 [nI turns, .int 0, .int 1000000000000000000] h = _ := (c1t (by omega) (by omega)).at (by omega)
  have s1 : exS (P.cc k) (.expr (.call 4 [.var 0])) [some b.pv, some (wrdP w), some (nI turns), none, none, none] h = .nx [some b.pv, some (wrdP w), some (nI turns), none, none, none] h := by simp [e1]
  have s2 : exS (P.cc k) (.expr (.call 8 [.idx (.var 0) (.cst (.int 0)), .var 1])) [some b.pv, some (wrdP w), some (nI turns), none, none, none] h = .nx [some b.pv, some (wrdP w), some (nI turns), none, none, none] h := by simp [idx_box0, e2]
  have s3 : exS (P.cc k) (.ite (.not (.call 1 [.var 2, .cst (.int 0), .glb 4])) [.bad] []) [some b.pv, some (wrdP w), some (nI turns), none, none, none] h = .nx [some b.pv, some (wrdP w), some (nI turns), none, none, none] h := by simp [g4, e3]
  have cl2 : ∀ l : List Nat, Cl (h ++ [.lst false (l.map nI)]) := fun l => cl.app (by
    rw [List.all_cons, List.all_nil, Bool.and_true]
    exact oldL_nI)
  have e4 : ∀ (s : Nat), s < b.t.length → ∀ l : List Nat, (P.cc k).call 9 [tabP b.t, nI s, wrdP w] (h ++ [.lst false (l.map nI)]) = .ok (.tup [wrdP (runR b.t s w).1, nI (runR b.t s w).2]) (h ++ [.lst false (l.map nI)]) := fun s hs l => (c9 o hs hw (cl2 l)).at (by omega)
  have s4 : exS (P.cc k) (.asg (.tup [.nm 3, .nm 4]) (.tup [.lst [.cst (.int 0)], .idx (.call 9 [.idx (.var 0) (.cst (.int 2)), .cst (.int 0), .var 1]) (.cst (.int 1))])) [some b.pv, some (wrdP w), some (nI turns), none, none, none] h =
      .nx [some b.pv, some (wrdP w), some (nI turns), some (.obj h.length), some (nI (itf f 1 0)), none] (h ++ [.lst false ((orb f 1).map nI)]) := by
    have e5 := e4 0 h0 [0]
    rw [fe] at e5
    have e5 : (P.cc k).call 9 [tabP b.t, .int 0, wrdP w] (h ++ [.lst false [.int 0]]) = .ok (.tup [wrdP (runR b.t 0 w).1, nI (f 0)]) (h ++ [.lst false [.int 0]]) := e5
    have e6 : idxop (.tup [wrdP (runR b.t 0 w).1, nI (f 0)]) (.int 1) (h ++ [.lst false [.int 0]]) = some (nI (f 0)) := atI_nat (n := 1) rfl
    have ev : evE (P.cc k) (.tup [.lst [.cst (.int 0)], .idx (.call 9 [.idx (.var 0) (.cst (.int 2)), .cst (.int 0), .var 1]) (.cst (.int 1))]) [some b.pv, some (wrdP w), some (nI turns), none, none, none] h = .ok (.tup [.obj h.length, nI (f 0)]) (h ++ [.lst false [.int 0]]) := by
      simp [size_big, idx_box2, e5, e6]
    rw [ex_asg, ev, st_ok]
    rfl
  have s5 : ∃ j, 1 ≤ j ∧ j ≤ b.t.length ∧ itf f j 0 ∈ orb f j ∧ exS (P.cc k) (.whl (.cmp .notin (.var 4) (.var 3)) [.expr (.mt .append (.var 3) [.var 4]), .asg (.nm 4) (.idx (.call 9 [.idx (.var 0) (.cst (.int 2)), .var 4, .var 1]) (.cst (.int 1)))]) [some b.pv, some (wrdP w), some (nI turns), some (.obj h.length), some (nI (itf f 1 0)), none] (h ++ [.lst false ((orb f 1).map nI)]) =
      .nx [some b.pv, some (wrdP w), some (nI turns), some (.obj h.length), some (nI (itf f j 0)), none] (h ++ [.lst false ((orb f j).map nI)]) := by
    refine whl_run (m := b.t.length - 1) (by rw [fuelE]; omega) (I := fun m r1 h1 => ∃ j, 1 ≤ j ∧ j ≤ b.t.length ∧ m = b.t.length - j ∧ (orb f j).Nodup ∧ h1 = h ++ [.lst false ((orb f j).map nI)] ∧ r1 = [some b.pv, some (wrdP w), some (nI turns), some (.obj h.length), some (nI (itf f j 0)), none])
      (Post := fun z => ∃ j, 1 ≤ j ∧ j ≤ b.t.length ∧ itf f j 0 ∈ orb f j ∧ z = .nx [some b.pv, some (wrdP w), some (nI turns), some (.obj h.length), some (nI (itf f j 0)), none] (h ++ [.lst false ((orb f j).map nI)])) ⟨1, Nat.le_refl _, h0, rfl, by simp [orb], rfl, rfl⟩ fun m r1 h1 ⟨j, j1, j2, j3, nd, q1, q2⟩ => ?_
    subst q1 q2
    have hin := isIn_list (h := h ++ [.lst false ((orb f j).map nI)]) (n := h.length) (x := itf f j 0) (l := orb f j) (fz := false) get_last
    by_cases hm : itf f j 0 ∈ orb f j
    · refine .inr ⟨h ++ [.lst false ((orb f j).map nI)], ?_, j, j1, j2, hm, rfl⟩
      simp [cmpop, hin, hm]
    · have nd2 : (orb f (j + 1)).Nodup := by
        rw [orb_succ, List.nodup_append]
        exact ⟨nd, by simp, fun a ha c hc => by rw [List.mem_singleton.mp hc]; exact fun e => hm (by rw [← e]; exact ha)⟩
      have hj : j + 1 ≤ b.t.length := by
        have := pigeon b.t.length (orb f (j + 1)) nd2 fun x hx => by
          unfold orb at hx
          obtain ⟨i, _, rfl⟩ := List.mem_map.mp hx
          exact itf_lt hf i 0 h0
        rw [orb_len] at this
        exact this
      refine .inl ⟨h ++ [.lst false ((orb f j).map nI)], [some b.pv, some (wrdP w), some (nI turns), some (.obj h.length), some (nI (itf f (j + 1) 0)), none], h ++ [.lst false ((orb f (j + 1)).map nI)], b.t.length - (j + 1), ?_, ?_, by omega, j + 1, by omega, hj, rfl, nd2, rfl, rfl⟩
      · simp [cmpop, hin, hm]
      · have hz : (orb f j).length < sizeLine := by rw [orb_len, sizeLine_eq]; omega
        have a1 : exS (P.cc k) (.expr (.mt .append (.var 3) [.var 4])) [some b.pv, some (wrdP w), some (nI turns), some (.obj h.length), some (nI (itf f j 0)), none] (h ++ [.lst false ((orb f j).map nI)]) =
            .nx [some b.pv, some (wrdP w), some (nI turns), some (.obj h.length), some (nI (itf f j 0)), none] (h ++ [.lst false ((orb f (j + 1)).map nI)]) := by
          rw [orb_succ]
          simp [mtTy, mtop, hz]
        have e5 := e4 (itf f j 0) (itf_lt hf j 0 h0) (orb f (j + 1))
        rw [fe] at e5
        have e6 : idxop (.tup [wrdP (runR b.t (itf f j 0) w).1, nI (f (itf f j 0))]) (.int 1) (h ++ [.lst false ((orb f (j + 1)).map nI)]) = some (nI (f (itf f j 0))) := atI_nat (n := 1) rfl
        have ev : evE (P.cc k) (.idx (.call 9 [.idx (.var 0) (.cst (.int 2)), .var 4, .var 1]) (.cst (.int 1))) [some b.pv, some (wrdP w), some (nI turns), some (.obj h.length), some (nI (itf f j 0)), none] (h ++ [.lst false ((orb f (j + 1)).map nI)]) = .ok (nI (f (itf f j 0))) (h ++ [.lst false ((orb f (j + 1)).map nI)]) := by
          have v0 : ∀ h2, evE (P.cc k) (.var 0) [some b.pv, some (wrdP w), some (nI turns), some (.obj h.length), some (nI (itf f j 0)), none] h2 = .ok b.pv h2 := fun h2 => ev_varE rfl
          have v1 : ∀ h2, evE (P.cc k) (.var 1) [some b.pv, some (wrdP w), some (nI turns), some (.obj h.length), some (nI (itf f j 0)), none] h2 = .ok (wrdP w) h2 := fun h2 => ev_varE rfl
          have v4 : ∀ h2, evE (P.cc k) (.var 4) [some b.pv, some (wrdP w), some (nI turns), some (.obj h.length), some (nI (itf f j 0)), none] h2 = .ok (nI (itf f j 0)) h2 := fun h2 => ev_varE rfl
          simp only [ev_idx, ev_call, evL_cons, evL_nil, ev_cst, bnd_ok, v0, v1, v4, idx_box2, ofOpt_some, e5, e6]
        rw [ex_cons_nx a1, ex_cons, ex_asg, ev, st_ok]
        rfl
  obtain ⟨j, j1, j2, hm, s5⟩ := s5
  have hl : lenOf (.obj h.length) (h ++ [.lst false ((orb f j).map nI)]) = some j := by
    unfold lenOf
    simp [orb_len]
  show outOf _ (exB _ _ [some b.pv, some (wrdP w), some (nI turns), none, none, none] h) = _
  rw [show (FD.mk 3 6 b18).body = b18 from rfl]
  unfold b18
  rw [ex_cons_nx s1, ex_cons_nx s2, ex_cons_nx s3, ex_cons_nx s4, ex_cons_nx s5]
  by_cases hlt : turns < j
  · have s6 : exS (P.cc k) (.ite (.cmp .lt (.var 2) (.bf .len [.var 3])) [.ret (.idx (.var 3) (.var 2))] []) [some b.pv, some (wrdP w), some (nI turns), some (.obj h.length), some (nI (itf f j 0)), none] (h ++ [.lst false ((orb f j).map nI)]) = .rt (nI (itf f turns 0)) (h ++ [.lst false ((orb f j).map nI)]) := by
      simp [bfop, hl, cmpop, hlt, ex_cons, idx_obj get_last (orb_get (f := f) hlt)]
    rw [ex_cons_rt s6, out_rt, gc_app cl rfl]
  · have s6 : exS (P.cc k) (.ite (.cmp .lt (.var 2) (.bf .len [.var 3])) [.ret (.idx (.var 3) (.var 2))] []) [some b.pv, some (wrdP w), some (nI turns), some (.obj h.length), some (nI (itf f j 0)), none] (h ++ [.lst false ((orb f j).map nI)]) = .nx [some b.pv, some (wrdP w), some (nI turns), some (.obj h.length), some (nI (itf f j 0)), none] (h ++ [.lst false ((orb f j).map nI)]) := by
      simp [bfop, hl, cmpop, hlt]
    obtain ⟨i, i1, i2⟩ := index_list (h := h ++ [.lst false ((orb f j).map nI)]) (n := h.length) (fz := false) get_last hm
    have hi : i < j := by have := (List.getElem?_eq_some_iff.mp i1).1; rw [orb_len] at this; exact this
    rw [orb_get hi] at i1
    have hii : itf f i 0 = itf f j 0 := Option.some.inj i1
    have s7 : exS (P.cc k) (.asg (.nm 5) (.mt .index (.var 3) [.var 4])) [some b.pv, some (wrdP w), some (nI turns), some (.obj h.length), some (nI (itf f j 0)), none] (h ++ [.lst false ((orb f j).map nI)]) = .nx [some b.pv, some (wrdP w), some (nI turns), some (.obj h.length), some (nI (itf f j 0)), some (nI i)] (h ++ [.lst false ((orb f j).map nI)]) := by
      have mt : mtTy .index (.obj h.length) (h ++ [.lst false ((orb f j).map nI)]) = true := by unfold mtTy; simp only [get_last]
      have ev : evE (P.cc k) (.mt .index (.var 3) [.var 4]) [some b.pv, some (wrdP w), some (nI turns), some (.obj h.length), some (nI (itf f j 0)), none] (h ++ [.lst false ((orb f j).map nI)]) = .ok (nI i) (h ++ [.lst false ((orb f j).map nI)]) := by
        rw [ev_mt, ev_varE (i := 3) rfl, bnd_ok, if_pos mt, evL_cons, ev_varE (i := 4) rfl, bnd_ok, evL_nil, bnd_ok, bnd_ok, i2]
      rw [ex_asg, ev, st_ok]
      rfl
    have hp : 0 < j - i := by omega
    have hmod : itf f turns 0 = itf f (i + (turns - i) % (j - i)) 0 := by
      have := itf_mod (f := f) (s := 0) (t := i) (p := j - i) hp (by rw [show i + (j - i) = j by omega]; exact hii.symm) (turns - i)
      rw [show i + (turns - i) = turns by omega] at this
      exact this
    have hlt2 : i + (turns - i) % (j - i) < j := by have := Nat.mod_lt (turns - i) hp; omega
    have s8 : exS (P.cc k) (.ret (.idx (.var 3) (.bin .add (.var 5) (.bin .mod (.bin .sub (.var 2) (.var 5)) (.bin .sub (.bf .len [.var 3]) (.var 5)))))) [some b.pv, some (wrdP w), some (nI turns), some (.obj h.length), some (nI (itf f j 0)), some (nI i)] (h ++ [.lst false ((orb f j).map nI)]) = .rt (nI (itf f turns 0)) (h ++ [.lst false ((orb f j).map nI)]) := by
      have q1 : (0 : Int) < (j : Int) - (i : Int) := by omega
      have q2 : (i : Int) + ((turns : Int) - (i : Int)) % ((j : Int) - (i : Int)) = ((i + (turns - i) % (j - i) : Nat) : Int) := by
        rw [show (turns : Int) - (i : Int) = ((turns - i : Nat) : Int) by omega, show (j : Int) - (i : Int) = ((j - i : Nat) : Int) by omega]
        rfl
      have q3 := idx_obj (h := h ++ [.lst false ((orb f j).map nI)]) (n := h.length) (fz := false) get_last (orb_get (f := f) hlt2)
      have ev : evE (P.cc k) (.bin .add (.var 5) (.bin .mod (.bin .sub (.var 2) (.var 5)) (.bin .sub (.bf .len [.var 3]) (.var 5)))) [some b.pv, some (wrdP w), some (nI turns), some (.obj h.length), some (nI (itf f j 0)), some (nI i)] (h ++ [.lst false ((orb f j).map nI)]) = .ok (nI (i + (turns - i) % (j - i))) (h ++ [.lst false ((orb f j).map nI)]) := by
        have v5 : ∀ h2, evE (P.cc k) (.var 5) [some b.pv, some (wrdP w), some (nI turns), some (.obj h.length), some (nI (itf f j 0)), some (nI i)] h2 = .ok (nI i) h2 := fun h2 => ev_varE rfl
        have v2 : ∀ h2, evE (P.cc k) (.var 2) [some b.pv, some (wrdP w), some (nI turns), some (.obj h.length), some (nI (itf f j 0)), some (nI i)] h2 = .ok (nI turns) h2 := fun h2 => ev_varE rfl
        have v3 : ∀ h2, evE (P.cc k) (.var 3) [some b.pv, some (wrdP w), some (nI turns), some (.obj h.length), some (nI (itf f j 0)), some (nI i)] h2 = .ok (.obj h.length) h2 := fun h2 => ev_varE rfl
        simp only [ev_bin, ev_bf, evL_cons, evL_nil, v5, v2, v3, bnd_ok, bfop, hl, binop, Option.map_some, ofOpt_some]
        rw [if_pos q1, bnd_ok]
        show Rs.ok (PV.int _) _ = _
        rw [q2]
      rw [ex_ret, ev_idx, ev_varE (i := 3) rfl, bnd_ok, ev, bnd_ok, q3, ofOpt_some, st_ok, ← hmod]
    rw [ex_cons_nx s6, ex_cons_nx s7, ex_cons_rt s8, out_rt, gc_app cl rfl]
end Lw
end
section
set_option Elab.async false
set_option linter.all false
set_option maxRecDepth 100000
namespace Lw
open PySem EV
/-! ### first words -/
abbrev Dw := List (Nat × List Nat)
def keys (D : Dw) : List Nat := D.map (·.1)
def encD (D : Dw) : List (L2.Key × PV) := D.map fun p => (Sum.inl (p.1 : Int), wrdP p.2)
def lookD (s : Nat) : Dw → Option (List Nat)
  | [] => none
  | p :: r => if p.1 = s then some p.2 else lookD s r
theorem look_enc {s : Nat} : ∀ D : Dw, look (Sum.inl (s : Int)) (encD D) = (lookD s D).map wrdP
  | [] => rfl
  | p :: r => by
    show (if (Sum.inl (p.1 : Int) : L2.Key) = Sum.inl (s : Int) then some (wrdP p.2) else look _ (encD r)) = _
    unfold lookD
    by_cases h : p.1 = s
    · rw [if_pos (by rw [h]), if_pos h]; rfl
    · rw [if_neg (by intro e; injection e with e; exact h (by omega)), if_neg h, look_enc r]
theorem lookD_none {s : Nat} : ∀ {D : Dw}, s ∉ keys D → lookD s D = none
  | [], _ => rfl
  | p :: r, h => by
    unfold keys at h
    rw [List.map_cons, List.mem_cons, not_or] at h
    unfold lookD
    rw [if_neg (fun e => h.1 e.symm)]
    exact lookD_none h.2
theorem lookD_some {s : Nat} : ∀ {D : Dw}, s ∈ keys D → ∃ w, lookD s D = some w
  | [], h => absurd h (by simp [keys])
  | p :: r, h => by
    unfold lookD
    by_cases e : p.1 = s
    · exact ⟨p.2, if_pos e⟩
    · rw [if_neg e]
      unfold keys at h
      rw [List.map_cons, List.mem_cons] at h
      exact lookD_some (h.resolve_left fun z => e z.symm)
theorem lookD_get {s : Nat} {w : List Nat} : ∀ {D : Dw} {i : Nat}, (keys D).Nodup → D[i]? = some (s, w) → lookD s D = some w
  | [], i, _, h => by simp at h
  | p :: r, 0, _, h => by
    simp at h
    subst h
    unfold lookD; rw [if_pos rfl]
  | p :: r, i + 1, nd, h => by
    unfold keys at nd
    rw [List.map_cons, List.nodup_cons] at nd
    have h : r[i]? = some (s, w) := by simpa using h
    have hm : s ∈ r.map (·.1) := List.mem_map.mpr ⟨(s, w), List.mem_of_getElem? h, rfl⟩
    unfold lookD
    rw [if_neg (fun e => nd.1 (by rw [e]; exact hm))]
    exact lookD_get nd.2 h
theorem lookD_app {s : Nat} {w : List Nat} : ∀ {D E : Dw}, lookD s D = some w → lookD s (D ++ E) = some w
  | [], E, h => by cases h
  | p :: r, E, h => by
    rw [List.cons_append]
    unfold lookD at h ⊢
    split at h
    · rename_i q; rw [if_pos q]; exact h
    · rename_i q; rw [if_neg q]; exact lookD_app h
def scn (wd : List Nat) (row : List (Nat × Nat)) (D : Dw) : Nat → Dw
  | 0 => D
  | i + 1 => match row[i]? with
    | some p => if p.2 ∈ keys (scn wd row D i) then scn wd row D i else scn wd row D i ++ [(p.2, wd ++ [i])]
    | none => scn wd row D i
/-- good dicts -/
structure GD (M : Nat) (D : Dw) : Prop where
  nd : (keys D).Nodup
  lt : ∀ x ∈ keys D, x < M
theorem GD.len {M : Nat} {D : Dw} (g : GD M D) : D.length ≤ M := by
  have := pigeon M (keys D) g.nd g.lt
  unfold keys at this
  rw [List.length_map] at this
  exact this
theorem GD.add {M : Nat} {D : Dw} (g : GD M D) {x : Nat} {w : List Nat} (hx : x ∉ keys D) (hM : x < M) : GD M (D ++ [(x, w)]) := by
  have e : keys (D ++ [(x, w)]) = keys D ++ [x] := by unfold keys; rw [List.map_append]; rfl
  refine ⟨?_, fun y hy => ?_⟩
  · rw [e, List.nodup_append]
    exact ⟨g.nd, by simp, fun a ha c hc => by rw [List.mem_singleton.mp hc]; exact fun z => hx (by rw [← z]; exact ha)⟩
  · rw [e] at hy
    rcases List.mem_append.mp hy with m | m
    · exact g.lt y m
    · rw [List.mem_singleton.mp m]; exact hM
theorem scn_ok {M : Nat} {wd : List Nat} {row : List (Nat × Nat)} {D : Dw} (g : GD M D) (hr : ∀ p ∈ row, p.2 < M) : ∀ i, GD M (scn wd row D i) ∧ ∃ E, scn wd row D i = D ++ E := by
  intro i
  induction i with
  | zero => exact ⟨g, [], by simp [scn]⟩
  | succ i ih =>
    obtain ⟨g1, E, e⟩ := ih
    unfold scn
    split
    · rename_i p hp
      split
      · exact ⟨g1, E, e⟩
      · rename_i hn
        exact ⟨g1.add hn (hr p (List.mem_of_getElem? hp)), E ++ [(p.2, wd ++ [i])], by rw [e, List.append_assoc]⟩
    · exact ⟨g1, E, e⟩
def bf (t : List (List (Nat × Nat))) : Nat → Dw
  | 0 => [(0, [])]
  | i + 1 => match (bf t i)[i]? with
    | some p => scn p.2 (t[p.1]?.getD []) (bf t i) (t[p.1]?.getD []).length
    | none => bf t i
theorem bf_ok {b : Box} (o : b.Ok) : ∀ i, GD b.t.length (bf b.t i) ∧ 1 ≤ (bf b.t i).length
  | 0 => ⟨⟨by simp [bf, keys], fun x hx => by simp [bf, keys] at hx; have := o.t1; omega⟩, Nat.le_refl _⟩
  | i + 1 => by
    obtain ⟨g, h1⟩ := bf_ok o i
    unfold bf
    split
    · rename_i p hp
      have hs : p.1 < b.t.length := g.lt _ (List.mem_map.mpr ⟨p, List.mem_of_getElem? hp, rfl⟩)
      obtain ⟨r, e, _, hr⟩ := row_get o hs
      rw [e]
      obtain ⟨g2, E, e2⟩ := scn_ok (wd := p.2) (row := r) g (fun q hq => (hr q hq).2) r.length
      refine ⟨g2, ?_⟩
      show 1 ≤ (scn p.2 r (bf b.t i) r.length).length
      rw [e2, List.length_append]; omega
    · exact ⟨g, h1⟩
theorem bf_app {b : Box} (o : b.Ok) (i : Nat) : ∃ E, bf b.t (i + 1) = bf b.t i ++ E := by
  obtain ⟨g, h1⟩ := bf_ok o i
  conv => enter [1, E, 1]; unfold bf
  split
  · rename_i p hp
    have hs : p.1 < b.t.length := g.lt _ (List.mem_map.mpr ⟨p, List.mem_of_getElem? hp, rfl⟩)
    obtain ⟨r, e, _, hr⟩ := row_get o hs
    rw [e]
    exact (scn_ok (wd := p.2) (row := r) g (fun q hq => (hr q hq).2) r.length).2
  · exact ⟨[], by simp⟩
theorem bf_stop {t : List (List (Nat × Nat))} {i : Nat} (h : (bf t i).length ≤ i) : ∀ j, bf t (i + j) = bf t i
  | 0 => rfl
  | j + 1 => by
    have ih := bf_stop h j
    have e : bf t (i + j + 1) = match (bf t (i + j))[i + j]? with
      | some p => scn p.2 (t[p.1]?.getD []) (bf t (i + j)) (t[p.1]?.getD []).length
      | none => bf t (i + j) := rfl
    show bf t (i + j + 1) = _
    rw [e, ih, List.getElem?_eq_none_iff.mpr (by omega)]
theorem bf_end {t : List (List (Nat × Nat))} {i M : Nat} (h : (bf t i).length ≤ i) (hi : i ≤ M) : bf t M = bf t i := by
  have := bf_stop h (M - i)
  rw [show i + (M - i) = M by omega] at this
  exact this
/-! ### the heap of the search -/
def hp (hb : PH) (nd nl c : Nat) (D : Dw) : PH := (hb.set nd (.dK (encD D))).set nl (.lst false (((keys D).drop c).map nI))
section
variable {hb : PH} {nd nl c : Nat} {D D' : Dw} (h1 : nd < hb.length) (h2 : nl < hb.length) (hne : nd ≠ nl)
include h1 h2 hne
theorem hp_d : (hp hb nd nl c D)[nd]? = some (.dK (encD D)) := by
  unfold hp
  rw [List.getElem?_set_ne (Ne.symm hne), List.getElem?_set_self h1]
theorem hp_l : (hp hb nd nl c D)[nl]? = some (.lst false (((keys D).drop c).map nI)) := by
  unfold hp
  rw [List.getElem?_set_self (by rw [List.length_set]; exact h2)]
theorem hp_set : ((hp hb nd nl c D).set nd (.dK (encD D'))).set nl (.lst false (((keys D').drop c).map nI)) = hp hb nd nl c D' := by
  unfold hp
  have e : ((hb.set nd (.dK (encD D))).set nl (.lst false (((keys D).drop c).map nI))).set nd (.dK (encD D')) = ((hb.set nd (.dK (encD D))).set nd (.dK (encD D'))).set nl (.lst false (((keys D).drop c).map nI)) := List.set_comm _ _ (Ne.symm hne)
  rw [e, List.set_set, List.set_set]
end
theorem keys_snoc {D : Dw} {x : Nat} {w : List Nat} {c : Nat} (h : c ≤ D.length) : (keys (D ++ [(x, w)])).drop c = (keys D).drop c ++ [x] := by
  unfold keys
  rw [List.map_append, List.drop_append_of_le_length (by rw [List.length_map]; exact h)]
  rfl
/-- the inner loop -/
def body (q : Nat) : List EV.S := [.ite (.cmp .notin (.idx (.var 6) (.cst (.int 1))) (.var 1)) [.set (.var 1) (.idx (.var 6) (.cst (.int 1))) (.bin .add (.idx (.var 1) (.var 4)) (.tup [.var 5])), .expr (.mt .append (.var q) [.idx (.var 6) (.cst (.int 1))])] []]
theorem body_run {hb : PH} {nd nl c : Nat} (h1 : nd < hb.length) (h2 : nl < hb.length) (hne : nd ≠ nl) {M : Nat} (hM : M ≤ 60) {D : Dw} (g : GD M D) (hc : c ≤ D.length) {s : Nat} {wd : List Nat} (hs : lookD s D = some wd) (hwd : wd.length ≤ 60) {p : Nat × Nat} (hpM : p.2 < M) {i k q : Nat} {x0 x2 x3 : Option PV}
    (hq : ∀ v5 v6 : Option PV, ([x0, some (.obj nd), x2, x3, some (nI s), v5, v6] : EV.Env)[q]? = some (some (.obj nl))) :
    exB (P.cc k) (body q) [x0, some (.obj nd), x2, x3, some (nI s), some (nI i), some (pv2 p)] (hp hb nd nl c D) = .nx [x0, some (.obj nd), x2, x3, some (nI s), some (nI i), some (pv2 p)] (hp hb nd nl c (if p.2 ∈ keys D then D else D ++ [(p.2, wd ++ [i])])) := by
  have hd := hp_d (c := c) (D := D) h1 h2 hne
  have hl := hp_l (c := c) (D := D) h1 h2 hne
  have v1 : ∀ h, evE (P.cc k) (.var 1) [x0, some (.obj nd), x2, x3, some (nI s), some (nI i), some (pv2 p)] h = .ok (.obj nd) h := fun h => ev_varE rfl
  have v4 : ∀ h, evE (P.cc k) (.var 4) [x0, some (.obj nd), x2, x3, some (nI s), some (nI i), some (pv2 p)] h = .ok (nI s) h := fun h => ev_varE rfl
  have v5 : ∀ h, evE (P.cc k) (.var 5) [x0, some (.obj nd), x2, x3, some (nI s), some (nI i), some (pv2 p)] h = .ok (nI i) h := fun h => ev_varE rfl
  have v6 : ∀ h, evE (P.cc k) (.var 6) [x0, some (.obj nd), x2, x3, some (nI s), some (nI i), some (pv2 p)] h = .ok (pv2 p) h := fun h => ev_varE rfl
  have vq : ∀ h, evE (P.cc k) (.var q) [x0, some (.obj nd), x2, x3, some (nI s), some (nI i), some (pv2 p)] h = .ok (.obj nl) h := fun h => ev_varE (hq _ _)
  have e6 : ∀ h, evE (P.cc k) (.idx (.var 6) (.cst (.int 1))) [x0, some (.obj nd), x2, x3, some (nI s), some (nI i), some (pv2 p)] h = .ok (nI p.2) h := fun h => by
    rw [ev_idx, v6, bnd_ok, ev_cst, bnd_ok, idx_pair1, ofOpt_some]
  have hin : isIn (hp hb nd nl c D) (nI p.2) (.obj nd) = some (decide (p.2 ∈ keys D)) := by
    unfold isIn
    simp only [hd]
    show (some (Sum.inl (p.2 : Int)) : Option L2.Key).map (fun k => (look k (encD D)).isSome) = _
    rw [Option.map_some, look_enc]
    by_cases hm : p.2 ∈ keys D
    · obtain ⟨w, hw⟩ := lookD_some hm
      rw [hw]; simp [hm]
    · rw [lookD_none hm]; simp [hm]
  have ec : evE (P.cc k) (.cmp .notin (.idx (.var 6) (.cst (.int 1))) (.var 1)) [x0, some (.obj nd), x2, x3, some (nI s), some (nI i), some (pv2 p)] (hp hb nd nl c D) = .ok (.bl (!decide (p.2 ∈ keys D))) (hp hb nd nl c D) := by
    rw [ev_cmp, e6, bnd_ok, v1, bnd_ok]
    show ofOptB _ ((isIn _ _ _).map _) = _
    rw [hin]; rfl
  unfold body
  rw [ex_cons, ex_ite, ec, tst_ok, st_ok]
  by_cases hm : p.2 ∈ keys D
  · rw [if_neg (by simp [hm]), ex_nil, if_pos hm]
    simp only [ex_nil]
  · rw [if_pos (by simp [hm]), if_neg hm]
    have hz : D.length < sizeLine := by have := g.len; rw [sizeLine_eq]; omega
    have ev : evE (P.cc k) (.bin .add (.idx (.var 1) (.var 4)) (.tup [.var 5])) [x0, some (.obj nd), x2, x3, some (nI s), some (nI i), some (pv2 p)] (hp hb nd nl c D) = .ok (wrdP (wd ++ [i])) (hp hb nd nl c D) := by
      have ei : idxop (.obj nd) (nI s) (hp hb nd nl c D) = some (wrdP wd) := by
        unfold idxop
        simp only [hd]
        show (some (Sum.inl (s : Int)) : Option L2.Key).bind (fun k => look k (encD D)) = _
        rw [Option.bind_some, look_enc, hs]; rfl
      have hz2 : wd.length + 1 ≤ sizeLine := by rw [sizeLine_eq]; omega
      have e1 : evE (P.cc k) (.tup [.var 5]) [x0, some (.obj nd), x2, x3, some (nI s), some (nI i), some (pv2 p)] (hp hb nd nl c D) = .ok (.tup [nI i]) (hp hb nd nl c D) := by
        rw [ev_tup, evL_cons, v5, bnd_ok, evL_nil, bnd_ok, bnd_ok, if_pos (size_big (by show 1 ≤ 1048576; decide))]
      rw [ev_bin, ev_idx, v1, bnd_ok, v4, bnd_ok, ei, ofOpt_some, bnd_ok, e1, bnd_ok]
      show (if (wd.map nI).length + 1 ≤ sizeLine then Rs.ok (PV.tup (wd.map nI ++ [nI i])) _ else .no) = _
      rw [List.length_map, if_pos hz2]
      simp
    have es : exS (P.cc k) (.set (.var 1) (.idx (.var 6) (.cst (.int 1))) (.bin .add (.idx (.var 1) (.var 4)) (.tup [.var 5]))) [x0, some (.obj nd), x2, x3, some (nI s), some (nI i), some (pv2 p)] (hp hb nd nl c D) =
        .nx [x0, some (.obj nd), x2, x3, some (nI s), some (nI i), some (pv2 p)] ((hp hb nd nl c D).set nd (.dK (encD (D ++ [(p.2, wd ++ [i])])))) := by
      rw [ex_set, ev, st_ok, v1, st_ok, e6, st_ok]
      have eset : setop (.obj nd) (nI p.2) (wrdP (wd ++ [i])) (hp hb nd nl c D) = some ((hp hb nd nl c D).set nd (.dK (encD (D ++ [(p.2, wd ++ [i])])))) := by
        unfold setop
        simp only [hd]
        show (some (Sum.inl (p.2 : Int)) : Option L2.Key).bind _ = _
        rw [Option.bind_some]
        have hl2 : (encD D).length < sizeLine := by unfold encD; rw [List.length_map]; exact hz
        rw [if_pos hl2]
        have hno : (encD D).any (fun kv => decide (kv.1 = Sum.inl (p.2 : Int))) = false := by
          rw [List.any_eq_false]
          intro kv hkv
          obtain ⟨q, hq1, rfl⟩ := List.mem_map.mp hkv
          simp only [decide_eq_true_eq]
          intro e
          injection e with e
          exact hm (List.mem_map.mpr ⟨q, hq1, by omega⟩)
        unfold put
        rw [if_neg (by rw [hno]; simp)]
        unfold encD
        rw [List.map_append]
        rfl
      rw [eset]
    rw [ex_cons_nx es, ex_cons, ex_expr]
    have ml : ((hp hb nd nl c D).set nd (.dK (encD (D ++ [(p.2, wd ++ [i])]))))[nl]? = some (.lst false (((keys D).drop c).map nI)) := by
      rw [List.getElem?_set_ne hne]; exact hl
    have mt : mtTy .append (.obj nl) ((hp hb nd nl c D).set nd (.dK (encD (D ++ [(p.2, wd ++ [i])])))) = true := by unfold mtTy; simp only [ml]
    have hz3 : (((keys D).drop c).map nI).length < sizeLine := by
      rw [List.length_map, List.length_drop]
      unfold keys
      rw [List.length_map]; omega
    have em : evE (P.cc k) (.mt .append (.var q) [.idx (.var 6) (.cst (.int 1))]) [x0, some (.obj nd), x2, x3, some (nI s), some (nI i), some (pv2 p)] ((hp hb nd nl c D).set nd (.dK (encD (D ++ [(p.2, wd ++ [i])])))) = .ok .non (hp hb nd nl c (D ++ [(p.2, wd ++ [i])])) := by
      rw [ev_mt, vq, bnd_ok, if_pos mt, evL_cons, e6, bnd_ok, evL_nil, bnd_ok, bnd_ok]
      unfold mtop
      simp only [ml]
      have hs2 := hp_set (c := c) (D := D) (D' := D ++ [(p.2, wd ++ [i])]) h1 h2 hne
      rw [keys_snoc hc, List.map_append] at hs2
      rw [if_pos hz3, ← hs2]
      rfl
    rw [em, st_ok]
    simp only [ex_nil]
theorem scan_run {hb : PH} {nd nl c : Nat} (h1 : nd < hb.length) (h2 : nl < hb.length) (hne : nd ≠ nl) {t : List (List (Nat × Nat))} {M : Nat} (hM : M ≤ 60) {D : Dw} (g : GD M D) (hc : c ≤ D.length) {s : Nat} {wd : List Nat} (hs : lookD s D = some wd) (hwd : wd.length ≤ 60) {row : List (Nat × Nat)} (ht : t[s]? = some row) (hrl : row.length ≤ 60) (hr : ∀ p ∈ row, p.2 < M) {k q : Nat} {x2 x3 y5 y6 : Option PV}
    (hq : ∀ v5 v6 : Option PV, ([some (tabP t), some (.obj nd), x2, x3, some (nI s), v5, v6] : EV.Env)[q]? = some (some (.obj nl))) :
    ∃ z5 z6, exS (P.cc k) (.forS (.tup [.nm 5, .nm 6]) (.enm (.idx (.var 0) (.var 4))) (body q)) [some (tabP t), some (.obj nd), x2, x3, some (nI s), y5, y6] (hp hb nd nl c D) = .nx [some (tabP t), some (.obj nd), x2, x3, some (nI s), z5, z6] (hp hb nd nl c (scn wd row D row.length)) := by
  refine for_run (w := .enm (.vals (row.map pv2))) (N := row.length) (h1 := hp hb nd nl c D) (I := fun i r1 h1 => h1 = hp hb nd nl c (scn wd row D i) ∧ ∃ z5 z6, r1 = [some (tabP t), some (.obj nd), x2, x3, some (nI s), z5, z6])
    (Post := fun z => ∃ z5 z6, z = .nx [some (tabP t), some (.obj nd), x2, x3, some (nI s), z5, z6] (hp hb nd nl c (scn wd row D row.length))) ?_ (by rw [fuelE]; omega) ⟨rfl, _, _, rfl⟩ (fun r1 h1 ⟨q1, z5, z6, q2⟩ => ⟨by rw [itAt_enm]; simp, z5, z6, by rw [q1, q2]⟩) fun j r1 h3 hj ⟨q1, z5, z6, q2⟩ => ?_
  · rw [evi_enm, ev_idx, ev_varE (i := 0) rfl, bnd_ok, ev_varE (i := 4) rfl, bnd_ok, idx_tab ht, ofOpt_some, bnd_ok]
    rfl
  · subst q1 q2
    obtain ⟨g2, E, e2⟩ := scn_ok (wd := wd) (row := row) g hr j
    have hrow : row[j]? = some row[j] := List.getElem?_eq_getElem hj
    refine ⟨.tup [.int j, pv2 row[j]], [some (tabP t), some (.obj nd), x2, x3, some (nI s), some (nI j), some (pv2 row[j])], by rw [itAt_enm]; simp [hj], rfl, .inl ⟨[some (tabP t), some (.obj nd), x2, x3, some (nI s), some (nI j), some (pv2 row[j])], hp hb nd nl c (scn wd row D (j + 1)), ?_, rfl, _, _, rfl⟩⟩
    have hb2 := body_run h1 h2 hne hM g2 (c := c) (by rw [e2, List.length_append]; omega) (s := s) (wd := wd) (by rw [e2]; exact lookD_app hs) hwd (p := row[j]) (hr _ (List.getElem_mem hj)) (i := j) (k := k) (q := q) (x0 := some (tabP t)) (x2 := x2) (x3 := x3) hq
    rw [hb2]
    conv => rhs; unfold scn
    rw [hrow]
end Lw
end
section
set_option Elab.async false
set_option linter.all false
set_option maxRecDepth 100000
namespace Lw
open PySem EV
theorem scn_words {wd : List Nat} {row : List (Nat × Nat)} {D : Dw} {n : Nat} (hD : ∀ p ∈ D, p.2.length ≤ n) (hw : wd.length + 1 ≤ n) : ∀ i, ∀ p ∈ scn wd row D i, p.2.length ≤ n := by
  intro i
  induction i with
  | zero => exact hD
  | succ i ih =>
    unfold scn
    split
    · split
      · exact ih
      · intro q hq
        rcases List.mem_append.mp hq with m | m
        · exact ih q m
        · rw [List.mem_singleton.mp m]; simp; exact hw
    · exact ih
theorem bf_words {t : List (List (Nat × Nat))} : ∀ i, ∀ p ∈ bf t i, p.2.length ≤ i
  | 0, p, h => by simp [bf] at h; rw [h]; exact Nat.le_refl _
  | i + 1, p, h => by
    have ih := bf_words (t := t) i
    have e : bf t (i + 1) = match (bf t i)[i]? with
      | some p => scn p.2 (t[p.1]?.getD []) (bf t i) (t[p.1]?.getD []).length
      | none => bf t i := rfl
    rw [e] at h
    split at h
    · rename_i q hq
      exact scn_words (n := i + 1) (fun p hp => Nat.le_succ_of_le (ih p hp)) (Nat.succ_le_succ (ih q (List.mem_of_getElem? hq))) _ p h
    · exact Nat.le_succ_of_le (ih p h)
/-- one state's row -/
theorem bf_step {b : Box} (o : b.Ok) {i : Nat} (hi : i < (bf b.t i).length) (hM : i ≤ 60) : ∃ s wd row, (bf b.t i)[i]? = some (s, wd) ∧ b.t[s]? = some row ∧ lookD s (bf b.t i) = some wd ∧ wd.length ≤ 60 ∧ row.length ≤ 60 ∧ (∀ p ∈ row, p.2 < b.t.length) ∧ bf b.t (i + 1) = scn wd row (bf b.t i) row.length := by
  obtain ⟨g, _⟩ := bf_ok o i
  have e := List.getElem?_eq_getElem hi
  generalize (bf b.t i)[i] = q at e
  obtain ⟨s, wd⟩ := q
  have hs : s < b.t.length := g.lt _ (List.mem_map.mpr ⟨_, List.mem_of_getElem? e, rfl⟩)
  obtain ⟨r, er, hl, hr⟩ := row_get o hs
  have hw : wd.length ≤ i := bf_words i _ (List.mem_of_getElem? e)
  refine ⟨s, wd, r, e, er, lookD_get g.nd e, by omega, by have := o.n4; omega, fun p hp => (hr p hp).2, ?_⟩
  have e2 : bf b.t (i + 1) = match (bf b.t i)[i]? with
    | some p => scn p.2 (b.t[p.1]?.getD []) (bf b.t i) (b.t[p.1]?.getD []).length
    | none => bf b.t i := rfl
  rw [e2, e]
  show scn wd (b.t[s]?.getD []) _ _ = _
  rw [er]; rfl
theorem keys_get {D : Dw} {i s : Nat} {wd : List Nat} (e : D[i]? = some (s, wd)) : (keys D)[i]? = some s := by unfold keys; rw [List.getElem?_map, e]; rfl
theorem keys_len {D : Dw} : (keys D).length = D.length := by unfold keys; rw [List.length_map]
theorem enc_flat {D : Dw} {n : Nat} : (PO.dK (encD D)).old n = true := by
  show oldL n ((encD D).map (·.2)) = true
  exact oldL_all fun x hx => by
    obtain ⟨y, hy, rfl⟩ := List.mem_map.mp hx
    obtain ⟨z, _, rfl⟩ := List.mem_map.mp hy
    exact wrd_old
theorem lst_flat {l : List Nat} {n : Nat} {fz : Bool} : (PO.lst fz (l.map nI)).old n = true := oldL_nI
/-- all words of the box -/
def fws (b : Box) : Dw := bf b.t b.t.length
theorem hp_two {h g : PH} {c : Nat} {D D0 : Dw} {l : List Nat} : hp (h ++ (.dK (encD D0) :: .lst false (l.map nI) :: g)) h.length (h.length + 1) c D = h ++ (.dK (encD D) :: .lst false (((keys D).drop c).map nI) :: g) := by
  unfold hp
  rw [List.set_append_right _ _ (Nat.le_refl _), Nat.sub_self, List.set_cons_zero, List.set_append_right _ _ (Nat.le_succ _)]
  rw [show h.length + 1 - h.length = 1 by omega, List.set_cons_succ, List.set_cons_zero]
theorem c15 {b : Box} (o : b.Ok) {h : PH} : Cal P 1 15 [tabP b.t] h (.ok (.obj h.length) (h ++ [.dK (encD (fws b)), .lst false ((keys (fws b)).map nI)])) := Cal.mk p15 rfl fun k hk => by
  have hM := o.t60
  have s1 : exS (P.cc k) (.asg (.tup [.nm 1, .nm 2, .nm 3]) (.tup [.dct [.cst (.int 0), .tup []], .lst [.cst (.int 0)], .cst (.int 0)])) [some (tabP b.t), none, none, none, none, none, none] h =
      .nx [some (tabP b.t), some (.obj h.length), some (.obj (h.length + 1)), some (nI 0), none, none, none] (h ++ [.dK (encD (bf b.t 0)), .lst false ((keys (bf b.t 0)).map nI)]) := by
    have e1 : evE (P.cc k) (.dct [.cst (.int 0), .tup []]) [some (tabP b.t), none, none, none, none, none, none] h = .ok (.obj h.length) (h ++ [.dK (encD (bf b.t 0))]) := by
      have e0 : evL (P.cc k) [.cst (.int 0), .tup []] [some (tabP b.t), none, none, none, none, none, none] h = .ok [.int 0, .tup []] h := by
        simp [size_big]
      rw [ev_dct, e0, bnd_ok]
      rfl
    have e2 : ∀ h', evE (P.cc k) (.lst [.cst (.int 0)]) [some (tabP b.t), none, none, none, none, none, none] h' = .ok (.obj h'.length) (h' ++ [.lst false [nI 0]]) := fun h' => by
      simp [size_big]
    rw [ex_asg, ev_tup, evL_cons, e1, bnd_ok, evL_cons, e2, bnd_ok, evL_cons, ev_cst, bnd_ok, evL_nil, bnd_ok, bnd_ok, bnd_ok, bnd_ok, if_pos (size_big (by show 3 ≤ 1048576; decide)), st_ok]
    simp [bindT, bindTs, List.append_assoc]
    rfl
  have s2 : ∃ x3 x4 x5 x6, exS (P.cc k) (.whl (.cmp .lt (.var 3) (.bf .len [.var 2])) [.asg (.tup [.nm 4, .nm 3]) (.tup [.idx (.var 2) (.var 3), .bin .add (.var 3) (.cst (.int 1))]), .forS (.tup [.nm 5, .nm 6]) (.enm (.idx (.var 0) (.var 4))) (body 2)]) [some (tabP b.t), some (.obj h.length), some (.obj (h.length + 1)), some (nI 0), none, none, none] (h ++ [.dK (encD (bf b.t 0)), .lst false ((keys (bf b.t 0)).map nI)]) =
      .nx [some (tabP b.t), some (.obj h.length), some (.obj (h.length + 1)), x3, x4, x5, x6] (h ++ [.dK (encD (fws b)), .lst false ((keys (fws b)).map nI)]) := by
    refine whl_run (m := b.t.length) (by rw [fuelE]; omega) (I := fun m r1 h1 => ∃ i x4 x5 x6, m = b.t.length - i ∧ i ≤ (bf b.t i).length ∧ i ≤ b.t.length ∧ h1 = h ++ [.dK (encD (bf b.t i)), .lst false ((keys (bf b.t i)).map nI)] ∧ r1 = [some (tabP b.t), some (.obj h.length), some (.obj (h.length + 1)), some (nI i), x4, x5, x6])
      (Post := fun z => ∃ x3 x4 x5 x6, z = .nx [some (tabP b.t), some (.obj h.length), some (.obj (h.length + 1)), x3, x4, x5, x6] (h ++ [.dK (encD (fws b)), .lst false ((keys (fws b)).map nI)])) ⟨0, none, none, none, rfl, Nat.zero_le _, Nat.zero_le _, rfl, rfl⟩ fun m r1 h1 ⟨i, x4, x5, x6, i1, i2, i3, q1, q2⟩ => ?_
    subst q1 q2
    have gl : (h ++ [.dK (encD (bf b.t i)), .lst false ((keys (bf b.t i)).map nI)])[h.length + 1]? = some (.lst false ((keys (bf b.t i)).map nI)) := by
      rw [List.getElem?_append_right (Nat.le_succ _), show h.length + 1 - h.length = 1 by omega]; rfl
    have hl : lenOf (.obj (h.length + 1)) (h ++ [.dK (encD (bf b.t i)), .lst false ((keys (bf b.t i)).map nI)]) = some (bf b.t i).length := by
      unfold lenOf
      simp only [gl, List.length_map, keys_len]
    have et : evE (P.cc k) (.cmp .lt (.var 3) (.bf .len [.var 2])) [some (tabP b.t), some (.obj h.length), some (.obj (h.length + 1)), some (nI i), x4, x5, x6] (h ++ [.dK (encD (bf b.t i)), .lst false ((keys (bf b.t i)).map nI)]) = .ok (.bl (decide (i < (bf b.t i).length))) (h ++ [.dK (encD (bf b.t i)), .lst false ((keys (bf b.t i)).map nI)]) := by
      rw [ev_cmp, ev_varE (i := 3) rfl, bnd_ok, ev_bf, evL_cons, ev_varE (i := 2) rfl, bnd_ok, evL_nil, bnd_ok, bnd_ok]
      show (ofOpt _ ((lenOf _ _).map _)).bnd _ = _
      rw [hl]
      show Rs.ok (PV.bl (decide ((i : Int) < ((bf b.t i).length : Int)))) _ = _
      simp
    by_cases hlt : i < (bf b.t i).length
    · obtain ⟨s, wd, row, d1, d2, d3, d4, d5, d6, d7⟩ := bf_step o hlt (by omega)
      obtain ⟨g, _⟩ := bf_ok o i
      have hlM : i + 1 ≤ b.t.length := by have := g.len; omega
      have a1 : exS (P.cc k) (.asg (.tup [.nm 4, .nm 3]) (.tup [.idx (.var 2) (.var 3), .bin .add (.var 3) (.cst (.int 1))])) [some (tabP b.t), some (.obj h.length), some (.obj (h.length + 1)), some (nI i), x4, x5, x6] (h ++ [.dK (encD (bf b.t i)), .lst false ((keys (bf b.t i)).map nI)]) =
          .nx [some (tabP b.t), some (.obj h.length), some (.obj (h.length + 1)), some (nI (i + 1)), some (nI s), x5, x6] (h ++ [.dK (encD (bf b.t i)), .lst false ((keys (bf b.t i)).map nI)]) := by
        have ei : evE (P.cc k) (.idx (.var 2) (.var 3)) [some (tabP b.t), some (.obj h.length), some (.obj (h.length + 1)), some (nI i), x4, x5, x6] (h ++ [.dK (encD (bf b.t i)), .lst false ((keys (bf b.t i)).map nI)]) = .ok (nI s) (h ++ [.dK (encD (bf b.t i)), .lst false ((keys (bf b.t i)).map nI)]) := by
          rw [ev_idx, ev_varE (i := 2) rfl, bnd_ok, ev_varE (i := 3) rfl, bnd_ok, idx_obj gl (keys_get d1), ofOpt_some]
        have ea : evE (P.cc k) (.bin .add (.var 3) (.cst (.int 1))) [some (tabP b.t), some (.obj h.length), some (.obj (h.length + 1)), some (nI i), x4, x5, x6] (h ++ [.dK (encD (bf b.t i)), .lst false ((keys (bf b.t i)).map nI)]) = .ok (nI (i + 1)) (h ++ [.dK (encD (bf b.t i)), .lst false ((keys (bf b.t i)).map nI)]) := by
          rw [ev_bin, ev_varE (i := 3) rfl, bnd_ok, ev_cst, bnd_ok]
          rfl
        rw [ex_asg, ev_tup, evL_cons, ei, bnd_ok, evL_cons, ea, bnd_ok, evL_nil, bnd_ok, bnd_ok, bnd_ok, if_pos (size_big (by show 2 ≤ 1048576; decide)), st_ok]
        rfl
      have hs := scan_run (hb := h ++ [.dK (encD (bf b.t i)), .lst false ((keys (bf b.t i)).map nI)]) (nd := h.length) (nl := h.length + 1) (c := 0) (by simp) (by simp) (by omega) hM g (Nat.zero_le _) d3 d4 d2 d5 d6 (k := k) (q := 2) (x2 := some (.obj (h.length + 1))) (x3 := some (nI (i + 1))) (y5 := x5) (y6 := x6) (fun _ _ => rfl)
      rw [hp_two, hp_two, List.drop_zero, List.drop_zero, ← d7] at hs
      obtain ⟨z5, z6, hs⟩ := hs
      refine .inl ⟨h ++ [.dK (encD (bf b.t i)), .lst false ((keys (bf b.t i)).map nI)], [some (tabP b.t), some (.obj h.length), some (.obj (h.length + 1)), some (nI (i + 1)), some (nI s), z5, z6], h ++ [.dK (encD (bf b.t (i + 1))), .lst false ((keys (bf b.t (i + 1))).map nI)], b.t.length - (i + 1), ?_, ?_, by omega, i + 1, _, _, _, rfl, ?_, hlM, rfl, rfl⟩
      · rw [et, decide_eq_true hlt]
      · rw [ex_cons_nx a1, ex_cons_nx hs, ex_nil]
      · obtain ⟨E, e⟩ := bf_app o i
        rw [e, List.length_append]
        have : (bf b.t (i + 1)).length ≠ 0 := by have := (bf_ok o (i + 1)).2; omega
        omega
    · refine .inr ⟨h ++ [.dK (encD (bf b.t i)), .lst false ((keys (bf b.t i)).map nI)], by rw [et, decide_eq_false hlt], ?_⟩
      have : fws b = bf b.t i := bf_end (by omega) i3
      rw [this]
      exact ⟨_, _, _, _, rfl⟩
  obtain ⟨x3, x4, x5, x6, s2⟩ := s2
  unfold body at s2
  show outOf _ (exB _ _ [some (tabP b.t), none, none, none, none, none, none] h) = _
  rw [show (FD.mk 1 7 b15).body = b15 from rfl]
  unfold b15
  rw [ex_cons_nx s1]
  show outOf _ (exB (P.cc k) (_ :: _) _ _) = _
  rw [ex_cons_nx s2, ex_cons, ex_ret, ev_varE (i := 1) rfl, st_ok]
  simp only [out_rt]
  unfold gc
  rw [if_neg]
  show ¬ (decide (h.length < h.length) && _) = true
  simp
end Lw
end
section
set_option Elab.async false
set_option linter.all false
set_option maxRecDepth 100000
namespace Lw
open PySem EV
theorem eqv_nil {l : List Nat} : PyData.eqv (.list (l.map fun a : Nat => PyData.int (a : Int))) (.list []) = decide (l = []) := by
  cases l with
  | nil => simp [PyData.eqv, PyData.eqvAll]
  | cons a l => simp [PyData.eqv, PyData.eqvAll]
theorem get_in {h g t : PH} {d : PO} {f : Nat} (hf : f < g.length) : (h ++ (d :: (g ++ t)))[h.length + 1 + f]? = g[f]? := by
  rw [List.getElem?_append_right (by omega), show h.length + 1 + f - h.length = f + 1 by omega, List.getElem?_cons_succ, List.getElem?_append_left hf]
theorem hp_late {h g : PH} {c : Nat} {D : Dw} {a x y : PO} : hp (h ++ (a :: (g ++ [x, y]))) h.length (h.length + 1 + (g.length + 1)) c D = h ++ (.dK (encD D) :: (g ++ [x, .lst false (((keys D).drop c).map nI)])) := by
  unfold hp
  rw [List.set_append_right _ _ (Nat.le_refl _), Nat.sub_self, List.set_cons_zero, List.set_append_right _ _ (by omega)]
  rw [show h.length + 1 + (g.length + 1) - h.length = (g.length + 1) + 1 by omega, List.set_cons_succ, List.set_append_right _ _ (by omega), show g.length + 1 - g.length = 0 + 1 by omega, List.set_cons_succ, List.set_cons_zero]
theorem bf_pre {b : Box} (o : b.Ok) (i : Nat) : ∀ j, ∃ E, bf b.t (i + j) = bf b.t i ++ E
  | 0 => ⟨[], by simp⟩
  | j + 1 => by
    obtain ⟨E, e⟩ := bf_pre o i j
    obtain ⟨E2, e2⟩ := bf_app o (i + j)
    exact ⟨E ++ E2, by show bf b.t (i + j + 1) = _; rw [e2, e, List.append_assoc]⟩
def outer : List EV.S := [.asg (.nm 3) (.lst []), .forS (.nm 4) (.itv (.var 2)) [.forS (.tup [.nm 5, .nm 6]) (.enm (.idx (.var 0) (.var 4))) (body 3)], .asg (.nm 2) (.var 3)]
theorem outer_run {b : Box} (o : b.Ok) {h g : PH} {i f k : Nat} (hi : i < (bf b.t i).length) (hM : (bf b.t i).length ≤ b.t.length) (hf : g[f]? = some (.lst false (((keys (bf b.t i)).drop i).map nI))) {x3 x4 x5 x6 : Option PV} :
    ∃ z4 z5 z6, exB (P.cc k) outer [some (tabP b.t), some (.obj h.length), some (.obj (h.length + 1 + f)), x3, x4, x5, x6] (h ++ (.dK (encD (bf b.t i)) :: (g ++ [.lst false []]))) =
      .nx [some (tabP b.t), some (.obj h.length), some (.obj (h.length + 1 + (g.length + 1))), some (.obj (h.length + 1 + (g.length + 1))), z4, z5, z6] (h ++ (.dK (encD (bf b.t (bf b.t i).length)) :: (g ++ [.lst false [], .lst false (((keys (bf b.t (bf b.t i).length)).drop (bf b.t i).length).map nI)]))) := by
  have hfl : f < g.length := (List.getElem?_eq_some_iff.mp hf).1
  have h60 := o.t60
  have lb : (h ++ (PO.dK (encD (bf b.t i)) :: (g ++ [PO.lst false []]))).length = h.length + 1 + (g.length + 1) := by simp; omega
  have a1 : exS (P.cc k) (.asg (.nm 3) (.lst [])) [some (tabP b.t), some (.obj h.length), some (.obj (h.length + 1 + f)), x3, x4, x5, x6] (h ++ (.dK (encD (bf b.t i)) :: (g ++ [.lst false []]))) =
      .nx [some (tabP b.t), some (.obj h.length), some (.obj (h.length + 1 + f)), some (.obj (h.length + 1 + (g.length + 1))), x4, x5, x6] (h ++ (.dK (encD (bf b.t i)) :: (g ++ [.lst false [], .lst false []]))) := by
    rw [ex_asg, ev_lst, evL_nil, bnd_ok, if_pos (size_big (by show 0 ≤ 1048576; decide)), st_ok, lb]
    simp [bindT, List.append_assoc]
  generalize hc : (bf b.t i).length = c at *
  have hp0 : (h ++ (PO.dK (encD (bf b.t i)) :: (g ++ [PO.lst false [], PO.lst false []]))) = hp (h ++ (PO.dK (encD (bf b.t i)) :: (g ++ [PO.lst false [], PO.lst false []]))) h.length (h.length + 1 + (g.length + 1)) c (bf b.t i) := by
    rw [hp_late, List.drop_eq_nil_of_le (by rw [keys_len]; omega)]; rfl
  have a2 : ∃ z4 z5 z6, exS (P.cc k) (.forS (.nm 4) (.itv (.var 2)) [.forS (.tup [.nm 5, .nm 6]) (.enm (.idx (.var 0) (.var 4))) (body 3)]) [some (tabP b.t), some (.obj h.length), some (.obj (h.length + 1 + f)), some (.obj (h.length + 1 + (g.length + 1))), x4, x5, x6] (h ++ (.dK (encD (bf b.t i)) :: (g ++ [.lst false [], .lst false []]))) =
      .nx [some (tabP b.t), some (.obj h.length), some (.obj (h.length + 1 + f)), some (.obj (h.length + 1 + (g.length + 1))), z4, z5, z6] (h ++ (.dK (encD (bf b.t c)) :: (g ++ [.lst false [], .lst false (((keys (bf b.t c)).drop c).map nI)]))) := by
    have lk : (((keys (bf b.t i)).drop i).map nI).length = c - i := by rw [List.length_map, List.length_drop, keys_len, hc]
    have git : ∀ D : Dw, (hp (h ++ (PO.dK (encD (bf b.t i)) :: (g ++ [PO.lst false [], PO.lst false []]))) h.length (h.length + 1 + (g.length + 1)) c D)[h.length + 1 + f]? = some (.lst false (((keys (bf b.t i)).drop i).map nI)) := fun D => by
      rw [hp_late, get_in hfl, hf]
    refine for_run (w := .live (h.length + 1 + f)) (N := c - i) (h1 := h ++ (.dK (encD (bf b.t i)) :: (g ++ [.lst false [], .lst false []]))) (I := fun j r1 h1 => h1 = hp (h ++ (PO.dK (encD (bf b.t i)) :: (g ++ [PO.lst false [], PO.lst false []]))) h.length (h.length + 1 + (g.length + 1)) c (bf b.t (i + j)) ∧ ∃ z4 z5 z6, r1 = [some (tabP b.t), some (.obj h.length), some (.obj (h.length + 1 + f)), some (.obj (h.length + 1 + (g.length + 1))), z4, z5, z6])
      (Post := fun z => ∃ z4 z5 z6, z = .nx [some (tabP b.t), some (.obj h.length), some (.obj (h.length + 1 + f)), some (.obj (h.length + 1 + (g.length + 1))), z4, z5, z6] (h ++ (.dK (encD (bf b.t c)) :: (g ++ [.lst false [], .lst false (((keys (bf b.t c)).drop c).map nI)])))) ?_ (by rw [fuelE]; omega) ⟨hp0, _, _, _, rfl⟩ (fun r1 h1 ⟨q1, z4, z5, z6, q2⟩ => ?_) fun j r1 h1 hj ⟨q1, z4, z5, z6, q2⟩ => ?_
    · rw [evi_itv, ev_varE (i := 2) rfl, bnd_ok]
      unfold toIt
      rw [hp0]
      simp only [git]
      rfl
    · refine ⟨by rw [q1, itAt_live (git _), List.getElem?_eq_none_iff.mpr (by rw [lk]; exact Nat.le_refl _)], z4, z5, z6, ?_⟩
      rw [q1, q2, show i + (c - i) = c by omega, hp_late]
    · subst q1 q2
      obtain ⟨E, eE⟩ := bf_pre o i j
      have hlt : i + j < (bf b.t (i + j)).length := by rw [eE, List.length_append, hc]; omega
      obtain ⟨s, wd, row, d1, d2, d3, d4, d5, d6, d7⟩ := bf_step o hlt (by omega)
      obtain ⟨gd, _⟩ := bf_ok o (i + j)
      have hx : (((keys (bf b.t i)).drop i).map nI)[j]? = some (nI s) := by
        rw [List.getElem?_map, List.getElem?_drop]
        have := keys_get d1
        rw [eE] at this
        unfold keys at this
        rw [List.map_append, List.getElem?_append_left (by rw [List.length_map, hc]; omega)] at this
        unfold keys
        rw [this]; rfl
      have hs := scan_run (hb := h ++ (PO.dK (encD (bf b.t i)) :: (g ++ [PO.lst false [], PO.lst false []]))) (nd := h.length) (nl := h.length + 1 + (g.length + 1)) (c := c) (by simp) (by simp; omega) (by omega) h60 gd (by rw [eE, List.length_append, hc]; omega) d3 d4 d2 d5 d6 (k := k) (q := 3) (x2 := some (.obj (h.length + 1 + f))) (x3 := some (.obj (h.length + 1 + (g.length + 1)))) (y5 := z5) (y6 := z6) (fun _ _ => rfl)
      rw [← d7] at hs
      obtain ⟨w5, w6, hs⟩ := hs
      refine ⟨nI s, [some (tabP b.t), some (.obj h.length), some (.obj (h.length + 1 + f)), some (.obj (h.length + 1 + (g.length + 1))), some (nI s), z5, z6], by rw [itAt_live (git _), hx], rfl, .inl ⟨[some (tabP b.t), some (.obj h.length), some (.obj (h.length + 1 + f)), some (.obj (h.length + 1 + (g.length + 1))), some (nI s), w5, w6], _, ?_, rfl, _, _, _, rfl⟩⟩
      rw [ex_cons_nx hs, ex_nil]
      rfl
  obtain ⟨z4, z5, z6, a2⟩ := a2
  refine ⟨z4, z5, z6, ?_⟩
  unfold outer
  rw [ex_cons_nx a1, ex_cons_nx a2, ex_cons, ex_asg, ev_varE (i := 3) rfl, st_ok]
  rfl
theorem c37 {b : Box} (o : b.Ok) {h : PH} {k : Nat} (hk : 1 ≤ k) : ∃ g, g.all (·.old 0) = true ∧ callF P k 37 [tabP b.t] h = .ok (.obj h.length) (h ++ (.dK (encD (fws b)) :: g)) := by
  obtain ⟨k, rfl⟩ : ∃ j, k = j + 1 := ⟨k - 1, by omega⟩
  have hM := o.t60
  have s1 : exS (P.cc k) (.asg (.tup [.nm 1, .nm 2]) (.tup [.dct [.cst (.int 0), .tup []], .lst [.cst (.int 0)]])) [some (tabP b.t), none, none, none, none, none, none] h =
      .nx [some (tabP b.t), some (.obj h.length), some (.obj (h.length + 1 + 0)), none, none, none, none] (h ++ (.dK (encD (bf b.t 0)) :: [.lst false (((keys (bf b.t 0)).drop 0).map nI)])) := by
    have e1 : evE (P.cc k) (.dct [.cst (.int 0), .tup []]) [some (tabP b.t), none, none, none, none, none, none] h = .ok (.obj h.length) (h ++ [.dK (encD (bf b.t 0))]) := by
      have e0 : evL (P.cc k) [.cst (.int 0), .tup []] [some (tabP b.t), none, none, none, none, none, none] h = .ok [.int 0, .tup []] h := by
        simp [size_big]
      rw [ev_dct, e0, bnd_ok]
      rfl
    have e2 : ∀ h', evE (P.cc k) (.lst [.cst (.int 0)]) [some (tabP b.t), none, none, none, none, none, none] h' = .ok (.obj h'.length) (h' ++ [.lst false [nI 0]]) := fun h' => by
      simp [size_big]
    rw [ex_asg, ev_tup, evL_cons, e1, bnd_ok, evL_cons, e2, bnd_ok, evL_nil, bnd_ok, bnd_ok, bnd_ok, if_pos (size_big (by show 2 ≤ 1048576; decide)), st_ok]
    simp [bindT, bindTs, List.append_assoc]
    rfl
  have s2 : ∃ g x2 x3 x4 x5 x6, g.all (·.old 0) = true ∧ exS (P.cc k) (.whl (.cmp .ne (.var 2) (.lst [])) outer) [some (tabP b.t), some (.obj h.length), some (.obj (h.length + 1 + 0)), none, none, none, none] (h ++ (.dK (encD (bf b.t 0)) :: [.lst false (((keys (bf b.t 0)).drop 0).map nI)])) =
      .nx [some (tabP b.t), some (.obj h.length), x2, x3, x4, x5, x6] (h ++ (.dK (encD (fws b)) :: g)) := by
    refine whl_run (m := b.t.length) (by rw [fuelE]; omega) (I := fun m r1 h1 => ∃ i f g x3 x4 x5 x6, m = b.t.length - i ∧ i ≤ (bf b.t i).length ∧ i ≤ b.t.length ∧ g.all (·.old 0) = true ∧ g[f]? = some (.lst false (((keys (bf b.t i)).drop i).map nI)) ∧ h1 = h ++ (.dK (encD (bf b.t i)) :: g) ∧ r1 = [some (tabP b.t), some (.obj h.length), some (.obj (h.length + 1 + f)), x3, x4, x5, x6])
      (Post := fun z => ∃ g x2 x3 x4 x5 x6, g.all (·.old 0) = true ∧ z = .nx [some (tabP b.t), some (.obj h.length), x2, x3, x4, x5, x6] (h ++ (.dK (encD (fws b)) :: g))) ⟨0, 0, _, none, none, none, none, rfl, Nat.zero_le _, Nat.zero_le _, by rw [List.all_cons, List.all_nil, Bool.and_true]; exact lst_flat, rfl, rfl, rfl⟩ fun m r1 h1 ⟨i, f, g, x3, x4, x5, x6, i1, i2, i3, fl, i4, q1, q2⟩ => ?_
    subst q1 q2
    have hfl : f < g.length := (List.getElem?_eq_some_iff.mp i4).1
    have lb : (h ++ (PO.dK (encD (bf b.t i)) :: g)).length = h.length + 1 + g.length := by simp; omega
    have et : evE (P.cc k) (.cmp .ne (.var 2) (.lst [])) [some (tabP b.t), some (.obj h.length), some (.obj (h.length + 1 + f)), x3, x4, x5, x6] (h ++ (.dK (encD (bf b.t i)) :: g)) = .ok (.bl (!decide ((keys (bf b.t i)).drop i = []))) (h ++ (.dK (encD (bf b.t i)) :: (g ++ [.lst false []]))) := by
      rw [ev_cmp, ev_varE (i := 2) rfl, bnd_ok, ev_lst, evL_nil, bnd_ok, if_pos (size_big (by show 0 ≤ 1048576; decide)), bnd_ok, lb, List.append_assoc, List.cons_append]
      have t1 : toD (h ++ (PO.dK (encD (bf b.t i)) :: (g ++ [PO.lst false []]))) 60 (.obj (h.length + 1 + f)) = some (.list (((keys (bf b.t i)).drop i).map fun a : Nat => PyData.int (a : Int))) := toD_list (fz := false) (by rw [get_in hfl, i4])
      have t2 : toD (h ++ (PO.dK (encD (bf b.t i)) :: (g ++ [PO.lst false []]))) 60 (.obj (h.length + 1 + g.length)) = some (.list (([] : List Nat).map fun a : Nat => PyData.int (a : Int))) := toD_list (fz := false) (by
        rw [List.getElem?_append_right (by omega), show h.length + 1 + g.length - h.length = g.length + 1 by omega, List.getElem?_cons_succ, List.getElem?_append_right (Nat.le_refl _), Nat.sub_self]; rfl)
      show ofOptB _ ((pyEq _ _ _).map _) = _
      unfold pyEq
      rw [t1, t2]
      show ofOptB _ (some (!(PyData.eqv _ _))) = _
      rw [ofOptB_some]
      show Rs.ok (PV.bl (!PyData.eqv (.list _) (.list []))) _ = _
      rw [eqv_nil]
    by_cases hlt : i < (bf b.t i).length
    · have hne : (keys (bf b.t i)).drop i ≠ [] := by
        intro e
        have := congrArg List.length e
        rw [List.length_drop, keys_len] at this
        simp at this
        omega
      obtain ⟨gd, _⟩ := bf_ok o i
      obtain ⟨z4, z5, z6, hr⟩ := outer_run o (h := h) (g := g) (k := k) hlt gd.len i4 (x3 := x3) (x4 := x4) (x5 := x5) (x6 := x6)
      refine .inl ⟨_, _, _, b.t.length - (bf b.t i).length, by rw [et, decide_eq_false hne]; rfl, hr, by have := gd.len; omega, (bf b.t i).length, g.length + 1, g ++ [.lst false [], .lst false (((keys (bf b.t (bf b.t i).length)).drop (bf b.t i).length).map nI)], _, _, _, _, rfl, ?_, gd.len, ?_, ?_, rfl, rfl⟩
      · have e : i + ((bf b.t i).length - i) = (bf b.t i).length := by omega
        obtain ⟨E, e2⟩ := bf_pre o i ((bf b.t i).length - i)
        rw [e] at e2
        conv => rhs; rw [e2, List.length_append]
        omega
      · rw [List.all_append, fl, Bool.true_and, List.all_cons, List.all_cons, List.all_nil, Bool.and_true, Bool.and_eq_true]
        exact ⟨rfl, lst_flat⟩
      · rw [List.getElem?_append_right (Nat.le_succ _), show g.length + 1 - g.length = 1 by omega]; rfl
    · have he : (keys (bf b.t i)).drop i = [] := List.drop_eq_nil_of_le (by rw [keys_len]; omega)
      refine .inr ⟨_, by rw [et, decide_eq_true he]; rfl, g ++ [.lst false []], some (.obj (h.length + 1 + f)), x3, x4, x5, x6, ?_, ?_⟩
      · rw [List.all_append, fl]; rfl
      · have : fws b = bf b.t i := bf_end (by omega) i3
        rw [this]
  obtain ⟨g, x2, x3, x4, x5, x6, fl, s2⟩ := s2
  refine ⟨g, fl, ?_⟩
  rw [callF_def p37 rfl]
  unfold outer body at s2
  show outOf _ (exB _ _ [some (tabP b.t), none, none, none, none, none, none] h) = _
  rw [show (FD.mk 1 7 b37).body = b37 from rfl]
  unfold b37
  rw [ex_cons_nx s1, ex_cons_nx s2, ex_cons, ex_ret, ev_varE (i := 1) rfl, st_ok]
  simp only [out_rt]
  unfold gc
  rw [if_neg]
  show ¬ (decide (h.length < h.length) && _) = true
  simp
end Lw
end
section
set_option Elab.async false
set_option linter.all false
set_option maxRecDepth 100000
namespace Lw
open PySem EV
theorem intK_enc : ∀ D : Dw, intK ((encD D).map (·.1)) = some ((keys D).map fun n : Nat => (n : Int))
  | [] => rfl
  | p :: r => by
    show ((intK ((encD r).map (·.1))).map ((p.1 : Int) :: ·)) = _
    rw [intK_enc r]; rfl
def sk (b : Box) : List Int := sortI ((keys (fws b)).map fun n : Nat => (n : Int))
theorem insI_len (x : Int) : ∀ xs : List Int, (insI x xs).length = xs.length + 1
  | [] => rfl
  | y :: ys => by
    unfold insI
    split
    · rfl
    · rw [List.length_cons, insI_len x ys]; rfl
theorem sortI_len : ∀ xs : List Int, (sortI xs).length = xs.length
  | [] => rfl
  | x :: xs => by unfold sortI; rw [insI_len, sortI_len xs]; rfl
theorem sk_len {b : Box} (o : b.Ok) : (sk b).length ≤ 60 := by
  unfold sk
  rw [sortI_len, List.length_map, keys_len]
  have := (bf_ok o b.t.length).1.len
  have := o.t60
  unfold fws; omega
def fwP (b : Box) (s : Nat) : PV := ((lookD s (fws b)).map wrdP).getD .non
theorem fw_old {b : Box} {s n : Nat} : (fwP b s).old n = true := by
  unfold fwP
  cases lookD s (fws b) with
  | none => rfl
  | some w => exact wrd_old
theorem g15 {b : Box} {h : PH} : (h ++ [PO.dK (encD (fws b)), PO.lst false ((keys (fws b)).map nI)])[h.length]? = some (.dK (encD (fws b))) := by
  rw [List.getElem?_append_right (Nat.le_refl _), Nat.sub_self]; rfl
theorem c16 {b : Box} (o : b.Ok) {h : PH} (cl : Cl h) : Cal P 6 16 [b.pv] h (.ok (.tup ((sk b).map .int)) h) := Cal.mk p16 rfl fun k hk => by
  have e1 : (P.cc k).call 4 [b.pv] h = _ := (c4 o).at hk
  have e2 : (P.cc k).call 15 [tabP b.t] h = _ := (c15 o).at (by omega)
  have hz : (sk b).length ≤ sizeLine := size_big (by have := sk_len o; omega)
  have hk64 : ((keys (fws b)).map fun n : Nat => (n : Int)).length < 64 := by
    have := sk_len o
    unfold sk at this
    rw [sortI_len] at this
    omega
  have s1 : exS (P.cc k) (.expr (.call 4 [.var 0])) [some b.pv] h = .nx [some b.pv] h := by simp [e1]
  have a1 : evE (P.cc k) (.call 15 [.idx (.var 0) (.cst (.int 2))]) [some b.pv] h = .ok (.obj h.length) (h ++ [PO.dK (encD (fws b)), PO.lst false ((keys (fws b)).map nI)]) := by
    simp [idx_box2, e2]
  have a2 : evE (P.cc k) (.con .sorted (.its (.call 15 [.idx (.var 0) (.cst (.int 2))]))) [some b.pv] h = .ok (.obj (h.length + 2)) (h ++ [PO.dK (encD (fws b)), PO.lst false ((keys (fws b)).map nI)] ++ [.lst false ((sk b).map .int)]) := by
    rw [ev_con, evi_its, a1, bnd_ok]
    unfold toItC
    simp only [g15]
    rw [ofOptI_some, bnd_ok]
    unfold conW
    simp only [intK_enc]
    rw [if_pos hk64]
    simp [sk]
  have a3 : evE (P.cc k) (.con .tuple (.its (.con .sorted (.its (.call 15 [.idx (.var 0) (.cst (.int 2))]))))) [some b.pv] h = .ok (.tup ((sk b).map .int)) (h ++ [PO.dK (encD (fws b)), PO.lst false ((keys (fws b)).map nI)] ++ [.lst false ((sk b).map .int)]) := by
    rw [ev_con, evi_its, a2, bnd_ok]
    have gl : (h ++ [PO.dK (encD (fws b)), PO.lst false ((keys (fws b)).map nI)] ++ [.lst false ((sk b).map .int)])[h.length + 2]? = some (.lst false ((sk b).map .int)) := by
      rw [List.getElem?_append_right (by simp)]; simp
    unfold toItC
    simp only [gl]
    rw [ofOptI_some, bnd_ok]
    unfold conW
    simp only [itList, gl, conop, List.length_map]
    rw [if_pos hz]
  show outOf _ (exB _ _ [some b.pv] h) = _
  rw [show (FD.mk 1 1 b16).body = b16 from rfl]
  unfold b16
  rw [ex_cons_nx s1, ex_cons, ex_ret, a3, st_ok]
  simp only [out_rt]
  rw [List.append_assoc, gc_app cl]
  show oldL h.length ((sk b).map .int) = true
  exact oldL_ints _
theorem c17 {b : Box} (o : b.Ok) {s : Nat} (hs : s < b.t.length) {h : PH} (cl : Cl h) : Cal P 6 17 [b.pv, nI s] h (.ok (fwP b s) h) := Cal.mk p17 rfl fun k hk => by
  have e1 : (P.cc k).call 4 [b.pv] h = _ := (c4 o).at hk
  have e2 : (P.cc k).call 15 [tabP b.t] h = _ := (c15 o).at (by omega)
  have e3 : (P.cc k).call 6 [b.pv, nI s] h = _ := (c6 hs).at (by omega)
  have s1 : exS (P.cc k) (.expr (.call 4 [.var 0])) [some b.pv, some (nI s)] h = .nx [some b.pv, some (nI s)] h := by simp [e1]
  have s2 : exS (P.cc k) (.expr (.call 6 [.var 0, .var 1])) [some b.pv, some (nI s)] h = .nx [some b.pv, some (nI s)] h := by simp [e3]
  have a1 : evE (P.cc k) (.call 15 [.idx (.var 0) (.cst (.int 2))]) [some b.pv, some (nI s)] h = .ok (.obj h.length) (h ++ [PO.dK (encD (fws b)), PO.lst false ((keys (fws b)).map nI)]) := by
    simp [idx_box2, e2]
  have mt : mtTy .get2 (.obj h.length) (h ++ [PO.dK (encD (fws b)), PO.lst false ((keys (fws b)).map nI)]) = true := by unfold mtTy; simp only [g15]
  have a2 : evE (P.cc k) (.mt .get2 (.call 15 [.idx (.var 0) (.cst (.int 2))]) [.var 1, .cst .non]) [some b.pv, some (nI s)] h = .ok (fwP b s) (h ++ [PO.dK (encD (fws b)), PO.lst false ((keys (fws b)).map nI)]) := by
    rw [ev_mt, a1, bnd_ok, if_pos mt, evL_cons, ev_varE (i := 1) rfl, bnd_ok, evL_cons, ev_cst, bnd_ok, evL_nil, bnd_ok, bnd_ok, bnd_ok]
    unfold mtop
    simp only [g15]
    show Rs.ok ((look (Sum.inl (s : Int)) (encD (fws b))).getD .non) _ = _
    rw [look_enc]; rfl
  show outOf _ (exB _ _ [some b.pv, some (nI s)] h) = _
  rw [show (FD.mk 2 2 b17).body = b17 from rfl]
  unfold b17
  rw [ex_cons_nx s1, ex_cons_nx s2, ex_cons, ex_ret, a2, st_ok]
  simp only [out_rt]
  rw [gc_app cl fw_old]
end Lw
end
section
set_option Elab.async false
set_option linter.all false
set_option maxRecDepth 100000
namespace Lw
open PySem EV
/-! ### the same -/
inductive Same (h : PH) : Nat → PV → PV → Prop
  | int (d : Nat) (i : Int) : Same h d (.int i) (.int i)
  | bl (d : Nat) (b : Bool) : Same h d (.bl b) (.bl b)
  | non (d : Nat) : Same h d .non .non
  | tup (d : Nat) (xs ys : List PV) : xs.length = ys.length → xs.length ≤ 1048576 → (∀ (i : Nat) x y, xs[i]? = some x → ys[i]? = some y → Same h d x y) → Same h (d + 1) (.tup xs) (.tup ys)
  | lst (d n m : Nat) (xs ys : List PV) : h[n]? = some (.lst false xs) → h[m]? = some (.lst false ys) → xs.length = ys.length → xs.length ≤ 1048576 → (∀ (i : Nat) x y, xs[i]? = some x → ys[i]? = some y → Same h d x y) → Same h (d + 1) (.obj n) (.obj m)
theorem all_true {m : List PV} : blsOf (m.map fun _ => PV.bl true) = some (m.map fun _ => true) := by
  induction m with
  | nil => rfl
  | cons x m ih => simp [blsOf, ih]
theorem all_id {m : List PV} : (m.map fun _ => true).all id = true := by
  induction m with
  | nil => rfl
  | cons x m ih => simp
theorem live_zip {h : PH} {n m i : Nat} {xs ys : List PV} (e1 : h[n]? = some (.lst false xs)) (e2 : h[m]? = some (.lst false ys)) {x y : PV} (hx : xs[i]? = some x) (hy : ys[i]? = some y) : itAt (.zip (.live n) (.live m)) i h = some (some (.tup [x, y])) := by
  unfold itAt
  rw [itAt_live e1, itAt_live e2, hx, hy]
theorem live_zipE {h : PH} {n m i : Nat} {xs ys : List PV} (e1 : h[n]? = some (.lst false xs)) (e2 : h[m]? = some (.lst false ys)) (hx : xs[i]? = none) : itAt (.zip (.live n) (.live m)) i h = some none := by
  unfold itAt
  rw [itAt_live e1, itAt_live e2, hx]
theorem same_all {h : PH} {k d : Nat} {w : It} {xs ys : List PV} (hw : ∀ (i : Nat) x y, xs[i]? = some x → ys[i]? = some y → itAt w i h = some (some (.tup [x, y]))) (he : itAt w xs.length h = some none) (hl : xs.length = ys.length) (hz : xs.length ≤ 1048576)
    (hc : ∀ (i : Nat) x y, xs[i]? = some x → ys[i]? = some y → (P.cc k).call 33 [x, y] h = .ok (.bl true) h) {a b : PV} (hi : evI (P.cc k) (.zip (.var 0) (.var 1)) [some a, some b, none, none] h = .ok w h) :
    evE (P.cc k) (.con .all (.itc (.call 33 [.var 2, .var 3]) (.tup [.nm 2, .nm 3]) (.zip (.var 0) (.var 1)) (.cst (.bl true)) [2, 3])) [some a, some b, none, none] h = .ok (.bl true) h := by
  have s2 := comp_list (c := P.cc k) (r := [some a, some b, none, none]) (h := h) (t := .tup [.nm 2, .nm 3]) (own := [2, 3]) (elt := .call 33 [.var 2, .var 3]) (w := w) (xs.map fun _ => PV.bl true) (by rw [fuelE, List.length_map]; omega) (by rw [List.length_map]; exact size_big hz) (by rw [List.length_map]; exact he) fun i y hy => by
    rw [List.getElem?_map] at hy
    obtain ⟨x, hx, rfl⟩ := Option.map_eq_some_iff.mp hy
    have hi2 : i < ys.length := by rw [← hl]; exact (List.getElem?_eq_some_iff.mp hx).1
    have hy := List.getElem?_eq_getElem hi2
    refine ⟨.tup [x, ys[i]], [some a, some b, some x, some ys[i]], hw i x _ hx hy, rfl, ?_⟩
    rw [ev_call, evL_cons, ev_varE (i := 2) rfl, bnd_ok, evL_cons, ev_varE (i := 3) rfl, bnd_ok, evL_nil, bnd_ok, bnd_ok, bnd_ok]
    exact hc i x _ hx hy
  rw [ev_con, evi_itc, hi, bnd_ok, s2]
  simp only [valsIt, bnd_ok, conW, itList, conop, all_true, all_id]
theorem c33 {h : PH} : ∀ (d : Nat) (a b : PV), Same h d a b → Cal P (d + 1) 33 [a, b] h (.ok (.bl true) h) := by
  intro d
  induction d with
  | zero =>
    intro a b s
    refine Cal.mk p33 rfl fun k hk => ?_
    cases s with
    | int _ i => simp [b33, ex_cons, bfop, isTy, cmp_eq, gc_len]
    | bl _ b => cases b <;> simp [b33, ex_cons, bfop, isTy, cmpop, pyEq, toD, PyData.eqv, gc_len]
    | non _ => simp [b33, ex_cons, bfop, isTy, cmpop, isNon, gc_len]
  | succ d ih =>
    intro a b s
    refine Cal.mk p33 rfl fun k hk => ?_
    cases s with
    | int _ i => simp [b33, ex_cons, bfop, isTy, cmp_eq, gc_len]
    | bl _ b => cases b <;> simp [b33, ex_cons, bfop, isTy, cmpop, pyEq, toD, PyData.eqv, gc_len]
    | non _ => simp [b33, ex_cons, bfop, isTy, cmpop, isNon, gc_len]
    | tup _ xs ys hl hz hs =>
      have ev := same_all (h := h) (k := k) (d := d) (w := .zip (.vals xs) (.vals ys)) (xs := xs) (ys := ys) (fun i x y h1 h2 => itAt_zip h1 h2) (itAt_zipE (List.getElem?_eq_none_iff.mpr (Nat.le_refl _))) hl hz (fun i x y h1 h2 => (ih x y (hs i x y h1 h2)).at hk) (a := .tup xs) (b := .tup ys) (by
        rw [evi_zip, ev_varE (i := 0) rfl, bnd_ok, ev_varE (i := 1) rfl, bnd_ok]; rfl)
      have s1 : exB (P.cc k) [.ite (.or (.not (.bf (.isinst .tuple) [.var 0])) (.cmp .ne (.bf .len [.var 0]) (.bf .len [.var 1]))) [.ret (.cst (.bl false))] [], .ret (.con .all (.itc (.call 33 [.var 2, .var 3]) (.tup [.nm 2, .nm 3]) (.zip (.var 0) (.var 1)) (.cst (.bl true)) [2, 3]))] [some (.tup xs), some (.tup ys), none, none] h = .rt (.bl true) h := by
        have a1 : exS (P.cc k) (.ite (.or (.not (.bf (.isinst .tuple) [.var 0])) (.cmp .ne (.bf .len [.var 0]) (.bf .len [.var 1]))) [.ret (.cst (.bl false))] []) [some (.tup xs), some (.tup ys), none, none] h = .nx [some (.tup xs), some (.tup ys), none, none] h := by
          simp [bfop, isTy, lenOf, cmp_ne, hl]
        rw [ex_cons_nx a1, ex_cons, ex_ret, ev, st_ok]
      have s2 : exS (P.cc k) (.ite (.bf (.isinst .tuple) [.var 1]) [.ite (.or (.not (.bf (.isinst .tuple) [.var 0])) (.cmp .ne (.bf .len [.var 0]) (.bf .len [.var 1]))) [.ret (.cst (.bl false))] [], .ret (.con .all (.itc (.call 33 [.var 2, .var 3]) (.tup [.nm 2, .nm 3]) (.zip (.var 0) (.var 1)) (.cst (.bl true)) [2, 3]))] []) [some (.tup xs), some (.tup ys), none, none] h = .rt (.bl true) h := by
        have e : evE (P.cc k) (.bf (.isinst .tuple) [.var 1]) [some (.tup xs), some (.tup ys), none, none] h = .ok (.bl true) h := by simp [bfop, isTy]
        rw [ex_ite, e, tst_ok, st_ok, if_pos rfl, s1]
      show outOf _ (exB _ _ [some (.tup xs), some (.tup ys), none, none] h) = _
      rw [show (FD.mk 2 4 b33).body = b33 from rfl]
      unfold b33
      rw [ex_cons_rt s2, out_rt, gc_len]
    | lst _ n m xs ys e1 e2 hl hz hs =>
      have ev := same_all (h := h) (k := k) (d := d) (w := .zip (.live n) (.live m)) (xs := xs) (ys := ys) (fun i x y h1 h2 => live_zip e1 e2 h1 h2) (live_zipE e1 e2 (List.getElem?_eq_none_iff.mpr (Nat.le_refl _))) hl hz (fun i x y h1 h2 => (ih x y (hs i x y h1 h2)).at hk) (a := .obj n) (b := .obj m) (by
        rw [evi_zip, ev_varE (i := 0) rfl, bnd_ok, ev_varE (i := 1) rfl, bnd_ok]
        unfold zipIt toIt
        simp only [e1, e2]
        rfl)
      have l1 : lenOf (.obj n) h = some xs.length := by unfold lenOf; simp only [e1]
      have l2 : lenOf (.obj m) h = some ys.length := by unfold lenOf; simp only [e2]
      have t0 : isTy .tuple (.obj m) h = some false := by unfold isTy; simp only [e2]
      have t1 : isTy .list (.obj m) h = some true := by unfold isTy; simp only [e2]
      have t2 : isTy .list (.obj n) h = some true := by unfold isTy; simp only [e1]
      have s0 : exS (P.cc k) (.ite (.bf (.isinst .tuple) [.var 1]) [.ite (.or (.not (.bf (.isinst .tuple) [.var 0])) (.cmp .ne (.bf .len [.var 0]) (.bf .len [.var 1]))) [.ret (.cst (.bl false))] [], .ret (.con .all (.itc (.call 33 [.var 2, .var 3]) (.tup [.nm 2, .nm 3]) (.zip (.var 0) (.var 1)) (.cst (.bl true)) [2, 3]))] []) [some (.obj n), some (.obj m), none, none] h = .nx [some (.obj n), some (.obj m), none, none] h := by
        have e : evE (P.cc k) (.bf (.isinst .tuple) [.var 1]) [some (.obj n), some (.obj m), none, none] h = .ok (.bl false) h := by simp [bfop, t0]
        rw [ex_ite, e, tst_ok, st_ok, if_neg Bool.false_ne_true, ex_nil]
      have s1 : exB (P.cc k) [.ite (.or (.not (.bf (.isinst .list) [.var 0])) (.cmp .ne (.bf .len [.var 0]) (.bf .len [.var 1]))) [.ret (.cst (.bl false))] [], .ret (.con .all (.itc (.call 33 [.var 2, .var 3]) (.tup [.nm 2, .nm 3]) (.zip (.var 0) (.var 1)) (.cst (.bl true)) [2, 3]))] [some (.obj n), some (.obj m), none, none] h = .rt (.bl true) h := by
        have a1 : exS (P.cc k) (.ite (.or (.not (.bf (.isinst .list) [.var 0])) (.cmp .ne (.bf .len [.var 0]) (.bf .len [.var 1]))) [.ret (.cst (.bl false))] []) [some (.obj n), some (.obj m), none, none] h = .nx [some (.obj n), some (.obj m), none, none] h := by
          simp [bfop, t2, l1, l2, cmp_ne, hl]
        rw [ex_cons_nx a1, ex_cons, ex_ret, ev, st_ok]
      have s2 : exS (P.cc k) (.ite (.bf (.isinst .list) [.var 1]) [.ite (.or (.not (.bf (.isinst .list) [.var 0])) (.cmp .ne (.bf .len [.var 0]) (.bf .len [.var 1]))) [.ret (.cst (.bl false))] [], .ret (.con .all (.itc (.call 33 [.var 2, .var 3]) (.tup [.nm 2, .nm 3]) (.zip (.var 0) (.var 1)) (.cst (.bl true)) [2, 3]))] []) [some (.obj n), some (.obj m), none, none] h = .rt (.bl true) h := by
        have e : evE (P.cc k) (.bf (.isinst .list) [.var 1]) [some (.obj n), some (.obj m), none, none] h = .ok (.bl true) h := by simp [bfop, t1]
        rw [ex_ite, e, tst_ok, st_ok, if_pos rfl, s1]
      show outOf _ (exB _ _ [some (.obj n), some (.obj m), none, none] h) = _
      rw [show (FD.mk 2 4 b33).body = b33 from rfl]
      unfold b33
      rw [ex_cons_nx s0, ex_cons_rt s2, out_rt, gc_len]
end Lw
end
section
set_option Elab.async false
set_option linter.all false
set_option maxRecDepth 100000
namespace Lw
open PySem EV
/-! ### bodies: Box.pv ⟨n, A, runs⟩ -/
structure BodyOk (y : Box) : Prop where
  n1 : 1 ≤ y.n
  n4 : y.n ≤ 4
  a1 : 1 ≤ y.A
  a9 : y.A ≤ 9
  t60 : y.t.length ≤ 60
  run : ∀ r ∈ y.t, 1 ≤ r.length ∧ r.length ≤ 40 ∧ ∀ p ∈ r, p.1 < y.n ∧ p.2 < y.A
theorem c19 {p : Nat × Nat} {A M : Nat} {h : PH} (h1 : p.1 < A) (h2 : p.2 < M) : Cal P 3 19 [pv2 p, nI A, nI M] h (.ok (.bl true) h) := Cal.mk p19 rfl fun k hk => by
  have e1 : (P.cc k).call 1 [.int p.1, .int 0, .int ((A : Int) - 1)] h = _ := (c1t (by omega) (by omega)).at hk
  have e2 : (P.cc k).call 1 [.int p.2, .int 0, .int ((M : Int) - 1)] h = _ := (c1t (by omega) (by omega)).at hk
  have i0 : L2.atI [nI p.1, nI p.2] 0 = some (nI p.1) := atI_nat (n := 0) rfl
  have i1 : L2.atI [nI p.1, nI p.2] 1 = some (nI p.2) := atI_nat (n := 1) rfl
  simp [b19, ex_cons, pv2, bfop, isTy, lenOf, cmpop, pyEq, toD, PyData.eqv, idxop, i0, i1, binop, e1, e2, gc_len]
theorem c20 {y : Box} (o : BodyOk y) {i : Nat} {r : List (Nat × Nat)} (e : y.t[i]? = some r) {h : PH} : Cal P 4 20 [y.pv, nI i] h (.ok .non h) := Cal.mk p20 rfl fun k hk => by
  obtain ⟨r1, r40, hr⟩ := o.run r (List.mem_of_getElem? e)
  have s1 : exS (P.cc k) (.asg (.nm 2) (.idx (.idx (.var 0) (.cst (.int 2))) (.var 1))) [some y.pv, some (nI i), none, none, none] h = .nx [some y.pv, some (nI i), some (rowP r), none, none] h := by
    simp [idx_box2, idx_tab e, bindT]
  have s2 : exS (P.cc k) (.ite (.or (.not (.bf (.isinst .tuple) [.var 2])) (.not (.chn .le .le (.cst (.int 1)) (.bf .len [.var 2]) (.glb 6)))) [.bad] []) [some y.pv, some (nI i), some (rowP r), none, none] h = .nx [some y.pv, some (nI i), some (rowP r), none, none] h := by
    have t : isTy .tuple (rowP r) h = some true := rfl
    have q1 : decide ((1 : Int) ≤ (r.length : Int)) = true := decide_eq_true (by omega)
    have q2 : decide ((r.length : Int) ≤ 40) = true := decide_eq_true (by omega)
    simp [bfop, t, len_row, g6, cmpop, q1, q2]
  have s3 : ∃ r', exS (P.cc k) (.forS (.tup [.nm 3, .nm 4]) (.enm (.var 2)) [.ite (.not (.call 19 [.var 4, .idx (.var 0) (.cst (.int 0)), .idx (.var 0) (.cst (.int 1))])) [.bad] []]) [some y.pv, some (nI i), some (rowP r), none, none] h = .nx r' h := by
    refine for_run (w := .enm (.vals (r.map pv2))) (N := r.length) (I := fun _ r1 h1 => h1 = h ∧ ∃ a c, r1 = [some y.pv, some (nI i), some (rowP r), a, c]) (Post := fun x => ∃ r', x = .nx r' h) (h1 := h) (by simp [rowP, toIt]) (by rw [fuelE]; omega) ⟨rfl, _, _, rfl⟩ (fun r1 h1 ⟨e1, _⟩ => ⟨by rw [itAt_enm]; simp, r1, by rw [e1]⟩) fun j r1 h1 hj ⟨e1, a, c, e2⟩ => ?_
    subst e1 e2
    refine ⟨.tup [.int j, pv2 r[j]], [some y.pv, some (nI i), some (rowP r), some (.int j), some (pv2 r[j])], by rw [itAt_enm]; simp [hj], by simp [bindT, bindTs], .inl ⟨[some y.pv, some (nI i), some (rowP r), some (.int j), some (pv2 r[j])], h1, ?_, rfl, _, _, rfl⟩⟩
    have e2 : (P.cc k).call 19 [pv2 r[j], nI y.n, nI y.A] h1 = _ := (c19 (hr _ (List.getElem_mem hj)).1 (hr _ (List.getElem_mem hj)).2).at hk
    simp [ex_cons, idx_box0, idx_box1, e2]
  obtain ⟨r', s3⟩ := s3
  show outOf _ (exB _ _ [some y.pv, some (nI i), none, none, none] h) = _
  rw [show (FD.mk 2 5 b20).body = b20 from rfl]
  unfold b20
  rw [ex_cons_nx s1, ex_cons_nx s2, ex_cons_nx s3, ex_nil, out_nx, gc_len]
theorem c21 {y : Box} (o : BodyOk y) {h : PH} : Cal P 5 21 [y.pv] h (.ok y.pv h) := Cal.mk p21 rfl fun k hk => by
  have e1 : (P.cc k).call 1 [nI y.n, .int 1, .int 4] h = _ := (c1t (by have := o.n1; omega) (by have := o.n4; omega)).at (by omega)
  have e2 : (P.cc k).call 1 [nI y.A, .int 1, .int 9] h = _ := (c1t (by have := o.a1; omega) (by have := o.a9; omega)).at (by omega)
  have t1 : isTy .tuple y.pv h = some true := rfl
  have t2 : isTy .tuple (tabP y.t) h = some true := rfl
  have l1 : lenOf y.pv h = some 3 := rfl
  have s1 : exS (P.cc k) (.ite (.or (.not (.bf (.isinst .tuple) [.var 0])) (.cmp .ne (.bf .len [.var 0]) (.cst (.int 3)))) [.bad] []) [some y.pv, none] h = .nx [some y.pv, none] h := by
    simp [bfop, t1, l1, cmp_ne]
  have s2 : exS (P.cc k) (.ite (.not (.call 1 [.idx (.var 0) (.cst (.int 0)), .cst (.int 1), .glb 0])) [.bad] []) [some y.pv, none] h = .nx [some y.pv, none] h := by
    simp [idx_box0, g0, e1]
  have s3 : exS (P.cc k) (.ite (.not (.call 1 [.idx (.var 0) (.cst (.int 1)), .cst (.int 1), .glb 1])) [.bad] []) [some y.pv, none] h = .nx [some y.pv, none] h := by
    simp [idx_box1, g1, e2]
  have s4 : exS (P.cc k) (.ite (.or (.not (.bf (.isinst .tuple) [.idx (.var 0) (.cst (.int 2))])) (.cmp .gt (.bf .len [.idx (.var 0) (.cst (.int 2))]) (.glb 5))) [.bad] []) [some y.pv, none] h = .nx [some y.pv, none] h := by
    have q2 : decide ((60 : Int) < (y.t.length : Int)) = false := decide_eq_false (by have := o.t60; omega)
    simp only [ex_ite, ev_or, ev_not, ev_cmp, ev_bf, evL_cons, evL_nil, ev_idx, ev_cst, ev_glb, g5]
    have v0 : ∀ h, evE (P.cc k) (.var 0) [some y.pv, none] h = .ok y.pv h := fun h => ev_varE rfl
    simp only [v0, bnd_ok, idx_box2, ofOpt_some, bfop, t2, len_tab, Option.map_some, tst_ok, cmpop, q2, ofOptB_some, st_ok, Bool.not_true, Bool.false_eq_true, if_false, ex_nil]
  have s5 : ∃ r', exS (P.cc k) (.forS (.nm 1) (.rng (.cst (.int 0)) (.bf .len [.idx (.var 0) (.cst (.int 2))])) [.expr (.call 20 [.var 0, .var 1])]) [some y.pv, none] h = .nx r' h ∧ ∃ x, r' = [some y.pv, x] := by
    refine for_run (w := .rng 0 y.t.length) (N := y.t.length) (I := fun _ r1 h1 => h1 = h ∧ ∃ x, r1 = [some y.pv, x]) (Post := fun x => ∃ r', x = .nx r' h ∧ ∃ x, r' = [some y.pv, x]) (h1 := h) ?_ (by rw [fuelE]; have := o.t60; omega) ⟨rfl, _, rfl⟩ (fun r1 h1 ⟨q1, x, q2⟩ => ⟨by rw [itAt_rng]; simp, r1, by rw [q1], x, q2⟩) fun j r1 h1 hj ⟨q1, x, q2⟩ => ?_
    · exact evi_rng0 (by simp [idx_box2, bfop, len_tab]) (by have := o.t60; omega)
    · subst q1 q2
      refine ⟨nI j, [some y.pv, some (nI j)], by rw [itAt_rng]; simp [hj], by simp [bindT], .inl ⟨[some y.pv, some (nI j)], h1, ?_, rfl, _, rfl⟩⟩
      have e3 : (P.cc k).call 20 [y.pv, nI j] h1 = _ := (c20 o (List.getElem?_eq_getElem hj)).at hk
      simp [ex_cons, e3]
  obtain ⟨r', s5, x, er⟩ := s5
  show outOf _ (exB _ _ [some y.pv, none] h) = _
  rw [show (FD.mk 1 2 b21).body = b21 from rfl]
  unfold b21
  rw [ex_cons_nx s1, ex_cons_nx s2, ex_cons_nx s3, ex_cons_nx s4, ex_cons_nx s5, er]
  simp [ex_cons, gc_len]
def wor (r : List (Nat × Nat)) : List Nat := r.map (·.1)
theorem c22 {r : List (Nat × Nat)} (hr : r.length ≤ 60) {h : PH} : Cal P 1 22 [rowP r] h (.ok (wrdP (wor r)) h) := Cal.mk p22 rfl fun k hk => by
  have s2 := comp_list (c := P.cc k) (r := [some (rowP r), none, none]) (h := h) (t := .tup [.nm 1, .nm 2]) (own := [1, 2]) (elt := .var 1) (w := .vals (r.map pv2)) ((wor r).map nI) (by rw [fuelE]; simp [wor]; omega) (by simp [wor]; exact size_big (by omega)) (by simp [wor]) fun i y hy => by
    unfold wor at hy
    rw [List.getElem?_map, List.getElem?_map] at hy
    obtain ⟨x, hx, rfl⟩ := Option.map_eq_some_iff.mp hy
    obtain ⟨p, hp, rfl⟩ := Option.map_eq_some_iff.mp hx
    refine ⟨pv2 p, [some (rowP r), some (nI p.1), some (nI p.2)], by rw [itAt_vals, List.getElem?_map, hp]; rfl, rfl, ?_⟩
    exact ev_varE rfl
  have hz : (wor r).length ≤ sizeLine := size_big (by simp [wor]; omega)
  have e : evE (P.cc k) (.con .tuple (.itc (.var 1) (.tup [.nm 1, .nm 2]) (.itv (.var 0)) (.cst (.bl true)) [1, 2])) [some (rowP r), none, none] h = .ok (wrdP (wor r)) h := by
    rw [ev_con, evi_itc, evi_itv, ev_varE (i := 0) rfl, bnd_ok]
    show ((ofOptI h (some (.vals (r.map pv2)))).bnd _).bnd _ = _
    rw [ofOptI_some, bnd_ok, s2]
    simp [valsIt, conW, itList, conop, hz]
  show outOf _ (exB _ _ [some (rowP r), none, none] h) = _
  rw [show (FD.mk 1 3 b22).body = b22 from rfl]
  unfold b22
  rw [ex_cons, ex_ret, e, st_ok]
  simp [gc_len]
theorem eq_two {n A : Nat} {h : PH} : pyEq h (.tup [nI n, nI A]) (.tup [nI n, nI A]) = some true := by
  simp [pyEq, toD, optAll, PyData.eqv, PyData.eqvAll]
theorem slc_box {b : Box} {h : PH} : slcop b.pv none (some 2) h = .ok (.tup [nI b.n, nI b.A]) h := rfl
theorem c23 {y b : Box} (oy : BodyOk y) (o : b.Ok) (hn : y.n = b.n) (hA : y.A = b.A) {h : PH} : Cal P 6 23 [y.pv, b.pv] h (.ok .non h) := Cal.mk p23 rfl fun k hk => by
  have e1 : (P.cc k).call 21 [y.pv] h = _ := (c21 oy).at hk
  have e2 : (P.cc k).call 4 [b.pv] h = _ := (c4 o).at hk
  have e3 : evE (P.cc k) (.cmp .ne (.slc (.var 0) (.nop) (.cst (.int 2))) (.slc (.var 1) (.nop) (.cst (.int 2)))) [some y.pv, some b.pv] h = .ok (.bl false) h := by
    have a0 : evE (P.cc k) (.slc (.var 0) (.nop) (.cst (.int 2))) [some y.pv, some b.pv] h = .ok (.tup [nI b.n, nI b.A]) h := by
      rw [ev_slc, ev_varE (i := 0) rfl, bnd_ok]
      show slcop y.pv none (some 2) h = _
      rw [slc_box, hn, hA]
    have a1 : evE (P.cc k) (.slc (.var 1) (.nop) (.cst (.int 2))) [some y.pv, some b.pv] h = .ok (.tup [nI b.n, nI b.A]) h := by
      rw [ev_slc, ev_varE (i := 1) rfl, bnd_ok]
      show slcop b.pv none (some 2) h = _
      rw [slc_box]
    rw [ev_cmp, a0, bnd_ok, a1, bnd_ok]
    have q : cmpop .ne (.tup [nI b.n, nI b.A]) (.tup [nI b.n, nI b.A]) h = (pyEq h (.tup [nI b.n, nI b.A]) (.tup [nI b.n, nI b.A])).map (!·) := by unfold cmpop; rfl
    rw [q, eq_two]; rfl
  simp [b23, ex_cons, e1, e2, e3, gc_len]
end Lw
end
section
set_option Elab.async false
set_option linter.all false
set_option maxRecDepth 100000
namespace Lw
open PySem EV
def ansOf (b : Box) (r : List (Nat × Nat)) : List Nat := (runR b.t 0 (wor r)).1
theorem wor_ok {y b : Box} (oy : BodyOk y) (hn : y.n = b.n) {r : List (Nat × Nat)} (hr : r ∈ y.t) : WOk b.n (wor r) := by
  obtain ⟨_, h2, h3⟩ := oy.run r hr
  refine ⟨by simp [wor]; omega, fun x hx => ?_⟩
  obtain ⟨p, hp, rfl⟩ := List.mem_map.mp hx
  rw [← hn]
  exact (h3 p hp).1
theorem ans_len {y b : Box} (oy : BodyOk y) (o : b.Ok) (hn : y.n = b.n) {r : List (Nat × Nat)} (hr : r ∈ y.t) : (ansOf b r).length = r.length := by
  unfold ansOf
  rw [run_len o (by have := o.t1; omega) (wor_ok oy hn hr).2]
  simp [wor]
def inner : List EV.S := [.ite (.cmp .ne (.idx (.var 6) (.cst (.int 1))) (.idx (.var 4) (.var 5))) [.ret (.tup [.var 2, .var 5])] []]
theorem inner_step {k j num : Nat} {r : List (Nat × Nat)} {an : List Nat} {p : Nat × Nat} {a : Nat} (ha : an[j]? = some a) {x0 x1 x3 : Option PV} {h : PH} : exB (P.cc k) inner [x0, x1, some (nI num), x3, some (wrdP an), some (nI j), some (pv2 p)] h = if p.2 = a then .nx [x0, x1, some (nI num), x3, some (wrdP an), some (nI j), some (pv2 p)] h else .rt (.tup [nI num, nI j]) h := by
  have e1 : idxop (wrdP an) (nI j) h = some (nI a) := by
    show L2.atI (an.map nI) (j : Int) = _
    exact atI_nat (by rw [List.getElem?_map, ha]; rfl)
  have ec : evE (P.cc k) (.cmp .ne (.idx (.var 6) (.cst (.int 1))) (.idx (.var 4) (.var 5))) [x0, x1, some (nI num), x3, some (wrdP an), some (nI j), some (pv2 p)] h = .ok (.bl (!decide (p.2 = a))) h := by
    rw [ev_cmp, ev_idx, ev_varE (i := 6) rfl, bnd_ok, ev_cst, bnd_ok, idx_pair1, ofOpt_some, bnd_ok, ev_idx, ev_varE (i := 4) rfl, bnd_ok, ev_varE (i := 5) rfl, bnd_ok, e1, ofOpt_some, bnd_ok, cmp_ne, ofOptB_some]
    simp
    omega
  unfold inner
  rw [ex_cons, ex_ite, ec, tst_ok, st_ok]
  by_cases q : p.2 = a
  · rw [if_pos q, if_neg (by simp [q]), ex_nil]
    simp only [ex_nil]
  · rw [if_neg q, if_pos (by simp [q])]
    have e : evE (P.cc k) (.tup [.var 2, .var 5]) [x0, x1, some (nI num), x3, some (wrdP an), some (nI j), some (pv2 p)] h = .ok (.tup [nI num, nI j]) h := by
      rw [ev_tup, evL_cons, ev_varE (i := 2) rfl, bnd_ok, evL_cons, ev_varE (i := 5) rfl, bnd_ok, evL_nil, bnd_ok, bnd_ok, bnd_ok, if_pos (size_big (by show 2 ≤ 1048576; decide))]
    rw [ex_cons, ex_ret, e, st_ok]
/-- the pairs before place fit -/
def FitTo (an : List Nat) (r : List (Nat × Nat)) (place : Nat) : Prop := ∀ (i : Nat) p, i < place → r[i]? = some p → an[i]? = some p.2
theorem inner_fit {k num : Nat} {r : List (Nat × Nat)} (hr : r.length ≤ 60) {an : List Nat} (hf : FitTo an r r.length) {x0 x1 y5 y6 : Option PV} {h : PH} : ∃ z5 z6, exS (P.cc k) (.forS (.tup [.nm 5, .nm 6]) (.enm (.var 3)) inner) [x0, x1, some (nI num), some (rowP r), some (wrdP an), y5, y6] h = .nx [x0, x1, some (nI num), some (rowP r), some (wrdP an), z5, z6] h := by
  refine for_run (w := .enm (.vals (r.map pv2))) (N := r.length) (h1 := h) (I := fun _ r1 h1 => h1 = h ∧ ∃ z5 z6, r1 = [x0, x1, some (nI num), some (rowP r), some (wrdP an), z5, z6]) (Post := fun z => ∃ z5 z6, z = .nx [x0, x1, some (nI num), some (rowP r), some (wrdP an), z5, z6] h)
    (by rw [evi_enm, ev_varE (i := 3) rfl, bnd_ok]; rfl) (by rw [fuelE]; omega) ⟨rfl, _, _, rfl⟩ (fun r1 h1 ⟨q1, z5, z6, q2⟩ => ⟨by rw [itAt_enm]; simp, z5, z6, by rw [q1, q2]⟩) fun j r1 h1 hj ⟨q1, z5, z6, q2⟩ => ?_
  subst q1 q2
  have ha := hf j r[j] hj (List.getElem?_eq_getElem hj)
  refine ⟨.tup [.int j, pv2 r[j]], [x0, x1, some (nI num), some (rowP r), some (wrdP an), some (nI j), some (pv2 r[j])], by rw [itAt_enm]; simp [hj], rfl, .inl ⟨[x0, x1, some (nI num), some (rowP r), some (wrdP an), some (nI j), some (pv2 r[j])], h1, ?_, rfl, _, _, rfl⟩⟩
  rw [inner_step (r := r) ha, if_pos rfl]
theorem inner_miss {k num place : Nat} {r : List (Nat × Nat)} (hr : r.length ≤ 60) {an : List Nat} (hl : an.length = r.length) (hp : place < r.length) (hf : FitTo an r place) {p : Nat × Nat} (e : r[place]? = some p) (hne : an[place]? ≠ some p.2) {x0 x1 y5 y6 : Option PV} {h : PH} :
    exS (P.cc k) (.forS (.tup [.nm 5, .nm 6]) (.enm (.var 3)) inner) [x0, x1, some (nI num), some (rowP r), some (wrdP an), y5, y6] h = .rt (.tup [nI num, nI place]) h := by
  refine for_run (w := .enm (.vals (r.map pv2))) (N := r.length) (h1 := h) (I := fun i r1 h1 => i ≤ place ∧ h1 = h ∧ ∃ z5 z6, r1 = [x0, x1, some (nI num), some (rowP r), some (wrdP an), z5, z6]) (Post := fun z => z = .rt (.tup [nI num, nI place]) h)
    (by rw [evi_enm, ev_varE (i := 3) rfl, bnd_ok]; rfl) (by rw [fuelE]; omega) ⟨Nat.zero_le _, rfl, _, _, rfl⟩ (fun r1 h1 ⟨q0, _⟩ => absurd q0 (by omega)) fun j r1 h1 hj ⟨q0, q1, z5, z6, q2⟩ => ?_
  subst q1 q2
  have hj2 : j < an.length := by omega
  refine ⟨.tup [.int j, pv2 r[j]], [x0, x1, some (nI num), some (rowP r), some (wrdP an), some (nI j), some (pv2 r[j])], by rw [itAt_enm]; simp [hj], rfl, ?_⟩
  rw [inner_step (r := r) (List.getElem?_eq_getElem hj2)]
  by_cases q : j < place
  · have ha := hf j r[j] q (List.getElem?_eq_getElem hj)
    rw [List.getElem?_eq_getElem hj2] at ha
    rw [if_pos (Option.some.inj ha).symm]
    exact .inl ⟨_, _, rfl, by omega, rfl, _, _, rfl⟩
  · have : j = place := by omega
    subst this
    rw [List.getElem?_eq_getElem hj] at e
    rw [List.getElem?_eq_getElem hj2] at hne
    have : r[j].2 ≠ an[j] := fun z => hne (by rw [← z, Option.some.inj e])
    rw [if_neg this]
    exact .inr ⟨_, _, rfl, rfl⟩
def mid : List EV.S := [.asg (.nm 4) (.idx (.call 9 [.idx (.var 1) (.cst (.int 2)), .cst (.int 0), .call 22 [.var 3]]) (.cst (.int 0))), .forS (.tup [.nm 5, .nm 6]) (.enm (.var 3)) inner]
theorem mid_asg {y b : Box} (oy : BodyOk y) (o : b.Ok) (hn : y.n = b.n) {r : List (Nat × Nat)} (hr : r ∈ y.t) {k num : Nat} (hk : 1 ≤ k) {x0 x4 x5 x6 : Option PV} {h : PH} (cl : Cl h) : exS (P.cc k) (.asg (.nm 4) (.idx (.call 9 [.idx (.var 1) (.cst (.int 2)), .cst (.int 0), .call 22 [.var 3]]) (.cst (.int 0)))) [x0, some b.pv, some (nI num), some (rowP r), x4, x5, x6] h = .nx [x0, some b.pv, some (nI num), some (rowP r), some (wrdP (ansOf b r)), x5, x6] h := by
  have e1 : (P.cc k).call 22 [rowP r] h = _ := (c22 (by have := (oy.run r hr).2.1; omega)).at hk
  have e2 : (P.cc k).call 9 [tabP b.t, .int 0, wrdP (wor r)] h = _ := (c9 o (s := 0) (by have := o.t1; omega) (wor_ok oy hn hr) cl).at hk
  have ev : evE (P.cc k) (.idx (.call 9 [.idx (.var 1) (.cst (.int 2)), .cst (.int 0), .call 22 [.var 3]]) (.cst (.int 0))) [x0, some b.pv, some (nI num), some (rowP r), x4, x5, x6] h = .ok (wrdP (ansOf b r)) h := by
    have v1 : ∀ h, evE (P.cc k) (.var 1) [x0, some b.pv, some (nI num), some (rowP r), x4, x5, x6] h = .ok b.pv h := fun h => ev_varE rfl
    have v3 : ∀ h, evE (P.cc k) (.var 3) [x0, some b.pv, some (nI num), some (rowP r), x4, x5, x6] h = .ok (rowP r) h := fun h => ev_varE rfl
    simp only [ev_idx, ev_call, evL_cons, evL_nil, ev_cst, v1, v3, bnd_ok, idx_box2, ofOpt_some, e1, e2, idx_res0]
    rfl
  rw [ex_asg, ev, st_ok]
  rfl
theorem row_eq {y : Box} {j : Nat} (hj : j < y.t.length) {h : PH} : itAt (.enm (.vals (y.t.map rowP))) j h = some (some (.tup [.int j, rowP y.t[j]])) := by rw [itAt_enm]; simp [hj]
theorem c24a {y b : Box} (oy : BodyOk y) (o : b.Ok) (hn : y.n = b.n) (hf : ∀ r ∈ y.t, FitTo (ansOf b r) r r.length) {h : PH} (cl : Cl h) : Cal P 2 24 [y.pv, b.pv] h (.ok .non h) := Cal.mk p24 rfl fun k hk => by
  have s1 : ∃ r', exS (P.cc k) (.forS (.tup [.nm 2, .nm 3]) (.enm (.idx (.var 0) (.cst (.int 2)))) mid) [some y.pv, some b.pv, none, none, none, none, none] h = .nx r' h := by
    refine for_run (w := .enm (.vals (y.t.map rowP))) (N := y.t.length) (h1 := h) (I := fun _ r1 h1 => h1 = h ∧ ∃ z2 z3 z4 z5 z6, r1 = [some y.pv, some b.pv, z2, z3, z4, z5, z6]) (Post := fun z => ∃ r', z = .nx r' h)
      (by rw [evi_enm, ev_idx, ev_varE (i := 0) rfl, bnd_ok, ev_cst, bnd_ok, idx_box2, ofOpt_some, bnd_ok]; rfl) (by rw [fuelE]; have := oy.t60; omega) ⟨rfl, _, _, _, _, _, rfl⟩ (fun r1 h1 ⟨q1, _⟩ => ⟨by rw [itAt_enm]; simp, r1, by rw [q1]⟩) fun j r1 h1 hj ⟨q1, z2, z3, z4, z5, z6, q2⟩ => ?_
    subst q1 q2
    have hr := List.getElem_mem hj
    obtain ⟨w5, w6, hi⟩ := inner_fit (k := k) (num := j) (by have := (oy.run _ hr).2.1; omega) (hf _ hr) (x0 := some y.pv) (x1 := some b.pv) (y5 := z5) (y6 := z6) (h := h1)
    refine ⟨_, [some y.pv, some b.pv, some (nI j), some (rowP y.t[j]), z4, z5, z6], row_eq hj, rfl, .inl ⟨[some y.pv, some b.pv, some (nI j), some (rowP y.t[j]), some (wrdP (ansOf b y.t[j])), w5, w6], h1, ?_, rfl, _, _, _, _, _, rfl⟩⟩
    unfold mid
    rw [ex_cons_nx (mid_asg oy o hn hr hk cl), ex_cons_nx hi, ex_nil]
  obtain ⟨r', s1⟩ := s1
  unfold mid inner at s1
  show outOf _ (exB _ _ [some y.pv, some b.pv, none, none, none, none, none] h) = _
  rw [show (FD.mk 2 7 b24).body = b24 from rfl]
  unfold b24
  rw [ex_cons_nx s1]
  simp [ex_cons, gc_len]
theorem c24b {y b : Box} (oy : BodyOk y) (o : b.Ok) (hn : y.n = b.n) {spot place : Nat} {r : List (Nat × Nat)} {p : Nat × Nat} (es : y.t[spot]? = some r) (hf : ∀ (i : Nat) r', i < spot → y.t[i]? = some r' → FitTo (ansOf b r') r' r'.length) (hf2 : FitTo (ansOf b r) r place) (ep : r[place]? = some p) (hne : (ansOf b r)[place]? ≠ some p.2) {h : PH} (cl : Cl h) :
    Cal P 2 24 [y.pv, b.pv] h (.ok (.tup [nI spot, nI place]) h) := Cal.mk p24 rfl fun k hk => by
  have hs : spot < y.t.length := (List.getElem?_eq_some_iff.mp es).1
  have s1 : exS (P.cc k) (.forS (.tup [.nm 2, .nm 3]) (.enm (.idx (.var 0) (.cst (.int 2)))) mid) [some y.pv, some b.pv, none, none, none, none, none] h = .rt (.tup [nI spot, nI place]) h := by
    refine for_run (w := .enm (.vals (y.t.map rowP))) (N := y.t.length) (h1 := h) (I := fun i r1 h1 => i ≤ spot ∧ h1 = h ∧ ∃ z2 z3 z4 z5 z6, r1 = [some y.pv, some b.pv, z2, z3, z4, z5, z6]) (Post := fun z => z = .rt (.tup [nI spot, nI place]) h)
      (by rw [evi_enm, ev_idx, ev_varE (i := 0) rfl, bnd_ok, ev_cst, bnd_ok, idx_box2, ofOpt_some, bnd_ok]; rfl) (by rw [fuelE]; have := oy.t60; omega) ⟨Nat.zero_le _, rfl, _, _, _, _, _, rfl⟩ (fun r1 h1 ⟨q0, _⟩ => absurd q0 (by omega)) fun j r1 h1 hj ⟨q0, q1, z2, z3, z4, z5, z6, q2⟩ => ?_
    subst q1 q2
    have hr := List.getElem_mem hj
    refine ⟨_, [some y.pv, some b.pv, some (nI j), some (rowP y.t[j]), z4, z5, z6], row_eq hj, rfl, ?_⟩
    by_cases q : j < spot
    · obtain ⟨w5, w6, hi⟩ := inner_fit (k := k) (num := j) (by have := (oy.run _ hr).2.1; omega) (hf j _ q (List.getElem?_eq_getElem hj)) (x0 := some y.pv) (x1 := some b.pv) (y5 := z5) (y6 := z6) (h := h1)
      refine .inl ⟨[some y.pv, some b.pv, some (nI j), some (rowP y.t[j]), some (wrdP (ansOf b y.t[j])), w5, w6], h1, ?_, by omega, rfl, _, _, _, _, _, rfl⟩
      unfold mid
      rw [ex_cons_nx (mid_asg oy o hn hr hk cl), ex_cons_nx hi, ex_nil]
    · have : j = spot := by omega
      subst this
      rw [List.getElem?_eq_getElem hj] at es
      have es := Option.some.inj es
      subst es
      have hi := inner_miss (k := k) (num := j) (place := place) (by have := (oy.run _ hr).2.1; omega) (ans_len oy o hn hr) ((List.getElem?_eq_some_iff.mp ep).1) hf2 ep hne (x0 := some y.pv) (x1 := some b.pv) (y5 := z5) (y6 := z6) (h := h1)
      refine .inr ⟨_, h1, ?_, rfl⟩
      unfold mid
      rw [ex_cons_nx (mid_asg oy o hn hr hk cl), ex_cons_rt hi]
  unfold mid inner at s1
  show outOf _ (exB _ _ [some y.pv, some b.pv, none, none, none, none, none] h) = _
  rw [show (FD.mk 2 7 b24).body = b24 from rfl]
  unfold b24
  rw [ex_cons_rt s1, out_rt, gc_len]
theorem c26 {y b : Box} (oy : BodyOk y) (o : b.Ok) (hn : y.n = b.n) (hA : y.A = b.A) {v : PV} {h : PH} (hc : Cal P 2 24 [y.pv, b.pv] h (.ok v h)) : Cal P 7 26 [y.pv, b.pv] h (.ok v h) := Cal.mk p26 rfl fun k hk => by
  have e1 : (P.cc k).call 23 [y.pv, b.pv] h = _ := (c23 oy o hn hA).at hk
  have e2 : (P.cc k).call 24 [y.pv, b.pv] h = _ := hc.at (by omega)
  simp [b26, ex_cons, e1, e2, gc_len]
theorem c27 {y b : Box} (oy : BodyOk y) (o : b.Ok) (hn : y.n = b.n) (hA : y.A = b.A) {v : PV} {h : PH} (hc : Cal P 2 24 [y.pv, b.pv] h (.ok v h)) : Cal P 7 27 [y.pv, b.pv] h (.ok (.bl (isNon v)) h) := Cal.mk p27 rfl fun k hk => by
  have e0 : Cal P 3 25 [y.pv, b.pv] h (.ok (.bl (isNon v)) h) := Cal.mk p25 rfl fun k hk => by
    have e2 : (P.cc k).call 24 [y.pv, b.pv] h = _ := hc.at hk
    have ev : evE (P.cc k) (.cmp .is (.call 24 [.var 0, .var 1]) (.cst .non)) [some y.pv, some b.pv] h = .ok (.bl (isNon v)) h := by
      rw [ev_cmp, ev_call, evL_cons, ev_varE (i := 0) rfl, bnd_ok, evL_cons, ev_varE (i := 1) rfl, bnd_ok, evL_nil, bnd_ok, bnd_ok, bnd_ok, e2, bnd_ok, ev_cst, bnd_ok]
      unfold cmpop
      rfl
    show outOf _ (exB _ _ [some y.pv, some b.pv] h) = _
    rw [show (FD.mk 2 2 b25).body = b25 from rfl]
    unfold b25
    rw [ex_cons, ex_ret, ev, st_ok]
    simp [gc_len]
  have e1 : (P.cc k).call 23 [y.pv, b.pv] h = _ := (c23 oy o hn hA).at hk
  have e2 : (P.cc k).call 25 [y.pv, b.pv] h = _ := e0.at (by omega)
  simp [b27, ex_cons, e1, e2, gc_len]
end Lw
end
section
set_option Elab.async false
set_option linter.all false
set_option maxRecDepth 100000
namespace Lw
open PySem EV
def runOf (b : Box) (w : List Nat) : List (Nat × Nat) := w.zip (runR b.t 0 w).1
theorem zip_pv : ∀ (w a : List Nat), List.zipWith (fun x y => PV.tup [x, y]) (w.map nI) (a.map nI) = (w.zip a).map pv2
  | [], _ => rfl
  | _ :: _, [] => rfl
  | x :: w, y :: a => by
    show PV.tup [nI x, nI y] :: List.zipWith _ (w.map nI) (a.map nI) = _
    rw [zip_pv w a]; rfl
theorem c28 {b : Box} (o : b.Ok) {w : List Nat} (hw : WOk b.n w) {h : PH} (cl : Cl h) : Cal P 2 28 [b.pv, wrdP w] h (.ok (rowP (runOf b w)) h) := Cal.mk p28 rfl fun k hk => by
  have e2 : (P.cc k).call 9 [tabP b.t, .int 0, wrdP w] h = _ := (c9 o (s := 0) (by have := o.t1; omega) hw cl).at hk
  have a1 : evE (P.cc k) (.idx (.call 9 [.idx (.var 0) (.cst (.int 2)), .cst (.int 0), .var 1]) (.cst (.int 0))) [some b.pv, some (wrdP w)] h = .ok (wrdP (runR b.t 0 w).1) h := by
    have v0 : ∀ h, evE (P.cc k) (.var 0) [some b.pv, some (wrdP w)] h = .ok b.pv h := fun h => ev_varE rfl
    have v1 : ∀ h, evE (P.cc k) (.var 1) [some b.pv, some (wrdP w)] h = .ok (wrdP w) h := fun h => ev_varE rfl
    simp only [ev_idx, ev_call, evL_cons, evL_nil, ev_cst, v0, v1, bnd_ok, idx_box2, ofOpt_some, e2, idx_res0]
  have e : evE (P.cc k) (.con .tuple (.zip (.var 1) (.idx (.call 9 [.idx (.var 0) (.cst (.int 2)), .cst (.int 0), .var 1]) (.cst (.int 0))))) [some b.pv, some (wrdP w)] h = .ok (rowP (runOf b w)) h := by
    rw [ev_con, evi_zip, ev_varE (i := 1) rfl, bnd_ok, a1, bnd_ok]
    show Rs.ok (PV.tup (List.zipWith (fun x y => PV.tup [x, y]) (w.map nI) ((runR b.t 0 w).1.map nI))) h = _
    rw [zip_pv]; rfl
  show outOf _ (exB _ _ [some b.pv, some (wrdP w)] h) = _
  rw [show (FD.mk 2 2 b28).body = b28 from rfl]
  unfold b28
  rw [ex_cons, ex_ret, e, st_ok]
  simp [gc_len]
structure WsOk (n : Nat) (ws : List (List Nat)) : Prop where
  l60 : ws.length ≤ 60
  w : ∀ w ∈ ws, 1 ≤ w.length ∧ w.length ≤ 40 ∧ ∀ x ∈ w, x < n
theorem WsOk.ok {n : Nat} {ws : List (List Nat)} (s : WsOk n ws) {w : List Nat} (h : w ∈ ws) : WOk n w := ⟨by have := (s.w w h).2.1; omega, (s.w w h).2.2⟩
def wsP (ws : List (List Nat)) : PV := .tup (ws.map wrdP)
theorem c29 {b : Box} (o : b.Ok) {ws : List (List Nat)} (s : WsOk b.n ws) {h : PH} (cl : Cl h) : Cal P 6 29 [b.pv, wsP ws] h (.ok (Box.pv ⟨b.n, b.A, ws.map (runOf b)⟩) h) := Cal.mk p29 rfl fun k hk => by
  have e1 : (P.cc k).call 4 [b.pv] h = _ := (c4 o).at hk
  have l60 := s.l60
  have s1 : exS (P.cc k) (.expr (.call 4 [.var 0])) [some b.pv, some (wsP ws), none, none] h = .nx [some b.pv, some (wsP ws), none, none] h := by simp [e1]
  have s2 : exS (P.cc k) (.ite (.or (.not (.bf (.isinst .tuple) [.var 1])) (.cmp .gt (.bf .len [.var 1]) (.glb 5))) [.bad] []) [some b.pv, some (wsP ws), none, none] h = .nx [some b.pv, some (wsP ws), none, none] h := by
    have t : isTy .tuple (wsP ws) h = some true := rfl
    have l : lenOf (wsP ws) h = some ws.length := by show some (ws.map wrdP).length = _; rw [List.length_map]
    have q : ¬ ((60 : Int) < (ws.length : Int)) := by omega
    simp [bfop, t, l, g5, cmpop, q]
  have s3 : ∃ x y, exS (P.cc k) (.forS (.tup [.nm 2, .nm 3]) (.enm (.var 1)) [.ite (.or (.not (.call 7 [.idx (.var 0) (.cst (.int 0)), .var 3])) (.not (.chn .le .le (.cst (.int 1)) (.bf .len [.var 3]) (.glb 6)))) [.bad] []]) [some b.pv, some (wsP ws), none, none] h = .nx [some b.pv, some (wsP ws), x, y] h := by
    refine for_run (w := .enm (.vals (ws.map wrdP))) (N := ws.length) (I := fun _ r1 h1 => h1 = h ∧ ∃ x y, r1 = [some b.pv, some (wsP ws), x, y]) (Post := fun z => ∃ x y, z = .nx [some b.pv, some (wsP ws), x, y] h) (h1 := h) (by rw [evi_enm, ev_varE (i := 1) rfl, bnd_ok]; rfl) (by rw [fuelE]; omega) ⟨rfl, _, _, rfl⟩ (fun r1 h1 ⟨e1, x, y, e2⟩ => ⟨by rw [itAt_enm]; simp, x, y, by rw [e1, e2]⟩) fun j r1 h1 hj ⟨e1, x, y, e2⟩ => ?_
    subst e1 e2
    have hm := List.getElem_mem hj
    obtain ⟨w1, w40, _⟩ := s.w _ hm
    refine ⟨.tup [.int j, wrdP ws[j]], [some b.pv, some (wsP ws), some (.int j), some (wrdP ws[j])], by rw [itAt_enm]; simp [hj], rfl, .inl ⟨[some b.pv, some (wsP ws), some (.int j), some (wrdP ws[j])], h1, ?_, rfl, _, _, rfl⟩⟩
    have e7 : (P.cc k).call 7 [nI b.n, wrdP ws[j]] h1 = _ := (c7 (s.ok hm) cl).at (by omega)
    have q1 : decide ((1 : Int) ≤ ((ws[j]).length : Int)) = true := decide_eq_true (by omega)
    have q2 : decide (((ws[j]).length : Int) ≤ 40) = true := decide_eq_true (by omega)
    have v0 : ∀ h, evE (P.cc k) (.var 0) [some b.pv, some (wsP ws), some (.int j), some (wrdP ws[j])] h = .ok b.pv h := fun h => ev_varE rfl
    have v3 : ∀ h, evE (P.cc k) (.var 3) [some b.pv, some (wsP ws), some (.int j), some (wrdP ws[j])] h = .ok (wrdP ws[j]) h := fun h => ev_varE rfl
    simp only [ex_cons, ex_ite, ev_or, ev_not, ev_call, evL_cons, evL_nil, ev_idx, ev_cst, ev_chn, ev_bf, ev_glb, v0, v3, bnd_ok, idx_box0, ofOpt_some, e7, tst_ok, bfop, len_wrd, Option.map_some, cmpop, q1, q2, g6, ofOptB_some, st_ok, Bool.not_true, Bool.false_eq_true, if_false, ex_nil]
  obtain ⟨x, y, s3⟩ := s3
  have ec := comp_list (c := P.cc k) (r := [some b.pv, some (wsP ws), x, y]) (h := h) (t := .nm 3) (own := [3]) (elt := .call 28 [.var 0, .var 3]) (w := .vals (ws.map wrdP)) ((ws.map (runOf b)).map rowP) (by rw [fuelE]; simp; omega) (by simp; exact size_big (by omega)) (by simp) fun i z hz => by
    rw [List.getElem?_map, List.getElem?_map] at hz
    obtain ⟨r, hr, rfl⟩ := Option.map_eq_some_iff.mp hz
    obtain ⟨w, hw, rfl⟩ := Option.map_eq_some_iff.mp hr
    have e28 : (P.cc k).call 28 [b.pv, wrdP w] h = _ := (c28 o (s.ok (List.mem_of_getElem? hw)) cl).at (by omega)
    refine ⟨wrdP w, [some b.pv, some (wsP ws), x, some (wrdP w)], by rw [itAt_vals, List.getElem?_map, hw]; rfl, rfl, ?_⟩
    rw [ev_call, evL_cons, ev_varE (i := 0) rfl, bnd_ok, evL_cons, ev_varE (i := 3) rfl, bnd_ok, evL_nil, bnd_ok, bnd_ok, bnd_ok, e28]
  have hz : ((ws.map (runOf b)).map rowP).length ≤ sizeLine := size_big (by simp; omega)
  have e3 : evE (P.cc k) (.con .tuple (.itc (.call 28 [.var 0, .var 3]) (.nm 3) (.itv (.var 1)) (.cst (.bl true)) [3])) [some b.pv, some (wsP ws), x, y] h = .ok (tabP (ws.map (runOf b))) h := by
    rw [ev_con, evi_itc, evi_itv, ev_varE (i := 1) rfl, bnd_ok]
    show ((ofOptI h (some (.vals (ws.map wrdP)))).bnd _).bnd _ = _
    rw [ofOptI_some, bnd_ok, ec]
    simp only [valsIt, bnd_ok, conW, itList, conop]
    rw [if_pos hz]
    rfl
  have e4 : evE (P.cc k) (.tup [.idx (.var 0) (.cst (.int 0)), .idx (.var 0) (.cst (.int 1)), .con .tuple (.itc (.call 28 [.var 0, .var 3]) (.nm 3) (.itv (.var 1)) (.cst (.bl true)) [3])]) [some b.pv, some (wsP ws), x, y] h = .ok (Box.pv ⟨b.n, b.A, ws.map (runOf b)⟩) h := by
    have v0 : ∀ h, evE (P.cc k) (.var 0) [some b.pv, some (wsP ws), x, y] h = .ok b.pv h := fun h => ev_varE rfl
    rw [ev_tup, evL_cons, ev_idx, v0, bnd_ok, ev_cst, bnd_ok, idx_box0, ofOpt_some, bnd_ok, evL_cons, ev_idx, v0, bnd_ok, ev_cst, bnd_ok, idx_box1, ofOpt_some, bnd_ok, evL_cons, e3, bnd_ok, evL_nil, bnd_ok, bnd_ok, bnd_ok, bnd_ok, if_pos (size_big (by show 3 ≤ 1048576; decide))]
    rfl
  show outOf _ (exB _ _ [some b.pv, some (wsP ws), none, none] h) = _
  rw [show (FD.mk 2 4 b29).body = b29 from rfl]
  unfold b29
  rw [ex_cons_nx s1, ex_cons_nx s2, ex_cons_nx s3, ex_cons, ex_ret, e4, st_ok]
  simp [gc_len]
/-! ### drawing -/
/-- the drawing's dict -/
def mD (w x sp : Int) (ci : Nat) : List (L2.Key × PV) := [(Sum.inr "whole", .int w), (Sum.inr "mixing", .int x), (Sum.inr "cells", .obj ci), (Sum.inr "spot", .int sp)]
structure Mok (h : PH) (j ci : Nat) (B : Nat) : Prop where
  d : ∃ w x sp, h[j]? = some (.dK (mD w x sp ci)) ∧ 0 ≤ w ∧ 0 ≤ sp ∧ sp ≤ (B : Int)
  c : ∃ cs : List Int, cs ≠ [] ∧ h[ci]? = some (.lst false (cs.map .int))
  ne : ci ≠ j
  cl : Cl h
theorem Mok.lt {h : PH} {j ci B : Nat} (m : Mok h j ci B) : ci < h.length := by
  obtain ⟨_, _, e⟩ := m.c
  exact (List.getElem?_eq_some_iff.mp e).1
theorem Mok.ltj {h : PH} {j ci B : Nat} (m : Mok h j ci B) : j < h.length := by
  obtain ⟨_, _, _, e, _⟩ := m.d
  exact (List.getElem?_eq_some_iff.mp e).1
/-- but for the drawing the same -/
structure Sim (j : Nat) (h h' : PH) : Prop where
  len : h'.length = h.length
  same : ∀ i, i ≠ j → h'[i]? = h[i]?
theorem Sim.refl {j : Nat} {h : PH} : Sim j h h := ⟨rfl, fun _ _ => rfl⟩
theorem Sim.trans {j : Nat} {a b c : PH} (x : Sim j a b) (y : Sim j b c) : Sim j a c := ⟨y.len.trans x.len, fun i hi => (y.same i hi).trans (x.same i hi)⟩
theorem mul_small {a b : Int} (h1 : -(2 ^ 64) < b) (h2 : b < 2 ^ 64) {h : PH} : binop .mul (.int a) (.int b) h = .ok (.int (a * b)) h := by
  unfold binop
  simp only
  rw [if_pos]
  unfold mulOk
  rw [Bool.or_eq_true]
  right
  rw [Bool.and_eq_true]
  exact ⟨decide_eq_true h1, decide_eq_true h2⟩
theorem mul_small' {a b : Int} (h1 : -(2 ^ 64) < a) (h2 : a < 2 ^ 64) {h : PH} : binop .mul (.int a) (.int b) h = .ok (.int (a * b)) h := by
  unfold binop
  simp only
  rw [if_pos]
  unfold mulOk
  rw [Bool.or_eq_true]
  left
  rw [Bool.and_eq_true]
  exact ⟨decide_eq_true h1, decide_eq_true h2⟩
theorem mod_pos {a b : Int} (hb : 0 < b) {h : PH} : binop .mod (.int a) (.int b) h = .ok (.int (a % b)) h := by
  unfold binop
  simp only
  rw [if_pos hb]
theorem fdiv_pos {a b : Int} (hb : 0 < b) (hb2 : b < 1073741824) {h : PH} : binop .fdiv (.int a) (.int b) h = .ok (.int (a / b)) h := by
  unfold binop
  simp only
  rw [if_pos ⟨hb, hb2⟩]
theorem add_int {a b : Int} {h : PH} : binop .add (.int a) (.int b) h = .ok (.int (a + b)) h := rfl
theorem sub_int {a b : Int} {h : PH} : binop .sub (.int a) (.int b) h = .ok (.int (a - b)) h := rfl
end Lw
end
section
set_option Elab.async false
set_option linter.all false
set_option maxRecDepth 100000
namespace Lw
open PySem EV
section
variable {w x sp w' sp' : Int} {ci : Nat}
theorem look_whole : look (Sum.inr "whole" : L2.Key) (mD w x sp ci) = some (.int w) := by unfold mD look; rfl
theorem look_mixing : look (Sum.inr "mixing" : L2.Key) (mD w x sp ci) = some (.int x) := by unfold mD; simp only [look]; rfl
theorem look_cells : look (Sum.inr "cells" : L2.Key) (mD w x sp ci) = some (.obj ci) := by unfold mD; simp only [look]; rfl
theorem look_spot : look (Sum.inr "spot" : L2.Key) (mD w x sp ci) = some (.int sp) := by unfold mD; simp only [look]; rfl
theorem put_whole : put (Sum.inr "whole" : L2.Key) (.int w') (mD w x sp ci) = mD w' x sp ci := by unfold mD put; rfl
theorem put_spot : put (Sum.inr "spot" : L2.Key) (.int sp') (mD w x sp ci) = mD w x sp' ci := by unfold mD put; rfl
end
theorem idx_dict {h : PH} {j : Nat} {kvs : List (L2.Key × PV)} (e : h[j]? = some (.dK kvs)) {s : Str} {v : PV} (hl : look (Sum.inr s) kvs = some v) : idxop (.obj j) (.str s) h = some v := by
  unfold idxop
  simp only [e]
  show (some (Sum.inr s) : Option L2.Key).bind (fun k => look k kvs) = _
  rw [Option.bind_some, hl]
theorem set_dict {h : PH} {j : Nat} {kvs : List (L2.Key × PV)} (e : h[j]? = some (.dK kvs)) (hz : kvs.length < sizeLine) {s : Str} {v : PV} : setop (.obj j) (.str s) v h = some (h.set j (.dK (put (Sum.inr s) v kvs))) := by
  unfold setop
  simp only [e]
  show (some (Sum.inr s) : Option L2.Key).bind _ = _
  rw [Option.bind_some, if_pos hz]
theorem mD_len {w x sp : Int} {ci : Nat} : (mD w x sp ci).length < sizeLine := by show 4 < sizeLine; rw [sizeLine_eq]; omega
theorem mD_old {w x sp : Int} {ci n : Nat} (h : ci < n) : (PO.dK (mD w x sp ci)).old n = true := by
  show (true && (true && (decide (ci < n) && (true && true)))) = true
  rw [decide_eq_true h]; rfl
theorem cl_set {h : PH} {j : Nat} {o : PO} (cl : Cl h) (ho : o.old h.length = true) : Cl (h.set j o) := by
  unfold Cl at *
  rw [List.length_set, List.all_eq_true] at *
  intro a ha
  rcases List.mem_or_eq_of_mem_set ha with m | m
  · exact cl a m
  · rw [m]; exact ho
theorem gc_same {n : Nat} {v : PV} {h : PH} (e : h.length = n) : gc n v h = h := by rw [← e]; exact gc_len
theorem sim_set {j : Nat} {h : PH} {o : PO} : Sim j h (h.set j o) := ⟨List.length_set .., fun i hi => List.getElem?_set_ne (Ne.symm hi)⟩
theorem mok_set {h : PH} {j B' : Nat} {w x sp w' sp' : Int} {ci : Nat} (cl : Cl h) (e : h[j]? = some (.dK (mD w x sp ci))) {cs : List Int} (h1 : cs ≠ []) (h2 : h[ci]? = some (.lst false (cs.map .int))) (h3 : ci ≠ j) (h4 : ci < h.length) (hw : 0 ≤ w') (hs : 0 ≤ sp') (hB : sp' ≤ (B' : Int)) : Mok (h.set j (.dK (mD w' x sp' ci))) j ci B' where
  d := ⟨w', x, sp', List.getElem?_set_self (List.getElem?_eq_some_iff.mp e).1, hw, hs, hB⟩
  c := ⟨cs, h1, by rw [List.getElem?_set_ne (Ne.symm h3)]; exact h2⟩
  ne := h3
  cl := cl_set cl (mD_old h4)
theorem c31 {h : PH} {j ci B L : Nat} (m : Mok h j ci B) (hB : B < 1099511627776) (hL : 0 < L) (hL2 : L < 1073741824) {k : Nat} (hk : 1 ≤ k) : ∃ (d : Nat) (h' : PH), callF P k 31 [.obj j, nI L] h = .ok (nI d) h' ∧ d < L ∧ Mok h' j ci (B + 1) ∧ Sim j h h' := by
  obtain ⟨k, rfl⟩ : ∃ i, k = i + 1 := ⟨k - 1, by omega⟩
  have cl1 := m.lt
  obtain ⟨⟨w, x, sp, e, w0, s0, sB⟩, ⟨cs, cn, ce⟩, cj, cl⟩ := m
  rw [callF_def p31 rfl]
  show ∃ d h', outOf _ (exB _ _ [some (.obj j), some (nI L), none, none, none, none, none, none] h) = _ ∧ _
  rw [show (FD.mk 2 8 b31).body = b31 from rfl]
  unfold b31
  have Lp : (0 : Int) < (L : Int) := by omega
  have dmod : ∀ a : Int, ∃ d : Nat, a % (L : Int) = (d : Int) ∧ d < L := fun a => by
    have h1 := Int.emod_nonneg a (show (L : Int) ≠ 0 by omega)
    have h2 := Int.emod_lt_of_pos a Lp
    exact ⟨(a % (L : Int)).toNat, by omega, by omega⟩
  have ec : evE (P.cc k) (.cmp .gt (.idx (.var 0) (.cst (.str "whole"))) (.cst (.int 0))) [some (.obj j), some (nI L), none, none, none, none, none, none] h = .ok (.bl (decide (0 < w))) h := by
    rw [ev_cmp, ev_idx, ev_varE (i := 0) rfl, bnd_ok, ev_cst, bnd_ok, idx_dict e look_whole, ofOpt_some, bnd_ok, ev_cst, bnd_ok]
    rfl
  by_cases hw : 0 < w
  · obtain ⟨d, hd, hdL⟩ := dmod w
    refine ⟨d, h.set j (.dK (mD (w / (L : Int)) x sp ci)), ?_, hdL, mok_set cl e cn ce cj cl1 (Int.ediv_nonneg (by omega) (by omega)) s0 (by omega), sim_set⟩
    have a1 : exS (P.cc k) (.asg (.nm 2) (.bin .mod (.bf .int [.idx (.var 0) (.cst (.str "whole"))]) (.var 1))) [some (.obj j), some (nI L), none, none, none, none, none, none] h = .nx [some (.obj j), some (nI L), some (nI d), none, none, none, none, none] h := by
      have ev : evE (P.cc k) (.bin .mod (.bf .int [.idx (.var 0) (.cst (.str "whole"))]) (.var 1)) [some (.obj j), some (nI L), none, none, none, none, none, none] h = .ok (nI d) h := by
        rw [ev_bin, ev_bf, evL_cons, ev_idx, ev_varE (i := 0) rfl, bnd_ok, ev_cst, bnd_ok, idx_dict e look_whole, ofOpt_some, bnd_ok, evL_nil, bnd_ok, bnd_ok]
        show (Rs.ok (PV.int w) h).bnd _ = _
        rw [bnd_ok, ev_varE (i := 1) rfl, bnd_ok, mod_pos Lp, hd]
      rw [ex_asg, ev, st_ok]; rfl
    have a2 : exS (P.cc k) (.set (.var 0) (.cst (.str "whole")) (.bin .fdiv (.idx (.var 0) (.cst (.str "whole"))) (.var 1))) [some (.obj j), some (nI L), some (nI d), none, none, none, none, none] h = .nx [some (.obj j), some (nI L), some (nI d), none, none, none, none, none] (h.set j (.dK (mD (w / (L : Int)) x sp ci))) := by
      have ev : evE (P.cc k) (.bin .fdiv (.idx (.var 0) (.cst (.str "whole"))) (.var 1)) [some (.obj j), some (nI L), some (nI d), none, none, none, none, none] h = .ok (.int (w / (L : Int))) h := by
        rw [ev_bin, ev_idx, ev_varE (i := 0) rfl, bnd_ok, ev_cst, bnd_ok, idx_dict e look_whole, ofOpt_some, bnd_ok, ev_varE (i := 1) rfl, bnd_ok, fdiv_pos Lp (by omega)]
      rw [ex_set, ev, st_ok, ev_varE (i := 0) rfl, st_ok, ev_cst, st_ok, set_dict e mD_len, put_whole]
    rw [ex_cons, ex_ite, ec, tst_ok, st_ok, if_pos (decide_eq_true hw), ex_cons_nx a1, ex_cons_nx a2, ex_cons, ex_ret, ev_varE (i := 2) rfl, st_ok]
    simp only [out_rt]
    rw [gc_same (List.length_set ..)]
  · have s1 : exS (P.cc k) (.ite (.cmp .gt (.idx (.var 0) (.cst (.str "whole"))) (.cst (.int 0))) [.asg (.nm 2) (.bin .mod (.bf .int [.idx (.var 0) (.cst (.str "whole"))]) (.var 1)), .set (.var 0) (.cst (.str "whole")) (.bin .fdiv (.idx (.var 0) (.cst (.str "whole"))) (.var 1)), .ret (.var 2)] []) [some (.obj j), some (nI L), none, none, none, none, none, none] h = .nx [some (.obj j), some (nI L), none, none, none, none, none, none] h := by
      rw [ex_ite, ec, tst_ok, st_ok, if_neg (by simp [hw]), ex_nil]
    have s2 : exS (P.cc k) (.asg (.nm 3) (.idx (.var 0) (.cst (.str "spot")))) [some (.obj j), some (nI L), none, none, none, none, none, none] h = .nx [some (.obj j), some (nI L), none, some (.int sp), none, none, none, none] h := by
      rw [ex_asg, ev_idx, ev_varE (i := 0) rfl, bnd_ok, ev_cst, bnd_ok, idx_dict e look_spot, ofOpt_some, st_ok]; rfl
    have s3 : exS (P.cc k) (.set (.var 0) (.cst (.str "spot")) (.bin .add (.var 3) (.cst (.int 1)))) [some (.obj j), some (nI L), none, some (.int sp), none, none, none, none] h = .nx [some (.obj j), some (nI L), none, some (.int sp), none, none, none, none] (h.set j (.dK (mD w x (sp + 1) ci))) := by
      rw [ex_set, ev_bin, ev_varE (i := 3) rfl, bnd_ok, ev_cst, bnd_ok, add_int, st_ok, ev_varE (i := 0) rfl, st_ok, ev_cst, st_ok, set_dict e mD_len, put_spot]
    have mk := mok_set (w' := w) (sp' := sp + 1) (B' := B + 1) cl e cn ce cj cl1 w0 (by omega) (by omega)
    have sm : Sim j h (h.set j (.dK (mD w x (sp + 1) ci))) := sim_set
    have lh : (h.set j (.dK (mD w x (sp + 1) ci))).length = h.length := List.length_set ..
    have e2 : (h.set j (.dK (mD w x (sp + 1) ci)))[j]? = some (.dK (mD w x (sp + 1) ci)) := List.getElem?_set_self (List.getElem?_eq_some_iff.mp e).1
    have ce2 : (h.set j (.dK (mD w x (sp + 1) ci)))[ci]? = some (.lst false (cs.map .int)) := by rw [List.getElem?_set_ne (Ne.symm cj)]; exact ce
    generalize h.set j (.dK (mD w x (sp + 1) ci)) = g at s3 mk sm lh e2 ce2
    have s4 : exS (P.cc k) (.asg (.tup [.nm 4, .nm 5]) (.tup [.idx (.var 0) (.cst (.str "cells")), .bin .add (.idx (.var 0) (.cst (.str "mixing"))) (.bin .mul (.bin .mul (.cst (.int 40503)) (.var 3)) (.var 3))])) [some (.obj j), some (nI L), none, some (.int sp), none, none, none, none] g = .nx [some (.obj j), some (nI L), none, some (.int sp), some (.obj ci), some (.int (x + 40503 * sp * sp)), none, none] g := by
      have ev : evE (P.cc k) (.bin .add (.idx (.var 0) (.cst (.str "mixing"))) (.bin .mul (.bin .mul (.cst (.int 40503)) (.var 3)) (.var 3))) [some (.obj j), some (nI L), none, some (.int sp), none, none, none, none] g = .ok (.int (x + 40503 * sp * sp)) g := by
        rw [ev_bin, ev_idx, ev_varE (i := 0) rfl, bnd_ok, ev_cst, bnd_ok, idx_dict e2 look_mixing, ofOpt_some, bnd_ok, ev_bin, ev_bin, ev_cst, bnd_ok, ev_varE (i := 3) rfl, bnd_ok, mul_small' (by decide) (by decide), bnd_ok, ev_varE (i := 3) rfl, bnd_ok, mul_small (by omega) (by omega), bnd_ok, add_int]
      rw [ex_asg, ev_tup, evL_cons, ev_idx, ev_varE (i := 0) rfl, bnd_ok, ev_cst, bnd_ok, idx_dict e2 look_cells, ofOpt_some, bnd_ok, evL_cons, ev, bnd_ok, evL_nil, bnd_ok, bnd_ok, bnd_ok, if_pos (size_big (by show 2 ≤ 1048576; decide)), st_ok]
      rfl
    have cpos : 0 < cs.length := by cases cs with | nil => exact absurd rfl cn | cons a l => exact Nat.succ_pos _
    have lc : lenOf (.obj ci) g = some cs.length := by unfold lenOf; simp only [ce2, List.length_map]
    obtain ⟨cell, hcell⟩ : ∃ cell : Int, idxop (.obj ci) (.int (sp % (cs.length : Int))) g = some (.int cell) := by
      have h1 := Int.emod_nonneg sp (show (cs.length : Int) ≠ 0 by omega)
      have h2 := Int.emod_lt_of_pos sp (show (0 : Int) < (cs.length : Int) by omega)
      have h3 : (sp % (cs.length : Int)).toNat < cs.length := by omega
      refine ⟨cs[(sp % (cs.length : Int)).toNat], ?_⟩
      unfold idxop
      simp only [ce2]
      have := atI_nat (xs := cs.map PV.int) (n := (sp % (cs.length : Int)).toNat) (x := .int cs[(sp % (cs.length : Int)).toNat]) (by rw [List.getElem?_map, List.getElem?_eq_getElem h3]; rfl)
      rw [show (((sp % (cs.length : Int)).toNat : Nat) : Int) = sp % (cs.length : Int) by omega] at this
      exact this
    have s5 : exS (P.cc k) (.asg (.nm 6) (.idx (.var 4) (.bin .mod (.bf .int [.var 3]) (.bf .len [.var 4])))) [some (.obj j), some (nI L), none, some (.int sp), some (.obj ci), some (.int (x + 40503 * sp * sp)), none, none] g = .nx [some (.obj j), some (nI L), none, some (.int sp), some (.obj ci), some (.int (x + 40503 * sp * sp)), some (.int cell), none] g := by
      have ev : evE (P.cc k) (.bin .mod (.bf .int [.var 3]) (.bf .len [.var 4])) [some (.obj j), some (nI L), none, some (.int sp), some (.obj ci), some (.int (x + 40503 * sp * sp)), none, none] g = .ok (.int (sp % (cs.length : Int))) g := by
        rw [ev_bin, ev_bf, evL_cons, ev_varE (i := 3) rfl, bnd_ok, evL_nil, bnd_ok, bnd_ok]
        show (Rs.ok (PV.int sp) g).bnd _ = _
        rw [bnd_ok, ev_bf, evL_cons, ev_varE (i := 4) rfl, bnd_ok, evL_nil, bnd_ok, bnd_ok]
        show (ofOpt g ((lenOf (.obj ci) g).map _)).bnd _ = _
        rw [lc]
        show (Rs.ok (PV.int (cs.length : Int)) g).bnd _ = _
        rw [bnd_ok, mod_pos (by omega)]
      rw [ex_asg, ev_idx, ev_varE (i := 4) rfl, bnd_ok, ev, bnd_ok, hcell, ofOpt_some, st_ok]; rfl
    obtain ⟨bl1, hb1⟩ : ∃ b : Int, b = (cell * (2 * sp + 3) + (x + 40503 * sp * sp)) % 2147483647 := ⟨_, rfl⟩
    have b1a : 0 ≤ bl1 := by rw [hb1]; exact Int.emod_nonneg _ (by decide)
    have b1b : bl1 < 2147483647 := by rw [hb1]; exact Int.emod_lt_of_pos _ (by decide)
    have s6 : exS (P.cc k) (.asg (.nm 7) (.bin .mod (.bf .int [.bin .add (.bin .mul (.var 6) (.bin .add (.bin .mul (.cst (.int 2)) (.var 3)) (.cst (.int 3)))) (.var 5)]) (.cst (.int 2147483647)))) [some (.obj j), some (nI L), none, some (.int sp), some (.obj ci), some (.int (x + 40503 * sp * sp)), some (.int cell), none] g = .nx [some (.obj j), some (nI L), none, some (.int sp), some (.obj ci), some (.int (x + 40503 * sp * sp)), some (.int cell), some (.int bl1)] g := by
      have ev : evE (P.cc k) (.bin .add (.bin .mul (.var 6) (.bin .add (.bin .mul (.cst (.int 2)) (.var 3)) (.cst (.int 3)))) (.var 5)) [some (.obj j), some (nI L), none, some (.int sp), some (.obj ci), some (.int (x + 40503 * sp * sp)), some (.int cell), none] g = .ok (.int (cell * (2 * sp + 3) + (x + 40503 * sp * sp))) g := by
        rw [ev_bin, ev_bin, ev_varE (i := 6) rfl, bnd_ok, ev_bin, ev_bin, ev_cst, bnd_ok, ev_varE (i := 3) rfl, bnd_ok, mul_small' (by decide) (by decide), bnd_ok, ev_cst, bnd_ok, add_int, bnd_ok, mul_small (by omega) (by omega), bnd_ok, ev_varE (i := 5) rfl, bnd_ok, add_int]
      rw [ex_asg, ev_bin, ev_bf, evL_cons, ev, bnd_ok, evL_nil, bnd_ok, bnd_ok]
      show ((Rs.ok (PV.int _) g).bnd _).st _ _ = _
      rw [bnd_ok, ev_cst, bnd_ok, mod_pos (by decide), st_ok, ← hb1]; rfl
    obtain ⟨bl2, hb2⟩ : ∃ b : Int, b = (bl1 * bl1 + 69621 * sp + x) % 2147483629 := ⟨_, rfl⟩
    have b2a : 0 ≤ bl2 := by rw [hb2]; exact Int.emod_nonneg _ (by decide)
    have b2b : bl2 < 2147483629 := by rw [hb2]; exact Int.emod_lt_of_pos _ (by decide)
    have s7 : exS (P.cc k) (.asg (.nm 7) (.bin .mod (.bf .int [.bin .add (.bin .add (.bin .mul (.var 7) (.var 7)) (.bin .mul (.cst (.int 69621)) (.var 3))) (.idx (.var 0) (.cst (.str "mixing")))]) (.cst (.int 2147483629)))) [some (.obj j), some (nI L), none, some (.int sp), some (.obj ci), some (.int (x + 40503 * sp * sp)), some (.int cell), some (.int bl1)] g = .nx [some (.obj j), some (nI L), none, some (.int sp), some (.obj ci), some (.int (x + 40503 * sp * sp)), some (.int cell), some (.int bl2)] g := by
      have ev : evE (P.cc k) (.bin .add (.bin .add (.bin .mul (.var 7) (.var 7)) (.bin .mul (.cst (.int 69621)) (.var 3))) (.idx (.var 0) (.cst (.str "mixing")))) [some (.obj j), some (nI L), none, some (.int sp), some (.obj ci), some (.int (x + 40503 * sp * sp)), some (.int cell), some (.int bl1)] g = .ok (.int (bl1 * bl1 + 69621 * sp + x)) g := by
        rw [ev_bin, ev_bin, ev_bin, ev_varE (i := 7) rfl, bnd_ok, ev_varE (i := 7) rfl, bnd_ok, mul_small (by omega) (by omega), bnd_ok, ev_bin, ev_cst, bnd_ok, ev_varE (i := 3) rfl, bnd_ok, mul_small' (by decide) (by decide), bnd_ok, add_int, bnd_ok, ev_idx, ev_varE (i := 0) rfl, bnd_ok, ev_cst, bnd_ok, idx_dict e2 look_mixing, ofOpt_some, bnd_ok, add_int]
      rw [ex_asg, ev_bin, ev_bf, evL_cons, ev, bnd_ok, evL_nil, bnd_ok, bnd_ok]
      show ((Rs.ok (PV.int _) g).bnd _).st _ _ = _
      rw [bnd_ok, ev_cst, bnd_ok, mod_pos (by decide), st_ok, ← hb2]; rfl
    obtain ⟨d, hd, hdL⟩ := dmod ((bl2 * 48271 + sp) % 2147483647 / 11)
    refine ⟨d, g, ?_, hdL, mk, sm⟩
    have s8 : exS (P.cc k) (.ret (.bin .mod (.bin .fdiv (.bin .mod (.bf .int [.bin .add (.bin .mul (.var 7) (.cst (.int 48271))) (.var 3)]) (.cst (.int 2147483647))) (.cst (.int 11))) (.var 1))) [some (.obj j), some (nI L), none, some (.int sp), some (.obj ci), some (.int (x + 40503 * sp * sp)), some (.int cell), some (.int bl2)] g = .rt (nI d) g := by
      have ev : evE (P.cc k) (.bin .add (.bin .mul (.var 7) (.cst (.int 48271))) (.var 3)) [some (.obj j), some (nI L), none, some (.int sp), some (.obj ci), some (.int (x + 40503 * sp * sp)), some (.int cell), some (.int bl2)] g = .ok (.int (bl2 * 48271 + sp)) g := by
        rw [ev_bin, ev_bin, ev_varE (i := 7) rfl, bnd_ok, ev_cst, bnd_ok, mul_small (by decide) (by decide), bnd_ok, ev_varE (i := 3) rfl, bnd_ok, add_int]
      rw [ex_ret, ev_bin, ev_bin, ev_bin, ev_bf, evL_cons, ev, bnd_ok, evL_nil, bnd_ok, bnd_ok]
      show ((((Rs.ok (PV.int _) g).bnd _).bnd _).bnd _).st _ _ = _
      rw [bnd_ok, ev_cst, bnd_ok, mod_pos (by decide), bnd_ok, ev_cst, bnd_ok, fdiv_pos (by decide) (by decide), bnd_ok, ev_varE (i := 1) rfl, bnd_ok, mod_pos Lp, st_ok, hd]
    rw [ex_cons_nx s1, ex_cons_nx s2, ex_cons_nx s3, ex_cons_nx s4, ex_cons_nx s5, ex_cons_nx s6, ex_cons_nx s7, ex_cons_rt s8, out_rt, gc_same lh]
end Lw
end
section
set_option Elab.async false
set_option linter.all false
set_option maxRecDepth 100000
namespace Lw
open PySem EV
structure SimX (j : Nat) (h h1 : PH) : Prop where
  len : h.length ≤ h1.length
  same : ∀ i, i < h.length → i ≠ j → h1[i]? = h[i]?
theorem SimX.refl {j : Nat} {h : PH} : SimX j h h := ⟨Nat.le_refl _, fun _ _ _ => rfl⟩
theorem SimX.sim {j : Nat} {h a b : PH} (x : SimX j h a) (y : Sim j a b) : SimX j h b := ⟨by rw [y.len]; exact x.len, fun i hi hj => (y.same i hj).trans (x.same i hi hj)⟩
theorem SimX.app {j : Nat} {h a g : PH} (x : SimX j h a) : SimX j h (a ++ g) := ⟨by rw [List.length_append]; have := x.len; omega, fun i hi hj => by rw [List.getElem?_append_left (by have := x.len; omega)]; exact x.same i hi hj⟩
theorem SimX.trans {j : Nat} {h a b : PH} (x : SimX j h a) (y : SimX j a b) : SimX j h b := ⟨Nat.le_trans x.len y.len, fun i hi hj => (y.same i (by have := x.len; omega) hj).trans (x.same i hi hj)⟩
theorem SimX.set {j n : Nat} {h a : PH} {o : PO} (x : SimX j h a) (hn : h.length ≤ n) : SimX j h (a.set n o) := ⟨by rw [List.length_set]; exact x.len, fun i hi hj => by rw [List.getElem?_set_ne (by omega)]; exact x.same i hi hj⟩
theorem Mok.mono {h : PH} {j ci B B' : Nat} (m : Mok h j ci B) (hB : B ≤ B') : Mok h j ci B' := ⟨let ⟨w, x, sp, e, a, b, c⟩ := m.d; ⟨w, x, sp, e, a, b, by omega⟩, m.c, m.ne, m.cl⟩
theorem Mok.app {h g : PH} {j ci B : Nat} (m : Mok h j ci B) (hg : g.all (·.old h.length) = true) : Mok (h ++ g) j ci B :=
  ⟨let ⟨w, x, sp, e, r⟩ := m.d; ⟨w, x, sp, by rw [List.getElem?_append_left m.ltj]; exact e, r⟩, let ⟨cs, a, e⟩ := m.c; ⟨cs, a, by rw [List.getElem?_append_left m.lt]; exact e⟩, m.ne, m.cl.app hg⟩
theorem Mok.set {h : PH} {j ci B n : Nat} {o : PO} (m : Mok h j ci B) (h1 : n ≠ j) (h2 : n ≠ ci) (ho : o.old h.length = true) : Mok (h.set n o) j ci B :=
  ⟨let ⟨w, x, sp, e, r⟩ := m.d; ⟨w, x, sp, by rw [List.getElem?_set_ne h1]; exact e, r⟩, let ⟨cs, a, e⟩ := m.c; ⟨cs, a, by rw [List.getElem?_set_ne h2]; exact e⟩, m.ne, cl_set m.cl ho⟩
/-- what was made goes -/
theorem cut {h h1 : PH} {j ci B0 B : Nat} {v : PV} (m0 : Mok h j ci B0) (x : SimX j h h1) (m : Mok h1 j ci B) (hv : v.old h.length = true) : gc h.length v h1 = h1.take h.length ∧ Mok (h1.take h.length) j ci B ∧ Sim j h (h1.take h.length) := by
  have lt : (h1.take h.length).length = h.length := by rw [List.length_take]; have := x.len; omega
  have cl : (h1.take h.length).all (·.old h.length) = true := by
    rw [List.all_eq_true]
    intro o ho
    obtain ⟨i, hi⟩ := List.getElem?_of_mem ho
    have hin : i < h.length := by rw [← lt]; exact (List.getElem?_eq_some_iff.mp hi).1
    rw [List.getElem?_take_of_lt hin] at hi
    by_cases hj : i = j
    · subst hj
      obtain ⟨w, xx, sp, e, _⟩ := m.d
      rw [e] at hi
      cases hi
      exact mD_old m0.lt
    · rw [x.same i hin hj] at hi
      exact List.all_eq_true.mp m0.cl o (List.mem_of_getElem? hi)
  refine ⟨?_, ⟨?_, ?_, m.ne, ?_⟩, ⟨lt, fun i hj => ?_⟩⟩
  · unfold gc
    rw [if_pos (by rw [hv, cl]; rfl)]
  · obtain ⟨w, xx, sp, e, r⟩ := m.d
    exact ⟨w, xx, sp, by rw [List.getElem?_take_of_lt m0.ltj]; exact e, r⟩
  · obtain ⟨cs, a, e⟩ := m.c
    exact ⟨cs, a, by rw [List.getElem?_take_of_lt m0.lt]; exact e⟩
  · unfold Cl
    rw [lt]; exact cl
  · by_cases hi : i < h.length
    · rw [List.getElem?_take_of_lt hi]; exact x.same i hi hj
    · rw [List.getElem?_eq_none_iff.mpr (by rw [lt]; omega), List.getElem?_eq_none_iff.mpr (by omega)]
theorem c32 {h : PH} {j ci B s : Nat} {l : List Nat} (m : Mok h j ci B) (hB : B < 1099511627776) (hs : h[s]? = some (.lst false (l.map nI))) (hj : s ≠ j) (h0 : 0 < l.length) (hl : l.length < 1000) {k : Nat} (hk : 2 ≤ k) : ∃ (v : Nat) (h' : PH), callF P k 32 [.obj j, .obj s] h = .ok (nI v) h' ∧ v ∈ l ∧ Mok h' j ci (B + 1) ∧ Sim j h h' := by
  obtain ⟨k, rfl⟩ : ∃ i, k = i + 1 := ⟨k - 1, by omega⟩
  obtain ⟨d, h', e, hd, m', sm⟩ := c31 m hB h0 (by omega) (k := k) (by omega)
  have hs' : h'[s]? = some (.lst false (l.map nI)) := by rw [sm.same s hj]; exact hs
  refine ⟨l[d], h', ?_, List.getElem_mem hd, m', sm⟩
  rw [callF_def p32 rfl]
  show outOf _ (exB _ _ [some (.obj j), some (.obj s)] h) = _
  rw [show (FD.mk 2 2 b32).body = b32 from rfl]
  unfold b32
  have e0 : (P.cc k).call 31 [.obj j, nI l.length] h = .ok (nI d) h' := e
  have lo : lenOf (.obj s) h = some l.length := by unfold lenOf; simp only [hs, List.length_map]
  have ev : evE (P.cc k) (.idx (.var 1) (.call 31 [.var 0, .bf .len [.var 1]])) [some (.obj j), some (.obj s)] h = .ok (nI l[d]) h' := by
    have e1 : evE (P.cc k) (.bf .len [.var 1]) [some (.obj j), some (.obj s)] h = .ok (nI l.length) h := by
      rw [ev_bf, evL_cons, ev_varE (i := 1) rfl, bnd_ok, evL_nil, bnd_ok, bnd_ok]
      show ofOpt h ((lenOf (.obj s) h).map _) = _
      rw [lo]; rfl
    rw [ev_idx, ev_varE (i := 1) rfl, bnd_ok, ev_call, evL_cons, ev_varE (i := 0) rfl, bnd_ok, evL_cons, e1, bnd_ok, evL_nil, bnd_ok, bnd_ok, bnd_ok, e0, bnd_ok, idx_obj hs' (List.getElem?_eq_getElem hd), ofOpt_some]
  rw [ex_cons, ex_ret, ev, st_ok]
  simp only [out_rt]
  rw [gc_same sm.len]
theorem evi_rngH {c : Cc} {r : EV.Env} {h h' : PH} {b : E} {n : Nat} (e : evE c b r h = .ok (.int (n : Int)) h') (hn : n ≤ 1048576) : evI c (.rng (.cst (.int 0)) b) r h = .ok (.rng 0 n) h' := by
  rw [evi_rng, ev_cst, bnd_ok, e, bnd_ok]
  exact rng_ok hn
theorem c35 {h : PH} {j ci B n most : Nat} (m : Mok h j ci B) (hB : B + 2000 < 1099511627776) (hn : 0 < n) (hn2 : n < 1000) (hm : most ≤ 1000) {k : Nat} (hk : 2 ≤ k) : ∃ (w : List Nat) (h' : PH), callF P k 35 [.obj j, nI n, nI most] h = .ok (wrdP w) h' ∧ w.length ≤ most ∧ (∀ x ∈ w, x < n) ∧ Mok h' j ci (B + 1 + most) ∧ Sim j h h' := by
  obtain ⟨k, rfl⟩ : ∃ i, k = i + 1 := ⟨k - 1, by omega⟩
  obtain ⟨d, h', e, hd, m', sm⟩ := c31 m (by omega) (L := most + 1) (by omega) (by omega) (k := k) (by omega)
  have e0 : (P.cc k).call 31 [.obj j, .int ((most : Int) + 1)] h = .ok (nI d) h' := e
  obtain ⟨acc, h2, el, w, ha, hw, hlt, m2, sm2⟩ := comp_run (c := P.cc k) (r := [some (.obj j), some (nI n), some (nI most), none]) (h := h') (t := .nm 3) (own := [3]) (cond := .cst (.bl true)) (elt := .call 31 [.var 0, .var 1]) (w := .rng 0 d) (N := d) (I := fun i acc h2 => ∃ w : List Nat, acc = w.map nI ∧ w.length = i ∧ (∀ x ∈ w, x < n) ∧ Mok h2 j ci (B + 1 + i) ∧ Sim j h h2) (by rw [fuelE]; omega) ⟨[], rfl, rfl, by simp, m', sm⟩
    (fun acc h2 _ => by rw [itAt_rng]; simp) (fun i acc h2 hi ⟨w, ha, hw, hlt, m2, sm2⟩ => by
      obtain ⟨d2, h3, e3, hd3, m3, sm3⟩ := c31 m2 (by omega) hn (by omega) (k := k) (by omega)
      refine ⟨nI i, [some (.obj j), some (nI n), some (nI most), some (nI i)], true, h2, by rw [itAt_rng]; simp [hi], rfl, ev_cst, ?_⟩
      rw [if_pos rfl]
      refine ⟨nI d2, h3, ?_, by rw [ha, List.length_map, hw, sizeLine_eq]; omega, w ++ [d2], by rw [ha]; simp, by simp [hw], fun x hx => ?_, m3, sm2.trans sm3⟩
      · rw [ev_call, evL_cons, ev_varE (i := 0) rfl, bnd_ok, evL_cons, ev_varE (i := 1) rfl, bnd_ok, evL_nil, bnd_ok, bnd_ok, bnd_ok]
        exact e3
      · rcases List.mem_append.mp hx with q | q
        · exact hlt x q
        · rw [List.mem_singleton.mp q]; exact hd3)
  refine ⟨w, h2, ?_, by omega, hlt, m2.mono (by omega), sm2⟩
  rw [callF_def p35 rfl]
  show outOf _ (exB _ _ [some (.obj j), some (nI n), some (nI most), none] h) = _
  rw [show (FD.mk 3 4 b35).body = b35 from rfl]
  unfold b35
  have er : evE (P.cc k) (.call 31 [.var 0, .bin .add (.var 2) (.cst (.int 1))]) [some (.obj j), some (nI n), some (nI most), none] h = .ok (nI d) h' := by
    rw [ev_call, evL_cons, ev_varE (i := 0) rfl, bnd_ok, evL_cons, ev_bin, ev_varE (i := 2) rfl, bnd_ok, ev_cst, bnd_ok, add_int, bnd_ok, evL_nil, bnd_ok, bnd_ok, bnd_ok, e0]
  have hz : acc.length ≤ sizeLine := by rw [ha, List.length_map, hw]; exact size_big (by omega)
  have ev : evE (P.cc k) (.con .tuple (.itc (.call 31 [.var 0, .var 1]) (.nm 3) (.rng (.cst (.int 0)) (.call 31 [.var 0, .bin .add (.var 2) (.cst (.int 1))])) (.cst (.bl true)) [3])) [some (.obj j), some (nI n), some (nI most), none] h = .ok (wrdP w) h2 := by
    rw [ev_con, evi_itc, evi_rngH er (by omega), bnd_ok, el]
    simp only [valsIt, bnd_ok, conW, itList, conop]
    rw [if_pos hz, ha]
  rw [ex_cons, ex_ret, ev, st_ok]
  simp only [out_rt]
  rw [gc_same sm2.len]
/-- a row of pairs, drawn -/
theorem row_comp {k j ci n s : Nat} (hn : n ≤ 60) {good : Nat × Nat → Prop} {elt it : E} {r : EV.Env} (hit : ∀ h, evI (P.cc k) it r h = .ok (.rng 0 n) h)
    (helt : ∀ (i : Nat) (h2 : PH) (B : Nat), i < n → Mok h2 j ci B → B < 1099511626776 → ∃ p h3, evE (P.cc k) elt ((wipeP r [s]).set s (some (nI i))) h2 = .ok (pv2 p) h3 ∧ good p ∧ Mok h3 j ci (B + 2) ∧ Sim j h2 h3)
    {h : PH} {B : Nat} (m : Mok h j ci B) (hB : B < 1099511626000) : ∃ (row : List (Nat × Nat)) (h3 : PH), evE (P.cc k) (.con .tuple (.itc elt (.nm s) it (.cst (.bl true)) [s])) r h = .ok (rowP row) h3 ∧ row.length = n ∧ (∀ p ∈ row, good p) ∧ Mok h3 j ci (B + 2 * n) ∧ Sim j h h3 := by
  obtain ⟨acc, h2, el, w, ha, hw, hg, m2, sm2⟩ := comp_run (c := P.cc k) (r := r) (h := h) (t := .nm s) (own := [s]) (cond := .cst (.bl true)) (elt := elt) (w := .rng 0 n) (N := n) (I := fun i acc h2 => ∃ w : List (Nat × Nat), acc = w.map pv2 ∧ w.length = i ∧ (∀ p ∈ w, good p) ∧ Mok h2 j ci (B + 2 * i) ∧ Sim j h h2) (by rw [fuelE]; omega) ⟨[], rfl, rfl, by simp, m, Sim.refl⟩
    (fun acc h2 _ => by rw [itAt_rng]; simp) (fun i acc h2 hi ⟨w, ha, hw, hg, m2, sm2⟩ => by
      obtain ⟨p, h3, e3, hp, m3, sm3⟩ := helt i h2 _ hi m2 (by omega)
      refine ⟨nI i, (wipeP r [s]).set s (some (nI i)), true, h2, by rw [itAt_rng]; simp [hi], rfl, ev_cst, ?_⟩
      rw [if_pos rfl]
      refine ⟨pv2 p, h3, e3, by rw [ha, List.length_map, hw, sizeLine_eq]; omega, w ++ [p], by rw [ha]; simp, by simp [hw], fun x hx => ?_, m3.mono (by omega), sm2.trans sm3⟩
      rcases List.mem_append.mp hx with q | q
      · exact hg x q
      · rw [List.mem_singleton.mp q]; exact hp)
  have hz : acc.length ≤ sizeLine := by rw [ha, List.length_map, hw]; exact size_big (by omega)
  refine ⟨w, h2, ?_, hw, hg, m2, sm2⟩
  rw [ev_con, evi_itc, hit, bnd_ok, el]
  simp only [valsIt, bnd_ok, conW, itList, conop]
  rw [if_pos hz, ha]
  rfl
theorem row_old {row : List (Nat × Nat)} {n : Nat} : (rowP row).old n = true := by
  show oldL n (row.map pv2) = true
  exact oldL_all fun x hx => by obtain ⟨y, _, rfl⟩ := List.mem_map.mp hx; rfl
theorem rows_old {t : List (List (Nat × Nat))} {n : Nat} {fz : Bool} : (PO.lst fz (t.map rowP)).old n = true := by
  show oldL n (t.map rowP) = true
  exact oldL_all fun x hx => by obtain ⟨y, _, rfl⟩ := List.mem_map.mp hx; exact row_old
theorem tab_old {t : List (List (Nat × Nat))} {n : Nat} : (tabP t).old n = true := rows_old (fz := false)
/-- rows of pairs, drawn, in a list -/
theorem rows_run {k j ci n many f st fo : Nat} (hn : n ≤ 4) (hmany : many ≤ 60) {good : List (Nat × Nat) → Prop} {ROW : E} {v : Nat} {r : EV.Env} (hf : r[f]? = some (some (.obj fo))) (hv : r[v]? = some (some (nI many))) (hfs : f ≠ st) (hst : ∃ x0, r = r.set st x0) (hfj : fo ≠ j) (hfc : fo ≠ ci)
    (hrow : ∀ (i : Nat) (h2 : PH) (B : Nat), i < many → Mok h2 j ci B → B < 1099511626000 → ∃ row h3, evE (P.cc k) ROW (r.set st (some (nI i))) h2 = .ok (rowP row) h3 ∧ good row ∧ Mok h3 j ci (B + 8) ∧ Sim j h2 h3)
    {h : PH} {B : Nat} (m : Mok h j ci B) (hB : B < 1099511620000) (h0 : h[fo]? = some (.lst false [])) :
    ∃ (t : List (List (Nat × Nat))) (h3 : PH) (x : Option PV), exS (P.cc k) (.forS (.nm st) (.rng (.cst (.int 0)) (.var v)) [.expr (.mt .append (.var f) [ROW])]) r h = .nx (r.set st x) h3 ∧ t.length = many ∧ (∀ row ∈ t, good row) ∧ h3[fo]? = some (.lst false (t.map rowP)) ∧ Mok h3 j ci (B + 8 * many) ∧ h3.length = h.length ∧ ∀ i, i ≠ j → i ≠ fo → h3[i]? = h[i]? := by
  obtain ⟨x0, hx0⟩ := hst
  refine for_run (w := .rng 0 many) (N := many) (h1 := h) (I := fun i r1 h1 => ∃ (t : List (List (Nat × Nat))) (x : Option PV), r1 = r.set st x ∧ t.length = i ∧ (∀ row ∈ t, good row) ∧ h1[fo]? = some (.lst false (t.map rowP)) ∧ Mok h1 j ci (B + 8 * i) ∧ h1.length = h.length ∧ ∀ i, i ≠ j → i ≠ fo → h1[i]? = h[i]?)
    (Post := fun z => ∃ (t : List (List (Nat × Nat))) (h3 : PH) (x : Option PV), z = .nx (r.set st x) h3 ∧ t.length = many ∧ (∀ row ∈ t, good row) ∧ h3[fo]? = some (.lst false (t.map rowP)) ∧ Mok h3 j ci (B + 8 * many) ∧ h3.length = h.length ∧ ∀ i, i ≠ j → i ≠ fo → h3[i]? = h[i]?)
    (evi_rng0 (ev_varE hv) (by omega)) (by rw [fuelE]; omega) ⟨[], x0, hx0, rfl, by simp, h0, m, rfl, fun _ _ _ => rfl⟩ (fun r1 h1 ⟨t, x, q1, q2, q3, q4, q5, q6, q7⟩ => ⟨by rw [itAt_rng]; simp, t, h1, x, by rw [q1], q2, q3, q4, q5, q6, q7⟩) fun i r1 h1 hi ⟨t, x, q1, q2, q3, q4, q5, q6, q7⟩ => ?_
  subst q1
  obtain ⟨row, h3, er, hg, m3, sm⟩ := hrow i h1 _ hi q5 (by omega)
  have q4' : h3[fo]? = some (.lst false (t.map rowP)) := by rw [sm.same fo hfj]; exact q4
  refine ⟨nI i, r.set st (some (nI i)), by rw [itAt_rng]; simp [hi], by unfold bindT; rw [List.set_set], .inl ⟨r.set st (some (nI i)), h3.set fo (.lst false ((t ++ [row]).map rowP)), ?_, t ++ [row], some (nI i), rfl, by simp [q2], fun w hw => ?_, by rw [List.getElem?_set_self (List.getElem?_eq_some_iff.mp q4').1], ?_, by rw [List.length_set, sm.len]; exact q6, fun a h1' h2' => ?_⟩⟩
  · have vf : ∀ h, evE (P.cc k) (.var f) (r.set st (some (nI i))) h = .ok (.obj fo) h := fun h => ev_varE (by rw [List.getElem?_set_ne (Ne.symm hfs)]; exact hf)
    have mt : mtTy .append (.obj fo) h1 = true := by unfold mtTy; simp only [q4]
    have hz : (t.map rowP).length < sizeLine := by rw [List.length_map, q2, sizeLine_eq]; omega
    rw [ex_cons, ex_expr, ev_mt, vf, bnd_ok, if_pos mt, evL_cons, er, bnd_ok, evL_nil, bnd_ok, bnd_ok]
    unfold mtop
    simp only [q4']
    rw [if_pos hz, st_ok]
    simp
  · rcases List.mem_append.mp hw with q | q
    · exact q3 w q
    · rw [List.mem_singleton.mp q]; exact hg
  · exact (m3.set hfj hfc rows_old).mono (by omega)
  · rw [List.getElem?_set_ne (Ne.symm h2'), sm.same a h1']; exact q7 a h1' h2'
end Lw
end
section
set_option Elab.async false
set_option linter.all false
set_option maxRecDepth 100000
namespace Lw
open PySem EV
theorem ev_draw {k j ci B L : Nat} {r : EV.Env} {h : PH} {e : E} (hr : r[0]? = some (some (.obj j))) (m : Mok h j ci B) (hB : B < 1099511627776) (he : evE (P.cc k) e r h = .ok (nI L) h) (hL : 0 < L) (hL2 : L < 1073741824) (hk : 1 ≤ k) : ∃ d h', evE (P.cc k) (.call 31 [.var 0, e]) r h = .ok (nI d) h' ∧ d < L ∧ Mok h' j ci (B + 1) ∧ Sim j h h' := by
  obtain ⟨d, h', e1, hd, m1, s1⟩ := c31 m hB hL hL2 (k := k) hk
  refine ⟨d, h', ?_, hd, m1, s1⟩
  rw [ev_call, evL_cons, ev_varE hr, bnd_ok, evL_cons, he, bnd_ok, evL_nil, bnd_ok, bnd_ok, bnd_ok]
  exact e1
theorem ev_drawOf {k j ci B M : Nat} {r : EV.Env} {h : PH} {es : List E} {l : List Nat} (hr : r[0]? = some (some (.obj j))) (m : Mok h j ci B) (hB : B + 10 < 1099511627776) (hes : evL (P.cc k) es r h = .ok (l.map nI) h) (h0 : 0 < l.length) (hl : l.length < 1000) (hv : ∀ v ∈ l, 0 < v ∧ v ≤ M) (hM : M < 1000) (hk : 2 ≤ k) :
    ∃ d h', evE (P.cc k) (.call 31 [.var 0, .call 32 [.var 0, .lst es]]) r h = .ok (nI d) h' ∧ d < M ∧ Mok h' j ci (B + 2) ∧ SimX j h h' := by
  have el : evE (P.cc k) (.lst es) r h = .ok (.obj h.length) (h ++ [.lst false (l.map nI)]) := by
    rw [ev_lst, hes, bnd_ok, if_pos (size_big (by rw [List.length_map]; omega))]
  have m1 : Mok (h ++ [.lst false (l.map nI)]) j ci B := m.app (by rw [List.all_cons, List.all_nil, Bool.and_true]; exact lst_flat)
  have hj : h.length ≠ j := by have := m.ltj; omega
  obtain ⟨v, h2, e2, hv2, m2, s2⟩ := c32 m1 (by omega) (s := h.length) get_last hj h0 hl (k := k) hk
  obtain ⟨q1, q2⟩ := hv v hv2
  obtain ⟨d, h3, e3, hd, m3, s3⟩ := c31 m2 (by omega) q1 (by omega) (k := k) (by omega)
  refine ⟨d, h3, ?_, by omega, m3, (SimX.refl.app.sim s2).sim s3⟩
  have e4 : evE (P.cc k) (.call 32 [.var 0, .lst es]) r h = .ok (nI v) h2 := by
    rw [ev_call, evL_cons, ev_varE hr, bnd_ok, evL_cons, el, bnd_ok, evL_nil, bnd_ok, bnd_ok, bnd_ok]
    exact e2
  rw [ev_call, evL_cons, ev_varE hr, bnd_ok, evL_cons, e4, bnd_ok, evL_nil, bnd_ok, bnd_ok, bnd_ok]
  exact e3
theorem ev_rows {k fo : Nat} {r : EV.Env} {h : PH} {f : Nat} {t : List (List (Nat × Nat))} (hf : r[f]? = some (some (.obj fo))) (e : h[fo]? = some (.lst false (t.map rowP))) (ht : t.length ≤ 60) : evE (P.cc k) (.con .tuple (.its (.var f))) r h = .ok (tabP t) h := by
  rw [ev_con, evi_its, ev_varE hf, bnd_ok]
  unfold toItC
  simp only [e]
  rw [ofOptI_some, bnd_ok]
  unfold conW
  simp only [itList, e, conop, List.length_map]
  rw [if_pos (size_big (by omega))]
  rfl
theorem c34 {h : PH} {j ci B many n A : Nat} (m : Mok h j ci B) (hB : B < 1099511610000) (m1 : 1 ≤ many) (m60 : many ≤ 60) (n4 : n ≤ 4) (a1 : 1 ≤ A) (a9 : A ≤ 9) {k : Nat} (hk : 2 ≤ k) : ∃ (t : List (List (Nat × Nat))) (h' : PH), callF P k 34 [.obj j, nI many, nI n, nI A] h = .ok (tabP t) h' ∧ t.length = many ∧ (∀ r ∈ t, r.length = n ∧ ∀ p ∈ r, p.1 < A ∧ p.2 < many) ∧ Mok h' j ci (B + 8 * many) ∧ Sim j h h' := by
  obtain ⟨k, rfl⟩ : ∃ i, k = i + 1 := ⟨k - 1, by omega⟩
  have hfj : h.length ≠ j := by have := m.ltj; omega
  have hfc : h.length ≠ ci := by have := m.lt; omega
  have m2 : Mok (h ++ [.lst false []]) j ci B := m.app rfl
  obtain ⟨t, h3, x, e3, tl, tg, e4, m3, l3, sm⟩ := rows_run (k := k) (j := j) (ci := ci) (n := n) (many := many) (f := 4) (st := 5) (fo := h.length) n4 m60 (good := fun r => r.length = n ∧ ∀ p ∈ r, p.1 < A ∧ p.2 < many) (ROW := .con .tuple (.itc (.tup [.call 31 [.var 0, .var 3], .call 31 [.var 0, .var 1]]) (.nm 6) (.rng (.cst (.int 0)) (.var 2)) (.cst (.bl true)) [6])) (v := 1) (r := [some (.obj j), some (nI many), some (nI n), some (nI A), some (.obj h.length), none, none]) rfl rfl (by decide) ⟨none, rfl⟩ hfj hfc
    (fun i h2 B2 hi mm hB2 => by
      obtain ⟨row, h4, e5, r1, r2, r3, r4⟩ := row_comp (k := k) (j := j) (ci := ci) (n := n) (s := 6) (by omega) (good := fun p => p.1 < A ∧ p.2 < many) (elt := .tup [.call 31 [.var 0, .var 3], .call 31 [.var 0, .var 1]]) (it := .rng (.cst (.int 0)) (.var 2)) (r := [some (.obj j), some (nI many), some (nI n), some (nI A), some (.obj h.length), some (nI i), none]) (fun h => evi_rng0 (ev_varE rfl) (by omega)) (fun i2 h5 B3 hi2 mm2 hB3 => by
        obtain ⟨d1, g1, f1, q1, mg1, s1⟩ := ev_draw (k := k) (r := [some (.obj j), some (nI many), some (nI n), some (nI A), some (.obj h.length), some (nI i), some (nI i2)]) (e := .var 3) rfl mm2 (by omega) (ev_varE rfl) (L := A) (by omega) (by omega) (by omega)
        obtain ⟨d2, g2, f2, q2, mg2, s2⟩ := ev_draw (k := k) (r := [some (.obj j), some (nI many), some (nI n), some (nI A), some (.obj h.length), some (nI i), some (nI i2)]) (e := .var 1) rfl mg1 (by omega) (ev_varE rfl) (L := many) (by omega) (by omega) (by omega)
        refine ⟨(d1, d2), g2, ?_, ⟨q1, q2⟩, mg2, s1.trans s2⟩
        show evE (P.cc k) _ [some (.obj j), some (nI many), some (nI n), some (nI A), some (.obj h.length), some (nI i), some (nI i2)] h5 = _
        rw [ev_tup, evL_cons, f1, bnd_ok, evL_cons, f2, bnd_ok, evL_nil, bnd_ok, bnd_ok, bnd_ok, if_pos (size_big (by show 2 ≤ 1048576; decide))]
        rfl) mm (by omega)
      exact ⟨row, h4, e5, ⟨r1, r2⟩, r3.mono (by omega), r4⟩) m2 (by omega) get_last
  have sx : SimX j h h3 := ⟨by rw [l3]; simp, fun i hi hj => by rw [sm i hj (by omega), List.getElem?_append_left hi]⟩
  obtain ⟨c1, c2, c3⟩ := cut m sx m3 (v := tabP t) tab_old
  refine ⟨t, h3.take h.length, ?_, tl, tg, c2, c3⟩
  rw [callF_def p34 rfl]
  show outOf _ (exB _ _ [some (.obj j), some (nI many), some (nI n), some (nI A), none, none, none] h) = _
  rw [show (FD.mk 4 7 b34).body = b34 from rfl]
  unfold b34
  have s1 : exS (P.cc k) (.asg (.nm 4) (.lst [])) [some (.obj j), some (nI many), some (nI n), some (nI A), none, none, none] h = .nx [some (.obj j), some (nI many), some (nI n), some (nI A), some (.obj h.length), none, none] (h ++ [.lst false []]) := by
    rw [ex_asg, ev_lst, evL_nil, bnd_ok, if_pos (size_big (by show 0 ≤ 1048576; decide)), st_ok]; rfl
  rw [ex_cons_nx s1, ex_cons_nx e3, ex_cons, ex_ret, ev_rows (fo := h.length) (by rw [List.getElem?_set_ne (by decide)]; rfl) e4 (by omega), st_ok]
  simp only [out_rt]
  rw [c1]
theorem c39 {h : PH} {j ci B : Nat} (m : Mok h j ci B) (hB : B < 1099511600000) {k : Nat} (hk : 3 ≤ k) : ∃ (b : Box) (h' : PH), callF P k 39 [.obj j] h = .ok b.pv h' ∧ b.Ok ∧ Mok h' j ci (B + 2000) ∧ Sim j h h' := by
  obtain ⟨k, rfl⟩ : ∃ i, k = i + 1 := ⟨k - 1, by omega⟩
  obtain ⟨d1, h1, e1, q1, m1, s1⟩ := ev_draw (k := k) (r := [some (.obj j), none, none, none, none, none, none, none]) (e := .cst (.int 4)) rfl m (by omega) ev_cst (L := 4) (by omega) (by omega) (by omega)
  obtain ⟨d2, h2, e2, q2, m2, s2⟩ := ev_drawOf (k := k) (M := 9) (r := [some (.obj j), none, none, none, none, none, none, none]) (es := [.cst (.int 2), .cst (.int 9)]) (l := [2, 9]) rfl m1 (by omega) (by rw [evL_cons, ev_cst, bnd_ok, evL_cons, ev_cst, bnd_ok, evL_nil, bnd_ok, bnd_ok]; rfl) (by decide) (by decide) (by decide) (by omega) (by omega)
  have a1 : exS (P.cc k) (.asg (.tup [.nm 1, .nm 2]) (.tup [.bin .add (.cst (.int 1)) (.call 31 [.var 0, .cst (.int 4)]), .bin .add (.cst (.int 1)) (.call 31 [.var 0, .call 32 [.var 0, .lst [.cst (.int 2), .cst (.int 9)]]])])) [some (.obj j), none, none, none, none, none, none, none] h = .nx [some (.obj j), some (nI (1 + d1)), some (nI (1 + d2)), none, none, none, none, none] h2 := by
    rw [ex_asg, ev_tup, evL_cons, ev_bin, ev_cst, bnd_ok, e1, bnd_ok, add_int, bnd_ok, evL_cons, ev_bin, ev_cst, bnd_ok, e2, bnd_ok, add_int, bnd_ok, evL_nil, bnd_ok, bnd_ok, bnd_ok, if_pos (size_big (by show 2 ≤ 1048576; decide)), st_ok]
    rfl
  obtain ⟨d3, h3, e3, q3, m3, s3⟩ := ev_drawOf (k := k) (M := 60) (r := [some (.obj j), some (nI (1 + d1)), some (nI (1 + d2)), none, none, none, none, none]) (es := [.cst (.int 3), .cst (.int 8), .cst (.int 60)]) (l := [3, 8, 60]) rfl m2 (by omega) (by rw [evL_cons, ev_cst, bnd_ok, evL_cons, ev_cst, bnd_ok, evL_cons, ev_cst, bnd_ok, evL_nil, bnd_ok, bnd_ok, bnd_ok]; rfl) (by decide) (by decide) (by decide) (by omega) (by omega)
  have a2 : exS (P.cc k) (.asg (.nm 3) (.bin .add (.cst (.int 1)) (.call 31 [.var 0, .call 32 [.var 0, .lst [.cst (.int 3), .cst (.int 8), .cst (.int 60)]]]))) [some (.obj j), some (nI (1 + d1)), some (nI (1 + d2)), none, none, none, none, none] h2 = .nx [some (.obj j), some (nI (1 + d1)), some (nI (1 + d2)), some (nI (1 + d3)), none, none, none, none] h3 := by
    rw [ex_asg, ev_bin, ev_cst, bnd_ok, e3, bnd_ok, add_int, st_ok]; rfl
  obtain ⟨t, h4, e4, tl, tg, m4, s4⟩ := c34 m3 (by omega) (many := 1 + d3) (n := 1 + d1) (A := 1 + d2) (by omega) (by omega) (by omega) (by omega) (by omega) (k := k) (by omega)
  have e4' : (P.cc k).call 34 [.obj j, nI (1 + d3), nI (1 + d1), nI (1 + d2)] h3 = .ok (tabP t) h4 := e4
  have a3 : exS (P.cc k) (.asg (.nm 4) (.call 34 [.var 0, .var 3, .var 1, .var 2])) [some (.obj j), some (nI (1 + d1)), some (nI (1 + d2)), some (nI (1 + d3)), none, none, none, none] h3 = .nx [some (.obj j), some (nI (1 + d1)), some (nI (1 + d2)), some (nI (1 + d3)), some (tabP t), none, none, none] h4 := by
    rw [ex_asg, ev_call, evL_cons, ev_varE (i := 0) rfl, bnd_ok, evL_cons, ev_varE (i := 3) rfl, bnd_ok, evL_cons, ev_varE (i := 1) rfl, bnd_ok, evL_cons, ev_varE (i := 2) rfl, bnd_ok, evL_nil, bnd_ok, bnd_ok, bnd_ok, bnd_ok, bnd_ok, e4', st_ok]; rfl
  obtain ⟨d5, h5, e5, q5, m5, s5⟩ := ev_draw (k := k) (r := [some (.obj j), some (nI (1 + d1)), some (nI (1 + d2)), some (nI (1 + d3)), some (tabP t), none, none, none]) (e := .cst (.int 3)) rfl m4 (by omega) ev_cst (L := 3) (by omega) (by omega) (by omega)
  have sx5 : SimX j h h5 := (((((SimX.refl.sim s1).trans s2).trans s3).sim s4).sim s5)
  have fin : ∀ (t2 : List (List (Nat × Nat))) (h6 : PH) (r6 : EV.Env), t2.length = 1 + d3 → (∀ r ∈ t2, r.length = 1 + d1 ∧ ∀ p ∈ r, p.1 < 1 + d2 ∧ p.2 < 1 + d3) → Mok h6 j ci (B + 2000) → SimX j h h6 → r6[1]? = some (some (nI (1 + d1))) → r6[2]? = some (some (nI (1 + d2))) → r6[4]? = some (some (tabP t2)) →
      exS (P.cc k) (.ite (.cmp .eq (.call 31 [.var 0, .cst (.int 3)]) (.cst (.int 0))) [.asg (.nm 5) (.lst []), .forS (.nm 6) (.rng (.cst (.int 0)) (.var 3)) [.expr (.mt .append (.var 5) [.con .tuple (.itc (.tup [.call 31 [.var 0, .var 2], .bf .min [.bin .sub (.var 3) (.cst (.int 1)), .bin .add (.var 6) (.call 31 [.var 0, .cst (.int 3)])]]) (.nm 7) (.rng (.cst (.int 0)) (.var 1)) (.cst (.bl true)) [7])])], .asg (.nm 4) (.con .tuple (.its (.var 5)))] []) [some (.obj j), some (nI (1 + d1)), some (nI (1 + d2)), some (nI (1 + d3)), some (tabP t), none, none, none] h4 = .nx r6 h6 →
      ∃ (b : Box) (h' : PH), callF P (k + 1) 39 [.obj j] h = .ok b.pv h' ∧ b.Ok ∧ Mok h' j ci (B + 2000) ∧ Sim j h h' := fun t2 h6 r6 tl2 tg2 m6 sx6 v1 v2 v4 a4 => by
    obtain ⟨c1, c2, c3⟩ := cut m sx6 m6 (v := Box.pv ⟨1 + d1, 1 + d2, t2⟩) (show (true && (true && ((tabP t2).old h.length && true))) = true by rw [tab_old]; rfl)
    refine ⟨⟨1 + d1, 1 + d2, t2⟩, h6.take h.length, ?_, ⟨by show 1 ≤ 1 + d1; omega, by show 1 + d1 ≤ 4; omega, by show 1 ≤ 1 + d2; omega, by show 1 + d2 ≤ 9; omega, by show 1 ≤ t2.length; omega, by show t2.length ≤ 60; omega, fun r hr => ⟨(tg2 r hr).1, fun p hp => ⟨((tg2 r hr).2 p hp).1, by show p.2 < t2.length; rw [tl2]; exact ((tg2 r hr).2 p hp).2⟩⟩⟩, c2, c3⟩
    rw [callF_def p39 rfl]
    show outOf _ (exB _ _ [some (.obj j), none, none, none, none, none, none, none] h) = _
    rw [show (FD.mk 1 8 b39).body = b39 from rfl]
    unfold b39
    rw [ex_cons_nx a1, ex_cons_nx a2, ex_cons_nx a3, ex_cons_nx a4, ex_cons, ex_ret, ev_tup, evL_cons, ev_varE v1, bnd_ok, evL_cons, ev_varE v2, bnd_ok, evL_cons, ev_varE v4, bnd_ok, evL_nil, bnd_ok, bnd_ok, bnd_ok, bnd_ok, if_pos (size_big (by show 3 ≤ 1048576; decide)), st_ok]
    simp only [out_rt]
    rw [show (PV.tup [nI (1 + d1), nI (1 + d2), tabP t2]) = Box.pv ⟨1 + d1, 1 + d2, t2⟩ from rfl, c1]
  have ec : evE (P.cc k) (.cmp .eq (.call 31 [.var 0, .cst (.int 3)]) (.cst (.int 0))) [some (.obj j), some (nI (1 + d1)), some (nI (1 + d2)), some (nI (1 + d3)), some (tabP t), none, none, none] h4 = .ok (.bl (decide (d5 = 0))) h5 := by
    rw [ev_cmp, e5, bnd_ok, ev_cst, bnd_ok, cmp_eq, ofOptB_some]
    simp
  by_cases h0 : d5 = 0
  · have hfj : h5.length ≠ j := by have := m5.ltj; omega
    have hfc : h5.length ≠ ci := by have := m5.lt; omega
    have m6 : Mok (h5 ++ [.lst false []]) j ci _ := m5.app rfl
    obtain ⟨t2, h6, x, e6, tl2, tg2, f6, m7, l6, sm⟩ := rows_run (k := k) (j := j) (ci := ci) (n := 1 + d1) (many := 1 + d3) (f := 5) (st := 6) (fo := h5.length) (by omega) (by omega) (good := fun r => r.length = 1 + d1 ∧ ∀ p ∈ r, p.1 < 1 + d2 ∧ p.2 < 1 + d3) (ROW := .con .tuple (.itc (.tup [.call 31 [.var 0, .var 2], .bf .min [.bin .sub (.var 3) (.cst (.int 1)), .bin .add (.var 6) (.call 31 [.var 0, .cst (.int 3)])]]) (.nm 7) (.rng (.cst (.int 0)) (.var 1)) (.cst (.bl true)) [7])) (v := 3) (r := [some (.obj j), some (nI (1 + d1)), some (nI (1 + d2)), some (nI (1 + d3)), some (tabP t), some (.obj h5.length), none, none]) rfl rfl (by decide) ⟨none, rfl⟩ hfj hfc
      (fun i g0 B2 hi mm hB2 => by
        obtain ⟨row, g4, f5, r1, r2, r3, r4⟩ := row_comp (k := k) (j := j) (ci := ci) (n := 1 + d1) (s := 7) (by omega) (good := fun p => p.1 < 1 + d2 ∧ p.2 < 1 + d3) (elt := .tup [.call 31 [.var 0, .var 2], .bf .min [.bin .sub (.var 3) (.cst (.int 1)), .bin .add (.var 6) (.call 31 [.var 0, .cst (.int 3)])]]) (it := .rng (.cst (.int 0)) (.var 1)) (r := [some (.obj j), some (nI (1 + d1)), some (nI (1 + d2)), some (nI (1 + d3)), some (tabP t), some (.obj h5.length), some (nI i), none]) (fun h => evi_rng0 (ev_varE rfl) (by omega)) (fun i2 g5 B3 hi2 mm2 hB3 => by
          obtain ⟨u1, g1, f1, w1, mg1, z1⟩ := ev_draw (k := k) (r := [some (.obj j), some (nI (1 + d1)), some (nI (1 + d2)), some (nI (1 + d3)), some (tabP t), some (.obj h5.length), some (nI i), some (nI i2)]) (e := .var 2) rfl mm2 (by omega) (ev_varE rfl) (L := 1 + d2) (by omega) (by omega) (by omega)
          obtain ⟨u2, g2, f2, w2, mg2, z2⟩ := ev_draw (k := k) (r := [some (.obj j), some (nI (1 + d1)), some (nI (1 + d2)), some (nI (1 + d3)), some (tabP t), some (.obj h5.length), some (nI i), some (nI i2)]) (e := .cst (.int 3)) rfl mg1 (by omega) ev_cst (L := 3) (by omega) (by omega) (by omega)
          have emin : evE (P.cc k) (.bf .min [.bin .sub (.var 3) (.cst (.int 1)), .bin .add (.var 6) (.call 31 [.var 0, .cst (.int 3)])]) [some (.obj j), some (nI (1 + d1)), some (nI (1 + d2)), some (nI (1 + d3)), some (tabP t), some (.obj h5.length), some (nI i), some (nI i2)] g1 = .ok (nI (if i + u2 < d3 then i + u2 else d3)) g2 := by
            rw [ev_bf, evL_cons, ev_bin, ev_varE (i := 3) rfl, bnd_ok, ev_cst, bnd_ok, sub_int, bnd_ok, evL_cons, ev_bin, ev_varE (i := 6) rfl, bnd_ok, f2, bnd_ok, add_int, bnd_ok, evL_nil, bnd_ok, bnd_ok, bnd_ok]
            show Rs.ok (PV.int (if ((i : Int) + (u2 : Int)) < ((1 + d3 : Nat) : Int) - 1 then (i : Int) + (u2 : Int) else ((1 + d3 : Nat) : Int) - 1)) g2 = _
            congr 2
            by_cases q : i + u2 < d3
            · rw [if_pos q, if_pos (by omega)]; omega
            · rw [if_neg q, if_neg (by omega)]; omega
          refine ⟨(u1, if i + u2 < d3 then i + u2 else d3), g2, ?_, ⟨w1, ?_⟩, mg2, z1.trans z2⟩
          · show evE (P.cc k) _ [some (.obj j), some (nI (1 + d1)), some (nI (1 + d2)), some (nI (1 + d3)), some (tabP t), some (.obj h5.length), some (nI i), some (nI i2)] g5 = _
            rw [ev_tup, evL_cons, f1, bnd_ok, evL_cons, emin, bnd_ok, evL_nil, bnd_ok, bnd_ok, bnd_ok, if_pos (size_big (by show 2 ≤ 1048576; decide))]
            rfl
          · show (if i + u2 < d3 then i + u2 else d3) < 1 + d3
            split <;> omega) mm (by omega)
        exact ⟨row, g4, f5, ⟨r1, r2⟩, r3.mono (by omega), r4⟩) m6 (by omega) get_last
    refine fin t2 h6 (([some (.obj j), some (nI (1 + d1)), some (nI (1 + d2)), some (nI (1 + d3)), some (tabP t), some (.obj h5.length), none, none] : EV.Env).set 6 x |>.set 4 (some (tabP t2))) tl2 tg2 (m7.mono (by omega)) (sx5.trans ⟨by rw [l6]; simp, fun i hi hj => by rw [sm i hj (by omega), List.getElem?_append_left hi]⟩) rfl rfl rfl ?_
    have s6 : exS (P.cc k) (.asg (.nm 5) (.lst [])) [some (.obj j), some (nI (1 + d1)), some (nI (1 + d2)), some (nI (1 + d3)), some (tabP t), none, none, none] h5 = .nx [some (.obj j), some (nI (1 + d1)), some (nI (1 + d2)), some (nI (1 + d3)), some (tabP t), some (.obj h5.length), none, none] (h5 ++ [.lst false []]) := by
      rw [ex_asg, ev_lst, evL_nil, bnd_ok, if_pos (size_big (by show 0 ≤ 1048576; decide)), st_ok]; rfl
    rw [ex_ite, ec, tst_ok, st_ok, if_pos (decide_eq_true h0), ex_cons_nx s6, ex_cons_nx e6, ex_cons, ex_asg, ev_rows (fo := h5.length) (t := t2) (by rfl) f6 (by omega), st_ok]
    rfl
  · refine fin t h5 [some (.obj j), some (nI (1 + d1)), some (nI (1 + d2)), some (nI (1 + d3)), some (tabP t), none, none, none] tl (fun r hr => tg r hr) (m5.mono (by omega)) sx5 rfl rfl rfl ?_
    rw [ex_ite, ec, tst_ok, st_ok, if_neg (by simp [h0]), ex_nil]
end Lw
end
section
set_option Elab.async false
set_option linter.all false
set_option maxRecDepth 100000
namespace Lw
open PySem EV
theorem optAll_I {h : PH} {n : Nat} : ∀ l : List Int, optAll (toD h n) (l.map PV.int) = some (l.map PyData.int)
  | [] => rfl
  | a :: l => by
    have e : toD h n (.int a) = some (.int a) := by cases n <;> rfl
    simp only [List.map_cons, optAll, e, optAll_I l]
theorem toD_I {h : PH} {n : Nat} {fz : Bool} {l : List Int} (e : h[n]? = some (.lst fz (l.map .int))) : toD h 60 (.obj n) = some (.list (l.map PyData.int)) := by
  show (match h[n]? with | some (.lst _ xs) => (match optAll (toD h 59) xs with | none => none | some ds => some (PyData.list ds)) | _ => none) = _
  rw [e]
  simp only [optAll_I]
theorem eqv_nilI {l : List Int} : PyData.eqv (.list (l.map PyData.int)) (.list []) = decide (l = []) := by
  cases l with
  | nil => simp [PyData.eqv, PyData.eqvAll]
  | cons a l => simp [PyData.eqv, PyData.eqvAll]
theorem ne_nilI {h : PH} {n m : Nat} {fz fz2 : Bool} {l : List Int} (e : h[n]? = some (.lst fz (l.map .int))) (e2 : h[m]? = some (.lst fz2 [])) : cmpop .ne (.obj n) (.obj m) h = some (!decide (l = [])) := by
  have t2 : toD h 60 (.obj m) = some (.list (([] : List Int).map PyData.int)) := toD_I (l := []) e2
  have q : cmpop .ne (.obj n) (.obj m) h = (pyEq h (.obj n) (.obj m)).map (!·) := by unfold cmpop; rfl
  rw [q]
  unfold pyEq
  rw [toD_I e, t2]
  show some (!(PyData.eqv (.list _) (.list []))) = _
  rw [eqv_nilI]
theorem cut_map {l : List Int} {lo hi : Option Int} : ∃ l2 : List Int, cutP (l.map PV.int) lo hi = l2.map .int ∧ l2.length ≤ l.length := by
  unfold cutP
  refine ⟨(l.drop (HT.sIx (l.map PV.int).length 0 lo)).take (HT.sIx (l.map PV.int).length (l.map PV.int).length hi - HT.sIx (l.map PV.int).length 0 lo), by rw [List.map_take, List.map_drop], ?_⟩
  rw [List.length_take, List.length_drop]; omega
theorem slc_list {h : PH} {n : Nat} {fz : Bool} {l : List Int} {lo hi : Option Int} (e : h[n]? = some (.lst fz (l.map .int))) : ∃ l2 : List Int, slcop (.obj n) lo hi h = .ok (.obj h.length) (h ++ [.lst false (l2.map .int)]) ∧ l2.length ≤ l.length := by
  obtain ⟨l2, q, hl⟩ := cut_map (l := l) (lo := lo) (hi := hi)
  refine ⟨l2, ?_, hl⟩
  unfold slcop
  simp only [e, q]
theorem add_lists {h : PH} {a b : Nat} {xs ys : List Int} (ea : h[a]? = some (.lst false (xs.map .int))) (eb : h[b]? = some (.lst false (ys.map .int))) (hz : xs.length + ys.length ≤ 1048576) : binop .add (.obj a) (.obj b) h = .ok (.obj h.length) (h ++ [.lst false ((xs ++ ys).map .int)]) := by
  unfold binop
  simp only [ea, eb]
  rw [if_pos (by rw [List.length_map, List.length_map]; exact size_big hz), List.map_append]
theorem get_next {h : PH} {o p : PO} : (h ++ [o] ++ [p])[h.length]? = some o := by
  rw [List.append_assoc, List.getElem?_append_right (Nat.le_refl _), Nat.sub_self]; rfl
theorem get_old {h g : PH} {i : Nat} {o : PO} (e : h[i]? = some o) : (h ++ g)[i]? = some o := by
  rw [List.getElem?_append_left (List.getElem?_eq_some_iff.mp e).1]; exact e
theorem c30 {h : PH} {ns : List Int} {turn : Nat} (cl : Cl h) (h0 : h[0]? = some (.lst true (ns.map .int))) (hn : ns.length ≤ 63) (ht : turn ≤ 2) {k : Nat} (hk : 1 ≤ k) : ∃ (j ci : Nat) (h' : PH), callF P k 30 [.obj 0, nI turn] h = .ok (.obj j) h' ∧ Mok h' j ci 0 ∧ h.length ≤ j ∧ h.length ≤ h'.length ∧ ∀ i, i < h.length → h'[i]? = h[i]? := by
  obtain ⟨k, rfl⟩ : ∃ i, k = i + 1 := ⟨k - 1, by omega⟩
  -- the cells
  obtain ⟨A, eA, lA⟩ := slc_list (lo := some (turn : Int)) (hi := none) h0
  have h01 : (h ++ [.lst false (A.map .int)])[0]? = some (.lst true (ns.map .int)) := get_old h0
  obtain ⟨C, eC, lC⟩ := slc_list (lo := none) (hi := some (turn : Int)) h01
  have gA : (h ++ [.lst false (A.map .int)] ++ [.lst false (C.map .int)])[h.length]? = some (.lst false (A.map .int)) := get_next
  have gC : (h ++ [.lst false (A.map .int)] ++ [.lst false (C.map .int)])[(h ++ [PO.lst false (A.map .int)]).length]? = some (.lst false (C.map .int)) := get_last
  have eS := add_lists gA gC (by omega)
  generalize hh1 : h ++ [PO.lst false (A.map .int)] ++ [PO.lst false (C.map .int)] = h1 at eS gA gC
  have pre1 : ∃ g, h1 = h ++ g ∧ g.all (·.old 0) = true := ⟨_, by rw [← hh1, List.append_assoc], by
    rw [List.all_append, List.all_cons, List.all_cons, List.all_nil, Bool.and_true, Bool.and_true]
    show (oldL 0 (A.map PV.int) && oldL 0 (C.map PV.int)) = true
    rw [oldL_ints, oldL_ints]; rfl⟩
  generalize hS : A ++ C = cells at eS
  have lS : cells.length ≤ 126 := by rw [← hS, List.length_append]; omega
  obtain ⟨g1, ge1, gf1⟩ := pre1
  have a1 : exS (P.cc k) (.asg (.nm 2) (.bin .add (.slc (.var 0) (.var 1) (.nop)) (.slc (.var 0) (.nop) (.var 1)))) [some (.obj 0), some (nI turn), none, none, none, none] h = .nx [some (.obj 0), some (nI turn), some (.obj h1.length), none, none, none] (h1 ++ [.lst false (cells.map .int)]) := by
    have ev1 : evE (P.cc k) (.slc (.var 0) (.var 1) (.nop)) [some (.obj 0), some (nI turn), none, none, none, none] h = .ok (.obj h.length) (h ++ [.lst false (A.map .int)]) := by
      rw [ev_slc, ev_varE (i := 0) rfl, bnd_ok]
      have e1 : (if (E.var 1).isNop = true then Rs.ok none h else optInt (evE (P.cc k) (.var 1) [some (.obj 0), some (nI turn), none, none, none, none] h)) = .ok (some (turn : Int)) h := by
        rw [ev_varE (i := 1) rfl]; rfl
      rw [e1, bnd_ok]
      exact eA
    have ev2 : evE (P.cc k) (.slc (.var 0) (.nop) (.var 1)) [some (.obj 0), some (nI turn), none, none, none, none] (h ++ [.lst false (A.map .int)]) = .ok (.obj (h ++ [PO.lst false (A.map .int)]).length) h1 := by
      rw [ev_slc, ev_varE (i := 0) rfl, bnd_ok]
      show (Rs.ok (none : Option Int) _).bnd _ = _
      rw [bnd_ok]
      have e1 : (if (E.var 1).isNop = true then Rs.ok none (h ++ [PO.lst false (A.map .int)]) else optInt (evE (P.cc k) (.var 1) [some (.obj 0), some (nI turn), none, none, none, none] (h ++ [PO.lst false (A.map .int)]))) = .ok (some (turn : Int)) (h ++ [PO.lst false (A.map .int)]) := by
        rw [ev_varE (i := 1) rfl]; rfl
      rw [e1, bnd_ok, eC, hh1]
    rw [ex_asg, ev_bin, ev1, bnd_ok, ev2, bnd_ok, eS, st_ok]
    rfl
  -- the great
  have gc2 : (h1 ++ [PO.lst false (cells.map .int)])[h1.length]? = some (.lst false (cells.map .int)) := get_last
  obtain ⟨acc, hx, el, G, ea, lG, pG, ex⟩ := comp_run (c := P.cc k) (r := [some (.obj 0), some (nI turn), some (.obj h1.length), none, none, none]) (h := h1 ++ [.lst false (cells.map .int)]) (t := .nm 5) (own := [5]) (cond := .cmp .ge (.var 5) (.bin .pow (.cst (.int 10)) (.cst (.int 18)))) (elt := .var 5) (w := .live h1.length) (N := cells.length)
    (I := fun i acc h2 => ∃ G : List Int, acc = G.map .int ∧ G.length ≤ i ∧ (∀ g ∈ G, 0 ≤ g) ∧ h2 = h1 ++ [.lst false (cells.map .int)]) (by rw [fuelE]; omega) ⟨[], rfl, Nat.le_refl _, by simp, rfl⟩ (fun acc h2 ⟨G, _, _, _, e⟩ => by rw [e, itAt_live gc2, List.getElem?_eq_none_iff.mpr (by rw [List.length_map]; exact Nat.le_refl _)])
    (fun i acc h2 hi ⟨G, e1, e2, e3, e4⟩ => by
      subst e4
      have hg : cells[i]? = some cells[i] := List.getElem?_eq_getElem hi
      have epow : evE (P.cc k) (.bin .pow (.cst (.int 10)) (.cst (.int 18))) [some (.obj 0), some (nI turn), some (.obj h1.length), none, none, some (.int cells[i])] (h1 ++ [.lst false (cells.map .int)]) = .ok (.int 1000000000000000000) (h1 ++ [.lst false (cells.map .int)]) := by
        rw [ev_bin, ev_cst, bnd_ok, ev_cst, bnd_ok]; rfl
      refine ⟨.int cells[i], [some (.obj 0), some (nI turn), some (.obj h1.length), none, none, some (.int cells[i])], decide ((1000000000000000000 : Int) ≤ cells[i]), _, by rw [itAt_live gc2, List.getElem?_map, hg]; rfl, rfl, by rw [ev_cmp, ev_varE (i := 5) rfl, bnd_ok, epow, bnd_ok]; rfl, ?_⟩
      by_cases q : (1000000000000000000 : Int) ≤ cells[i]
      · rw [if_pos (decide_eq_true q)]
        refine ⟨.int cells[i], _, ev_varE rfl, by rw [e1, List.length_map, sizeLine_eq]; omega, G ++ [cells[i]], by rw [e1]; simp, by simp; omega, fun g hg2 => ?_, rfl⟩
        rcases List.mem_append.mp hg2 with z | z
        · exact e3 g z
        · rw [List.mem_singleton.mp z]; omega
      · rw [if_neg (by simp; omega)]
        exact ⟨G, e1, by omega, e3, rfl⟩)
  subst ex
  have a2 : exS (P.cc k) (.asg (.nm 3) (.comp (.var 5) (.nm 5) (.itv (.var 2)) (.cmp .ge (.var 5) (.bin .pow (.cst (.int 10)) (.cst (.int 18)))) [5])) [some (.obj 0), some (nI turn), some (.obj h1.length), none, none, none] (h1 ++ [.lst false (cells.map .int)]) = .nx [some (.obj 0), some (nI turn), some (.obj h1.length), some (.obj (h1.length + 1)), none, none] (h1 ++ [.lst false (cells.map .int)] ++ [.lst false (G.map .int)]) := by
    have ei : evI (P.cc k) (.itv (.var 2)) [some (.obj 0), some (nI turn), some (.obj h1.length), none, none, none] (h1 ++ [.lst false (cells.map .int)]) = .ok (.live h1.length) (h1 ++ [.lst false (cells.map .int)]) := by
      rw [evi_itv, ev_varE (i := 2) rfl, bnd_ok]
      unfold toIt
      simp only [gc2]
      rfl
    rw [ex_asg, ev_comp, ei, bnd_ok, el, ea]
    simp [EV.newList, bindT]
  generalize hh3 : h1 ++ [PO.lst false (cells.map .int)] ++ [PO.lst false (G.map .int)] = h3 at a2
  have gc3 : h3[h1.length]? = some (.lst false (cells.map .int)) := by rw [← hh3]; exact get_next
  have gG3 : h3[h1.length + 1]? = some (.lst false (G.map .int)) := by rw [← hh3]; have := get_last (h := h1 ++ [PO.lst false (cells.map .int)]) (o := .lst false (G.map .int)); simpa using this
  have a3 : exS (P.cc k) (.asg (.nm 4) (.bin .add (.cst (.int 83)) (.bin .mul (.cst (.int 7)) (.var 1)))) [some (.obj 0), some (nI turn), some (.obj h1.length), some (.obj (h1.length + 1)), none, none] h3 = .nx [some (.obj 0), some (nI turn), some (.obj h1.length), some (.obj (h1.length + 1)), some (.int (83 + 7 * (turn : Int))), none] h3 := by
    rw [ex_asg, ev_bin, ev_cst, bnd_ok, ev_bin, ev_cst, bnd_ok, ev_varE (i := 1) rfl, bnd_ok, mul_small' (by decide) (by decide), bnd_ok, add_int, st_ok]; rfl
  have a4 : ∃ (mx : Int) (z : Option PV), exS (P.cc k) (.forS (.nm 5) (.itv (.var 2)) [.asg (.nm 4) (.bin .mod (.bf .int [.bin .add (.bin .mul (.var 4) (.cst (.int 48271))) (.var 5)]) (.cst (.int 2147483647)))]) [some (.obj 0), some (nI turn), some (.obj h1.length), some (.obj (h1.length + 1)), some (.int (83 + 7 * (turn : Int))), none] h3 = .nx [some (.obj 0), some (nI turn), some (.obj h1.length), some (.obj (h1.length + 1)), some (.int mx), z] h3 := by
    refine for_run (w := .live h1.length) (N := cells.length) (h1 := h3) (I := fun i r1 h2 => h2 = h3 ∧ ∃ (mx : Int) (z : Option PV), r1 = [some (.obj 0), some (nI turn), some (.obj h1.length), some (.obj (h1.length + 1)), some (.int mx), z]) (Post := fun q => ∃ (mx : Int) (z : Option PV), q = .nx [some (.obj 0), some (nI turn), some (.obj h1.length), some (.obj (h1.length + 1)), some (.int mx), z] h3)
      (by rw [evi_itv, ev_varE (i := 2) rfl, bnd_ok]; unfold toIt; simp only [gc3]; rfl) (by rw [fuelE]; omega) ⟨rfl, _, _, rfl⟩ (fun r1 h2 ⟨e1, mx, z, e2⟩ => ⟨by rw [e1, itAt_live gc3, List.getElem?_eq_none_iff.mpr (by rw [List.length_map]; exact Nat.le_refl _)], mx, z, by rw [e1, e2]⟩) fun i r1 h2 hi ⟨e1, mx, z, e2⟩ => ?_
    subst e1 e2
    have hg : cells[i]? = some cells[i] := List.getElem?_eq_getElem hi
    refine ⟨.int cells[i], [some (.obj 0), some (nI turn), some (.obj h1.length), some (.obj (h1.length + 1)), some (.int mx), some (.int cells[i])], by rw [itAt_live gc3, List.getElem?_map, hg]; rfl, rfl, .inl ⟨[some (.obj 0), some (nI turn), some (.obj h1.length), some (.obj (h1.length + 1)), some (.int ((mx * 48271 + cells[i]) % 2147483647)), some (.int cells[i])], h2, ?_, rfl, _, _, rfl⟩⟩
    have ev : evE (P.cc k) (.bin .add (.bin .mul (.var 4) (.cst (.int 48271))) (.var 5)) [some (.obj 0), some (nI turn), some (.obj h1.length), some (.obj (h1.length + 1)), some (.int mx), some (.int cells[i])] h2 = .ok (.int (mx * 48271 + cells[i])) h2 := by
      rw [ev_bin, ev_bin, ev_varE (i := 4) rfl, bnd_ok, ev_cst, bnd_ok, mul_small (by decide) (by decide), bnd_ok, ev_varE (i := 5) rfl, bnd_ok, add_int]
    have ev2 : evE (P.cc k) (.bin .mod (.bf .int [.bin .add (.bin .mul (.var 4) (.cst (.int 48271))) (.var 5)]) (.cst (.int 2147483647))) [some (.obj 0), some (nI turn), some (.obj h1.length), some (.obj (h1.length + 1)), some (.int mx), some (.int cells[i])] h2 = .ok (.int ((mx * 48271 + cells[i]) % 2147483647)) h2 := by
      rw [ev_bin, ev_bf, evL_cons, ev, bnd_ok, evL_nil, bnd_ok, bnd_ok]
      show (Rs.ok (PV.int (mx * 48271 + cells[i])) h2).bnd _ = _
      rw [bnd_ok, ev_cst, bnd_ok, mod_pos (by decide)]
    rw [ex_cons, ex_asg, ev2, st_ok]
    rfl
  obtain ⟨mx, z, a4⟩ := a4
  -- the dict
  obtain ⟨wh, hwh, ewh⟩ : ∃ wh : Int, 0 ≤ wh ∧ evE (P.cc k) (.ite (.cmp .ne (.var 3) (.lst [])) (.idx (.var 3) (.cst (.int 0))) (.cst (.int 0))) [some (.obj 0), some (nI turn), some (.obj h1.length), some (.obj (h1.length + 1)), some (.int mx), z] h3 = .ok (.int wh) (h3 ++ [.lst false []]) := by
    have gG4 : (h3 ++ [PO.lst false []])[h1.length + 1]? = some (.lst false (G.map .int)) := get_old gG3
    have ec : evE (P.cc k) (.cmp .ne (.var 3) (.lst [])) [some (.obj 0), some (nI turn), some (.obj h1.length), some (.obj (h1.length + 1)), some (.int mx), z] h3 = .ok (.bl (!decide (G = []))) (h3 ++ [.lst false []]) := by
      rw [ev_cmp, ev_varE (i := 3) rfl, bnd_ok, ev_lst, evL_nil, bnd_ok, if_pos (size_big (by show 0 ≤ 1048576; decide)), bnd_ok, ne_nilI gG4 (fz2 := false) get_last, ofOptB_some]
    cases G with
    | nil =>
      refine ⟨0, Int.le_refl _, ?_⟩
      rw [ev_ite, ec, tst_ok, bnd_ok, if_neg (by simp), ev_cst]
    | cons g G =>
      refine ⟨g, pG g List.mem_cons_self, ?_⟩
      rw [ev_ite, ec, tst_ok, bnd_ok, if_pos (by simp), ev_idx, ev_varE (i := 3) rfl, bnd_ok, ev_cst, bnd_ok]
      unfold idxop
      simp only [gG4]
      rw [show L2.atI ((g :: G).map PV.int) 0 = some (.int g) from atI_nat (n := 0) rfl, ofOpt_some]
  have gc4 : (h3 ++ [PO.lst false []] ++ [PO.lst false ([59 * (turn : Int) + 23].map .int)])[h1.length]? = some (.lst false (cells.map .int)) := get_old (get_old gc3)
  have eA2 := add_lists gc4 (b := (h3 ++ [PO.lst false []]).length) get_last (by simp; omega)
  have ecl : evE (P.cc k) (.bin .add (.var 2) (.lst [.bin .add (.bin .mul (.cst (.int 59)) (.var 1)) (.cst (.int 23))])) [some (.obj 0), some (nI turn), some (.obj h1.length), some (.obj (h1.length + 1)), some (.int mx), z] (h3 ++ [.lst false []]) = .ok (.obj (h3.length + 2)) (h3 ++ [.lst false []] ++ [.lst false ([59 * (turn : Int) + 23].map .int)] ++ [.lst false ((cells ++ [59 * (turn : Int) + 23]).map .int)]) := by
    have e1 : evE (P.cc k) (.lst [.bin .add (.bin .mul (.cst (.int 59)) (.var 1)) (.cst (.int 23))]) [some (.obj 0), some (nI turn), some (.obj h1.length), some (.obj (h1.length + 1)), some (.int mx), z] (h3 ++ [.lst false []]) = .ok (.obj (h3 ++ [PO.lst false []]).length) (h3 ++ [.lst false []] ++ [.lst false ([59 * (turn : Int) + 23].map .int)]) := by
      rw [ev_lst, evL_cons, ev_bin, ev_bin, ev_cst, bnd_ok, ev_varE (i := 1) rfl, bnd_ok, mul_small' (by decide) (by decide), bnd_ok, ev_cst, bnd_ok, add_int, bnd_ok, evL_nil, bnd_ok, bnd_ok, if_pos (size_big (by show 1 ≤ 1048576; decide))]
      rfl
    have ll : (h3 ++ [PO.lst false []] ++ [PO.lst false ([59 * (turn : Int) + 23].map .int)]).length = h3.length + 2 := by simp
    rw [ev_bin, ev_varE (i := 2) rfl, bnd_ok, e1, bnd_ok, eA2, ll]
  generalize hh5 : h3 ++ [PO.lst false []] ++ [PO.lst false ([59 * (turn : Int) + 23].map .int)] = h5 at ecl
  have l5 : h5.length = h3.length + 2 := by rw [← hh5]; simp
  have e5 : evE (P.cc k) (.dct [.cst (.str "whole"), .ite (.cmp .ne (.var 3) (.lst [])) (.idx (.var 3) (.cst (.int 0))) (.cst (.int 0)), .cst (.str "mixing"), .var 4, .cst (.str "cells"), .bin .add (.var 2) (.lst [.bin .add (.bin .mul (.cst (.int 59)) (.var 1)) (.cst (.int 23))]), .cst (.str "spot"), .cst (.int 0)]) [some (.obj 0), some (nI turn), some (.obj h1.length), some (.obj (h1.length + 1)), some (.int mx), z] h3 =
      .ok (.obj (h5.length + 1)) (h5 ++ [.lst false ((cells ++ [59 * (turn : Int) + 23]).map .int)] ++ [.dK (mD wh mx 0 h5.length)]) := by
    have eL : evL (P.cc k) [.cst (.str "whole"), .ite (.cmp .ne (.var 3) (.lst [])) (.idx (.var 3) (.cst (.int 0))) (.cst (.int 0)), .cst (.str "mixing"), .var 4, .cst (.str "cells"), .bin .add (.var 2) (.lst [.bin .add (.bin .mul (.cst (.int 59)) (.var 1)) (.cst (.int 23))]), .cst (.str "spot"), .cst (.int 0)] [some (.obj 0), some (nI turn), some (.obj h1.length), some (.obj (h1.length + 1)), some (.int mx), z] h3 =
        .ok [.str "whole", .int wh, .str "mixing", .int mx, .str "cells", .obj h5.length, .str "spot", .int 0] (h5 ++ [.lst false ((cells ++ [59 * (turn : Int) + 23]).map .int)]) := by
      rw [evL_cons, ev_cst, bnd_ok, evL_cons, ewh, bnd_ok, evL_cons, ev_cst, bnd_ok, evL_cons, ev_varE (i := 4) rfl, bnd_ok, evL_cons, ev_cst, bnd_ok, evL_cons, ecl, bnd_ok, evL_cons, ev_cst, bnd_ok, evL_cons, ev_cst, bnd_ok, evL_nil, l5]
      rfl
    have ep : pairsK [.str "whole", .int wh, .str "mixing", .int mx, .str "cells", .obj h5.length, .str "spot", .int 0] [] = some (mD wh mx 0 h5.length) := by rfl
    have ll : (h5 ++ [PO.lst false ((cells ++ [59 * (turn : Int) + 23]).map .int)]).length = h5.length + 1 := by simp
    rw [ev_dct, eL, bnd_ok, ep]
    show (if 8 ≤ 30 then Rs.ok (PV.obj (h5 ++ [PO.lst false ((cells ++ [59 * (turn : Int) + 23]).map .int)]).length) _ else .no) = _
    rw [if_pos (by decide), ll]
  have pre5 : ∃ g, h5 ++ [.lst false ((cells ++ [59 * (turn : Int) + 23]).map .int)] = h ++ g ∧ g.all (·.old 0) = true := by
    refine ⟨g1 ++ ([PO.lst false (cells.map .int), PO.lst false (G.map .int), PO.lst false [], PO.lst false ([59 * (turn : Int) + 23].map .int), PO.lst false ((cells ++ [59 * (turn : Int) + 23]).map .int)]), by rw [← hh5, ← hh3, ge1]; simp [List.append_assoc], ?_⟩
    rw [List.all_append, gf1, Bool.true_and]
    have q : ∀ l : List Int, (PO.lst false (l.map PV.int)).old 0 = true := fun l => oldL_ints l
    simp only [List.all_cons, List.all_nil, q, Bool.and_true, Bool.true_and]
    rfl
  obtain ⟨g5, ge5, gf5⟩ := pre5
  have len6 : (h5 ++ [PO.lst false ((cells ++ [59 * (turn : Int) + 23]).map .int)]).length = h5.length + 1 := by simp
  have hge : h.length ≤ h5.length := by rw [← hh5, ← hh3, ge1]; simp
  refine ⟨h5.length + 1, h5.length, h5 ++ [.lst false ((cells ++ [59 * (turn : Int) + 23]).map .int)] ++ [.dK (mD wh mx 0 h5.length)], ?_, ⟨⟨wh, mx, 0, by rw [← len6]; exact get_last, hwh, Int.le_refl _, Int.le_refl _⟩, ⟨cells ++ [59 * (turn : Int) + 23], by simp, get_next⟩, by omega, ?_⟩, by omega, by simp; omega, fun i hi => ?_⟩
  · rw [callF_def p30 rfl]
    show outOf _ (exB _ _ [some (.obj 0), some (nI turn), none, none, none, none] h) = _
    rw [show (FD.mk 2 6 b30).body = b30 from rfl]
    unfold b30
    rw [ex_cons_nx a1, ex_cons_nx a2, ex_cons_nx a3, ex_cons_nx a4, ex_cons, ex_ret, e5, st_ok]
    simp only [out_rt]
    unfold gc
    rw [if_neg]
    show ¬ (decide (h5.length + 1 < h.length) && _) = true
    rw [decide_eq_false (by omega)]
    simp
  · rw [ge5]
    have c1 : Cl (h ++ g5) := cl.app (by
      rw [List.all_eq_true] at gf5 ⊢
      exact fun o ho => PO.old_mono (Nat.zero_le _) (gf5 o ho))
    refine c1.app ?_
    rw [List.all_cons, List.all_nil, Bool.and_true]
    refine mD_old ?_
    rw [← ge5, len6]; omega
  · rw [ge5, List.append_assoc, List.getElem?_append_left hi]
end Lw
end
section
set_option Elab.async false
set_option linter.all false
set_option maxRecDepth 100000
namespace Lw
open PySem EV
def SameL (h : PH) (d : Nat) (xs ys : List PV) : Prop := xs.length = ys.length ∧ ∀ (i : Nat) x y, xs[i]? = some x → ys[i]? = some y → Same h d x y
theorem sl_nil {h : PH} {d : Nat} : SameL h d [] [] := ⟨rfl, fun i x y hx => by simp at hx⟩
theorem sl_cons {h : PH} {d : Nat} {x y : PV} {xs ys : List PV} (a : Same h d x y) (b : SameL h d xs ys) : SameL h d (x :: xs) (y :: ys) := ⟨by simp [b.1], fun i u v hu hv => by
  cases i with
  | zero => simp at hu hv; subst hu hv; exact a
  | succ i => exact b.2 i u v (by simpa using hu) (by simpa using hv)⟩
theorem same_tup {h : PH} {d : Nat} {xs ys : List PV} (s : SameL h d xs ys) (hl : xs.length ≤ 1048576) : Same h (d + 1) (.tup xs) (.tup ys) := .tup d xs ys s.1 hl s.2
theorem sl_map {α : Type} {h : PH} {d : Nat} {f : α → PV} {l : List α} (hf : ∀ a ∈ l, Same h d (f a) (f a)) : SameL h d (l.map f) (l.map f) := ⟨rfl, fun i x y hx hy => by
  rw [hx] at hy
  cases hy
  rw [List.getElem?_map] at hx
  obtain ⟨a, ha, rfl⟩ := Option.map_eq_some_iff.mp hx
  exact hf a (List.mem_of_getElem? ha)⟩
theorem same_wrd {h : PH} {d : Nat} {w : List Nat} (hl : w.length ≤ 1048576) : Same h (d + 1) (wrdP w) (wrdP w) := same_tup (sl_map fun a _ => .int d _) (by rw [List.length_map]; exact hl)
theorem same_pv2 {h : PH} {d : Nat} {p : Nat × Nat} : Same h (d + 1) (pv2 p) (pv2 p) := same_tup (sl_cons (.int _ _) (sl_cons (.int _ _) sl_nil)) (by show 2 ≤ 1048576; decide)
theorem same_row {h : PH} {d : Nat} {r : List (Nat × Nat)} (hl : r.length ≤ 1048576) : Same h (d + 2) (rowP r) (rowP r) := same_tup (sl_map fun a _ => same_pv2) (by rw [List.length_map]; exact hl)
theorem same_tab {h : PH} {d : Nat} {t : List (List (Nat × Nat))} (hl : t.length ≤ 1048576) (hr : ∀ r ∈ t, r.length ≤ 1048576) : Same h (d + 3) (tabP t) (tabP t) := same_tup (sl_map fun a ha => same_row (hr a ha)) (by rw [List.length_map]; exact hl)
theorem same_box {h : PH} {d : Nat} {b : Box} (hl : b.t.length ≤ 1048576) (hr : ∀ r ∈ b.t, r.length ≤ 1048576) : Same h (d + 4) b.pv b.pv := same_tup (sl_cons (.int _ _) (sl_cons (.int _ _) (sl_cons (same_tab hl hr) sl_nil))) (by show 3 ≤ 1048576; decide)
theorem box_len {b : Box} (o : b.Ok) : b.t.length ≤ 1048576 ∧ ∀ r ∈ b.t, r.length ≤ 1048576 := ⟨by have := o.t60; omega, fun r hr => by have := (o.row r hr).1; have := o.n4; omega⟩
theorem lookD_mem {s : Nat} {w : List Nat} : ∀ {D : Dw}, lookD s D = some w → (s, w) ∈ D
  | p :: r, h => by
    unfold lookD at h
    split at h
    · rename_i q
      cases h
      rw [← q]; exact List.mem_cons_self
    · exact List.mem_cons_of_mem _ (lookD_mem h)
theorem same_fw {h : PH} {d : Nat} {b : Box} (o : b.Ok) {s : Nat} : Same h (d + 1) (fwP b s) (fwP b s) := by
  unfold fwP
  cases q : lookD s (fws b) with
  | none => exact .non _
  | some w =>
    have := bf_words b.t.length _ (lookD_mem q)
    have h60 := o.t60
    exact same_wrd (by have : w.length ≤ b.t.length := this; omega)
theorem runA_len {b : Box} (o : b.Ok) {s : Nat} (hs : s < b.t.length) {w : List Nat} (hw : WOk b.n w) : (runR b.t s w).1.length ≤ 1048576 := by rw [run_len o hs hw.2]; have := hw.1; omega
/-- ev of one call -/
theorem ev_c1 {k f : Nat} {r : EV.Env} {h h' : PH} {e : E} {v u : PV} (he : evE (P.cc k) e r h = .ok v h) (hc : (P.cc k).call f [v] h = .ok u h') : evE (P.cc k) (.call f [e]) r h = .ok u h' := by
  rw [ev_call, evL_cons, he, bnd_ok, evL_nil, bnd_ok, bnd_ok, hc]
theorem ev_c2 {k f : Nat} {r : EV.Env} {h h' : PH} {e e2 : E} {v v2 u : PV} (he : evE (P.cc k) e r h = .ok v h) (he2 : evE (P.cc k) e2 r h = .ok v2 h) (hc : (P.cc k).call f [v, v2] h = .ok u h') : evE (P.cc k) (.call f [e, e2]) r h = .ok u h' := by
  rw [ev_call, evL_cons, he, bnd_ok, evL_cons, he2, bnd_ok, evL_nil, bnd_ok, bnd_ok, bnd_ok, hc]
theorem ev_c3 {k f : Nat} {r : EV.Env} {h h' : PH} {e e2 e3 : E} {v v2 v3 u : PV} (he : evE (P.cc k) e r h = .ok v h) (he2 : evE (P.cc k) e2 r h = .ok v2 h) (he3 : evE (P.cc k) e3 r h = .ok v3 h) (hc : (P.cc k).call f [v, v2, v3] h = .ok u h') : evE (P.cc k) (.call f [e, e2, e3]) r h = .ok u h' := by
  rw [ev_call, evL_cons, he, bnd_ok, evL_cons, he2, bnd_ok, evL_cons, he3, bnd_ok, evL_nil, bnd_ok, bnd_ok, bnd_ok, bnd_ok, hc]
theorem ev_t2 {k : Nat} {r : EV.Env} {h h1 h2 : PH} {e e2 : E} {v v2 : PV} (he : evE (P.cc k) e r h = .ok v h1) (he2 : evE (P.cc k) e2 r h1 = .ok v2 h2) : evE (P.cc k) (.tup [e, e2]) r h = .ok (.tup [v, v2]) h2 := by
  rw [ev_tup, evL_cons, he, bnd_ok, evL_cons, he2, bnd_ok, evL_nil, bnd_ok, bnd_ok, bnd_ok, if_pos (size_big (by show 2 ≤ 1048576; decide))]
theorem ev_t3 {k : Nat} {r : EV.Env} {h h1 h2 h3 : PH} {e e2 e3 : E} {v v2 v3 : PV} (he : evE (P.cc k) e r h = .ok v h1) (he2 : evE (P.cc k) e2 r h1 = .ok v2 h2) (he3 : evE (P.cc k) e3 r h2 = .ok v3 h3) : evE (P.cc k) (.tup [e, e2, e3]) r h = .ok (.tup [v, v2, v3]) h3 := by
  rw [ev_tup, evL_cons, he, bnd_ok, evL_cons, he2, bnd_ok, evL_cons, he3, bnd_ok, evL_nil, bnd_ok, bnd_ok, bnd_ok, bnd_ok, if_pos (size_big (by show 3 ≤ 1048576; decide))]
theorem ev_t4 {k : Nat} {r : EV.Env} {h h1 h2 h3 h4 : PH} {e e2 e3 e4 : E} {v v2 v3 v4 : PV} (he : evE (P.cc k) e r h = .ok v h1) (he2 : evE (P.cc k) e2 r h1 = .ok v2 h2) (he3 : evE (P.cc k) e3 r h2 = .ok v3 h3) (he4 : evE (P.cc k) e4 r h3 = .ok v4 h4) : evE (P.cc k) (.tup [e, e2, e3, e4]) r h = .ok (.tup [v, v2, v3, v4]) h4 := by
  rw [ev_tup, evL_cons, he, bnd_ok, evL_cons, he2, bnd_ok, evL_cons, he3, bnd_ok, evL_cons, he4, bnd_ok, evL_nil, bnd_ok, bnd_ok, bnd_ok, bnd_ok, bnd_ok, if_pos (size_big (by show 4 ≤ 1048576; decide))]
/-- if not same: return False -/
theorem not_same {k d : Nat} {r : EV.Env} {h h1 h2 : PH} {e e2 : E} {v v2 : PV} (he : evE (P.cc k) e r h = .ok v h1) (he2 : evE (P.cc k) e2 r h1 = .ok v2 h2) (s : Same h2 d v v2) (hk : d + 1 ≤ k) {b : List EV.S} : exS (P.cc k) (.ite (.not (.call 33 [e, e2])) b []) r h = .nx r h2 := by
  have e1 : (P.cc k).call 33 [v, v2] h2 = _ := (c33 d v v2 s).at hk
  have ec : evE (P.cc k) (.call 33 [e, e2]) r h = .ok (.bl true) h2 := by
    rw [ev_call, evL_cons, he, bnd_ok, evL_cons, he2, bnd_ok, evL_nil, bnd_ok, bnd_ok, bnd_ok, e1]
  rw [ex_ite, ev_not, ec, tst_ok, bnd_ok, tst_ok, st_ok, if_neg (by simp), ex_nil]
end Lw
end
section
set_option Elab.async false
set_option linter.all false
set_option maxRecDepth 100000
namespace Lw
open PySem EV
/-- the word and the state, drawn -/
theorem p41a {k j ci B : Nat} {b : Box} (o : b.Ok) {h : PH} (m : Mok h j ci B) (hB : B + 10000 < 1099511600000) (hk : 3 ≤ k) : ∃ (w : List Nat) (s : Nat) (h2 : PH), exS (P.cc k) (.asg (.tup [.nm 5, .nm 6]) (.tup [.call 35 [.var 0, .var 2, .call 32 [.var 0, .lst [.cst (.int 3), .cst (.int 8), .cst (.int 200)]]], .call 31 [.var 0, .bf .len [.var 4]]])) [some (.obj j), some (b.pv), some (nI b.n), some (nI b.A), some (tabP b.t), none, none, none, none, none, none, none, none, none] h = .nx [some (.obj j), some (b.pv), some (nI b.n), some (nI b.A), some (tabP b.t), some (wrdP w), some (nI s), none, none, none, none, none, none, none] h2 ∧ WOk b.n w ∧ w.length ≤ 200 ∧ s < b.t.length ∧ Mok h2 j ci (B + 300) ∧ SimX j h h2 := by
  have el : evE (P.cc k) (.lst [.cst (.int 3), .cst (.int 8), .cst (.int 200)]) [some (.obj j), some (b.pv), some (nI b.n), some (nI b.A), some (tabP b.t), none, none, none, none, none, none, none, none, none] h = .ok (.obj h.length) (h ++ [.lst false ([3, 8, 200].map nI)]) := by
    rw [ev_lst, evL_cons, ev_cst, bnd_ok, evL_cons, ev_cst, bnd_ok, evL_cons, ev_cst, bnd_ok, evL_nil, bnd_ok, bnd_ok, bnd_ok, bnd_ok, if_pos (size_big (by show 3 ≤ 1048576; decide))]
    rfl
  have m1 : Mok (h ++ [.lst false ([3, 8, 200].map nI)]) j ci B := m.app (by rw [List.all_cons, List.all_nil, Bool.and_true]; exact lst_flat)
  have hj : h.length ≠ j := by have := m.ltj; omega
  obtain ⟨v, h2, e2, hv, m2, s2⟩ := c32 m1 (by omega) (s := h.length) (l := [3, 8, 200]) get_last hj (by decide) (by decide) (k := k) (by omega)
  have hv2 : v ≤ 200 := by
    simp at hv
    omega
  obtain ⟨w, h3, e3, wl, wx, m3, s3⟩ := c35 m2 (by omega) (n := b.n) (most := v) (by have := o.n1; omega) (by have := o.n4; omega) (by omega) (k := k) (by omega)
  obtain ⟨s, h4, e4, sl, m4, s4⟩ := ev_draw (k := k) (r := [some (.obj j), some (b.pv), some (nI b.n), some (nI b.A), some (tabP b.t), none, none, none, none, none, none, none, none, none]) (e := .bf .len [.var 4]) rfl m3 (by omega) (L := b.t.length) (by
    rw [ev_bf, evL_cons, ev_varE (i := 4) rfl, bnd_ok, evL_nil, bnd_ok, bnd_ok]
    simp only [bfop, len_tab, Option.map_some]
    rfl) (by have := o.t1; omega) (by have := o.t60; omega) (by omega)
  refine ⟨w, s, h4, ?_, ⟨by omega, wx⟩, by omega, sl, m4.mono (by omega), ((SimX.refl.app.sim s2).sim s3).sim s4⟩
  have e32 : evE (P.cc k) (.call 32 [.var 0, .lst [.cst (.int 3), .cst (.int 8), .cst (.int 200)]]) [some (.obj j), some (b.pv), some (nI b.n), some (nI b.A), some (tabP b.t), none, none, none, none, none, none, none, none, none] h = .ok (nI v) h2 := by
    rw [ev_call, evL_cons, ev_varE (i := 0) rfl, bnd_ok, evL_cons, el, bnd_ok, evL_nil, bnd_ok, bnd_ok, bnd_ok]
    exact e2
  have e35 : evE (P.cc k) (.call 35 [.var 0, .var 2, .call 32 [.var 0, .lst [.cst (.int 3), .cst (.int 8), .cst (.int 200)]]]) [some (.obj j), some (b.pv), some (nI b.n), some (nI b.A), some (tabP b.t), none, none, none, none, none, none, none, none, none] h = .ok (wrdP w) h3 := by
    rw [ev_call, evL_cons, ev_varE (i := 0) rfl, bnd_ok, evL_cons, ev_varE (i := 2) rfl, bnd_ok, evL_cons, e32, bnd_ok, evL_nil, bnd_ok, bnd_ok, bnd_ok, bnd_ok]
    exact e3
  rw [ex_asg, ev_t2 e35 e4, st_ok]
  rfl
section
variable {k j ci B : Nat} {b : Box} (o : b.Ok) {h : PH} (cl : Cl h) {w : List Nat} (hw : WOk b.n w) {s : Nat} (hs : s < b.t.length) (hk : 12 ≤ k)
include o cl hw hk
theorem p41b : exS (P.cc k) (.asg (.tup [.nm 7, .nm 8]) (.call 36 [.var 4, .cst (.int 0), .var 5])) [some (.obj j), some (b.pv), some (nI b.n), some (nI b.A), some (tabP b.t), some (wrdP w), some (nI s), none, none, none, none, none, none, none] h = .nx [some (.obj j), some (b.pv), some (nI b.n), some (nI b.A), some (tabP b.t), some (wrdP w), some (nI s), some (wrdP (runR b.t 0 w).1), some (nI (runR b.t 0 w).2), none, none, none, none, none] h := by
  have e : (P.cc k).call 36 [tabP b.t, .int 0, wrdP w] h = _ := (c36 o (s := 0) (by have := o.t1; omega) hw).at (by omega)
  rw [ex_asg, ev_c3 (ev_varE rfl) ev_cst (ev_varE rfl) e, st_ok]
  rfl
theorem p41c : exS (P.cc k) (.asg (.nm 9) (.tup [.call 4 [.var 1], .call 5 [.var 1], .call 11 [.var 1, .var 5], .callK 12 [] [.var 5, .var 1] [1, 0]])) [some (.obj j), some (b.pv), some (nI b.n), some (nI b.A), some (tabP b.t), some (wrdP w), some (nI s), some (wrdP (runR b.t 0 w).1), some (nI (runR b.t 0 w).2), none, none, none, none, none] h = .nx [some (.obj j), some (b.pv), some (nI b.n), some (nI b.A), some (tabP b.t), some (wrdP w), some (nI s), some (wrdP (runR b.t 0 w).1), some (nI (runR b.t 0 w).2), some (.tup [b.pv, .bl true, wrdP (runR b.t 0 w).1, nI (runR b.t 0 w).2]), none, none, none, none] h := by
  have e1 : (P.cc k).call 4 [b.pv] h = _ := (c4 o).at (by omega)
  have e2 : (P.cc k).call 5 [b.pv] h = _ := (c5 o).at (by omega)
  have e3 : (P.cc k).call 11 [b.pv, wrdP w] h = _ := (c11 o hw cl).at (by omega)
  have e4 : (P.cc k).call 12 [b.pv, wrdP w] h = _ := (c12 o hw cl).at (by omega)
  have ek : evE (P.cc k) (.callK 12 [] [.var 5, .var 1] [1, 0]) [some (.obj j), some (b.pv), some (nI b.n), some (nI b.A), some (tabP b.t), some (wrdP w), some (nI s), some (wrdP (runR b.t 0 w).1), some (nI (runR b.t 0 w).2), none, none, none, none, none] h = .ok (nI (runR b.t 0 w).2) h := by
    rw [ev_callK, evL_nil, bnd_ok, evL_cons, ev_varE (i := 5) rfl, bnd_ok, evL_cons, ev_varE (i := 1) rfl, bnd_ok, evL_nil, bnd_ok, bnd_ok, bnd_ok]
    exact e4
  rw [ex_asg, ev_t4 (ev_c1 (ev_varE rfl) e1) (ev_c1 (ev_varE rfl) e2) (ev_c2 (ev_varE rfl) (ev_varE rfl) e3) ek, st_ok]
  rfl
theorem p41d {bd : List EV.S} : exS (P.cc k) (.ite (.not (.call 33 [.var 9, .tup [.var 1, .cst (.bl true), .var 7, .var 8]])) bd []) [some (.obj j), some (b.pv), some (nI b.n), some (nI b.A), some (tabP b.t), some (wrdP w), some (nI s), some (wrdP (runR b.t 0 w).1), some (nI (runR b.t 0 w).2), some (.tup [b.pv, .bl true, wrdP (runR b.t 0 w).1, nI (runR b.t 0 w).2]), none, none, none, none] h = .nx [some (.obj j), some (b.pv), some (nI b.n), some (nI b.A), some (tabP b.t), some (wrdP w), some (nI s), some (wrdP (runR b.t 0 w).1), some (nI (runR b.t 0 w).2), some (.tup [b.pv, .bl true, wrdP (runR b.t 0 w).1, nI (runR b.t 0 w).2]), none, none, none, none] h := by
  obtain ⟨q1, q2⟩ := box_len o
  exact not_same (d := 5) (ev_varE rfl) (ev_t4 (ev_varE rfl) ev_cst (ev_varE rfl) (ev_varE rfl)) (same_tup (sl_cons (same_box q1 q2) (sl_cons (.bl _ _) (sl_cons (same_wrd (runA_len o (by have := o.t1; omega) hw)) (sl_cons (.int _ _) sl_nil)))) (by show 4 ≤ 1048576; decide)) (by omega)
include hs
theorem p41e : exS (P.cc k) (.asg (.tup [.nm 7, .nm 8]) (.call 36 [.var 4, .var 6, .var 5])) [some (.obj j), some (b.pv), some (nI b.n), some (nI b.A), some (tabP b.t), some (wrdP w), some (nI s), some (wrdP (runR b.t 0 w).1), some (nI (runR b.t 0 w).2), some (.tup [b.pv, .bl true, wrdP (runR b.t 0 w).1, nI (runR b.t 0 w).2]), none, none, none, none] h = .nx [some (.obj j), some (b.pv), some (nI b.n), some (nI b.A), some (tabP b.t), some (wrdP w), some (nI s), some (wrdP (runR b.t s w).1), some (nI (runR b.t s w).2), some (.tup [b.pv, .bl true, wrdP (runR b.t 0 w).1, nI (runR b.t 0 w).2]), none, none, none, none] h := by
  have e : (P.cc k).call 36 [tabP b.t, nI s, wrdP w] h = _ := (c36 o hs hw).at (by omega)
  rw [ex_asg, ev_c3 (ev_varE rfl) (ev_varE rfl) (ev_varE rfl) e, st_ok]
  rfl
theorem p41f {bd : List EV.S} : exS (P.cc k) (.ite (.not (.call 33 [.tup [.callK 13 [] [.var 5, .var 6, .var 1] [2, 1, 0], .call 14 [.var 1, .var 6, .var 5]], .tup [.var 7, .var 8]])) bd []) [some (.obj j), some (b.pv), some (nI b.n), some (nI b.A), some (tabP b.t), some (wrdP w), some (nI s), some (wrdP (runR b.t s w).1), some (nI (runR b.t s w).2), some (.tup [b.pv, .bl true, wrdP (runR b.t 0 w).1, nI (runR b.t 0 w).2]), none, none, none, none] h = .nx [some (.obj j), some (b.pv), some (nI b.n), some (nI b.A), some (tabP b.t), some (wrdP w), some (nI s), some (wrdP (runR b.t s w).1), some (nI (runR b.t s w).2), some (.tup [b.pv, .bl true, wrdP (runR b.t 0 w).1, nI (runR b.t 0 w).2]), none, none, none, none] h := by
  have e3 : (P.cc k).call 13 [b.pv, nI s, wrdP w] h = _ := (c13 o hs hw cl).at (by omega)
  have e4 : (P.cc k).call 14 [b.pv, nI s, wrdP w] h = _ := (c14 o hs hw cl).at (by omega)
  have ek : evE (P.cc k) (.callK 13 [] [.var 5, .var 6, .var 1] [2, 1, 0]) [some (.obj j), some (b.pv), some (nI b.n), some (nI b.A), some (tabP b.t), some (wrdP w), some (nI s), some (wrdP (runR b.t s w).1), some (nI (runR b.t s w).2), some (.tup [b.pv, .bl true, wrdP (runR b.t 0 w).1, nI (runR b.t 0 w).2]), none, none, none, none] h = .ok (wrdP (runR b.t s w).1) h := by
    rw [ev_callK, evL_nil, bnd_ok, evL_cons, ev_varE (i := 5) rfl, bnd_ok, evL_cons, ev_varE (i := 6) rfl, bnd_ok, evL_cons, ev_varE (i := 1) rfl, bnd_ok, evL_nil, bnd_ok, bnd_ok, bnd_ok, bnd_ok]
    exact e3
  exact not_same (d := 5) (ev_t2 ek (ev_c3 (ev_varE rfl) (ev_varE rfl) (ev_varE rfl) e4)) (ev_t2 (ev_varE rfl) (ev_varE rfl)) (same_tup (sl_cons (same_wrd (runA_len o hs hw)) (sl_cons (.int _ _) sl_nil)) (by show 2 ≤ 1048576; decide)) (by omega)
end
end Lw
end
section
set_option Elab.async false
set_option linter.all false
set_option maxRecDepth 100000
namespace Lw
open PySem EV
theorem enc_get {h : PH} {D : Dw} {g : List PO} : (h ++ (PO.dK (encD D) :: g))[h.length]? = some (.dK (encD D)) := by
  rw [List.getElem?_append_right (Nat.le_refl _), Nat.sub_self]; rfl
theorem p41g {k j : Nat} {b : Box} (o : b.Ok) {h : PH} (cl : Cl h) {w : List Nat} {s : Nat} (hk : 12 ≤ k) : ∃ nd h1, exS (P.cc k) (.asg (.nm 10) (.call 37 [.var 4])) [some (.obj j), some (b.pv), some (nI b.n), some (nI b.A), some (tabP b.t), some (wrdP w), some (nI s), some (wrdP (runR b.t s w).1), some (nI (runR b.t s w).2), some (.tup [b.pv, .bl true, wrdP (runR b.t 0 w).1, nI (runR b.t 0 w).2]), none, none, none, none] h = .nx [some (.obj j), some (b.pv), some (nI b.n), some (nI b.A), some (tabP b.t), some (wrdP w), some (nI s), some (wrdP (runR b.t s w).1), some (nI (runR b.t s w).2), some (.tup [b.pv, .bl true, wrdP (runR b.t 0 w).1, nI (runR b.t 0 w).2]), some (.obj nd), none, none, none] h1 ∧ h1[nd]? = some (.dK (encD (fws b))) ∧ Cl h1 ∧ (∃ g, h1 = h ++ g ∧ g.all (·.old 0) = true) := by
  obtain ⟨g, hg, e⟩ := c37 o (h := h) (k := k) (by omega)
  have hga : (PO.dK (encD (fws b)) :: g).all (·.old 0) = true := by
    rw [List.all_cons, enc_flat, Bool.true_and]; exact hg
  refine ⟨h.length, h ++ (.dK (encD (fws b)) :: g), ?_, enc_get, cl.app ?_, _, rfl, hga⟩
  · have e' : (P.cc k).call 37 [tabP b.t] h = _ := e
    rw [ex_asg, ev_c1 (ev_varE rfl) e', st_ok]
    rfl
  · rw [List.all_eq_true] at hga ⊢
    exact fun o ho => PO.old_mono (Nat.zero_le _) (hga o ho)
/-- the list of all words -/
def fwL (b : Box) : List PV := (List.range b.t.length).map (fwP b)
theorem comp_fw {k M : Nat} (hM : M ≤ 60) {b : Box} {elt : E} {r : EV.Env} {h : PH} (ht : b.t.length = M) (hi : evI (P.cc k) (.rng (.cst (.int 0)) (.bf .len [.var 4])) r h = .ok (.rng 0 M) h)
    (hs : ∀ s, s < M → evE (P.cc k) elt ((wipeP r [13]).set 13 (some (nI s))) h = .ok (fwP b s) h) :
    evE (P.cc k) (.comp elt (.nm 13) (.rng (.cst (.int 0)) (.bf .len [.var 4])) (.cst (.bl true)) [13]) r h = .ok (.obj h.length) (h ++ [.lst false (fwL b)]) := by
  have hl : (fwL b).length = M := by unfold fwL; rw [List.length_map, List.length_range, ht]
  have c := comp_list (c := P.cc k) (r := r) (h := h) (t := .nm 13) (own := [13]) (elt := elt) (w := .rng 0 M) (fwL b) (by rw [fuelE, hl]; omega) (by rw [hl]; exact size_big (by omega)) (by rw [itAt_rng, hl]; simp) fun i y hy => by
    unfold fwL at hy
    rw [List.getElem?_map] at hy
    obtain ⟨x, hx, rfl⟩ := Option.map_eq_some_iff.mp hy
    have hi2 : i < M := by have := (List.getElem?_eq_some_iff.mp hx).1; rw [List.length_range, ht] at this; exact this
    rw [List.getElem?_range (by rw [ht]; exact hi2)] at hx
    injection hx with hx
    subst hx
    refine ⟨nI i, (wipeP r [13]).set 13 (some (nI i)), ?_, rfl, hs i hi2⟩
    rw [itAt_rng, if_pos hi2, Int.zero_add]
  rw [ev_comp, hi, bnd_ok, c]
  rfl
theorem rng_tab {k : Nat} {b : Box} (o : b.Ok) {r : EV.Env} {h : PH} (hr : r[4]? = some (some (tabP b.t))) : evI (P.cc k) (.rng (.cst (.int 0)) (.bf .len [.var 4])) r h = .ok (.rng 0 b.t.length) h := by
  refine evi_rngH ?_ (by have := o.t60; omega)
  rw [ev_bf, evL_cons, ev_varE hr, bnd_ok, evL_nil, bnd_ok, bnd_ok]
  simp only [bfop, len_tab, Option.map_some]
  rfl
section
variable {k j nd : Nat} {b : Box} (o : b.Ok) {h : PH} (cl : Cl h) {w : List Nat} {s : Nat} (hs : s < b.t.length) (hk : 12 ≤ k)
include o cl hk
theorem ask17 {r : EV.Env} {s : Nat} (hs : s < b.t.length) (h1 : r[1]? = some (some b.pv)) (h2 : r[13]? = some (some (nI s))) : evE (P.cc k) (.call 17 [.var 1, .var 13]) r h = .ok (fwP b s) h := by
  have e : (P.cc k).call 17 [b.pv, nI s] h = _ := (c17 o hs cl).at (by omega)
  exact ev_c2 (ev_varE h1) (ev_varE h2) e
include hs
theorem p41h {t1 : PV} : ∀ lo, lo = h.length → exS (P.cc k) (.asg (.nm 9) (.tup [.call 16 [.var 1], .comp (.call 17 [.var 1, .var 13]) (.nm 13) (.rng (.cst (.int 0)) (.bf .len [.var 4])) (.cst (.bl true)) [13], .callK 17 [] [.var 6, .var 1] [1, 0]])) [some (.obj j), some (b.pv), some (nI b.n), some (nI b.A), some (tabP b.t), some (wrdP w), some (nI s), some (wrdP (runR b.t s w).1), some (nI (runR b.t s w).2), some (t1), some (.obj nd), none, none, none] h = .nx [some (.obj j), some (b.pv), some (nI b.n), some (nI b.A), some (tabP b.t), some (wrdP w), some (nI s), some (wrdP (runR b.t s w).1), some (nI (runR b.t s w).2), some (.tup [.tup ((sk b).map .int), .obj lo, fwP b s]), some (.obj nd), none, none, none] (h ++ [.lst false (fwL b)]) := by
  intro lo hlo
  subst hlo
  have cl2 : Cl (h ++ [.lst false (fwL b)]) := cl.app (by
    rw [List.all_cons, List.all_nil, Bool.and_true]
    show oldL _ (fwL b) = true
    exact oldL_all fun x hx => by
      obtain ⟨y, _, rfl⟩ := List.mem_map.mp hx
      exact fw_old)
  have e1 : (P.cc k).call 16 [b.pv] h = _ := (c16 o cl).at (by omega)
  have e2 := comp_fw (k := k) o.t60 (b := b) (elt := .call 17 [.var 1, .var 13]) (r := [some (.obj j), some (b.pv), some (nI b.n), some (nI b.A), some (tabP b.t), some (wrdP w), some (nI s), some (wrdP (runR b.t s w).1), some (nI (runR b.t s w).2), some (t1), some (.obj nd), none, none, none]) (h := h) rfl (rng_tab o rfl) fun s hs => ask17 o cl hk hs rfl rfl
  have e4 : (P.cc k).call 17 [b.pv, nI s] (h ++ [.lst false (fwL b)]) = _ := (c17 o hs cl2).at (by omega)
  have ek : evE (P.cc k) (.callK 17 [] [.var 6, .var 1] [1, 0]) [some (.obj j), some (b.pv), some (nI b.n), some (nI b.A), some (tabP b.t), some (wrdP w), some (nI s), some (wrdP (runR b.t s w).1), some (nI (runR b.t s w).2), some (t1), some (.obj nd), none, none, none] (h ++ [.lst false (fwL b)]) = .ok (fwP b s) (h ++ [.lst false (fwL b)]) := by
    rw [ev_callK, evL_nil, bnd_ok, evL_cons, ev_varE (i := 6) rfl, bnd_ok, evL_cons, ev_varE (i := 1) rfl, bnd_ok, evL_nil, bnd_ok, bnd_ok, bnd_ok]
    exact e4
  rw [ex_asg, ev_t3 (ev_c1 (ev_varE rfl) e1) e2 ek, st_ok]
  rfl
end
end Lw
end
section
set_option Elab.async false
set_option linter.all false
set_option maxRecDepth 100000
namespace Lw
open PySem EV
theorem enc_keys : ∀ D : Dw, ((encD D).map (·.1)).map ofKey = (keys D).map nI
  | [] => rfl
  | p :: r => by
    show ofKey _ :: ((encD r).map (·.1)).map ofKey = nI p.1 :: (keys r).map nI
    rw [enc_keys r]; rfl
theorem ints_nat : ∀ l : List Nat, intsOf (l.map nI) = some (l.map fun n : Nat => (n : Int))
  | [] => rfl
  | x :: r => by
    show (intsOf (r.map nI)).map _ = _
    rw [ints_nat r]; rfl
theorem same_ints {h : PH} {d : Nat} {l : List Int} (hl : l.length ≤ 1048576) : Same h (d + 1) (.tup (l.map .int)) (.tup (l.map .int)) := same_tup (sl_map fun a _ => .int d a) (by rw [List.length_map]; exact hl)
theorem sl2 {h : PH} {b : Box} (o : b.Ok) {d : Nat} (i : Nat) (x y : PV) (hx : (fwL b)[i]? = some x) (hy : (fwL b)[i]? = some y) : Same h (d + 1) x y := (sl_map (l := List.range b.t.length) (f := fwP b) fun a _ => same_fw o).2 i x y hx hy
section
variable {k j nd lo : Nat} {b : Box} (o : b.Ok) {h : PH} (cl : Cl h) {w : List Nat} {s : Nat} (hs : s < b.t.length) (hk : 12 ≤ k) (hd : h[nd]? = some (.dK (encD (fws b)))) (hl : h[lo]? = some (.lst false (fwL b)))
theorem get_w {h : PH} {nd s : Nat} {b : Box} {r : EV.Env} {k v : Nat} (hd : h[nd]? = some (.dK (encD (fws b)))) (h1 : r[10]? = some (some (.obj nd))) (h2 : r[v]? = some (some (nI s))) : evE (P.cc k) (.mt .get2 (.var 10) [.var v, .cst .non]) r h = .ok (fwP b s) h := by
  have mt : mtTy .get2 (.obj nd) h = true := by unfold mtTy; simp only [hd]
  rw [ev_mt, ev_varE h1, bnd_ok, if_pos mt, evL_cons, ev_varE h2, bnd_ok, evL_cons, ev_cst, bnd_ok, evL_nil, bnd_ok, bnd_ok, bnd_ok]
  unfold mtop
  simp only [hd]
  show Rs.ok ((look (Sum.inl (s : Int)) (encD (fws b))).getD .non) _ = _
  rw [look_enc]; rfl
include o hs hk hd hl
theorem p41i {bd : List EV.S} : exS (P.cc k) (.ite (.not (.call 33 [.var 9, .tup [.con .tuple (.its (.con .sorted (.its (.con .list (.its (.var 10)))))), .comp (.mt .get2 (.var 10) [.var 13, .cst .non]) (.nm 13) (.rng (.cst (.int 0)) (.bf .len [.var 4])) (.cst (.bl true)) [13], .mt .get2 (.var 10) [.var 6, .cst .non]]])) bd []) [some (.obj j), some (b.pv), some (nI b.n), some (nI b.A), some (tabP b.t), some (wrdP w), some (nI s), some (wrdP (runR b.t s w).1), some (nI (runR b.t s w).2), some (.tup [.tup ((sk b).map .int), .obj lo, fwP b s]), some (.obj nd), none, none, none] h = .nx [some (.obj j), some (b.pv), some (nI b.n), some (nI b.A), some (tabP b.t), some (wrdP w), some (nI s), some (wrdP (runR b.t s w).1), some (nI (runR b.t s w).2), some (.tup [.tup ((sk b).map .int), .obj lo, fwP b s]), some (.obj nd), none, none, none] (h ++ [.lst false ((keys (fws b)).map nI)] ++ [.lst false ((sk b).map .int)] ++ [.lst false (fwL b)]) := by
  have hz : (keys (fws b)).length ≤ 60 := by
    have := sk_len o
    unfold sk at this
    rw [sortI_len, List.length_map] at this
    exact this
  have hzs := sk_len o
  have hln := (List.getElem?_eq_some_iff.mp hd).1
  have hlo := (List.getElem?_eq_some_iff.mp hl).1
  have a1 : evE (P.cc k) (.con .list (.its (.var 10))) [some (.obj j), some (b.pv), some (nI b.n), some (nI b.A), some (tabP b.t), some (wrdP w), some (nI s), some (wrdP (runR b.t s w).1), some (nI (runR b.t s w).2), some (.tup [.tup ((sk b).map .int), .obj lo, fwP b s]), some (.obj nd), none, none, none] h = .ok (.obj h.length) (h ++ [.lst false ((keys (fws b)).map nI)]) := by
    rw [ev_con, evi_its, ev_varE (i := 10) rfl, bnd_ok]
    unfold toItC
    simp only [hd]
    rw [ofOptI_some, bnd_ok]
    unfold conW
    simp only [enc_keys]
    rw [if_pos (by rw [show ((encD (fws b)).map (·.1)).length = (keys (fws b)).length from by rw [← List.length_map (f := ofKey), enc_keys, List.length_map]]; exact size_big (by omega))]
  have g1 : (h ++ [PO.lst false ((keys (fws b)).map nI)])[h.length]? = some (.lst false ((keys (fws b)).map nI)) := get_last
  have a2 : evE (P.cc k) (.con .sorted (.its (.con .list (.its (.var 10))))) [some (.obj j), some (b.pv), some (nI b.n), some (nI b.A), some (tabP b.t), some (wrdP w), some (nI s), some (wrdP (runR b.t s w).1), some (nI (runR b.t s w).2), some (.tup [.tup ((sk b).map .int), .obj lo, fwP b s]), some (.obj nd), none, none, none] h = .ok (.obj (h.length + 1)) (h ++ [.lst false ((keys (fws b)).map nI)] ++ [.lst false ((sk b).map .int)]) := by
    rw [ev_con, evi_its, a1, bnd_ok]
    unfold toItC
    simp only [g1]
    rw [ofOptI_some, bnd_ok]
    unfold conW
    simp only [itList, g1, conop, ints_nat]
    rw [if_pos (by rw [List.length_map]; exact size_big (by omega)), List.length_append]
    rfl
  have g2 : (h ++ [PO.lst false ((keys (fws b)).map nI)] ++ [PO.lst false ((sk b).map .int)])[h.length + 1]? = some (.lst false ((sk b).map .int)) := by
    rw [List.getElem?_append_right (by simp)]; simp
  have a3 : evE (P.cc k) (.con .tuple (.its (.con .sorted (.its (.con .list (.its (.var 10))))))) [some (.obj j), some (b.pv), some (nI b.n), some (nI b.A), some (tabP b.t), some (wrdP w), some (nI s), some (wrdP (runR b.t s w).1), some (nI (runR b.t s w).2), some (.tup [.tup ((sk b).map .int), .obj lo, fwP b s]), some (.obj nd), none, none, none] h = .ok (.tup ((sk b).map .int)) (h ++ [.lst false ((keys (fws b)).map nI)] ++ [.lst false ((sk b).map .int)]) := by
    rw [ev_con, evi_its, a2, bnd_ok]
    unfold toItC
    simp only [g2]
    rw [ofOptI_some, bnd_ok]
    unfold conW
    simp only [itList, g2, conop, List.length_map]
    rw [if_pos (size_big (by omega))]
  have d2 : (h ++ [PO.lst false ((keys (fws b)).map nI)] ++ [PO.lst false ((sk b).map .int)])[nd]? = some (.dK (encD (fws b))) := by
    rw [List.append_assoc, List.getElem?_append_left hln]; exact hd
  have d3 : (h ++ [PO.lst false ((keys (fws b)).map nI)] ++ [PO.lst false ((sk b).map .int)] ++ [PO.lst false (fwL b)])[nd]? = some (.dK (encD (fws b))) := by
    rw [List.append_assoc, List.append_assoc, List.getElem?_append_left hln]; exact hd
  have l3 : (h ++ [PO.lst false ((keys (fws b)).map nI)] ++ [PO.lst false ((sk b).map .int)] ++ [PO.lst false (fwL b)])[lo]? = some (.lst false (fwL b)) := by
    rw [List.append_assoc, List.append_assoc, List.getElem?_append_left hlo]; exact hl
  have a4 := comp_fw (k := k) o.t60 (b := b) (elt := .mt .get2 (.var 10) [.var 13, .cst .non]) (r := [some (.obj j), some (b.pv), some (nI b.n), some (nI b.A), some (tabP b.t), some (wrdP w), some (nI s), some (wrdP (runR b.t s w).1), some (nI (runR b.t s w).2), some (.tup [.tup ((sk b).map .int), .obj lo, fwP b s]), some (.obj nd), none, none, none]) (h := h ++ [PO.lst false ((keys (fws b)).map nI)] ++ [PO.lst false ((sk b).map .int)]) rfl (rng_tab o rfl) fun s hs => get_w d2 rfl rfl
  have a5 : evE (P.cc k) (.mt .get2 (.var 10) [.var 6, .cst .non]) [some (.obj j), some (b.pv), some (nI b.n), some (nI b.A), some (tabP b.t), some (wrdP w), some (nI s), some (wrdP (runR b.t s w).1), some (nI (runR b.t s w).2), some (.tup [.tup ((sk b).map .int), .obj lo, fwP b s]), some (.obj nd), none, none, none] (h ++ [PO.lst false ((keys (fws b)).map nI)] ++ [PO.lst false ((sk b).map .int)] ++ [PO.lst false (fwL b)]) = .ok (fwP b s) (h ++ [PO.lst false ((keys (fws b)).map nI)] ++ [PO.lst false ((sk b).map .int)] ++ [PO.lst false (fwL b)]) := get_w d3 rfl rfl
  have fl : (fwL b).length ≤ 1048576 := by unfold fwL; rw [List.length_map, List.length_range]; have := o.t60; omega
  have sl : SameL (h ++ [PO.lst false ((keys (fws b)).map nI)] ++ [PO.lst false ((sk b).map .int)] ++ [PO.lst false (fwL b)]) 1 (fwL b) (fwL b) := sl_map fun a _ => same_fw o
  exact not_same (d := 5) (ev_varE rfl) (ev_t3 a3 a4 a5) (same_tup (sl_cons (same_ints (by omega)) (sl_cons (.lst 3 _ _ (fwL b) (fwL b) l3 get_last rfl fl fun i x y hx hy => sl2 o i x y hx hy) (sl_cons (same_fw o) sl_nil))) (by show 3 ≤ 1048576; decide)) (by omega)
end
end Lw
end
section
set_option Elab.async false
set_option linter.all false
set_option maxRecDepth 100000
namespace Lw
open PySem EV
theorem cut_take {xs : List PV} {k : Nat} : cutP xs none (some (k : Int)) = xs.take k := by
  unfold cutP
  rw [HT.sIx_nat]
  show (xs.drop 0).take (min k xs.length - 0) = _
  rw [List.drop_zero, Nat.sub_zero]
  by_cases h : k ≤ xs.length
  · rw [Nat.min_eq_left h]
  · rw [Nat.min_eq_right (by omega), List.take_of_length_le (Nat.le_refl _), List.take_of_length_le (by omega)]
theorem cut_drop {xs : List PV} {k : Nat} : cutP xs (some (k : Int)) none = xs.drop k := by
  unfold cutP
  rw [HT.sIx_nat]
  show (xs.drop (min k xs.length)).take (xs.length - min k xs.length) = _
  rw [List.take_of_length_le (by rw [List.length_drop]; omega)]
  by_cases h : k ≤ xs.length
  · rw [Nat.min_eq_left h]
  · rw [Nat.min_eq_right (by omega), List.drop_eq_nil_of_le (Nat.le_refl _), List.drop_eq_nil_of_le (by omega)]
theorem slc_wrd9 {w : List Nat} {k v : Nat} {r : EV.Env} {h : PH} (hv : r[v]? = some (some (wrdP w))) : evE (P.cc k) (.slc (.var v) (.nop) (.cst (.int 9))) r h = .ok (wrdP (w.take 9)) h := by
  rw [ev_slc, ev_varE hv, bnd_ok]
  have e : slcop (wrdP w) none (some 9) h = .ok (wrdP (w.take 9)) h := by
    show Rs.ok (PV.tup (cutP (w.map nI) none (some ((9 : Nat) : Int)))) h = _
    rw [cut_take, ← List.map_take]
  exact e

theorem WOk.cutw {n k : Nat} {w : List Nat} (hw : WOk n w) : WOk n (w.take k) := ⟨by rw [List.length_take]; have := hw.1; omega, fun x hx => hw.2 x (List.mem_of_mem_take hx)⟩
theorem ev_pow {k : Nat} {r : EV.Env} {h : PH} {a n : Nat} (hn : n ≤ 1000000) (ha : a < 2 ^ 64) : evE (P.cc k) (.bin .pow (.cst (.int (a : Nat))) (.cst (.int (n : Nat)))) r h = .ok (nI (a ^ n)) h := by
  have e : binop .pow (.int (a : Int)) (.int (n : Int)) h = .ok (.int (((a ^ n : Nat)) : Int)) h := by
    show (if 0 ≤ (n : Int) ∧ (n : Int) ≤ 1000000 ∧ (a : Int).natAbs < 2 ^ 64 then Rs.ok (PV.int ((a : Int) ^ (n : Int).toNat)) h else .no) = _
    rw [if_pos ⟨by omega, by omega, by simpa using ha⟩, Int.toNat_natCast, Int.natCast_pow]
  rw [ev_bin, ev_cst, bnd_ok, ev_cst, bnd_ok, e]
theorem p41j {k j nd : Nat} {b : Box} (o : b.Ok) {h : PH} {w : List Nat} (hw : WOk b.n w) {s : Nat} {T2 : PV} (hk : 12 ≤ k) : exS (P.cc k) (.asg (.nm 11) (.call 38 [.var 4, .slc (.var 5) (.nop) (.cst (.int 9))])) [some (.obj j), some (b.pv), some (nI b.n), some (nI b.A), some (tabP b.t), some (wrdP w), some (nI s), some (wrdP (runR b.t s w).1), some (nI (runR b.t s w).2), some (T2), some (.obj nd), none, none, none] h = .nx [some (.obj j), some (b.pv), some (nI b.n), some (nI b.A), some (tabP b.t), some (wrdP w), some (nI s), some (wrdP (runR b.t s w).1), some (nI (runR b.t s w).2), some (T2), some (.obj nd), some (mapP b.t.length (eff b.t (w.take 9))), none, none] h := by
  have e : (P.cc k).call 38 [tabP b.t, wrdP (w.take 9)] h = _ := (c38 o hw.cutw).at (by omega)
  rw [ex_asg, ev_c2 (ev_varE rfl) (slc_wrd9 rfl) e, st_ok]
  rfl
/-- the turns asked for -/
theorem turns_ev {k j ci B : Nat} {r : EV.Env} {h : PH} (hr : r[0]? = some (some (.obj j))) (m : Mok h j ci B) (hB : B + 10000 < 1099511600000) (hk : 3 ≤ k) : ∃ (l : List Nat) (h' : PH), evE (P.cc k) (.tup [.cst (.int 0), .cst (.int 1), .call 31 [.var 0, .cst (.int 5)], .call 31 [.var 0, .cst (.int 200)], .bin .pow (.cst (.int 10)) (.cst (.int 18)), .bin .sub (.bin .pow (.cst (.int 10)) (.cst (.int 18))) (.call 31 [.var 0, .bin .pow (.cst (.int 10)) (.cst (.int 6))])]) r h = .ok (.tup (l.map nI)) h' ∧ (∀ t ∈ l, t ≤ 1000000000000000000) ∧ l.length = 6 ∧ Mok h' j ci (B + 3) ∧ Sim j h h' := by
  obtain ⟨d1, h1, e1, l1, m1, s1⟩ := ev_draw (k := k) (r := r) (e := .cst (.int 5)) hr m (by omega) (L := 5) ev_cst (by omega) (by omega) (by omega)
  obtain ⟨d2, h2, e2, l2, m2, s2⟩ := ev_draw (k := k) (r := r) (e := .cst (.int 200)) hr m1 (by omega) (L := 200) ev_cst (by omega) (by omega) (by omega)
  obtain ⟨d3, h3, e3, l3, m3, s3⟩ := ev_draw (k := k) (r := r) (e := .bin .pow (.cst (.int 10)) (.cst (.int 6))) hr m2 (by omega) (L := 1000000) (ev_pow (a := 10) (n := 6) (by omega) (by omega)) (by omega) (by omega) (by omega)
  have p18 : evE (P.cc k) (.bin .pow (.cst (.int 10)) (.cst (.int 18))) r h2 = .ok (nI 1000000000000000000) h2 := ev_pow (a := 10) (n := 18) (by omega) (by omega)
  have e6 : evE (P.cc k) (.bin .sub (.bin .pow (.cst (.int 10)) (.cst (.int 18))) (.call 31 [.var 0, .bin .pow (.cst (.int 10)) (.cst (.int 6))])) r h2 = .ok (nI (1000000000000000000 - d3)) h3 := by
    rw [ev_bin, p18, bnd_ok, e3, bnd_ok]
    have := @sub_int ((1000000000000000000 : Nat) : Int) (d3 : Int) h3
    have q : (((1000000000000000000 : Nat) : Int) - (d3 : Int)) = ((1000000000000000000 - d3 : Nat) : Int) := by omega
    rw [q] at this
    exact this
  refine ⟨[0, 1, d1, d2, 1000000000000000000, 1000000000000000000 - d3], h3, ?_, ?_, rfl, m3, (s1.trans s2).trans s3⟩
  · rw [ev_tup, evL_cons, ev_cst, bnd_ok, evL_cons, ev_cst, bnd_ok, evL_cons, e1, bnd_ok, evL_cons, e2, bnd_ok, evL_cons, p18, bnd_ok, evL_cons, e6, bnd_ok, evL_nil, bnd_ok, bnd_ok, bnd_ok, bnd_ok, bnd_ok, bnd_ok, bnd_ok, if_pos (size_big (by show 6 ≤ 1048576; decide))]
    rfl
  · intro t ht
    simp at ht
    omega
theorem p41k {k j ci B nd : Nat} {b : Box} (o : b.Ok) {h : PH} (m : Mok h j ci B) (hB : B + 10000 < 1099511600000) {w : List Nat} (hw : WOk b.n w) {s : Nat} {T2 : PV} (hk : 12 ≤ k) : ∃ (z12 : Option PV) (h' : PH), exS (P.cc k) (.forS (.nm 12) (.itv (.tup [.cst (.int 0), .cst (.int 1), .call 31 [.var 0, .cst (.int 5)], .call 31 [.var 0, .cst (.int 200)], .bin .pow (.cst (.int 10)) (.cst (.int 18)), .bin .sub (.bin .pow (.cst (.int 10)) (.cst (.int 18))) (.call 31 [.var 0, .bin .pow (.cst (.int 10)) (.cst (.int 6))])])) [.ite (.not (.call 33 [.call 18 [.var 1, .slc (.var 5) (.nop) (.cst (.int 9)), .var 12], .idx (.call 40 [.var 11, .var 12]) (.cst (.int 0))])) [.ret (.cst (.bl false))] []]) [some (.obj j), some (b.pv), some (nI b.n), some (nI b.A), some (tabP b.t), some (wrdP w), some (nI s), some (wrdP (runR b.t s w).1), some (nI (runR b.t s w).2), some (T2), some (.obj nd), some (mapP b.t.length (eff b.t (w.take 9))), none, none] h = .nx [some (.obj j), some (b.pv), some (nI b.n), some (nI b.A), some (tabP b.t), some (wrdP w), some (nI s), some (wrdP (runR b.t s w).1), some (nI (runR b.t s w).2), some (T2), some (.obj nd), some (mapP b.t.length (eff b.t (w.take 9))), z12, none] h' ∧ Mok h' j ci (B + 3) ∧ Sim j h h' := by
  obtain ⟨l, h1, e1, hl, hn, m1, s1⟩ := turns_ev (k := k) (r := [some (.obj j), some (b.pv), some (nI b.n), some (nI b.A), some (tabP b.t), some (wrdP w), some (nI s), some (wrdP (runR b.t s w).1), some (nI (runR b.t s w).2), some (T2), some (.obj nd), some (mapP b.t.length (eff b.t (w.take 9))), none, none]) (h := h) rfl m hB (by omega)
  refine for_run (w := .vals (l.map nI)) (N := 6) (h1 := h1) (I := fun i r h2 => h1 = h2 ∧ ∃ z12, r = [some (.obj j), some (b.pv), some (nI b.n), some (nI b.A), some (tabP b.t), some (wrdP w), some (nI s), some (wrdP (runR b.t s w).1), some (nI (runR b.t s w).2), some (T2), some (.obj nd), some (mapP b.t.length (eff b.t (w.take 9))), z12, none]) (Post := fun z => ∃ (z12 : Option PV) (h' : PH), z = .nx [some (.obj j), some (b.pv), some (nI b.n), some (nI b.A), some (tabP b.t), some (wrdP w), some (nI s), some (wrdP (runR b.t s w).1), some (nI (runR b.t s w).2), some (T2), some (.obj nd), some (mapP b.t.length (eff b.t (w.take 9))), z12, none] h' ∧ Mok h' j ci (B + 3) ∧ Sim j h h') ?_ (by rw [fuelE]; omega) ⟨rfl, none, rfl⟩ (fun r h2 ⟨q1, z12, q2⟩ => ⟨?_, z12, h1, by rw [← q1, q2], m1, s1⟩) fun i r h2 hi ⟨q1, z12, q2⟩ => ?_
  · rw [evi_itv, e1, bnd_ok]; rfl
  · rw [itAt_vals, List.getElem?_eq_none (by rw [List.length_map, hn]; omega)]
  · subst q1 q2
    have hi2 : i < l.length := by omega
    have ht : l[i] ≤ 1000000000000000000 := hl _ (List.getElem_mem hi2)
    refine ⟨nI l[i], [some (.obj j), some (b.pv), some (nI b.n), some (nI b.A), some (tabP b.t), some (wrdP w), some (nI s), some (wrdP (runR b.t s w).1), some (nI (runR b.t s w).2), some (T2), some (.obj nd), some (mapP b.t.length (eff b.t (w.take 9))), some (nI l[i]), none], ?_, rfl, Or.inl ⟨[some (.obj j), some (b.pv), some (nI b.n), some (nI b.A), some (tabP b.t), some (wrdP w), some (nI s), some (wrdP (runR b.t s w).1), some (nI (runR b.t s w).2), some (T2), some (.obj nd), some (mapP b.t.length (eff b.t (w.take 9))), some (nI l[i]), none], h1, ?_, rfl, some (nI l[i]), rfl⟩⟩
    · rw [itAt_vals, List.getElem?_map, List.getElem?_eq_getElem hi2]; rfl
    · have e18 : (P.cc k).call 18 [b.pv, wrdP (w.take 9), nI l[i]] h1 = _ := (c18 o hw.cutw ht m1.cl).at (by omega)
      have e40 : (P.cc k).call 40 [mapP b.t.length (eff b.t (w.take 9)), nI l[i]] h1 = _ := (c40 o.t1 o.t60 (eff_lt o hw.cutw.2) (by omega)).at (by omega)
      have ei : evE (P.cc k) (.idx (.call 40 [.var 11, .var 12]) (.cst (.int 0))) [some (.obj j), some (b.pv), some (nI b.n), some (nI b.A), some (tabP b.t), some (wrdP w), some (nI s), some (wrdP (runR b.t s w).1), some (nI (runR b.t s w).2), some (T2), some (.obj nd), some (mapP b.t.length (eff b.t (w.take 9))), some (nI l[i]), none] h1 = .ok (nI (itf (eff b.t (w.take 9)) l[i] 0)) h1 := by
        rw [ev_idx, ev_c2 (ev_varE rfl) (ev_varE rfl) e40, bnd_ok, ev_cst, bnd_ok]
        have := @idx_map b.t.length (itf (eff b.t (w.take 9)) l[i]) 0 o.t1 h1
        show ofOpt h1 (idxop _ (nI 0) h1) = _
        rw [this]; rfl
      rw [ex_cons_nx (not_same (d := 5) (ev_c3 (ev_varE rfl) (slc_wrd9 rfl) (ev_varE rfl) e18) ei (.int _ _) (by omega)), ex_nil]
theorem p41l {k j nd : Nat} {b : Box} (o : b.Ok) {h : PH} (cl : Cl h) {r : EV.Env} (h1 : r[1]? = some (some b.pv)) (hk : 12 ≤ k) : exS (P.cc k) (.ret (.call 33 [.callK 18 [] [.cst (.int 7), .tup [], .var 1] [2, 1, 0], .cst (.int 0)])) r h = .rt (.bl true) h := by
  have e18 : (P.cc k).call 18 [b.pv, wrdP [], nI 7] h = _ := (c18 o (w := []) ⟨by simp, by simp⟩ (by omega) cl).at (by omega)
  have ek : evE (P.cc k) (.callK 18 [] [.cst (.int 7), .tup [], .var 1] [2, 1, 0]) r h = .ok (nI 0) h := by
    rw [ev_callK, evL_nil, bnd_ok, evL_cons, ev_cst, bnd_ok, evL_cons, ev_tup, evL_nil, bnd_ok, if_pos (size_big (by show 0 ≤ 1048576; decide)), bnd_ok, evL_cons, ev_varE h1, bnd_ok, evL_nil, bnd_ok, bnd_ok, bnd_ok, bnd_ok]
    exact e18
  have e33 : (P.cc k).call 33 [nI 0, nI 0] h = _ := (c33 0 _ _ (.int 0 0)).at (by omega)
  have q : evE (P.cc k) (.call 33 [.callK 18 [] [.cst (.int 7), .tup [], .var 1] [2, 1, 0], .cst (.int 0)]) r h = .ok (.bl true) h := ev_c2 ek ev_cst e33
  rw [ex_ret, q, st_ok]
end Lw
end
section
set_option Elab.async false
set_option linter.all false
set_option maxRecDepth 100000
namespace Lw
open PySem EV
theorem fwL_flat {b : Box} {n : Nat} : (PO.lst false (fwL b)).old n = true := by
  show oldL n (fwL b) = true
  exact oldL_all fun x hx => by
    obtain ⟨y, _, rfl⟩ := List.mem_map.mp hx
    exact fw_old
theorem ints_flat {l : List Int} {n : Nat} : (PO.lst false (l.map PV.int)).old n = true := oldL_ints _
theorem c41 {h : PH} {j ci B : Nat} {b : Box} (o : b.Ok) (m : Mok h j ci B) (hB : B + 20000 < 1099511600000) {k : Nat} (hk : 13 ≤ k) : ∃ h', callF P k 41 [.obj j, b.pv] h = .ok (.bl true) h' ∧ Mok h' j ci (B + 303) ∧ Sim j h h' := by
  obtain ⟨k, rfl⟩ : ∃ i, k = i + 1 := ⟨k - 1, by omega⟩
  have a1 : exS (P.cc k) (.asg (.tup [.nm 2, .nm 3, .nm 4]) (.var 1)) [some (.obj j), some (b.pv), none, none, none, none, none, none, none, none, none, none, none, none] h = .nx [some (.obj j), some (b.pv), some (nI b.n), some (nI b.A), some (tabP b.t), none, none, none, none, none, none, none, none, none] h := by
    rw [ex_asg, ev_varE (i := 1) rfl, st_ok]; rfl
  obtain ⟨w, s, h1, a2, hw, hwl, hs, m1, x1⟩ := p41a (k := k) o m (by omega) (by omega)
  have a3 := p41b (k := k) (j := j) (s := s) o m1.cl hw (by omega)
  have a4 := p41c (k := k) (j := j) (s := s) o m1.cl hw (by omega)
  have a5 := p41d (k := k) (j := j) (s := s) (bd := [.ret (.cst (.bl false))]) o m1.cl hw (by omega)
  have a6 := p41e (k := k) (j := j) o m1.cl hw hs (by omega)
  have a7 := p41f (k := k) (j := j) (bd := [.ret (.cst (.bl false))]) o m1.cl hw hs (by omega)
  obtain ⟨nd, h2, a8, hd, cl2, g, q2, gf⟩ := p41g (k := k) (j := j) (s := s) (w := w) o m1.cl (by omega)
  have m2 : Mok h2 j ci (B + 300) := by
    rw [q2]
    refine m1.app ?_
    rw [List.all_eq_true] at gf ⊢
    exact fun o ho => PO.old_mono (Nat.zero_le _) (gf o ho)
  have x2 : SimX j h h2 := by rw [q2]; exact x1.app
  have a9 := p41h (k := k) (j := j) (nd := nd) (w := w) (t1 := .tup [b.pv, .bl true, wrdP (runR b.t 0 w).1, nI (runR b.t 0 w).2]) o cl2 hs (by omega) h2.length rfl
  have one : ∀ {o : PO} {n : Nat}, o.old n = true → [o].all (·.old n) = true := fun q => by rw [List.all_cons, List.all_nil, Bool.and_true]; exact q
  have m3 : Mok (h2 ++ [.lst false (fwL b)]) j ci (B + 300) := m2.app (one fwL_flat)
  have hd3 : (h2 ++ [PO.lst false (fwL b)])[nd]? = some (.dK (encD (fws b))) := get_old hd
  have a10 := p41i (k := k) (j := j) (nd := nd) (w := w) (bd := [.ret (.cst (.bl false))]) o hs (by omega) hd3 (lo := h2.length) get_last
  have m4 : Mok (h2 ++ [.lst false (fwL b)] ++ [.lst false ((keys (fws b)).map nI)] ++ [.lst false ((sk b).map .int)] ++ [.lst false (fwL b)]) j ci (B + 300) := ((m3.app (one lst_flat)).app (one ints_flat)).app (one fwL_flat)
  have x4 : SimX j h (h2 ++ [.lst false (fwL b)] ++ [.lst false ((keys (fws b)).map nI)] ++ [.lst false ((sk b).map .int)] ++ [.lst false (fwL b)]) := x2.app.app.app.app
  generalize (h2 ++ [.lst false (fwL b)] ++ [.lst false ((keys (fws b)).map nI)] ++ [.lst false ((sk b).map .int)] ++ [.lst false (fwL b)]) = h4 at m4 x4 a10
  have a11 := p41j (k := k) (j := j) (nd := nd) o (h := h4) hw (s := s) (T2 := .tup [.tup ((sk b).map .int), .obj h2.length, fwP b s]) (by omega)
  obtain ⟨z12, h5, a12, m5, s5⟩ := p41k (k := k) (nd := nd) o m4 (by omega) hw (s := s) (T2 := .tup [.tup ((sk b).map .int), .obj h2.length, fwP b s]) (by omega)
  have a13 := p41l (k := k) (j := j) (nd := nd) o m5.cl (r := [some (.obj j), some (b.pv), some (nI b.n), some (nI b.A), some (tabP b.t), some (wrdP w), some (nI s), some (wrdP (runR b.t s w).1), some (nI (runR b.t s w).2), some (.tup [.tup ((sk b).map .int), .obj h2.length, fwP b s]), some (.obj nd), some (mapP b.t.length (eff b.t (w.take 9))), z12, none]) rfl (by omega)
  obtain ⟨c1, c2, c3⟩ := cut m (x4.sim s5) m5 (v := .bl true) rfl
  refine ⟨h5.take h.length, ?_, c2, c3⟩
  rw [callF_def p41 rfl]
  show outOf _ (exB _ _ [some (.obj j), some (b.pv), none, none, none, none, none, none, none, none, none, none, none, none] h) = _
  rw [show (FD.mk 2 14 b41).body = b41 from rfl]
  unfold b41
  rw [ex_cons_nx a1, ex_cons_nx a2, ex_cons_nx a3, ex_cons_nx a4, ex_cons_nx a5, ex_cons_nx a6, ex_cons_nx a7, ex_cons_nx a8, ex_cons_nx a9, ex_cons_nx a10, ex_cons_nx a11, ex_cons_nx a12, ex_cons, a13]
  simp only [out_rt]
  rw [c1]
end Lw
end
section
set_option Elab.async false
set_option linter.all false
set_option maxRecDepth 100000
namespace Lw
open PySem EV
/-- one word drawn -/
theorem word_ev {k j ci B n : Nat} {r : EV.Env} (h0 : r[0]? = some (some (.obj j))) (h2 : r[2]? = some (some (nI n))) {h : PH} (m : Mok h j ci B) (hB : B + 10000 < 1099511627776) (n1 : 1 ≤ n) (n4 : n ≤ 4) (hk : 3 ≤ k) : ∃ (w : List Nat) (h' : PH), evE (P.cc k) (.bin .add (.tup [.call 31 [.var 0, .var 2]]) (.call 35 [.var 0, .var 2, .call 32 [.var 0, .lst [.cst (.int 4), .cst (.int 39)]]])) r h = .ok (wrdP w) h' ∧ (1 ≤ w.length ∧ w.length ≤ 40 ∧ ∀ x ∈ w, x < n) ∧ Mok h' j ci (B + 42) ∧ SimX j h h' := by
  obtain ⟨d, h1, e1, l1, m1, s1⟩ := ev_draw (k := k) (r := r) (e := .var 2) h0 m (by omega) (L := n) (ev_varE h2) (by omega) (by omega) (by omega)
  have el : evE (P.cc k) (.lst [.cst (.int 4), .cst (.int 39)]) r h1 = .ok (.obj h1.length) (h1 ++ [.lst false ([4, 39].map nI)]) := by
    rw [ev_lst, evL_cons, ev_cst, bnd_ok, evL_cons, ev_cst, bnd_ok, evL_nil, bnd_ok, bnd_ok, bnd_ok, if_pos (size_big (by show 2 ≤ 1048576; decide))]
    rfl
  have m1a : Mok (h1 ++ [.lst false ([4, 39].map nI)]) j ci (B + 1) := m1.app (by rw [List.all_cons, List.all_nil, Bool.and_true]; exact lst_flat)
  have hj : h1.length ≠ j := by have := m1.ltj; omega
  obtain ⟨v, h3, e2, hv, m2, s2⟩ := c32 m1a (by omega) (s := h1.length) (l := [4, 39]) get_last hj (by decide) (by decide) (k := k) (by omega)
  have hv2 : v ≤ 39 := by
    simp at hv
    omega
  obtain ⟨w, h4, e3, wl, wx, m3, s3⟩ := c35 m2 (by omega) (n := n) (most := v) (by omega) (by omega) (by omega) (k := k) (by omega)
  refine ⟨d :: w, h4, ?_, ⟨by simp, by simp; omega, fun x hx => ?_⟩, m3.mono (by omega), ((SimX.refl.sim s1).app.sim s2).sim s3⟩
  · have e32 : evE (P.cc k) (.call 32 [.var 0, .lst [.cst (.int 4), .cst (.int 39)]]) r h1 = .ok (nI v) h3 := by
      rw [ev_call, evL_cons, ev_varE h0, bnd_ok, evL_cons, el, bnd_ok, evL_nil, bnd_ok, bnd_ok, bnd_ok]
      exact e2
    have e35 : evE (P.cc k) (.call 35 [.var 0, .var 2, .call 32 [.var 0, .lst [.cst (.int 4), .cst (.int 39)]]]) r h1 = .ok (wrdP w) h4 := by
      rw [ev_call, evL_cons, ev_varE h0, bnd_ok, evL_cons, ev_varE h2, bnd_ok, evL_cons, e32, bnd_ok, evL_nil, bnd_ok, bnd_ok, bnd_ok, bnd_ok]
      exact e3
    have et : evE (P.cc k) (.tup [.call 31 [.var 0, .var 2]]) r h = .ok (.tup [nI d]) h1 := by
      rw [ev_tup, evL_cons, e1, bnd_ok, evL_nil, bnd_ok, bnd_ok, if_pos (size_big (by show 1 ≤ 1048576; decide))]
    rw [ev_bin, et, bnd_ok, e35, bnd_ok]
    show (if ([nI d] : List PV).length + (w.map nI).length ≤ sizeLine then Rs.ok (PV.tup ([nI d] ++ w.map nI)) h4 else .no) = _
    rw [if_pos (size_big (by rw [List.length_map]; show 1 + w.length ≤ 1048576; omega))]
    rfl
  · rcases List.mem_cons.mp hx with q | q
    · rw [q]; exact l1
    · exact wx x q
end Lw
end
section
set_option Elab.async false
set_option linter.all false
set_option maxRecDepth 100000
namespace Lw
open PySem EV
theorem p42a {k j ci B : Nat} {b : Box} (o : b.Ok) {h : PH} (m : Mok h j ci B) (hB : B + 20000 < 1099511600000) (hk : 3 ≤ k) : ∃ (ws : List (List Nat)) (h' : PH), exS (P.cc k) (.asg (.nm 5) (.con .tuple (.itc (.bin .add (.tup [.call 31 [.var 0, .var 2]]) (.call 35 [.var 0, .var 2, .call 32 [.var 0, .lst [.cst (.int 4), .cst (.int 39)]]])) (.nm 13) (.rng (.cst (.int 0)) (.call 31 [.var 0, .cst (.int 6)])) (.cst (.bl true)) [13]))) [some (.obj j), some (b.pv), some (nI b.n), some (nI b.A), some (tabP b.t), none, none, none, none, none, none, none, none, none, none] h = .nx [some (.obj j), some (b.pv), some (nI b.n), some (nI b.A), some (tabP b.t), some (wsP ws), none, none, none, none, none, none, none, none, none] h' ∧ WsOk b.n ws ∧ ws.length ≤ 6 ∧ Mok h' j ci (B + 301) ∧ SimX j h h' := by
  obtain ⟨n, h1, e1, l1, m1, s1⟩ := ev_draw (k := k) (r := [some (.obj j), some (b.pv), some (nI b.n), some (nI b.A), some (tabP b.t), none, none, none, none, none, none, none, none, none, none]) (e := .cst (.int 6)) rfl m (by omega) (L := 6) ev_cst (by omega) (by omega) (by omega)
  have hit : evI (P.cc k) (.rng (.cst (.int 0)) (.call 31 [.var 0, .cst (.int 6)])) [some (.obj j), some (b.pv), some (nI b.n), some (nI b.A), some (tabP b.t), none, none, none, none, none, none, none, none, none, none] h = .ok (.rng 0 n) h1 := evi_rngH e1 (by omega)
  obtain ⟨acc, h2, el, ws, ha, hw, hg, m2, sm2⟩ := comp_run (c := P.cc k) (r := [some (.obj j), some (b.pv), some (nI b.n), some (nI b.A), some (tabP b.t), none, none, none, none, none, none, none, none, none, none]) (h := h1) (t := .nm 13) (own := [13]) (cond := .cst (.bl true)) (elt := (.bin .add (.tup [.call 31 [.var 0, .var 2]]) (.call 35 [.var 0, .var 2, .call 32 [.var 0, .lst [.cst (.int 4), .cst (.int 39)]]]))) (w := .rng 0 n) (N := n) (I := fun i acc h2 => ∃ ws : List (List Nat), acc = ws.map wrdP ∧ ws.length = i ∧ (∀ w ∈ ws, 1 ≤ w.length ∧ w.length ≤ 40 ∧ ∀ x ∈ w, x < b.n) ∧ Mok h2 j ci (B + 1 + 42 * i) ∧ SimX j h1 h2) (by rw [fuelE]; omega) ⟨[], rfl, rfl, by simp, m1, SimX.refl⟩
    (fun acc h2 _ => by rw [itAt_rng]; simp) (fun i acc h2 hi ⟨w, ha, hw, hg, m2, sm2⟩ => by
      obtain ⟨p, h3, e3, hp, m3, sm3⟩ := word_ev (k := k) (n := b.n) (r := (wipeP [some (.obj j), some (b.pv), some (nI b.n), some (nI b.A), some (tabP b.t), none, none, none, none, none, none, none, none, none, none] [13]).set 13 (some (nI i))) rfl rfl m2 (by omega) o.n1 o.n4 (by omega)
      refine ⟨nI i, (wipeP [some (.obj j), some (b.pv), some (nI b.n), some (nI b.A), some (tabP b.t), none, none, none, none, none, none, none, none, none, none] [13]).set 13 (some (nI i)), true, h2, by rw [itAt_rng]; simp [hi], rfl, ev_cst, ?_⟩
      rw [if_pos rfl]
      refine ⟨wrdP p, h3, e3, by rw [ha, List.length_map, hw, sizeLine_eq]; omega, w ++ [p], by rw [ha]; simp, by simp [hw], fun x hx => ?_, m3.mono (by omega), sm2.trans sm3⟩
      rcases List.mem_append.mp hx with q | q
      · exact hg x q
      · rw [List.mem_singleton.mp q]; exact hp)
  have hz : acc.length ≤ sizeLine := by rw [ha, List.length_map, hw]; exact size_big (by omega)
  refine ⟨ws, h2, ?_, ⟨by omega, hg⟩, by omega, m2.mono (by omega), (SimX.refl.sim s1).trans sm2⟩
  have e : evE (P.cc k) (.con .tuple (.itc (.bin .add (.tup [.call 31 [.var 0, .var 2]]) (.call 35 [.var 0, .var 2, .call 32 [.var 0, .lst [.cst (.int 4), .cst (.int 39)]]])) (.nm 13) (.rng (.cst (.int 0)) (.call 31 [.var 0, .cst (.int 6)])) (.cst (.bl true)) [13])) [some (.obj j), some (b.pv), some (nI b.n), some (nI b.A), some (tabP b.t), none, none, none, none, none, none, none, none, none, none] h = .ok (wsP ws) h2 := by
    rw [ev_con, evi_itc, hit, bnd_ok, el]
    simp only [valsIt, bnd_ok, conW, itList, conop]
    rw [if_pos hz, ha]
    rfl
  rw [ex_asg, e, st_ok]
  rfl
/-- the rows -/
def runsP (b : Box) (ws : List (List Nat)) : List PV := (ws.map (runOf b)).map rowP
theorem p42b {k j : Nat} {b : Box} (o : b.Ok) {h : PH} {ws : List (List Nat)} (hws : WsOk b.n ws) (hk : 12 ≤ k) : ∀ lo, lo = h.length → exS (P.cc k) (.asg (.nm 6) (.comp (.con .tuple (.itc (.tup [.var 10, .var 11]) (.tup [.nm 10, .nm 11]) (.zip (.var 14) (.idx (.call 36 [.var 4, .cst (.int 0), .var 14]) (.cst (.int 0)))) (.cst (.bl true)) [10, 11])) (.nm 14) (.itv (.var 5)) (.cst (.bl true)) [14])) [some (.obj j), some (b.pv), some (nI b.n), some (nI b.A), some (tabP b.t), some (wsP ws), none, none, none, none, none, none, none, none, none] h = .nx [some (.obj j), some (b.pv), some (nI b.n), some (nI b.A), some (tabP b.t), some (wsP ws), some (.obj lo), none, none, none, none, none, none, none, none] (h ++ [.lst false (runsP b ws)]) := by
  intro lo hlo
  subst hlo
  have h60 := hws.l60
  have rl : (runsP b ws).length = ws.length := by unfold runsP; rw [List.length_map, List.length_map]
  have c := comp_list (c := P.cc k) (r := [some (.obj j), some (b.pv), some (nI b.n), some (nI b.A), some (tabP b.t), some (wsP ws), none, none, none, none, none, none, none, none, none]) (h := h) (t := .nm 14) (own := [14]) (elt := .con .tuple (.itc (.tup [.var 10, .var 11]) (.tup [.nm 10, .nm 11]) (.zip (.var 14) (.idx (.call 36 [.var 4, .cst (.int 0), .var 14]) (.cst (.int 0)))) (.cst (.bl true)) [10, 11])) (w := .vals (ws.map wrdP)) (runsP b ws) (by rw [fuelE, rl]; omega) (by rw [rl]; exact size_big (by omega)) (by rw [itAt_vals, rl]; simp) fun i y hy => by
    unfold runsP at hy
    rw [List.map_map, List.getElem?_map] at hy
    obtain ⟨w, hx, rfl⟩ := Option.map_eq_some_iff.mp hy
    have hmem : w ∈ ws := List.mem_of_getElem? hx
    have hw := hws.ok hmem
    obtain ⟨w1, w40, _⟩ := hws.w w hmem
    refine ⟨wrdP w, [some (.obj j), some (b.pv), some (nI b.n), some (nI b.A), some (tabP b.t), some (wsP ws), none, none, none, none, none, none, none, none, some (wrdP w)], by rw [itAt_vals, List.getElem?_map, hx]; rfl, rfl, ?_⟩
    have e36 : (P.cc k).call 36 [tabP b.t, .int 0, wrdP w] h = _ := (c36 o (s := 0) (by have := o.t1; omega) hw).at (by omega)
    have al : (runR b.t 0 w).1.length = w.length := run_len o (by have := o.t1; omega) hw.2
    have ei : evE (P.cc k) (.idx (.call 36 [.var 4, .cst (.int 0), .var 14]) (.cst (.int 0))) [some (.obj j), some (b.pv), some (nI b.n), some (nI b.A), some (tabP b.t), some (wsP ws), none, none, none, none, none, none, none, none, some (wrdP w)] h = .ok (wrdP (runR b.t 0 w).1) h := by
      rw [ev_idx, ev_c3 (ev_varE rfl) ev_cst (ev_varE rfl) e36, bnd_ok, ev_cst, bnd_ok, idx_res0, ofOpt_some]
    have hzip : evI (P.cc k) (.zip (.var 14) (.idx (.call 36 [.var 4, .cst (.int 0), .var 14]) (.cst (.int 0)))) [some (.obj j), some (b.pv), some (nI b.n), some (nI b.A), some (tabP b.t), some (wsP ws), none, none, none, none, none, none, none, none, some (wrdP w)] h = .ok (.zip (.vals (w.map nI)) (.vals ((runR b.t 0 w).1.map nI))) h := by
      rw [evi_zip, ev_varE (i := 14) rfl, bnd_ok, ei, bnd_ok]
      rfl
    have rlen : (runOf b w).length = w.length := by unfold runOf; rw [List.length_zip, al]; omega
    have c2 := comp_list (c := P.cc k) (r := [some (.obj j), some (b.pv), some (nI b.n), some (nI b.A), some (tabP b.t), some (wsP ws), none, none, none, none, none, none, none, none, some (wrdP w)]) (h := h) (t := .tup [.nm 10, .nm 11]) (own := [10, 11]) (elt := .tup [.var 10, .var 11]) (w := .zip (.vals (w.map nI)) (.vals ((runR b.t 0 w).1.map nI))) ((runOf b w).map pv2) (by rw [fuelE, List.length_map, rlen]; omega) (by rw [List.length_map, rlen]; exact size_big (by omega)) (itAt_zipE (by rw [List.length_map, rlen]; simp)) fun i y hy => by
      rw [List.getElem?_map] at hy
      obtain ⟨p, hp, rfl⟩ := Option.map_eq_some_iff.mp hy
      unfold runOf at hp
      rw [List.getElem?_zip_eq_some] at hp
      refine ⟨.tup [nI p.1, nI p.2], [some (.obj j), some (b.pv), some (nI b.n), some (nI b.A), some (tabP b.t), some (wsP ws), none, none, none, none, some (nI p.1), some (nI p.2), none, none, some (wrdP w)], itAt_zip (by rw [List.getElem?_map, hp.1]; rfl) (by rw [List.getElem?_map, hp.2]; rfl), rfl, ?_⟩
      rw [ev_tup, evL_cons, ev_varE (i := 10) rfl, bnd_ok, evL_cons, ev_varE (i := 11) rfl, bnd_ok, evL_nil, bnd_ok, bnd_ok, bnd_ok, if_pos (size_big (by show 2 ≤ 1048576; decide))]
      rfl
    rw [ev_con, evi_itc, hzip, bnd_ok, c2]
    simp only [valsIt, bnd_ok, conW, itList, conop]
    rw [if_pos (by rw [List.length_map, rlen]; exact size_big (by omega))]
    rfl
  have e : evE (P.cc k) (.comp (.con .tuple (.itc (.tup [.var 10, .var 11]) (.tup [.nm 10, .nm 11]) (.zip (.var 14) (.idx (.call 36 [.var 4, .cst (.int 0), .var 14]) (.cst (.int 0)))) (.cst (.bl true)) [10, 11])) (.nm 14) (.itv (.var 5)) (.cst (.bl true)) [14]) [some (.obj j), some (b.pv), some (nI b.n), some (nI b.A), some (tabP b.t), some (wsP ws), none, none, none, none, none, none, none, none, none] h = .ok (.obj h.length) (h ++ [.lst false (runsP b ws)]) := by
    rw [ev_comp, evi_itv, ev_varE (i := 5) rfl, bnd_ok]
    show ((ofOptI h (some (It.vals (ws.map wrdP)))).bnd _) = _
    rw [ofOptI_some, bnd_ok, c]
    rfl
  rw [ex_asg, e, st_ok]
  rfl
end Lw
end
section
set_option Elab.async false
set_option linter.all false
set_option maxRecDepth 100000
namespace Lw
open PySem EV
theorem optAll_ex {f : PV → Option PyData} : ∀ xs : List PV, (∀ x ∈ xs, ∃ d, f x = some d) → ∃ ds, optAll f xs = some ds ∧ ds.length = xs.length
  | [], _ => ⟨[], rfl, rfl⟩
  | x :: xs, hx => by
    obtain ⟨d, e⟩ := hx x List.mem_cons_self
    obtain ⟨ds, e2, l⟩ := optAll_ex xs fun y hy => hx y (List.mem_cons_of_mem _ hy)
    exact ⟨d :: ds, by simp only [optAll, e, e2], by simp [l]⟩
theorem toD_tup {h : PH} {n : Nat} {xs : List PV} (hx : ∀ x ∈ xs, ∃ d, toD h n x = some d) : ∃ d, toD h (n + 1) (.tup xs) = some d := by
  obtain ⟨ds, e, _⟩ := optAll_ex xs hx
  exact ⟨.tuple ds, by show (match optAll (toD h n) xs with | none => none | some ds => some (PyData.tuple ds)) = _; rw [e]⟩
theorem toD_int {h : PH} {n : Nat} {i : Int} : toD h n (.int i) = some (.int i) := by cases n <;> rfl
theorem toD_row {h : PH} {n : Nat} {r : List (Nat × Nat)} : ∃ d, toD h (n + 2) (rowP r) = some d := toD_tup fun x hx => by
  obtain ⟨p, _, rfl⟩ := List.mem_map.mp hx
  refine toD_tup fun x hx => ?_
  rcases List.mem_cons.mp hx with q | q
  · exact ⟨_, by rw [q]; exact toD_int⟩
  · rw [List.mem_singleton.mp q]; exact ⟨_, toD_int⟩
theorem eqv_len {ds : List PyData} : PyData.eqv (.list ds) (.list []) = decide (ds.length = 0) := by
  cases ds with
  | nil => simp [PyData.eqv, PyData.eqvAll]
  | cons a l => simp [PyData.eqv, PyData.eqvAll]
theorem eq_nilR {h : PH} {n m : Nat} {fz fz2 : Bool} {t : List (List (Nat × Nat))} (e : h[n]? = some (.lst fz (t.map rowP))) (e2 : h[m]? = some (.lst fz2 [])) : cmpop .eq (.obj n) (.obj m) h = some (decide (t.length = 0)) := by
  obtain ⟨ds, q, l⟩ := optAll_ex (f := toD h 59) (t.map rowP) fun x hx => by
    obtain ⟨r, _, rfl⟩ := List.mem_map.mp hx
    exact toD_row
  have t1 : toD h 60 (.obj n) = some (.list ds) := by
    show (match h[n]? with | some (.lst _ xs) => (match optAll (toD h 59) xs with | none => none | some ds => some (PyData.list ds)) | _ => none) = _
    rw [e]
    show (match optAll (toD h 59) (t.map rowP) with | none => none | some ds => some (PyData.list ds)) = _
    rw [q]
  have t2 : toD h 60 (.obj m) = some (.list []) := by
    show (match h[m]? with | some (.lst _ xs) => (match optAll (toD h 59) xs with | none => none | some ds => some (PyData.list ds)) | _ => none) = _
    rw [e2]; rfl
  show pyEq h (.obj n) (.obj m) = _
  unfold pyEq
  rw [t1, t2]
  show some (PyData.eqv (.list _) (.list [])) = _
  rw [eqv_len, l, List.length_map]
/-- the body made of rows -/
theorem p42c {k j lo : Nat} {b : Box} {h : PH} {t : List (List (Nat × Nat))} (ht : t.length ≤ 60) (hl : h[lo]? = some (.lst false (t.map rowP))) {r : EV.Env} (h2 : r[2]? = some (some (nI b.n))) (h3 : r[3]? = some (some (nI b.A))) (h6 : r[6]? = some (some (.obj lo))) : exS (P.cc k) (.asg (.nm 7) (.tup [.var 2, .var 3, .con .tuple (.its (.var 6))])) r h = .nx (r.set 7 (some (Box.pv ⟨b.n, b.A, t⟩))) h := by
  have e : evE (P.cc k) (.con .tuple (.its (.var 6))) r h = .ok (tabP t) h := by
    rw [ev_con, evi_its, ev_varE h6, bnd_ok]
    unfold toItC
    simp only [hl]
    rw [ofOptI_some, bnd_ok]
    unfold conW
    simp only [itList, hl, conop, List.length_map]
    rw [if_pos (size_big (by omega))]
    rfl
  rw [ex_asg, ev_t3 (ev_varE h2) (ev_varE h3) e, st_ok]
  rfl
end Lw
end
section
set_option Elab.async false
set_option linter.all false
set_option maxRecDepth 100000
namespace Lw
open PySem EV
def bodyOf (b : Box) (ws : List (List Nat)) : Box := ⟨b.n, b.A, ws.map (runOf b)⟩
theorem runOf_len {b : Box} (o : b.Ok) {w : List Nat} (hw : WOk b.n w) : (runOf b w).length = w.length := by
  unfold runOf
  rw [List.length_zip, run_len o (by have := o.t1; omega) hw.2]; omega
theorem wor_run {b : Box} (o : b.Ok) {w : List Nat} (hw : WOk b.n w) : wor (runOf b w) = w := by
  unfold wor runOf
  exact List.map_fst_zip (by rw [run_len o (by have := o.t1; omega) hw.2]; omega)
theorem ans_run {b : Box} (o : b.Ok) {w : List Nat} (hw : WOk b.n w) : ansOf b (runOf b w) = (runR b.t 0 w).1 := by unfold ansOf; rw [wor_run o hw]
theorem body_ok {b : Box} (o : b.Ok) {ws : List (List Nat)} (s : WsOk b.n ws) : BodyOk (bodyOf b ws) := ⟨o.n1, o.n4, o.a1, o.a9, by show (ws.map _).length ≤ 60; rw [List.length_map]; exact s.l60, fun r hr => by
  obtain ⟨w, hw, rfl⟩ := List.mem_map.mp hr
  obtain ⟨w1, w40, wn⟩ := s.w w hw
  rw [runOf_len o (s.ok hw)]
  refine ⟨w1, w40, fun p hp => ?_⟩
  have q := List.of_mem_zip (show (p.1, p.2) ∈ w.zip (runR b.t 0 w).1 from hp)
  exact ⟨wn _ q.1, run_ans o (by have := o.t1; omega) wn _ q.2⟩⟩
theorem fit_run {b : Box} (o : b.Ok) {w : List Nat} (hw : WOk b.n w) (n : Nat) : FitTo (ansOf b (runOf b w)) (runOf b w) n := fun i p _ e => by
  rw [ans_run o hw]
  unfold runOf at e
  exact (List.getElem?_zip_eq_some.mp e).2
theorem body_fit {b : Box} (o : b.Ok) {ws : List (List Nat)} (s : WsOk b.n ws) : ∀ r ∈ (bodyOf b ws).t, FitTo (ansOf b r) r r.length := fun r hr => by
  obtain ⟨w, hw, rfl⟩ := List.mem_map.mp hr
  exact fit_run o (s.ok hw) _
theorem same_body {h : PH} {d : Nat} {y : Box} (o : BodyOk y) : Same h (d + 4) y.pv y.pv := same_box (by have := o.t60; omega) fun r hr => by have := (o.run r hr).2.1; omega
section
variable {k j lo : Nat} {b : Box} (o : b.Ok) {h : PH} (cl : Cl h) {ws : List (List Nat)} (hws : WsOk b.n ws) (hk : 12 ≤ k)
include o cl hws hk
theorem p42d {bd : List EV.S} : exS (P.cc k) (.ite (.not (.call 33 [.tup [.call 29 [.var 1, .var 5], .call 27 [.var 7, .var 1], .call 26 [.var 7, .var 1]], .tup [.var 7, .cst (.bl true), .cst .non]])) bd []) [some (.obj j), some (b.pv), some (nI b.n), some (nI b.A), some (tabP b.t), some (wsP ws), some (.obj lo), some (Box.pv (bodyOf b ws)), none, none, none, none, none, none, none] h = .nx [some (.obj j), some (b.pv), some (nI b.n), some (nI b.A), some (tabP b.t), some (wsP ws), some (.obj lo), some (Box.pv (bodyOf b ws)), none, none, none, none, none, none, none] h := by
  have hc := c24a (body_ok o hws) o rfl (body_fit o hws) cl
  have e29 : (P.cc k).call 29 [b.pv, wsP ws] h = _ := (c29 o hws cl).at (by omega)
  have e27 : (P.cc k).call 27 [(bodyOf b ws).pv, b.pv] h = .ok (.bl true) h := (c27 (body_ok o hws) o rfl rfl hc).at (by omega)
  have e26 : (P.cc k).call 26 [(bodyOf b ws).pv, b.pv] h = .ok .non h := (c26 (body_ok o hws) o rfl rfl hc).at (by omega)
  exact not_same (d := 5) (ev_t3 (ev_c2 (ev_varE rfl) (ev_varE rfl) e29) (ev_c2 (ev_varE rfl) (ev_varE rfl) e27) (ev_c2 (ev_varE rfl) (ev_varE rfl) e26)) (ev_t3 (ev_varE rfl) ev_cst ev_cst) (same_tup (sl_cons (same_body (body_ok o hws)) (sl_cons (.bl _ _) (sl_cons (.non _) sl_nil))) (by show 3 ≤ 1048576; decide)) (by omega)
end
theorem p42e {k j lo : Nat} {b : Box} {h : PH} {ws : List (List Nat)} (hl : h[lo]? = some (.lst false (runsP b ws))) : exS (P.cc k) (.ite (.or (.cmp .eq (.var 6) (.lst [])) (.cmp .eq (.var 3) (.cst (.int 1)))) [.ret (.cst (.bl true))] []) [some (.obj j), some (b.pv), some (nI b.n), some (nI b.A), some (tabP b.t), some (wsP ws), some (.obj lo), some (Box.pv (bodyOf b ws)), none, none, none, none, none, none, none] h = if ws.length = 0 ∨ b.A = 1 then .rt (.bl true) (h ++ [.lst false []]) else .nx [some (.obj j), some (b.pv), some (nI b.n), some (nI b.A), some (tabP b.t), some (wsP ws), some (.obj lo), some (Box.pv (bodyOf b ws)), none, none, none, none, none, none, none] (h ++ [.lst false []]) := by
  have el : evE (P.cc k) (.lst []) [some (.obj j), some (b.pv), some (nI b.n), some (nI b.A), some (tabP b.t), some (wsP ws), some (.obj lo), some (Box.pv (bodyOf b ws)), none, none, none, none, none, none, none] h = .ok (.obj h.length) (h ++ [.lst false []]) := by
    rw [ev_lst, evL_nil, bnd_ok, if_pos (size_big (by show 0 ≤ 1048576; decide))]
  have q := eq_nilR (n := lo) (m := h.length) (fz2 := false) (t := ws.map (runOf b)) (h := h ++ [.lst false []]) (get_old hl) get_last
  rw [List.length_map] at q
  have e1 : evE (P.cc k) (.cmp .eq (.var 6) (.lst [])) [some (.obj j), some (b.pv), some (nI b.n), some (nI b.A), some (tabP b.t), some (wsP ws), some (.obj lo), some (Box.pv (bodyOf b ws)), none, none, none, none, none, none, none] h = .ok (.bl (decide (ws.length = 0))) (h ++ [.lst false []]) := by
    rw [ev_cmp, ev_varE (i := 6) rfl, bnd_ok, el, bnd_ok, q, ofOptB_some]
  have e2 : evE (P.cc k) (.cmp .eq (.var 3) (.cst (.int 1))) [some (.obj j), some (b.pv), some (nI b.n), some (nI b.A), some (tabP b.t), some (wsP ws), some (.obj lo), some (Box.pv (bodyOf b ws)), none, none, none, none, none, none, none] (h ++ [.lst false []]) = .ok (.bl (decide (b.A = 1))) (h ++ [.lst false []]) := by
    rw [ev_cmp, ev_varE (i := 3) rfl, bnd_ok, ev_cst, bnd_ok, cmp_eq, ofOptB_some]
    rw [show decide ((b.A : Int) = 1) = decide (b.A = 1) by rw [decide_eq_decide]; omega]
  have e : evE (P.cc k) (.or (.cmp .eq (.var 6) (.lst [])) (.cmp .eq (.var 3) (.cst (.int 1)))) [some (.obj j), some (b.pv), some (nI b.n), some (nI b.A), some (tabP b.t), some (wsP ws), some (.obj lo), some (Box.pv (bodyOf b ws)), none, none, none, none, none, none, none] h = .ok (.bl (decide (ws.length = 0 ∨ b.A = 1))) (h ++ [.lst false []]) := by
    rw [ev_or, e1, tst_ok, bnd_ok]
    by_cases z : ws.length = 0
    · rw [if_pos (decide_eq_true z), decide_eq_true (Or.inl z)]
    · rw [if_neg (by simpa using z), e2, tst_ok, bnd_ok]
      rw [show decide (ws.length = 0 ∨ b.A = 1) = decide (b.A = 1) by rw [decide_eq_decide]; omega]
  rw [ex_ite, e, tst_ok, st_ok]
  by_cases z : ws.length = 0 ∨ b.A = 1
  · rw [if_pos z, if_pos (decide_eq_true z), ex_cons, ex_ret, ev_cst, st_ok]
  · rw [if_neg z, if_neg (by simpa using z), ex_nil]
end Lw
end
section
set_option Elab.async false
set_option linter.all false
set_option maxRecDepth 100000
namespace Lw
open PySem EV
theorem idx_lst {h : PH} {n i : Nat} {x : PV} {fz : Bool} {l : List PV} (e : h[n]? = some (.lst fz l)) (hx : l[i]? = some x) : idxop (.obj n) (nI i) h = some x := by
  unfold idxop
  simp only [e]
  exact atI_nat hx
theorem idx_rowP {h : PH} {i : Nat} {r : List (Nat × Nat)} {p : Nat × Nat} (hx : r[i]? = some p) : idxop (rowP r) (nI i) h = some (pv2 p) := by
  show L2.atI (r.map pv2) (i : Int) = _
  exact atI_nat (by rw [List.getElem?_map, hx]; rfl)
/-- the wrong row -/
def badRow (r : List (Nat × Nat)) (place : Nat) (q : Nat × Nat) : List (Nat × Nat) := r.take place ++ [q] ++ r.drop (place + 1)
theorem badRow_set {r : List (Nat × Nat)} {place : Nat} {q : Nat × Nat} (hp : place < r.length) : badRow r place q = r.set place q := by
  unfold badRow
  rw [List.set_eq_take_append_cons_drop, if_pos hp, List.append_assoc]; rfl
theorem wor_bad {r : List (Nat × Nat)} {place a : Nat} {p : Nat × Nat} (e : r[place]? = some p) : wor (badRow r place (p.1, a)) = wor r := by
  have hp := (List.getElem?_eq_some_iff.mp e).1
  rw [badRow_set hp]
  unfold wor
  apply List.ext_getElem?
  intro i
  rw [List.getElem?_map, List.getElem?_map]
  by_cases q : place = i
  · subst q
    rw [List.getElem?_set_self hp, e]; rfl
  · rw [List.getElem?_set_ne q]
section
variable {b : Box} (o : b.Ok) {ws : List (List Nat)} (hws : WsOk b.n ws) {spot place a : Nat} {w : List Nat} {p : Nat × Nat} (ew : ws[spot]? = some w) (ep : (runOf b w)[place]? = some p) (ha : a < b.A) (hne : a ≠ p.2)
def badT (b : Box) (ws : List (List Nat)) (spot : Nat) (r : List (Nat × Nat)) : List (List (Nat × Nat)) := (ws.map (runOf b)).set spot r
def badB (b : Box) (ws : List (List Nat)) (spot : Nat) (r : List (Nat × Nat)) : Box := ⟨b.n, b.A, badT b ws spot r⟩
include o hws ew ep ha
theorem bad_ok : BodyOk (badB b ws spot (badRow (runOf b w) place (p.1, a))) := by
  have bo := body_ok o hws
  refine ⟨bo.n1, bo.n4, bo.a1, bo.a9, ?_, fun r hr => ?_⟩
  · show (badT _ _ _ _).length ≤ 60
    unfold badT
    rw [List.length_set, List.length_map]; exact hws.l60
  · have hmem : runOf b w ∈ (bodyOf b ws).t := List.mem_map.mpr ⟨w, List.mem_of_getElem? ew, rfl⟩
    rcases List.mem_or_eq_of_mem_set hr with q | q
    · exact bo.run r q
    · subst q
      obtain ⟨r1, r40, rn⟩ := bo.run _ hmem
      have hp := (List.getElem?_eq_some_iff.mp ep).1
      rw [badRow_set hp, List.length_set]
      refine ⟨r1, r40, fun x hx => ?_⟩
      rcases List.mem_or_eq_of_mem_set hx with z | z
      · exact rn x z
      · subst z
        exact ⟨(rn p (List.mem_of_getElem? ep)).1, ha⟩
include hne
theorem bad_call {h : PH} (cl : Cl h) : Cal P 2 24 [(badB b ws spot (badRow (runOf b w) place (p.1, a))).pv, b.pv] h (.ok (.tup [nI spot, nI place]) h) := by
  have hp := (List.getElem?_eq_some_iff.mp ep).1
  have hsp : spot < ws.length := (List.getElem?_eq_some_iff.mp ew).1
  have hw := hws.ok (List.mem_of_getElem? ew)
  have an : ansOf b (badRow (runOf b w) place (p.1, a)) = (runR b.t 0 w).1 := by
    unfold ansOf
    rw [wor_bad ep, wor_run o hw]
  have pa : (runR b.t 0 w).1[place]? = some p.2 := by
    have q := ep
    unfold runOf at q
    exact (List.getElem?_zip_eq_some.mp q).2
  refine c24b (bad_ok o hws ew ep ha) o rfl (spot := spot) (place := place) (r := badRow (runOf b w) place (p.1, a)) (p := (p.1, a)) ?_ ?_ ?_ ?_ ?_ cl
  · show (badT _ _ _ _)[spot]? = _
    unfold badT
    rw [List.getElem?_set_self (by rw [List.length_map]; exact hsp)]
  · intro i r' hi e
    have e : (badT _ _ _ _)[i]? = some r' := e
    unfold badT at e
    rw [List.getElem?_set_ne (by omega), List.getElem?_map] at e
    obtain ⟨v, hv, rfl⟩ := Option.map_eq_some_iff.mp e
    exact fit_run o (hws.ok (List.mem_of_getElem? hv)) _
  · intro i q hi e
    rw [an]
    rw [badRow_set hp, List.getElem?_set_ne (by omega)] at e
    unfold runOf at e
    exact (List.getElem?_zip_eq_some.mp e).2
  · rw [badRow_set hp, List.getElem?_set_self hp]
  · rw [an, pa]
    intro z
    injection z with z
    exact hne z.symm
end
end Lw
end
section
set_option Elab.async false
set_option linter.all false
set_option maxRecDepth 100000
namespace Lw
open PySem EV
theorem ixN_nat {n i : Nat} (hi : i < n) : L2.ixN n (i : Int) = some i := by
  unfold L2.ixN
  simp [hi]
section
variable {k j ci B lo : Nat} {b : Box} (o : b.Ok) {ws : List (List Nat)} (hws : WsOk b.n ws) (hlj : lo ≠ j) (hlc : lo ≠ ci) (hk : 12 ≤ k)
include o hws hlj hk
theorem p42f {h : PH} (m : Mok h j ci B) (hB : B + 20000 < 1099511600000) (hl : h[lo]? = some (.lst false (runsP b ws))) (hn : 0 < ws.length) : ∃ (sp : Nat) (w : List Nat) (h' : PH), exS (P.cc k) (.asg (.nm 8) (.call 31 [.var 0, .bf .len [.var 6]])) [some (.obj j), some (b.pv), some (nI b.n), some (nI b.A), some (tabP b.t), some (wsP ws), some (.obj lo), some (Box.pv (bodyOf b ws)), none, none, none, none, none, none, none] h = .nx [some (.obj j), some (b.pv), some (nI b.n), some (nI b.A), some (tabP b.t), some (wsP ws), some (.obj lo), some (Box.pv (bodyOf b ws)), some (nI sp), none, none, none, none, none, none] h' ∧ ws[sp]? = some w ∧ h'[lo]? = some (.lst false (runsP b ws)) ∧ Mok h' j ci (B + 1) ∧ Sim j h h' := by
  obtain ⟨sp, h1, e1, l1, m1, s1⟩ := ev_draw (k := k) (r := [some (.obj j), some (b.pv), some (nI b.n), some (nI b.A), some (tabP b.t), some (wsP ws), some (.obj lo), some (Box.pv (bodyOf b ws)), none, none, none, none, none, none, none]) (e := .bf .len [.var 6]) rfl m (by omega) (L := ws.length) (by
    rw [ev_bf, evL_cons, ev_varE (i := 6) rfl, bnd_ok, evL_nil, bnd_ok, bnd_ok]
    have q : lenOf (.obj lo) h = some ws.length := by
      unfold lenOf
      simp only [hl]
      unfold runsP
      rw [List.length_map, List.length_map]
    simp only [bfop, q, Option.map_some]
    rfl) hn (by have := hws.l60; omega) (by omega)
  refine ⟨sp, ws[sp], h1, ?_, List.getElem?_eq_getElem l1, by rw [s1.same lo hlj]; exact hl, m1, s1⟩
  rw [ex_asg, e1, st_ok]; rfl
variable {sp : Nat} {w : List Nat} (ew : ws[sp]? = some w)
include ew
theorem row_ev {h : PH} (hl : h[lo]? = some (.lst false (runsP b ws))) {r : EV.Env} (h6 : r[6]? = some (some (.obj lo))) (h8 : r[8]? = some (some (nI sp))) : evE (P.cc k) (.idx (.var 6) (.var 8)) r h = .ok (rowP (runOf b w)) h := by
  have q : idxop (.obj lo) (nI sp) h = some (rowP (runOf b w)) := idx_lst hl (by unfold runsP; rw [List.getElem?_map, List.getElem?_map, ew]; rfl)
  rw [ev_idx, ev_varE h6, bnd_ok, ev_varE h8, bnd_ok, q, ofOpt_some]
theorem p42g {h : PH} (m : Mok h j ci B) (hB : B + 20000 < 1099511600000) (hl : h[lo]? = some (.lst false (runsP b ws))) : ∃ (pl : Nat) (p : Nat × Nat) (h' : PH), exS (P.cc k) (.asg (.nm 9) (.call 31 [.var 0, .bf .len [.idx (.var 6) (.var 8)]])) [some (.obj j), some (b.pv), some (nI b.n), some (nI b.A), some (tabP b.t), some (wsP ws), some (.obj lo), some (Box.pv (bodyOf b ws)), some (nI sp), none, none, none, none, none, none] h = .nx [some (.obj j), some (b.pv), some (nI b.n), some (nI b.A), some (tabP b.t), some (wsP ws), some (.obj lo), some (Box.pv (bodyOf b ws)), some (nI sp), some (nI pl), none, none, none, none, none] h' ∧ (runOf b w)[pl]? = some p ∧ h'[lo]? = some (.lst false (runsP b ws)) ∧ Mok h' j ci (B + 1) ∧ Sim j h h' := by
  have hw := hws.w w (List.mem_of_getElem? ew)
  have rl := runOf_len o (hws.ok (List.mem_of_getElem? ew))
  obtain ⟨pl, h1, e1, l1, m1, s1⟩ := ev_draw (k := k) (r := [some (.obj j), some (b.pv), some (nI b.n), some (nI b.A), some (tabP b.t), some (wsP ws), some (.obj lo), some (Box.pv (bodyOf b ws)), some (nI sp), none, none, none, none, none, none]) (e := .bf .len [.idx (.var 6) (.var 8)]) rfl m (by omega) (L := (runOf b w).length) (by
    rw [ev_bf, evL_cons, row_ev o hws hlj hk ew hl rfl rfl, bnd_ok, evL_nil, bnd_ok, bnd_ok]
    simp only [bfop, len_row, Option.map_some]
    rfl) (by omega) (by omega) (by omega)
  refine ⟨pl, (runOf b w)[pl], h1, ?_, List.getElem?_eq_getElem l1, by rw [s1.same lo hlj]; exact hl, m1, s1⟩
  rw [ex_asg, e1, st_ok]; rfl
variable {pl : Nat} {p : Nat × Nat} (ep : (runOf b w)[pl]? = some p)
include ep
theorem p42h {h : PH} (hl : h[lo]? = some (.lst false (runsP b ws))) : exS (P.cc k) (.asg (.tup [.nm 10, .nm 11]) (.idx (.idx (.var 6) (.var 8)) (.var 9))) [some (.obj j), some (b.pv), some (nI b.n), some (nI b.A), some (tabP b.t), some (wsP ws), some (.obj lo), some (Box.pv (bodyOf b ws)), some (nI sp), some (nI pl), none, none, none, none, none] h = .nx [some (.obj j), some (b.pv), some (nI b.n), some (nI b.A), some (tabP b.t), some (wsP ws), some (.obj lo), some (Box.pv (bodyOf b ws)), some (nI sp), some (nI pl), some (nI p.1), some (nI p.2), none, none, none] h := by
  have e : evE (P.cc k) (.idx (.idx (.var 6) (.var 8)) (.var 9)) [some (.obj j), some (b.pv), some (nI b.n), some (nI b.A), some (tabP b.t), some (wsP ws), some (.obj lo), some (Box.pv (bodyOf b ws)), some (nI sp), some (nI pl), none, none, none, none, none] h = .ok (pv2 p) h := by
    rw [ev_idx, row_ev o hws hlj hk ew hl rfl rfl, bnd_ok, ev_varE (i := 9) rfl, bnd_ok, idx_rowP ep, ofOpt_some]
  rw [ex_asg, e, st_ok]; rfl
theorem p42i {h : PH} (m : Mok h j ci B) (hB : B + 20000 < 1099511600000) (hl : h[lo]? = some (.lst false (runsP b ws))) (hA : b.A ≠ 1) : ∃ (a : Nat) (h' : PH), exS (P.cc k) (.asg (.nm 12) (.tup [.var 10, .bin .mod (.bf .int [.bin .add (.bin .add (.var 11) (.cst (.int 1))) (.call 31 [.var 0, .bin .sub (.var 3) (.cst (.int 1))])]) (.var 3)])) [some (.obj j), some (b.pv), some (nI b.n), some (nI b.A), some (tabP b.t), some (wsP ws), some (.obj lo), some (Box.pv (bodyOf b ws)), some (nI sp), some (nI pl), some (nI p.1), some (nI p.2), none, none, none] h = .nx [some (.obj j), some (b.pv), some (nI b.n), some (nI b.A), some (tabP b.t), some (wsP ws), some (.obj lo), some (Box.pv (bodyOf b ws)), some (nI sp), some (nI pl), some (nI p.1), some (nI p.2), some (pv2 (p.1, a)), none, none] h' ∧ a < b.A ∧ a ≠ p.2 ∧ h'[lo]? = some (.lst false (runsP b ws)) ∧ Mok h' j ci (B + 1) ∧ Sim j h h' := by
  have a1 := o.a1
  have a9 := o.a9
  have hp : p.2 < b.A := (((body_ok o hws).run _ (List.mem_map.mpr ⟨w, List.mem_of_getElem? ew, rfl⟩)).2.2 p (List.mem_of_getElem? ep)).2
  obtain ⟨d, h1, e1, l1, m1, s1⟩ := ev_draw (k := k) (r := [some (.obj j), some (b.pv), some (nI b.n), some (nI b.A), some (tabP b.t), some (wsP ws), some (.obj lo), some (Box.pv (bodyOf b ws)), some (nI sp), some (nI pl), some (nI p.1), some (nI p.2), none, none, none]) (e := .bin .sub (.var 3) (.cst (.int 1))) rfl m (by omega) (L := b.A - 1) (by
    rw [ev_bin, ev_varE (i := 3) rfl, bnd_ok, ev_cst, bnd_ok, sub_int]
    rw [show ((b.A : Int) - 1) = ((b.A - 1 : Nat) : Int) by omega]) (by omega) (by omega) (by omega)
  have e : evE (P.cc k) (.tup [.var 10, .bin .mod (.bf .int [.bin .add (.bin .add (.var 11) (.cst (.int 1))) (.call 31 [.var 0, .bin .sub (.var 3) (.cst (.int 1))])]) (.var 3)]) [some (.obj j), some (b.pv), some (nI b.n), some (nI b.A), some (tabP b.t), some (wsP ws), some (.obj lo), some (Box.pv (bodyOf b ws)), some (nI sp), some (nI pl), some (nI p.1), some (nI p.2), none, none, none] h = .ok (pv2 (p.1, (p.2 + 1 + d) % b.A)) h1 := by
    have e2 : evE (P.cc k) (.bf .int [.bin .add (.bin .add (.var 11) (.cst (.int 1))) (.call 31 [.var 0, .bin .sub (.var 3) (.cst (.int 1))])]) [some (.obj j), some (b.pv), some (nI b.n), some (nI b.A), some (tabP b.t), some (wsP ws), some (.obj lo), some (Box.pv (bodyOf b ws)), some (nI sp), some (nI pl), some (nI p.1), some (nI p.2), none, none, none] h = .ok (.int ((p.2 : Int) + 1 + (d : Int))) h1 := by
      rw [ev_bf, evL_cons, ev_bin, ev_bin, ev_varE (i := 11) rfl, bnd_ok, ev_cst, bnd_ok, add_int, bnd_ok, e1, bnd_ok, add_int, bnd_ok, evL_nil, bnd_ok, bnd_ok]
      simp only [bfop]
      rfl
    have e3 : evE (P.cc k) (.bin .mod (.bf .int [.bin .add (.bin .add (.var 11) (.cst (.int 1))) (.call 31 [.var 0, .bin .sub (.var 3) (.cst (.int 1))])]) (.var 3)) [some (.obj j), some (b.pv), some (nI b.n), some (nI b.A), some (tabP b.t), some (wsP ws), some (.obj lo), some (Box.pv (bodyOf b ws)), some (nI sp), some (nI pl), some (nI p.1), some (nI p.2), none, none, none] h = .ok (nI ((p.2 + 1 + d) % b.A)) h1 := by
      rw [ev_bin, e2, bnd_ok, ev_varE (i := 3) rfl, bnd_ok, mod_pos (by omega)]
      rw [show ((p.2 : Int) + 1 + (d : Int)) % (b.A : Int) = (((p.2 + 1 + d) % b.A : Nat) : Int) by rw [Int.natCast_emod]; rfl]
    exact ev_t2 (ev_varE rfl) e3
  refine ⟨(p.2 + 1 + d) % b.A, h1, ?_, Nat.mod_lt _ (by omega), fun z => ?_, by rw [s1.same lo hlj]; exact hl, m1, s1⟩
  · rw [ex_asg, e, st_ok]; rfl
  · by_cases q : p.2 + 1 + d < b.A
    · rw [Nat.mod_eq_of_lt q] at z; omega
    · rw [Nat.mod_eq_sub_mod (by omega), Nat.mod_eq_of_lt (by omega)] at z; omega
end
end Lw
end
section
set_option Elab.async false
set_option linter.all false
set_option maxRecDepth 100000
namespace Lw
open PySem EV
theorem ev_slcHi {k : Nat} {r : EV.Env} {h : PH} {a hi : E} {x : PV} {i : Int} (hn : hi.isNop = false) (ea : evE (P.cc k) a r h = .ok x h) (eh : evE (P.cc k) hi r h = .ok (.int i) h) : evE (P.cc k) (.slc a .nop hi) r h = slcop x none (some i) h := by
  rw [ev_slc, ea, bnd_ok, if_pos (show E.nop.isNop = true from rfl), bnd_ok, if_neg (by rw [hn]; simp), eh]; rfl
theorem ev_slcLo {k : Nat} {r : EV.Env} {h : PH} {a lo : E} {x : PV} {i : Int} (hn : lo.isNop = false) (ea : evE (P.cc k) a r h = .ok x h) (eh : evE (P.cc k) lo r h = .ok (.int i) h) : evE (P.cc k) (.slc a lo .nop) r h = slcop x (some i) none h := by
  rw [ev_slc, ea, bnd_ok, if_neg (by rw [hn]; simp), eh]; rfl
section
variable {k j ci B lo : Nat} {b : Box} (o : b.Ok) {ws : List (List Nat)} (hws : WsOk b.n ws) (hlj : lo ≠ j) (hlc : lo ≠ ci) (hk : 12 ≤ k) {sp : Nat} {w : List Nat} (ew : ws[sp]? = some w) {pl : Nat} {p : Nat × Nat} (ep : (runOf b w)[pl]? = some p) {a : Nat}
include o hws hlj hk ew ep
theorem p42j {h : PH} (hl : h[lo]? = some (.lst false (runsP b ws))) : exS (P.cc k) (.set (.var 6) (.var 8) (.bin .add (.bin .add (.slc (.idx (.var 6) (.var 8)) (.nop) (.var 9)) (.tup [.var 12])) (.slc (.idx (.var 6) (.var 8)) (.bin .add (.var 9) (.cst (.int 1))) (.nop)))) [some (.obj j), some (b.pv), some (nI b.n), some (nI b.A), some (tabP b.t), some (wsP ws), some (.obj lo), some (Box.pv (bodyOf b ws)), some (nI sp), some (nI pl), some (nI p.1), some (nI p.2), some (pv2 (p.1, a)), none, none] h = .nx [some (.obj j), some (b.pv), some (nI b.n), some (nI b.A), some (tabP b.t), some (wsP ws), some (.obj lo), some (Box.pv (bodyOf b ws)), some (nI sp), some (nI pl), some (nI p.1), some (nI p.2), some (pv2 (p.1, a)), none, none] (h.set lo (.lst false ((badT b ws sp (badRow (runOf b w) pl (p.1, a))).map rowP))) := by
  have hsp := (List.getElem?_eq_some_iff.mp ew).1
  have hpl := (List.getElem?_eq_some_iff.mp ep).1
  have r40 := ((body_ok o hws).run _ (List.mem_map.mpr ⟨w, List.mem_of_getElem? ew, rfl⟩)).2.1
  have re := row_ev (k := k) (h := h) o hws hlj hk ew hl (r := [some (.obj j), some (b.pv), some (nI b.n), some (nI b.A), some (tabP b.t), some (wsP ws), some (.obj lo), some (Box.pv (bodyOf b ws)), some (nI sp), some (nI pl), some (nI p.1), some (nI p.2), some (pv2 (p.1, a)), none, none]) rfl rfl
  have s1 : evE (P.cc k) (.slc (.idx (.var 6) (.var 8)) (.nop) (.var 9)) [some (.obj j), some (b.pv), some (nI b.n), some (nI b.A), some (tabP b.t), some (wsP ws), some (.obj lo), some (Box.pv (bodyOf b ws)), some (nI sp), some (nI pl), some (nI p.1), some (nI p.2), some (pv2 (p.1, a)), none, none] h = .ok (rowP ((runOf b w).take pl)) h := by
    have q : slcop (rowP (runOf b w)) none (some (pl : Int)) h = .ok (rowP ((runOf b w).take pl)) h := by
      show Rs.ok (PV.tup (cutP ((runOf b w).map pv2) none (some (pl : Int)))) h = _
      rw [cut_take, ← List.map_take]; rfl
    rw [ev_slcHi rfl re (ev_varE (i := 9) rfl)]
    exact q
  have s2 : evE (P.cc k) (.slc (.idx (.var 6) (.var 8)) (.bin .add (.var 9) (.cst (.int 1))) (.nop)) [some (.obj j), some (b.pv), some (nI b.n), some (nI b.A), some (tabP b.t), some (wsP ws), some (.obj lo), some (Box.pv (bodyOf b ws)), some (nI sp), some (nI pl), some (nI p.1), some (nI p.2), some (pv2 (p.1, a)), none, none] h = .ok (rowP ((runOf b w).drop (pl + 1))) h := by
    have q : slcop (rowP (runOf b w)) (some ((pl : Int) + 1)) none h = .ok (rowP ((runOf b w).drop (pl + 1))) h := by
      show Rs.ok (PV.tup (cutP ((runOf b w).map pv2) (some (((pl + 1 : Nat)) : Int)) none)) h = _
      rw [cut_drop, ← List.map_drop]; rfl
    have e9 : evE (P.cc k) (.bin .add (.var 9) (.cst (.int 1))) [some (.obj j), some (b.pv), some (nI b.n), some (nI b.A), some (tabP b.t), some (wsP ws), some (.obj lo), some (Box.pv (bodyOf b ws)), some (nI sp), some (nI pl), some (nI p.1), some (nI p.2), some (pv2 (p.1, a)), none, none] h = .ok (.int ((pl : Int) + 1)) h := by
      rw [ev_bin, ev_varE (i := 9) rfl, bnd_ok, ev_cst, bnd_ok, add_int]
    rw [ev_slcLo rfl re e9]
    exact q
  have s3 : evE (P.cc k) (.bin .add (.bin .add (.slc (.idx (.var 6) (.var 8)) (.nop) (.var 9)) (.tup [.var 12])) (.slc (.idx (.var 6) (.var 8)) (.bin .add (.var 9) (.cst (.int 1))) (.nop))) [some (.obj j), some (b.pv), some (nI b.n), some (nI b.A), some (tabP b.t), some (wsP ws), some (.obj lo), some (Box.pv (bodyOf b ws)), some (nI sp), some (nI pl), some (nI p.1), some (nI p.2), some (pv2 (p.1, a)), none, none] h = .ok (rowP (badRow (runOf b w) pl (p.1, a))) h := by
    have st : evE (P.cc k) (.tup [.var 12]) [some (.obj j), some (b.pv), some (nI b.n), some (nI b.A), some (tabP b.t), some (wsP ws), some (.obj lo), some (Box.pv (bodyOf b ws)), some (nI sp), some (nI pl), some (nI p.1), some (nI p.2), some (pv2 (p.1, a)), none, none] h = .ok (.tup [pv2 (p.1, a)]) h := by
      rw [ev_tup, evL_cons, ev_varE (i := 12) rfl, bnd_ok, evL_nil, bnd_ok, bnd_ok, if_pos (size_big (by show 1 ≤ 1048576; decide))]
    have q1 : binop .add (rowP ((runOf b w).take pl)) (.tup [pv2 (p.1, a)]) h = .ok (rowP ((runOf b w).take pl ++ [(p.1, a)])) h := by
      show (if (((runOf b w).take pl).map pv2).length + 1 ≤ sizeLine then Rs.ok (PV.tup (((runOf b w).take pl).map pv2 ++ [pv2 (p.1, a)])) h else .no) = _
      rw [if_pos (size_big (by rw [List.length_map, List.length_take]; omega))]
      unfold rowP
      rw [List.map_append]; rfl
    have q2 : binop .add (rowP ((runOf b w).take pl ++ [(p.1, a)])) (rowP ((runOf b w).drop (pl + 1))) h = .ok (rowP (badRow (runOf b w) pl (p.1, a))) h := by
      show (if (((runOf b w).take pl ++ [(p.1, a)]).map pv2).length + (((runOf b w).drop (pl + 1)).map pv2).length ≤ sizeLine then Rs.ok (PV.tup (((runOf b w).take pl ++ [(p.1, a)]).map pv2 ++ ((runOf b w).drop (pl + 1)).map pv2)) h else .no) = _
      rw [if_pos (size_big (by rw [List.length_map, List.length_map, List.length_append, List.length_take, List.length_drop]; show _ + 1 + _ ≤ _; omega)), ← List.map_append]
      rfl
    rw [ev_bin, ev_bin, s1, bnd_ok, st, bnd_ok, q1, bnd_ok, s2, bnd_ok, q2]
  have q : setop (.obj lo) (nI sp) (rowP (badRow (runOf b w) pl (p.1, a))) h = some (h.set lo (.lst false ((badT b ws sp (badRow (runOf b w) pl (p.1, a))).map rowP))) := by
    unfold setop
    simp only [hl]
    rw [ixN_nat (by unfold runsP; rw [List.length_map, List.length_map]; exact hsp), Option.map_some]
    unfold runsP badT
    rw [List.map_set]
  rw [ex_set, s3, st_ok, ev_varE (i := 6) rfl, st_ok, ev_varE (i := 8) rfl, st_ok, q]
theorem p42l {h : PH} (cl : Cl h) (ha : a < b.A) (hne : a ≠ p.2) : exS (P.cc k) (.ret (.call 33 [.tup [.callK 27 [] [.var 1, .var 7] [1, 0], .call 26 [.var 7, .var 1]], .tup [.cst (.bl false), .tup [.var 8, .var 9]]])) [some (.obj j), some (b.pv), some (nI b.n), some (nI b.A), some (tabP b.t), some (wsP ws), some (.obj lo), some (Box.pv (badB b ws sp (badRow (runOf b w) pl (p.1, a)))), some (nI sp), some (nI pl), some (nI p.1), some (nI p.2), some (pv2 (p.1, a)), none, none] h = .rt (.bl true) h := by
  have bo := bad_ok o hws ew ep ha
  have hc := bad_call o hws ew ep ha hne cl
  have e27 : (P.cc k).call 27 [(badB b ws sp (badRow (runOf b w) pl (p.1, a))).pv, b.pv] h = .ok (.bl false) h := (c27 bo o rfl rfl hc).at (by omega)
  have e26 : (P.cc k).call 26 [(badB b ws sp (badRow (runOf b w) pl (p.1, a))).pv, b.pv] h = .ok (.tup [nI sp, nI pl]) h := (c26 bo o rfl rfl hc).at (by omega)
  have ek : evE (P.cc k) (.callK 27 [] [.var 1, .var 7] [1, 0]) [some (.obj j), some (b.pv), some (nI b.n), some (nI b.A), some (tabP b.t), some (wsP ws), some (.obj lo), some (Box.pv (badB b ws sp (badRow (runOf b w) pl (p.1, a)))), some (nI sp), some (nI pl), some (nI p.1), some (nI p.2), some (pv2 (p.1, a)), none, none] h = .ok (.bl false) h := by
    rw [ev_callK, evL_nil, bnd_ok, evL_cons, ev_varE (i := 1) rfl, bnd_ok, evL_cons, ev_varE (i := 7) rfl, bnd_ok, evL_nil, bnd_ok, bnd_ok, bnd_ok]
    exact e27
  have e33 : (P.cc k).call 33 [.tup [.bl false, .tup [nI sp, nI pl]], .tup [.bl false, .tup [nI sp, nI pl]]] h = _ := (c33 5 _ _ (same_tup (sl_cons (.bl _ _) (sl_cons (same_tup (sl_cons (.int _ _) (sl_cons (.int _ _) sl_nil)) (by show 2 ≤ 1048576; decide)) sl_nil)) (by show 2 ≤ 1048576; decide))).at (by omega)
  rw [ex_ret, ev_c2 (ev_t2 ek (ev_c2 (ev_varE rfl) (ev_varE rfl) e26)) (ev_t2 ev_cst (ev_t2 (ev_varE rfl) (ev_varE rfl))) e33, st_ok]
end
end Lw
end
section
set_option Elab.async false
set_option linter.all false
set_option maxRecDepth 100000
namespace Lw
open PySem EV
theorem c42 {h : PH} {j ci B : Nat} {b : Box} (o : b.Ok) (m : Mok h j ci B) (hB : B + 40000 < 1099511600000) {k : Nat} (hk : 13 ≤ k) : ∃ h', callF P k 42 [.obj j, b.pv] h = .ok (.bl true) h' ∧ Mok h' j ci (B + 304) ∧ Sim j h h' := by
  obtain ⟨k, rfl⟩ : ∃ i, k = i + 1 := ⟨k - 1, by omega⟩
  have a1 : exS (P.cc k) (.asg (.tup [.nm 2, .nm 3, .nm 4]) (.var 1)) [some (.obj j), some (b.pv), none, none, none, none, none, none, none, none, none, none, none, none, none] h = .nx [some (.obj j), some (b.pv), some (nI b.n), some (nI b.A), some (tabP b.t), none, none, none, none, none, none, none, none, none, none] h := by
    rw [ex_asg, ev_varE (i := 1) rfl, st_ok]; rfl
  obtain ⟨ws, h1, a2, hws, hwl, m1, x1⟩ := p42a (k := k) o m (by omega) (by omega)
  have a3 := p42b (k := k) (j := j) o hws (by omega) h1.length rfl
  have one : ∀ {o : PO} {n : Nat}, o.old n = true → [o].all (·.old n) = true := fun q => by rw [List.all_cons, List.all_nil, Bool.and_true]; exact q
  have m2 : Mok (h1 ++ [.lst false (runsP b ws)]) j ci (B + 301) := m1.app (one rows_old)
  have x2 : SimX j h (h1 ++ [.lst false (runsP b ws)]) := x1.app
  have hlj : h1.length ≠ j := by have := m1.ltj; omega
  have hlc : h1.length ≠ ci := by have := m1.lt; omega
  have hge : h.length ≤ h1.length := x1.len
  have hl : (h1 ++ [PO.lst false (runsP b ws)])[h1.length]? = some (.lst false (runsP b ws)) := get_last
  generalize h1 ++ [PO.lst false (runsP b ws)] = h2 at a3 m2 x2 hl
  generalize h1.length = lo at a3 hlj hlc hge hl
  have a4 : exS (P.cc k) (.asg (.nm 7) (.tup [.var 2, .var 3, .con .tuple (.its (.var 6))])) [some (.obj j), some (b.pv), some (nI b.n), some (nI b.A), some (tabP b.t), some (wsP ws), some (.obj lo), none, none, none, none, none, none, none, none] h2 = .nx [some (.obj j), some (b.pv), some (nI b.n), some (nI b.A), some (tabP b.t), some (wsP ws), some (.obj lo), some (Box.pv (bodyOf b ws)), none, none, none, none, none, none, none] h2 := p42c (j := j) (t := ws.map (runOf b)) (by rw [List.length_map]; exact hws.l60) hl rfl rfl rfl
  have a5 := p42d (k := k) (j := j) (lo := lo) (bd := [.ret (.cst (.bl false))]) o m2.cl hws (by omega)
  have a6 := p42e (k := k) (j := j) (b := b) hl
  have m3 : Mok (h2 ++ [.lst false []]) j ci (B + 301) := m2.app (one rfl)
  have x3 : SimX j h (h2 ++ [.lst false []]) := x2.app
  have hl3 : (h2 ++ [PO.lst false []])[lo]? = some (.lst false (runsP b ws)) := get_old hl
  generalize h2 ++ [PO.lst false []] = h3 at a6 m3 x3 hl3
  rw [callF_def p42 rfl]
  by_cases z : ws.length = 0 ∨ b.A = 1
  · rw [if_pos z] at a6
    obtain ⟨c1, c2, c3⟩ := cut m x3 m3 (v := .bl true) rfl
    refine ⟨h3.take h.length, ?_, c2.mono (by omega), c3⟩
    show outOf _ (exB _ _ [some (.obj j), some (b.pv), none, none, none, none, none, none, none, none, none, none, none, none, none] h) = _
    rw [show (FD.mk 2 15 b42).body = b42 from rfl]
    unfold b42
    rw [ex_cons_nx a1, ex_cons_nx a2, ex_cons_nx a3, ex_cons_nx a4, ex_cons_nx a5, ex_cons, a6]
    simp only [out_rt]
    rw [c1]
  · rw [if_neg z] at a6
    have z1 : 0 < ws.length := by omega
    have z2 : b.A ≠ 1 := by omega
    obtain ⟨sp, w, h4, a7, ew, hl4, m4, s4⟩ := p42f (k := k) o hws hlj (by omega) m3 (by omega) hl3 z1
    obtain ⟨pl, p, h5, a8, ep, hl5, m5, s5⟩ := p42g (k := k) o hws hlj (by omega) ew m4 (by omega) hl4
    have a9 := p42h (k := k) o hws hlj (by omega) ew ep hl5
    obtain ⟨a, h6, a10, ha, hne, hl6, m6, s6⟩ := p42i (k := k) o hws hlj (by omega) ew ep m5 (by omega) hl5 z2
    have a11 := p42j (k := k) (a := a) o hws hlj (by omega) ew ep hl6
    have m7 : Mok (h6.set lo (.lst false ((badT b ws sp (badRow (runOf b w) pl (p.1, a))).map rowP))) j ci (B + 304) := m6.set hlj hlc rows_old
    have x7 : SimX j h (h6.set lo (.lst false ((badT b ws sp (badRow (runOf b w) pl (p.1, a))).map rowP))) := (((x3.sim s4).sim s5).sim s6).set hge
    have hl7 : (h6.set lo (PO.lst false ((badT b ws sp (badRow (runOf b w) pl (p.1, a))).map rowP)))[lo]? = some (.lst false ((badT b ws sp (badRow (runOf b w) pl (p.1, a))).map rowP)) := List.getElem?_set_self (List.getElem?_eq_some_iff.mp hl6).1
    generalize h6.set lo (PO.lst false ((badT b ws sp (badRow (runOf b w) pl (p.1, a))).map rowP)) = h7 at a11 m7 x7 hl7
    have a12 : exS (P.cc k) (.asg (.nm 7) (.tup [.var 2, .var 3, .con .tuple (.its (.var 6))])) [some (.obj j), some (b.pv), some (nI b.n), some (nI b.A), some (tabP b.t), some (wsP ws), some (.obj lo), some (Box.pv (bodyOf b ws)), some (nI sp), some (nI pl), some (nI p.1), some (nI p.2), some (pv2 (p.1, a)), none, none] h7 = .nx [some (.obj j), some (b.pv), some (nI b.n), some (nI b.A), some (tabP b.t), some (wsP ws), some (.obj lo), some (Box.pv (badB b ws sp (badRow (runOf b w) pl (p.1, a)))), some (nI sp), some (nI pl), some (nI p.1), some (nI p.2), some (pv2 (p.1, a)), none, none] h7 := p42c (j := j) (t := badT b ws sp (badRow (runOf b w) pl (p.1, a))) (by unfold badT; rw [List.length_set, List.length_map]; exact hws.l60) hl7 rfl rfl rfl
    have a13 := p42l (k := k) (a := a) o hws hlj (by omega) ew ep m7.cl ha hne
    obtain ⟨c1, c2, c3⟩ := cut m x7 m7 (v := .bl true) rfl
    refine ⟨h7.take h.length, ?_, c2, c3⟩
    show outOf _ (exB _ _ [some (.obj j), some (b.pv), none, none, none, none, none, none, none, none, none, none, none, none, none] h) = _
    rw [show (FD.mk 2 15 b42).body = b42 from rfl]
    unfold b42
    rw [ex_cons_nx a1, ex_cons_nx a2, ex_cons_nx a3, ex_cons_nx a4, ex_cons_nx a5, ex_cons_nx a6, ex_cons_nx a7, ex_cons_nx a8, ex_cons_nx a9, ex_cons_nx a10, ex_cons_nx a11, ex_cons_nx a12, ex_cons, a13]
    simp only [out_rt]
    rw [c1]
end Lw
end
section
set_option Elab.async false
set_option linter.all false
set_option maxRecDepth 100000
namespace Lw
open PySem EV
def turnB : List EV.S := [.asg (.nm 2) (.call 30 [.var 0, .var 1]), .asg (.nm 3) (.call 39 [.var 2]), .ite (.or (.not (.call 41 [.var 2, .var 3])) (.not (.call 42 [.var 2, .var 3]))) [.ret (.cst (.bl false))] []]
/-- the heap keeps the given list -/
structure Top (ns : List Int) (h : PH) : Prop where
  cl : Cl h
  l0 : h[0]? = some (.lst true (ns.map .int))
theorem turn_run {k : Nat} (hk : 13 ≤ k) {ns : List Int} (hn : ns.length ≤ 63) {turn : Nat} (ht : turn ≤ 2) {h : PH} (t : Top ns h) {x2 x3 : Option PV} : ∃ z2 z3 h', exB (P.cc k) turnB [some (.obj 0), some (nI turn), x2, x3] h = .nx [some (.obj 0), some (nI turn), z2, z3] h' ∧ Top ns h' := by
  obtain ⟨j, ci, h1, e1, m1, hj, hl, hs⟩ := c30 t.cl t.l0 hn ht (k := k) (by omega)
  have h0 : 0 < h.length := (List.getElem?_eq_some_iff.mp t.l0).1
  have a1 : exS (P.cc k) (.asg (.nm 2) (.call 30 [.var 0, .var 1])) [some (.obj 0), some (nI turn), x2, x3] h = .nx [some (.obj 0), some (nI turn), some (.obj j), x3] h1 := by
    have e : (P.cc k).call 30 [.obj 0, nI turn] h = _ := e1
    rw [ex_asg, ev_c2 (ev_varE rfl) (ev_varE rfl) e, st_ok]; rfl
  obtain ⟨b, h2, e2, o, m2, s2⟩ := c39 m1 (by omega) (k := k) (by omega)
  have a2 : exS (P.cc k) (.asg (.nm 3) (.call 39 [.var 2])) [some (.obj 0), some (nI turn), some (.obj j), x3] h1 = .nx [some (.obj 0), some (nI turn), some (.obj j), some b.pv] h2 := by
    have e : (P.cc k).call 39 [.obj j] h1 = _ := e2
    rw [ex_asg, ev_c1 (ev_varE rfl) e, st_ok]; rfl
  obtain ⟨h3, e3, m3, s3⟩ := c41 o m2 (by omega) hk
  obtain ⟨h4, e4, m4, s4⟩ := c42 o m3 (by omega) hk
  have q41 : evE (P.cc k) (.call 41 [.var 2, .var 3]) [some (.obj 0), some (nI turn), some (.obj j), some b.pv] h2 = .ok (.bl true) h3 := ev_c2 (ev_varE rfl) (ev_varE rfl) e3
  have q42 : evE (P.cc k) (.call 42 [.var 2, .var 3]) [some (.obj 0), some (nI turn), some (.obj j), some b.pv] h3 = .ok (.bl true) h4 := ev_c2 (ev_varE rfl) (ev_varE rfl) e4
  refine ⟨some (.obj j), some b.pv, h4, ?_, m4.cl, ?_⟩
  · unfold turnB
    rw [ex_cons_nx a1, ex_cons_nx a2, ex_cons, ex_ite, ev_or, ev_not, q41, tst_ok, bnd_ok, tst_ok, bnd_ok, if_neg (by simp), ev_not, q42, tst_ok, bnd_ok, tst_ok, bnd_ok, tst_ok, st_ok, if_neg (by simp), ex_nil]
    simp only [ex_nil]
  · rw [s4.same 0 (by omega), s3.same 0 (by omega), s2.same 0 (by omega), hs 0 h0]; exact t.l0
end Lw
end
section
set_option Elab.async false
set_option linter.all false
set_option maxRecDepth 100000
namespace Lw
open PySem EV
theorem main (ns : List Int) (hn : ns.length ≤ 63) : ∃ h', callF P 40 43 [.obj 0] [.lst true (ns.map .int)] = .ok (.bl true) h' := by
  have t0 : Top ns [.lst true (ns.map .int)] := ⟨by
    show ([PO.lst true (ns.map PV.int)]).all (·.old 1) = true
    rw [List.all_cons, List.all_nil, Bool.and_true]
    exact oldL_ints _, rfl⟩
  have ln : evE (P.cc 39) (.bin .add (.cst (.int 1)) (.bf .min [.cst (.int 2), .bf .len [.var 0]])) [some (.obj 0), none, none, none] [.lst true (ns.map .int)] = .ok (.int (((1 + (if ns.length < 2 then ns.length else 2) : Nat)) : Int)) [.lst true (ns.map .int)] := by
    have l : lenOf (.obj 0) [PO.lst true (ns.map .int)] = some ns.length := by
      show some (ns.map PV.int).length = _
      rw [List.length_map]
    rw [ev_bin, ev_cst, bnd_ok, ev_bf, evL_cons, ev_cst, bnd_ok, evL_cons, ev_bf, evL_cons, ev_varE (i := 0) rfl, bnd_ok, evL_nil, bnd_ok, bnd_ok]
    simp only [bfop, l, Option.map_some, ofOpt_some, bnd_ok, evL_nil]
    rw [add_int]
    by_cases q : ns.length < 2
    · rw [if_pos (by omega), if_pos q]; congr 2
    · rw [if_neg (by omega), if_neg q]; congr 2
  have s1 : ∃ z1 z2 z3 h', exS (P.cc 39) (.forS (.nm 1) (.rng (.cst (.int 0)) (.bin .add (.cst (.int 1)) (.bf .min [.cst (.int 2), .bf .len [.var 0]]))) turnB) [some (.obj 0), none, none, none] [.lst true (ns.map .int)] = .nx [some (.obj 0), z1, z2, z3] h' ∧ Top ns h' := by
    refine for_run (w := .rng 0 (1 + (if ns.length < 2 then ns.length else 2))) (N := 1 + (if ns.length < 2 then ns.length else 2)) (h1 := [.lst true (ns.map .int)]) (I := fun _ r1 h1 => ∃ z1 z2 z3, r1 = [some (.obj 0), z1, z2, z3] ∧ Top ns h1) (Post := fun z => ∃ z1 z2 z3 h', z = .nx [some (.obj 0), z1, z2, z3] h' ∧ Top ns h') (evi_rngH ln (by split <;> omega)) (by rw [fuelE]; split <;> omega) ⟨none, none, none, rfl, t0⟩ (fun r1 h1 ⟨z1, z2, z3, q, t⟩ => ⟨by rw [itAt_rng]; simp, z1, z2, z3, h1, by rw [q], t⟩) fun i r1 h1 hi ⟨z1, z2, z3, q, t⟩ => ?_
    subst q
    obtain ⟨y2, y3, h', e, t'⟩ := turn_run (k := 39) (by omega) hn (turn := i) (by split at hi <;> omega) t (x2 := z2) (x3 := z3)
    exact ⟨nI i, [some (.obj 0), some (nI i), z2, z3], by rw [itAt_rng, if_pos hi, Int.zero_add], rfl, Or.inl ⟨_, h', e, _, _, _, rfl, t'⟩⟩
  obtain ⟨z1, z2, z3, h', e, t⟩ := s1
  rw [callF_def p43 rfl]
  refine ⟨gc 1 (.bl true) h', ?_⟩
  show outOf _ (exB _ _ [some (.obj 0), none, none, none] [.lst true (ns.map .int)]) = _
  rw [show (FD.mk 1 4 b43).body = b43 from rfl]
  unfold b43
  unfold turnB at e
  rw [ex_cons_nx e, ex_cons, ex_ret, ev_cst, st_ok]
  rfl
end Lw
end
section
set_option Elab.async false
set_option linter.all false
set_option maxRecDepth 100000
set_option maxHeartbeats 0
namespace Lw
open PySem PySem.Spec PyProof.Rows L2
theorem hb : ∀ (K : PySem.W.Frag) (fa : Addr) (fd : FuncData), FunD K d43.x d43.qual d43.params d43.body d43.scope [] [] fa fd → ∀ (s : Shared) (u : Value), BindsTo s fd ⟨[u], []⟩ [("script", u)] := fun K fa fd F s u =>
  FunD.bindsA (ps := ["script"]) F (fun _ _ _ _ _ _ us hl => match us, hl with | [_], _ => rfl) s [u] rfl
abbrev R : PySem.W.OpenRow := PySem.W.OpenLaw.row PySem.Challenge.rw_whatelse_k00_boxes_words_and_runs
abbrev hk : PySem.W.Hook := EV.hookL 5 S.fa S.fn
def lo0_ : List Str := ["ElseError", "Unlike", "BadBox", "BadWord", "BadState", "BadTurns", "BadWords", "BadBody", "MOST_INPUTS", "MOST_ANSWERS", "MOST_STATES", "MOST_WORD", "MOST_TURNS", "is_integer", "is_within", "is_step", "need_row", "need_box", "is_box", "need_state", "is_word", "need_word_of", "way_of", "need_asked", "answers_of", "end_of", "answers_from", "end_from", "first_words", "coming_states"]
def lo1_ : List Str := ["first_word", "end_behind", "MOST_RUNS", "MOST_RUN", "is_told_pair", "need_run_at", "need_body", "word_of_run", "need_beside", "misfit_of", "does_fit", "first_misfit", "fits_body", "run_of", "body_of", "_law_begun", "_law_draw", "_law_of", "_law_same", "_law_table", "_law_word", "_law_led", "_law_firsts", "_law_effect", "_law_drawn_box", "_law_turned", "_law_box_right", "_law_body_right"]
def lo : List Str := lo0_ ++ lo1_
def ob (s : PySem.W.SharedT) : Bool × He.AlD := EV.obsL 5 S.fa S.fn (HandSHeadRun.getT s)
theorem ob_eq (s : PySem.W.SharedT) : ob s = hk.obs s.abs := EV.obsL_eq (HandSHeadRun.getT_eq s)
theorem run (w : World) : HandSHeadRun.RunEq R (PySem.W.view R.prog [62]) hk ob 6000 lo w := by
  intro os
  kernel_rfl
end Lw
open PySem PySem.W PySem.Calls PyProof.Rows
theorem PySem.Challenge.cw_whatelse_k00_boxes_words_and_runs_holds : PySem.Challenge.rw_whatelse_k00_boxes_words_and_runs.Holds := by
  w_on; o_law
  refine HandSHeadRun.head_any (r := OpenLaw.row PySem.Challenge.rw_whatelse_k00_boxes_words_and_runs) (q := view (OpenLaw.row PySem.Challenge.rw_whatelse_k00_boxes_words_and_runs).prog [62]) (H := Lw.hk) (ob := Lw.ob) (M := 6000) (loose := Lw.lo) (d := HandSHeadRun.topDef (OpenLaw.row PySem.Challenge.rw_whatelse_k00_boxes_words_and_runs).prog 62) (kwd := []) Lw.ob_eq
    (by kernel_rfl) (fun s => by kernel_rfl) Lw.run (by kernel_rfl) (by kernel_rfl) (by kernel_rfl) (by rfl) (by first | assumption | decide +kernel) (by decide +kernel) ⟨rfl, rfl, rfl, rfl, rfl, by decide +kernel⟩ ?hw ?hc
  case hw => w_witness2
  case hc =>
    exact EV.law_end (l := PySem.Challenge.rw_whatelse_k00_boxes_words_and_runs) (n := 63) (k := 40) (f := 43) (m := 0) (x := "script") (S := Lw.S) (dl := Lw.d43) rfl (by decide) (by kernel_rfl) ⟨rfl, by decide, by decide⟩ Lw.fx Lw.kx (by decide +kernel) rfl (by kernel_rfl) rfl Lw.hb Lw.main
end
