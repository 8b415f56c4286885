import PyProof.Rows.All
import Wide.All
import OpenK.AllK
import Wide.FinOn
import HandS.ForMost
import HandS.ForExc
import HandS.TupMul
import HandS.Style
import HandS.TupAny
import HandS.IsInst
import HandS.SortInts
import HandS.Deep
import HandS.Wide
import HandS.Flow
import HandS.TupLen
import HandS.WordsDict
import HandS.ExcOwn
import HandS.Zip
import KE.GoesEnum
import KE.KDictDisplayH
import HandS.Dict
import HandS.More
import HandS.Conv
import KE.KDictZip
import HandS.ExcValue
import HandS.Defaults
import KE.KStateDown
import HandS.Words
import HandS.WordsExc
import HandS.Head0
import HandS.Head1
import HandS.Head2
import HandS.HeadEnd
import HandS.HeadHook1
import HandS.HeadHook2
import PySem.Challenge.RW_whatelse_k80_waits_and_first_times
section
set_option Elab.async false
set_option linter.all false
set_option maxRecDepth 100000
/-! EV: an own small language, its values and its interpreter. -/
namespace EV
open PySem L2

/-- values: tuples stand by value, what may change stands by its number in the own heap -/
inductive PV where
  | non | bl (b : Bool) | int (i : Int) | str (s : Str) | tup (xs : List PV) | obj (n : Nat)

/-- what may change; fz: it may be read, not written -/
inductive PO where
  | lst (fz : Bool) (xs : List PV)
  | dK (kvs : List (Key × PV))
  | dT (kvs : List (List Key × PV))
  | lkd (kvs : List (Key × PV))

abbrev PH := List PO
abbrev Env := List (Option PV)

inductive Op where
  | add | sub | mul | fdiv | mod | pow
inductive Cp where
  | lt | le | gt | ge | eq | ne | is | isnot | isin | notin
inductive Ty where
  | int | bool | str | tuple | list | dict
inductive Bf where
  | len | int | min | max | isinst (t : Ty)
inductive Mt where
  | append | get1 | get2 | index | pop
inductive Fo where
  | tuple | list | all | any | sum | sorted | min | max
inductive Tg where
  | nm (i : Nat) | tup (ts : List Tg)

inductive E where
  | cst (v : PV) | var (i : Nat) | glb (g : Nat) | nop
  | tup (es : List E) | lst (es : List E) | dnew (t : Bool) | dct (es : List E)
  | bin (o : Op) (a b : E) | neg (a : E) | not (a : E) | and (a b : E) | or (a b : E)
  | cmp (c : Cp) (a b : E) | chn (c d : Cp) (a b e : E) | ite (c a b : E)
  | idx (a b : E) | slc (a lo hi : E)
  | call (f : Nat) (es : List E) | callK (f : Nat) (es ks : List E) (ord : List Nat)
  | bf (b : Bf) (es : List E) | mt (m : Mt) (o : E) (es : List E)
  | comp (elt : E) (t : Tg) (it cond : E) (own : List Nat) | compD (elt : E) (t : Tg) (i : Nat) (cond : E) (own : List Nat) | dctT (es : List E)
  | con (f : Fo) (it : E)
  | itv (e : E) | its (e : E) | itc (elt : E) (t : Tg) (it cond : E) (own : List Nat) | rng (a b : E) | enm (e : E) | zip (a b : E)

/-- what an except clause may say -/
inductive HE where
  | cst (v : PV) | fld (i : Nat) | tup (es : List HE)
inductive HA where
  | ret (e : HE) | asg (i : Nat) (e : HE)
structure Hd where
  cls : Nat
  act : HA

inductive S where
  | pass | expr (e : E) | asg (t : Tg) (e : E) | set (o i e : E) | aug (i : Nat) (o : Op) (e : E)
  | ret (e : E) | retN | ite (c : E) (a b : List S) | whl (c : E) (b : List S) | forS (t : Tg) (it : E) (b : List S)
  | brk | cnt | raise (c : Nat) (es : List E) | tryS (b : List S) (hs : List Hd) | tryN (b : List S) | bad

/-- what an expression comes to -/
inductive Rs (α : Type) where
  | ok (a : α) (h : PH) | ex (c : Nat) (vs : List PV) (h : PH) | no
/-- what a statement comes to -/
inductive Rt where
  | nx (r : Env) (h : PH) | rt (v : PV) (h : PH) | bk (r : Env) (h : PH) | ct (r : Env) (h : PH) | ex (c : Nat) (vs : List PV) (r : Env) (h : PH) | no

def Rs.bnd {α β : Type} (x : Rs α) (f : α → PH → Rs β) : Rs β := match x with
  | .ok a h => f a h
  | .ex c v h => .ex c v h
  | .no => .no
def Rs.st {α : Type} (x : Rs α) (r : Env) (f : α → PH → Rt) : Rt := match x with
  | .ok a h => f a h
  | .ex c v h => .ex c v r h
  | .no => .no

/-! ### by values -/
def optAll {α β : Type} (f : α → Option β) : List α → Option (List β)
  | [] => some []
  | x :: xs => match f x with
    | none => none
    | some y => match optAll f xs with
      | none => none
      | some ys => some (y :: ys)
/-- a value as data (lists read off the heap), at most so deep -/
def toD (h : PH) : Nat → PV → Option PyData
  | _, .non => some .none
  | _, .bl b => some (.bool b)
  | _, .int i => some (.int i)
  | _, .str s => if PyData.strOk s = true then some (.str s) else none
  | n + 1, .tup xs => match optAll (toD h n) xs with
    | none => none
    | some ds => some (.tuple ds)
  | 0, .tup _ => none
  | n + 1, .obj a => match h[a]? with
    | some (.lst _ xs) => match optAll (toD h n) xs with
      | none => none
      | some ds => some (.list ds)
    | _ => none
  | 0, .obj _ => none
def pyEq (h : PH) (x y : PV) : Option Bool := match toD h 60 x, toD h 60 y with
  | some a, some b => some (PyData.eqv a b)
  | _, _ => none
def toKey : PV → Option Key
  | .int i => some (.inl i)
  | .str s => some (.inr s)
  | _ => none
def toTK : PV → Option (List Key)
  | .tup xs => optAll toKey xs
  | _ => none
def ofKey : Key → PV
  | .inl i => .int i
  | .inr s => .str s
def look {κ : Type} [DecidableEq κ] (k : κ) : List (κ × PV) → Option PV
  | [] => none
  | (a, v) :: r => if a = k then some v else look k r
def put {κ : Type} [DecidableEq κ] (k : κ) (v : PV) (kvs : List (κ × PV)) : List (κ × PV) :=
  if (kvs.any fun kv => decide (kv.1 = k)) = true then kvs.map (fun kv => if kv.1 = k then (kv.1, v) else kv) else kvs ++ [(k, v)]

def mulOk (i j : Int) : Bool := (decide (-(2 ^ 64) < i) && decide (i < 2 ^ 64)) || (decide (-(2 ^ 64) < j) && decide (j < 2 ^ 64))
def binop (o : Op) (x y : PV) (h : PH) : Rs PV := match o, x, y with
  | .add, .int i, .int j => .ok (.int (i + j)) h
  | .sub, .int i, .int j => .ok (.int (i - j)) h
  | .mul, .int i, .int j => if mulOk i j = true then .ok (.int (i * j)) h else .no
  | .fdiv, .int i, .int j => if 0 < j ∧ j.natAbs.log2 < 9000 then .ok (.int (i / j)) h else .no
  | .mod, .int i, .int j => if 0 < j then .ok (.int (i % j)) h else .no
  | .pow, .int i, .int j => if 0 ≤ j ∧ j ≤ 1000000 ∧ i.natAbs < 2 ^ 64 then .ok (.int (i ^ j.toNat)) h else .no
  | .mul, .tup xs, .int k => if xs.length ≤ 1000 ∧ -(2 ^ 63) ≤ k ∧ k ≤ 1000 then .ok (.tup (List.replicate k.toNat xs).flatten) h else .no
  | .mul, .obj a, .int k => match h[a]? with
    | some (.lst false xs) => if -(2 ^ 63) ≤ k ∧ k < 2 ^ 63 ∧ xs.length * k.toNat ≤ sizeLine then .ok (.obj h.length) (h ++ [.lst false (List.replicate k.toNat xs).flatten]) else .no
    | _ => .no
  | .add, .tup xs, .tup ys => if xs.length + ys.length ≤ sizeLine then .ok (.tup (xs ++ ys)) h else .no
  | .add, .obj a, .obj b => match h[a]?, h[b]? with
    | some (.lst false xs), some (.lst false ys) => if xs.length + ys.length ≤ sizeLine then .ok (.obj h.length) (h ++ [.lst false (xs ++ ys)]) else .no
    | _, _ => .no
  | _, _, _ => .no
/-- x in y -/
def flatP : PV → Bool
  | .non => true
  | .bl _ => true
  | .int _ => true
  | .str _ => true
  | _ => false
def eqF : PV → PV → Bool
  | .non, .non => true
  | .bl a, .bl b => a == b
  | .bl a, .int b => (if a then 1 else 0) == b
  | .int a, .bl b => a == (if b then 1 else 0)
  | .int a, .int b => a == b
  | .str a, .str b => a == b
  | _, _ => false
def isIn (h : PH) (x y : PV) : Option Bool := match y with
  | .tup xs => if (flatP x && xs.all flatP) = true then some (xs.any fun y => eqF y x) else none
  | .obj n => match h[n]? with
    | some (.lst _ _) => match toD h 60 x, toD h 60 (.obj n) with
      | some d, some (.list ds) => some (ds.any fun z => PyData.eqv z d)
      | _, _ => none
    | some (.dK kvs) => (toKey x).map fun k => (look k kvs).isSome
    | some (.dT kvs) => (toTK x).map fun k => (look k kvs).isSome
    | some (.lkd kvs) => (toKey x).map fun k => (look k kvs).isSome
    | none => none
  | _ => none
def isBl (b : Bool) : PV → Bool
  | .bl c => c == b
  | _ => false
def isNon : PV → Bool
  | .non => true
  | _ => false
def cmpop (c : Cp) (x y : PV) (h : PH) : Option Bool := match c, x, y with
  | .lt, .int i, .int j => some (decide (i < j))
  | .le, .int i, .int j => some (decide (i ≤ j))
  | .gt, .int i, .int j => some (decide (j < i))
  | .ge, .int i, .int j => some (decide (j ≤ i))
  | .eq, x, y => pyEq h x y
  | .ne, x, y => (pyEq h x y).map (!·)
  | .is, x, .non => some (isNon x)
  | .isnot, x, .non => some (!isNon x)
  | .is, x, .bl b => some (isBl b x)
  | .isnot, x, .bl b => some (!isBl b x)
  | .isin, x, y => isIn h x y
  | .notin, x, y => (isIn h x y).map (!·)
  | _, _, _ => none
def idxop (x y : PV) (h : PH) : Option PV := match x, y with
  | .tup xs, .int i => atI xs i
  | .obj n, y => match h[n]?, y with
    | some (.lst _ xs), .int i => atI xs i
    | some (.dK kvs), y => (toKey y).bind fun k => look k kvs
    | some (.dT kvs), y => (toTK y).bind fun k => look k kvs
    | some (.lkd kvs), y => (toKey y).bind fun k => look k kvs
    | _, _ => none
  | _, _ => none
def cutP (xs : List PV) (lo hi : Option Int) : List PV := (xs.drop (HT.sIx xs.length 0 lo)).take (HT.sIx xs.length xs.length hi - HT.sIx xs.length 0 lo)
def slcop (x : PV) (lo hi : Option Int) (h : PH) : Rs PV := match x with
  | .tup xs => .ok (.tup (cutP xs lo hi)) h
  | .obj n => match h[n]? with
    | some (.lst _ xs) => .ok (.obj h.length) (h ++ [.lst false (cutP xs lo hi)])
    | _ => .no
  | _ => .no
def lenOf (x : PV) (h : PH) : Option Nat := match x with
  | .tup xs => some xs.length
  | .obj n => match h[n]? with
    | some (.lst _ xs) => some xs.length
    | some (.dK kvs) => some kvs.length
    | some (.dT kvs) => some kvs.length
    | _ => none
  | _ => none
def isTy (t : Ty) (x : PV) (h : PH) : Option Bool := match x with
  | .non => some false
  | .bl _ => some (match t with | .int => true | .bool => true | _ => false)
  | .int _ => some (match t with | .int => true | _ => false)
  | .str _ => some (match t with | .str => true | _ => false)
  | .tup _ => some (match t with | .tuple => true | _ => false)
  | .obj n => match h[n]? with
    | some (.lst _ _) => some (match t with | .list => true | _ => false)
    | some (.dK _) => some (match t with | .dict => true | _ => false)
    | some (.dT _) => some (match t with | .dict => true | _ => false)
    | _ => none
def bfop (b : Bf) (vs : List PV) (h : PH) : Option PV := match b, vs with
  | .len, [x] => (lenOf x h).map fun (n : Nat) => PV.int (n : Int)
  | .int, [.int i] => some (.int i)
  | .int, [.bl b] => some (.int (if b then 1 else 0))
  | .min, [.int i, .int j] => some (.int (if j < i then j else i))
  | .max, [.int i, .int j] => some (.int (if j > i then j else i))
  | .isinst t, [x] => (isTy t x h).map .bl
  | _, _ => none
def mtop (m : Mt) (o : PV) (vs : List PV) (h : PH) : Rs PV := match o with
  | .obj n => match m, vs, h[n]? with
    | .append, [v], some (.lst false xs) => if xs.length < sizeLine then .ok .non (h.set n (.lst false (xs ++ [v]))) else .no
    | .get1, [k], some (.dK kvs) => match toKey k with | some k => .ok ((look k kvs).getD .non) h | none => .no
    | .get1, [k], some (.dT kvs) => match toTK k with | some k => .ok ((look k kvs).getD .non) h | none => .no
    | .get2, [k, d], some (.dK kvs) => match toKey k with | some k => .ok ((look k kvs).getD d) h | none => .no
    | .get2, [k, d], some (.dT kvs) => match toTK k with | some k => .ok ((look k kvs).getD d) h | none => .no
    | .index, [x], some (.lst _ _) => match toD h 60 x, toD h 60 (.obj n) with
      | some d, some (.list ds) => match ds.findIdx? (fun z => PyData.eqv z d) with
        | some j => .ok (.int j) h
        | none => .no
      | _, _ => .no
    | .pop, [], some (.lst false xs) => match xs[xs.length - 1]? with | some y => .ok y (h.set n (.lst false xs.dropLast)) | none => .no
    | _, _, _ => .no
  | _ => .no
/-- what a method is asked of -/
def mtTy (m : Mt) (o : PV) (h : PH) : Bool := match o with
  | .obj n => match m, h[n]? with
    | .append, some (.lst _ _) => true
    | .index, some (.lst _ _) => true
    | .pop, some (.lst _ _) => true
    | .get1, some (.dK _) => true
    | .get1, some (.dT _) => true
    | .get2, some (.dK _) => true
    | .get2, some (.dT _) => true
    | _, _ => false
  | _ => false
/-- o[i] = v -/
def setop (o i v : PV) (h : PH) : Option PH := match o with
  | .obj n => match h[n]?, i with
    | some (.lst false xs), .int k => (ixN xs.length k).map fun j => h.set n (.lst false (xs.set j v))
    | some (.dK kvs), i => (toKey i).bind fun k => if kvs.length < sizeLine then some (h.set n (.dK (put k v kvs))) else none
    | some (.dT kvs), i => (toTK i).bind fun k => if kvs.length < sizeLine then some (h.set n (.dT (put k v kvs))) else none
    | _, _ => none
  | _ => none

/-! ### what is walked -/
inductive It where
  | vals (xs : List PV) | live (n : Nat) | enm (it : It) | zip (a b : It) | rng (lo : Int) (n : Nat)
  | tvs (xs : List PV) | keys (ks : List Key)
def itAt : It → Nat → PH → Option (Option PV)
  | .vals xs, i, _ => some xs[i]?
  | .live n, i, h => match h[n]? with
    | some (.lst _ xs) => some xs[i]?
    | _ => none
  | .enm it, i, h => match itAt it i h with
    | some (some x) => some (some (.tup [.int i, x]))
    | r => r
  | .zip a b, i, h => match itAt a i h, itAt b i h with
    | some (some x), some (some y) => some (some (.tup [x, y]))
    | some _, some _ => some none
    | _, _ => none
  | .rng lo n, i, _ => some (if i < n then some (.int (lo + i)) else none)
  | .tvs _, _, _ => none
  | .keys ks, i, _ => some (ks[i]?.map ofKey)
def enl (k : Nat) : List PV → List PV
  | [] => []
  | x :: xs => .tup [.int k, x] :: enl (k + 1) xs
def itList : It → PH → Option (List PV)
  | .vals xs, _ => some xs
  | .live n, h => match h[n]? with
    | some (.lst _ xs) => some xs
    | _ => none
  | .enm it, h => (itList it h).map (enl 0)
  | .zip a b, h => match itList a h, itList b h with
    | some xs, some ys => some (List.zipWith (fun x y => .tup [x, y]) xs ys)
    | _, _ => none
  | .rng lo n, _ => some ((List.range n).map fun i => .int (lo + (i : Nat)))
  | .tvs xs, _ => some xs
  | .keys ks, _ => some (ks.map ofKey)
/-- what a consumer is handed: a tuple, a list, a dict's keys -/
def toItC (x : PV) (h : PH) : Option It := match x with
  | .tup xs => some (.tvs xs)
  | .obj n => match h[n]? with
    | some (.lst _ _) => some (.live n)
    | some (.dK kvs) => some (.keys (kvs.map (·.1)))
    | _ => none
  | _ => none
def toIt (x : PV) (h : PH) : Option It := match x with
  | .tup xs => some (.vals xs)
  | .obj n => match h[n]? with
    | some (.lst _ _) => some (.live n)
    | _ => none
  | _ => none
def zipIt (x y : PV) (h : PH) : Option It := match toIt x h, toIt y h with
  | some (.live m), some (.live n) => some (.zip (.live m) (.live n))
  | some (.vals xs), some (.vals ys) => some (.zip (.vals xs) (.vals ys))
  | _, _ => none
def intsOf : List PV → Option (List Int)
  | [] => some []
  | .int i :: r => (intsOf r).map (i :: ·)
  | _ => none
def blsOf : List PV → Option (List Bool)
  | [] => some []
  | .bl b :: r => (blsOf r).map (b :: ·)
  | _ => none
def insI (x : Int) : List Int → List Int
  | [] => [x]
  | y :: ys => if x ≤ y then x :: y :: ys else y :: insI x ys
def sortI : List Int → List Int
  | [] => []
  | x :: xs => insI x (sortI xs)
def conop (f : Fo) (xs : List PV) (h : PH) : Rs PV := match f with
  | .tuple => if xs.length ≤ sizeLine then .ok (.tup xs) h else .no
  | .list => if xs.length ≤ sizeLine then .ok (.obj h.length) (h ++ [.lst false xs]) else .no
  | .all => match blsOf xs with | some bs => .ok (.bl (bs.all id)) h | none => .no
  | .any => match blsOf xs with | some bs => .ok (.bl (bs.any id)) h | none => .no
  | .sum => match intsOf xs with | some ns => .ok (.int ns.sum) h | none => .no
  | .sorted => match intsOf xs with | some ns => if ns.length ≤ sizeLine then .ok (.obj h.length) (h ++ [.lst false ((sortI ns).map .int)]) else .no | none => .no
  | .min => match intsOf xs with | some (n :: ns) => .ok (.int (ns.foldl min n)) h | _ => .no
  | .max => match intsOf xs with | some (n :: ns) => .ok (.int (ns.foldl max n)) h | _ => .no

def intK : List Key → Option (List Int)
  | [] => some []
  | .inl i :: r => (intK r).map (i :: ·)
  | _ => none
def conW (f : Fo) (w : It) (h : PH) : Rs PV := match w with
  | .keys ks => match f with
    | .sorted => match intK ks with | some ns => if ns.length < 64 then .ok (.obj h.length) (h ++ [.lst false ((sortI ns).map .int)]) else .no | none => .no
    | .list => if ks.length ≤ sizeLine then .ok (.obj h.length) (h ++ [.lst false (ks.map ofKey)]) else .no
    | _ => .no
  | .tvs xs => match f with
    | .tuple => .ok (.tup xs) h
    | .list => if xs.length ≤ sizeLine then .ok (.obj h.length) (h ++ [.lst false xs]) else .no
    | _ => .no
  | .rng lo n => match f with
    | .tuple => if -(2 ^ 62) ≤ lo ∧ lo + n < 2 ^ 62 ∧ n ≤ 16777216 then .ok (.tup ((List.range n).map fun i => .int (lo + (i : Nat)))) h else .no
    | .list => if -(2 ^ 62) ≤ lo ∧ lo + n < 2 ^ 62 ∧ n ≤ 16777216 then .ok (.obj h.length) (h ++ [.lst false ((List.range n).map fun i => .int (lo + (i : Nat)))]) else .no
    | _ => .no
  | .zip (.vals xs) (.vals ys) => match f with
    | .tuple => .ok (.tup (List.zipWith (fun x y => .tup [x, y]) xs ys)) h
    | _ => .no
  | .zip .. => .no
  | .enm _ => .no
  | w => match itList w h with
    | some xs => conop f xs h
    | none => .no

/-! ### targets -/
mutual
def bindT : Tg → PV → Env → Option Env
  | .nm i, v, r => some (r.set i (some v))
  | .tup ts, .tup xs, r => bindTs ts xs r
  | .tup _, _, _ => none
def bindTs : List Tg → List PV → Env → Option Env
  | [], [], r => some r
  | t :: ts, x :: xs, r => match bindT t x r with
    | some r' => bindTs ts xs r'
    | none => none
  | _, _, _ => none
end
def wipeP (r : Env) : List Nat → Env
  | [] => r
  | v :: vs => (wipeP r vs).set v none

/-! ### loops -/
inductive Lp (σ ρ : Type) where
  | go (s : σ) (h : PH) | out (r : ρ)
def loopIt {σ ρ : Type} (it : It) (step : PV → σ → PH → Lp σ ρ) (done : σ → PH → ρ) (bad : ρ) : Nat → Nat → σ → PH → ρ
  | 0, _, _, _ => bad
  | n + 1, i, s, h => match itAt it i h with
    | none => bad
    | some none => done s h
    | some (some x) => match step x s h with
      | .go s' h' => loopIt it step done bad n (i + 1) s' h'
      | .out r => r
def loopW {σ ρ : Type} (step : σ → PH → Lp σ ρ) (bad : ρ) : Nat → σ → PH → ρ
  | 0, _, _ => bad
  | n + 1, s, h => match step s h with
    | .go s' h' => loopW step bad n s' h'
    | .out r => r

/-! ### the interpreter -/
structure Cc where
  call : Nat → List PV → PH → Rs PV
  glb : Nat → Option PV
  fuel : Nat

def tstB (x : Rs PV) : Rs Bool := match x with
  | .ok (.bl b) h => .ok b h
  | .ok _ _ => .no
  | .ex c v h => .ex c v h
  | .no => .no
def truth (v : PV) (h : PH) : Option Bool := match v with
  | .non => some false
  | .bl b => some b
  | .int i => some (i != 0)
  | .str _ => none
  | .tup xs => some (!xs.isEmpty)
  | .obj n => match h[n]? with
    | some (.lst _ xs) => some (!xs.isEmpty)
    | some (.dK kvs) => some (!kvs.isEmpty)
    | _ => none
def tst (x : Rs PV) : Rs Bool := match x with
  | .ok v h => match truth v h with
    | some b => .ok b h
    | none => .no
  | .ex c v h => .ex c v h
  | .no => .no
def optInt (x : Rs PV) : Rs (Option Int) := match x with
  | .ok (.int i) h => .ok (some i) h
  | .ok _ _ => .no
  | .ex c v h => .ex c v h
  | .no => .no
def E.isNop : E → Bool
  | .nop => true
  | _ => false
def ofOpt (h : PH) : Option PV → Rs PV
  | some v => .ok v h
  | none => .no
def ofOptB (h : PH) : Option Bool → Rs PV
  | some v => .ok (.bl v) h
  | none => .no
def ofOptI (h : PH) : Option It → Rs It
  | some v => .ok v h
  | none => .no
def pairsK : List PV → List (Key × PV) → Option (List (Key × PV))
  | [], acc => some acc
  | k :: v :: r, acc => match toKey k with
    | some k => pairsK r (put k v acc)
    | none => none
  | _, _ => none
/-- one turn of a comprehension -/
def compStep (t : Tg) (own : List Nat) (r : Env) (cond elt : Env → PH → Rs PV) (x : PV) (acc : List PV) (h : PH) : Lp (List PV) (Rs (List PV)) :=
  match bindT t x (wipeP r own) with
  | none => .out .no
  | some r' => match tst (cond r' h) with
    | .ok true h1 => match elt r' h1 with
      | .ok y h2 => if acc.length < sizeLine then .go (acc ++ [y]) h2 else .out .no
      | _ => .out .no
    | .ok false h1 => .go acc h1
    | _ => .out .no
def pairsT : List PV → List (List Key × PV) → Option (List (List Key × PV))
  | [], acc => some acc
  | k :: v :: r, acc => match toTK k with
    | some k => pairsT r (put k v acc)
    | none => none
  | _, _ => none
/-- the dict at n is read, not written, meanwhile -/
def lockD (n : Nat) (h : PH) : Option (List Key × PH) := match h[n]? with
  | some (.dK kvs) => some (kvs.map (·.1), h.set n (.lkd kvs))
  | _ => none
def unlockD (n : Nat) (h : PH) : Option PH := match h[n]? with
  | some (.lkd kvs) => some (h.set n (.dK kvs))
  | _ => none
def newListD (n : Nat) (xs : Rs (List PV)) : Rs PV := xs.bnd fun ys h => match unlockD n h with
  | some h => .ok (.obj h.length) (h ++ [.lst false ys])
  | none => .no
def newList (xs : Rs (List PV)) : Rs PV := xs.bnd fun ys h => .ok (.obj h.length) (h ++ [.lst false ys])
def valsIt (xs : Rs (List PV)) : Rs It := xs.bnd fun ys h => .ok (.vals ys) h
def rngOf (x y : PV) (h : PH) : Rs It := match x, y with
  | .int i, .int j => if -(2 ^ 62) ≤ i ∧ i < 2 ^ 62 ∧ -(2 ^ 62) ≤ j ∧ j < 2 ^ 62 then .ok (.rng i (j - i).toNat) h else .no
  | _, _ => .no
def pick (vs : List PV) (ord : List Nat) : Option (List PV) := optAll (fun i => vs[i]?) ord

mutual
def evE (c : Cc) : E → Env → PH → Rs PV
  | .cst v, _, h => .ok v h
  | .var i, r, h => match r[i]? with
    | some (some v) => .ok v h
    | _ => .no
  | .glb g, _, h => ofOpt h (c.glb g)
  | .tup es, r, h => (evL c es r h).bnd fun vs h => if vs.length ≤ sizeLine then .ok (.tup vs) h else .no
  | .lst es, r, h => (evL c es r h).bnd fun vs h => if vs.length ≤ sizeLine then .ok (.obj h.length) (h ++ [.lst false vs]) else .no
  | .dnew t, _, h => .ok (.obj h.length) (h ++ [if t then .dT [] else .dK []])
  | .dct es, r, h => (evL c es r h).bnd fun vs h => match pairsK vs [] with
    | some kvs => if vs.length ≤ 30 then .ok (.obj h.length) (h ++ [.dK kvs]) else .no
    | none => .no
  | .bin o a b, r, h => (evE c a r h).bnd fun x h => (evE c b r h).bnd fun y h => binop o x y h
  | .neg a, r, h => (evE c a r h).bnd fun x h => match x with
    | .int i => .ok (.int (-i)) h
    | _ => .no
  | .not a, r, h => (tst (evE c a r h)).bnd fun x h => .ok (.bl (!x)) h
  | .and a b, r, h => (tstB (evE c a r h)).bnd fun x h => if x = true then (tstB (evE c b r h)).bnd fun y h => .ok (.bl y) h else .ok (.bl false) h
  | .or a b, r, h => (tstB (evE c a r h)).bnd fun x h => if x = true then .ok (.bl true) h else (tstB (evE c b r h)).bnd fun y h => .ok (.bl y) h
  | .cmp o a b, r, h => (evE c a r h).bnd fun x h => (evE c b r h).bnd fun y h => ofOptB h (cmpop o x y h)
  | .chn o p a b e, r, h => (evE c a r h).bnd fun x h => (evE c b r h).bnd fun y h => match cmpop o x y h with
    | some true => (evE c e r h).bnd fun z h => ofOptB h (cmpop p y z h)
    | some false => .ok (.bl false) h
    | none => .no
  | .ite t a b, r, h => (tst (evE c t r h)).bnd fun x h => if x = true then evE c a r h else evE c b r h
  | .idx a b, r, h => (evE c a r h).bnd fun x h => (evE c b r h).bnd fun y h => ofOpt h (idxop x y h)
  | .slc a lo hi, r, h => (evE c a r h).bnd fun x h =>
    (if lo.isNop then .ok none h else optInt (evE c lo r h)).bnd fun l h =>
    (if hi.isNop then .ok none h else optInt (evE c hi r h)).bnd fun u h => slcop x l u h
  | .call f es, r, h => (evL c es r h).bnd fun vs h => c.call f vs h
  | .callK f es ks ord, r, h => (evL c es r h).bnd fun vs h => (evL c ks r h).bnd fun us h => match pick (vs ++ us) ord with
    | some ws => c.call f ws h
    | none => .no
  | .bf b es, r, h => (evL c es r h).bnd fun vs h => ofOpt h (bfop b vs h)
  | .mt m o es, r, h => (evE c o r h).bnd fun x h => if mtTy m x h = true then (evL c es r h).bnd fun vs h => mtop m x vs h else .no
  | .comp elt t it cond own, r, h => (evI c it r h).bnd fun w h =>
    newList (loopIt w (compStep t own r (fun r h => evE c cond r h) (fun r h => evE c elt r h)) (fun acc h => .ok acc h) .no c.fuel 0 [] h)
  | .compD elt t i cond own, r, h => match r[i]? with
    | some (some (.obj n)) => match lockD n h with
      | some (ks, h1) => newListD n (loopIt (.keys ks) (compStep t own r (fun r h => evE c cond r h) (fun r h => evE c elt r h)) (fun acc h => .ok acc h) .no c.fuel 0 [] h1)
      | none => .no
    | _ => .no
  | .dctT es, r, h => (evL c es r h).bnd fun vs h => match pairsT vs [] with
    | some kvs => if vs.length ≤ 30 then .ok (.obj h.length) (h ++ [.dT kvs]) else .no
    | none => .no
  | .con f it, r, h => (evI c it r h).bnd fun w h => conW f w h
  | .nop, _, _ => .no
  | .itv _, _, _ => .no
  | .its _, _, _ => .no
  | .itc .., _, _ => .no
  | .rng .., _, _ => .no
  | .enm .., _, _ => .no
  | .zip .., _, _ => .no
def evL (c : Cc) : List E → Env → PH → Rs (List PV)
  | [], _, h => .ok [] h
  | e :: es, r, h => (evE c e r h).bnd fun v h => (evL c es r h).bnd fun vs h => .ok (v :: vs) h
def evI (c : Cc) : E → Env → PH → Rs It
  | .itv e, r, h => (evE c e r h).bnd fun x h => ofOptI h (toIt x h)
  | .its e, r, h => (evE c e r h).bnd fun x h => ofOptI h (toItC x h)
  | .itc elt t it cond own, r, h => (evI c it r h).bnd fun w h =>
    valsIt (loopIt w (compStep t own r (fun r h => evE c cond r h) (fun r h => evE c elt r h)) (fun acc h => .ok acc h) .no c.fuel 0 [] h)
  | .rng a b, r, h => (evE c a r h).bnd fun x h => (evE c b r h).bnd fun y h => rngOf x y h
  | .enm e, r, h => (evE c e r h).bnd fun x h => ofOptI h ((toIt x h).map .enm)
  | .zip a b, r, h => (evE c a r h).bnd fun x h => (evE c b r h).bnd fun y h => ofOptI h (zipIt x y h)
  | _, _, _ => .no
end

mutual
def hev (fs : List PV) : HE → Option PV
  | .cst v => some v
  | .fld i => fs[i]?
  | .tup es => (hevs fs es).map .tup
def hevs (fs : List PV) : List HE → Option (List PV)
  | [] => some []
  | e :: es => match hev fs e, hevs fs es with
    | some v, some vs => some (v :: vs)
    | _, _ => none
end
/-- the except clauses, asked in turn -/
def handle (hs : List Hd) (c : Nat) (fs : List PV) (r : Env) (h : PH) : Rt := match hs with
  | [] => .ex c fs r h
  | d :: ds => if d.cls = c then match d.act with
      | .ret e => match hev fs e with | some v => .rt v h | none => .no
      | .asg i e => match hev fs e with | some v => .nx (r.set i (some v)) h | none => .no
    else handle ds c fs r h
def augop (o : Op) (i : Int) (y : PV) : Option PV := match o, y with
  | .add, .int j => some (.int (i + j))
  | .sub, .int j => some (.int (i - j))
  | _, _ => none

mutual
def exS (c : Cc) : S → Env → PH → Rt
  | .pass, r, h => .nx r h
  | .expr e, r, h => (evE c e r h).st r fun _ h => .nx r h
  | .asg t e, r, h => (evE c e r h).st r fun v h => match bindT t v r with
    | some r' => .nx r' h
    | none => .no
  | .set o i e, r, h => (evE c e r h).st r fun v h => (evE c o r h).st r fun x h => (evE c i r h).st r fun y h => match setop x y v h with
    | some h => .nx r h
    | none => .no
  | .aug i o e, r, h => match r[i]? with
    | some (some (.int k)) => (evE c e r h).st r fun y h => match augop o k y with
      | some z => .nx (r.set i (some z)) h
      | none => .no
    | _ => .no
  | .ret e, r, h => (evE c e r h).st r fun v h => .rt v h
  | .retN, _, h => .rt .non h
  | .ite t a b, r, h => (tst (evE c t r h)).st r fun x h => if x = true then exB c a r h else exB c b r h
  | .whl t b, r, h => loopW (fun r h => match tst (evE c t r h) with
      | .ok true h1 => match exB c b r h1 with
        | .nx r' h' => .go r' h'
        | .ct r' h' => .go r' h'
        | .bk r' h' => .out (.nx r' h')
        | z => .out z
      | .ok false h1 => .out (.nx r h1)
      | .ex k vs h1 => .out (.ex k vs r h1)
      | .no => .out .no) .no c.fuel r h
  | .forS t it b, r, h => (evI c it r h).st r fun w h => loopIt w (fun x r h => match bindT t x r with
      | none => .out .no
      | some r1 => match exB c b r1 h with
        | .nx r' h' => .go r' h'
        | .ct r' h' => .go r' h'
        | .bk r' h' => .out (.nx r' h')
        | z => .out z) (fun r h => .nx r h) .no c.fuel 0 r h
  | .brk, r, h => .bk r h
  | .cnt, r, h => .ct r h
  | .raise k es, r, h => (evL c es r h).st r fun vs h => .ex k vs r h
  | .bad, _, _ => .no
  | .tryN b, r, h => match exB c b r h with
    | .ex .. => .no
    | z => z
  | .tryS b hs, r, h => match exB c b r h with
    | .ex k vs r' h' => handle hs k vs r' h'
    | z => z
def exB (c : Cc) : List S → Env → PH → Rt
  | [], r, h => .nx r h
  | s :: ss, r, h => match exS c s r h with
    | .nx r' h' => exB c ss r' h'
    | z => z
end

/-! ### calls -/
mutual
def PV.old (n : Nat) : PV → Bool
  | .obj a => decide (a < n)
  | .tup xs => oldL n xs
  | _ => true
def oldL (n : Nat) : List PV → Bool
  | [] => true
  | x :: xs => x.old n && oldL n xs
end
def PO.old (n : Nat) : PO → Bool
  | .lst _ xs => oldL n xs
  | .dK kvs => oldL n (kvs.map (·.2))
  | .dT kvs => oldL n (kvs.map (·.2))
  | .lkd kvs => oldL n (kvs.map (·.2))
/-- what a call leaves: what it made and nobody holds goes -/
def gc (n : Nat) (v : PV) (h : PH) : PH := if (v.old n && (h.take n).all (·.old n)) = true then h.take n else h
def gcL (n : Nat) (vs : List PV) (h : PH) : PH := if (oldL n vs && (h.take n).all (·.old n)) = true then h.take n else h

structure FD where
  np : Nat
  ns : Nat
  body : List S
structure Prog where
  defs : Nat → Option FD
  glb : Nat → Option PV
  fuel : Nat
def outOf (n : Nat) : Rt → Rs PV
  | .nx _ h => .ok .non (gc n .non h)
  | .rt v h => .ok v (gc n v h)
  | .ex c vs _ h => .ex c vs (gcL n vs h)
  | _ => .no
def callF (P : Prog) : Nat → Nat → List PV → PH → Rs PV
  | 0, _, _, _ => .no
  | k + 1, f, vs, h => match P.defs f with
    | none => .no
    | some d => if vs.length = d.np then outOf h.length (exB ⟨callF P k, P.glb, P.fuel⟩ d.body (vs.map some ++ List.replicate (d.ns - d.np) none) h) else .no
def Prog.cc (P : Prog) (k : Nat) : Cc := ⟨callF P k, P.glb, P.fuel⟩

/-! a trial -/
def tryP : Prog := ⟨fun n => match n with
  | 0 => some ⟨1, 3, [.asg (.tup [.nm 1]) (.tup [.cst (.int 0)]), .forS (.nm 2) (.rng (.cst (.int 0)) (.var 0)) [.aug 1 .add (.var 2)], .ret (.var 1)]⟩
  | _ => none, fun _ => none, 1000000⟩
theorem try1 : (match callF tryP 1 0 [.int 1000] [] with | .ok (.int i) [] => i == 499500 | _ => false) = true := by decide +kernel
end EV
end
section
set_option Elab.async false
set_option linter.all false
set_option maxRecDepth 100000
/-! EvRep: how the own values and the own heap stand in the hand layer's heap. -/
namespace EV
open PySem L2

section

mutual
inductive RepV (H : Hp) (as : List Addr) : PV → V → Prop
  | non : RepV H as .non .non
  | bl (b : Bool) : RepV H as (.bl b) (.bl b)
  | int (i : Int) : RepV H as (.int i) (.int i)
  | str (s : Str) : RepV H as (.str s) (.str s)
  | tup {xs : List PV} {vs : List V} {a : Addr} : H a = some (.tup vs) → RepL H as xs vs → RepV H as (.tup xs) (.ref a)
  | obj {n : Nat} {a : Addr} : as[n]? = some a → RepV H as (.obj n) (.ref a)
inductive RepL (H : Hp) (as : List Addr) : List PV → List V → Prop
  | nil : RepL H as [] []
  | cons {x : PV} {xs : List PV} {v : V} {vs : List V} : RepV H as x v → RepL H as xs vs → RepL H as (x :: xs) (v :: vs)
end
def RepKV {κ : Type} (H : Hp) (as : List Addr) : List (κ × PV) → List (κ × V) → Prop := Paired fun p q => p.1 = q.1 ∧ RepV H as p.2 q.2
def RepO (H : Hp) (as : List Addr) : PO → HO → Prop
  | .lst fz xs, ho => ∃ vs, RepL H as xs vs ∧ xs.length ≤ sizeLine ∧ if fz = true then ∃ o, ho = .frz o (.lst vs) else ho = .lst vs
  | .dK kvs, ho => ∃ ks, ho = .dK ks ∧ RepKV H as kvs ks
  | .dT kvs, ho => ∃ ks, ho = .dT ks ∧ RepKV H as kvs ks
  | .lkd kvs, ho => ∃ ks o, ho = .frz o (.dK ks) ∧ RepKV H as kvs ks
structure RepH (H : Hp) (as : List Addr) (h : PH) : Prop where
  len : as.length = h.length
  nd : as.Nodup
  at_ : ∀ (n : Nat) (o : PO) (a : Addr), h[n]? = some o → as[n]? = some a → ∃ ho, H a = some ho ∧ RepO H as o ho
/-- what was there is there: the own objects apart, all that is tracked is as it was -/
structure Ext (H : Hp) (as : List Addr) (H' : Hp) (as' : List Addr) : Prop where
  more : ∃ nw, as' = as ++ nw ∧ ∀ a ∈ nw, H a = none
  keep : ∀ a o, H a = some o → a ∉ as → H' a = some o
  there : ∀ a o, H a = some o → ∃ o', H' a = some o'
  fz : ∀ a o u, H a = some (.frz o u) → H' a = some (.frz o u)
structure Rp (H : Hp) (as : List Addr) (r : Env) (σ : St) (h : PH) : Prop where
  len : σ.length = r.length
  env : ∀ (i : Nat) (v : PV), r[i]? = some (some v) → ∃ u, σ[i]? = some (some u) ∧ RepV H as v u
  hp : RepH H as h
end

section
variable {K : PySem.W.Frag} {H H' H1 H2 : Hp} {as as' as1 as2 : List Addr} {h h' : PH}
theorem Ext.refl : Ext H as H as := ⟨⟨[], by simp⟩, fun _ _ e _ => e, fun _ o e => ⟨o, e⟩, fun _ _ _ e => e⟩
theorem Ext.trans (e1 : Ext H as H1 as1) (e2 : Ext H1 as1 H2 as2) : Ext H as H2 as2 := by
  obtain ⟨⟨n1, x1, f1⟩, k1, t1, z1⟩ := e1
  obtain ⟨⟨n2, x2, f2⟩, k2, t2, z2⟩ := e2
  have key : ∀ a o, H a = some o → a ∉ as → a ∉ as1 := fun a o q hn hm => by
    rw [x1] at hm
    rcases List.mem_append.mp hm with z | z
    · exact hn z
    · rw [f1 a z] at q; cases q
  refine ⟨⟨n1 ++ n2, by rw [x2, x1, List.append_assoc], fun a ha => ?_⟩, fun a o q hn => k2 a o (k1 a o q hn) (key a o q hn), fun a o q => ?_, fun a o u q => z2 a o u (z1 a o u q)⟩
  · rcases List.mem_append.mp ha with z | z
    · exact f1 a z
    · cases q : H a with
      | none => rfl
      | some o =>
        obtain ⟨o', q'⟩ := t1 a o q
        rw [f2 a z] at q'; cases q'
  · obtain ⟨o', q'⟩ := t1 a o q
    exact t2 a o' q'
theorem Ext.get (e : Ext H as H' as') {n : Nat} {a : Addr} (q : as[n]? = some a) : as'[n]? = some a := by
  obtain ⟨⟨nw, x, _⟩, _, _⟩ := e
  rw [x, List.getElem?_append_left (List.getElem?_eq_some_iff.mp q).1]
  exact q
/-- something stands beside -/
theorem Ext.beside {p : Addr} {o : HO} (hp : H p = none) : Ext H as (upd H p o) as :=
  ⟨⟨[], by simp⟩, fun a q e _ => by rw [upd_ne (ne_of_none e hp)]; exact e, fun a q e => ⟨q, by rw [upd_ne (ne_of_none e hp)]; exact e⟩, fun a q u e => by rw [upd_ne (ne_of_none e hp)]; exact e⟩
theorem Ext.new {p : Addr} {o : HO} (hp : H p = none) : Ext H as (upd H p o) (as ++ [p]) :=
  ⟨⟨[p], rfl, fun a ha => by simp at ha; subst ha; exact hp⟩, fun a q e _ => by rw [upd_ne (ne_of_none e hp)]; exact e, fun a q e => ⟨q, by rw [upd_ne (ne_of_none e hp)]; exact e⟩, fun a q u e => by rw [upd_ne (ne_of_none e hp)]; exact e⟩
theorem Ext.write {n : Nat} {a : Addr} {o : HO} (q : as[n]? = some a) (hf : ∀ o u, H a ≠ some (.frz o u)) : Ext H as (upd H a o) as :=
  ⟨⟨[], by simp⟩, fun b u e hb => by rw [upd_ne (fun z => hb (by rw [z]; exact List.mem_of_getElem? q))]; exact e, fun b u e => by
    by_cases hb : b = a
    · subst hb; exact ⟨_, upd_same⟩
    · exact ⟨u, by rw [upd_ne hb]; exact e⟩, fun b o u e => by rw [upd_ne (fun z => hf o u (by rw [← z]; exact e))]; exact e⟩
theorem Ext.same (s : Same H H') : Ext H as H' as := ⟨⟨[], by simp⟩, fun a o e _ => s a o e, fun a o e => ⟨o, s a o e⟩, fun a o u e => s a _ e⟩

/-- no tuple among the own objects -/
theorem RepH.noTup (r : RepH H as h) {a : Addr} (ha : a ∈ as) : (∀ vs, H a ≠ some (.tup vs)) ∧ ∀ o vs, H a ≠ some (.frz o (.tup vs)) := by
  obtain ⟨n, q⟩ := List.getElem?_of_mem ha
  have hl : n < h.length := by rw [← r.len]; exact (List.getElem?_eq_some_iff.mp q).1
  obtain ⟨ho, e, ro⟩ := r.at_ n h[n] a (List.getElem?_eq_getElem hl) q
  rw [e]
  cases hx : h[n] with
  | lst fz xs =>
    rw [hx] at ro
    obtain ⟨vs, _, _, z⟩ := ro
    cases fz with
    | true => obtain ⟨o, rfl⟩ := z; exact ⟨fun vs c => (by cases c), fun o vs c => (by cases c)⟩
    | false => cases z; exact ⟨fun vs c => (by cases c), fun o vs c => (by cases c)⟩
  | dK kvs =>
    rw [hx] at ro
    obtain ⟨ks, rfl, _⟩ := ro
    exact ⟨fun vs c => (by cases c), fun o vs c => (by cases c)⟩
  | dT kvs =>
    rw [hx] at ro
    obtain ⟨ks, rfl, _⟩ := ro
    exact ⟨fun vs c => (by cases c), fun o vs c => (by cases c)⟩
  | lkd kvs =>
    rw [hx] at ro
    obtain ⟨ks, o, rfl, _⟩ := ro
    exact ⟨fun vs c => (by cases c), fun o vs c => (by cases c)⟩
theorem tup_ext {a : Addr} {vs : List V} (q : H a = some (.tup vs)) (r : RepH H as h) (e : Ext H as H' as') : H' a = some (.tup vs) := e.keep _ _ q fun hm => (r.noTup hm).1 _ q
mutual
theorem RepV.ext (r : RepH H as h) (e : Ext H as H' as') : ∀ {x : PV} {v : V}, RepV H as x v → RepV H' as' x v
  | _, _, .non => .non
  | _, _, .bl b => .bl b
  | _, _, .int i => .int i
  | _, _, .str s => .str s
  | _, _, .tup q l => .tup (tup_ext q r e) (RepL.ext r e l)
  | _, _, .obj q => .obj (e.get q)
theorem RepL.ext (r : RepH H as h) (e : Ext H as H' as') : ∀ {x : List PV} {v : List V}, RepL H as x v → RepL H' as' x v
  | _, _, .nil => .nil
  | _, _, .cons a b => .cons (RepV.ext r e a) (RepL.ext r e b)
end
theorem RepKV.ext {κ : Type} (r : RepH H as h) (e : Ext H as H' as') : ∀ {x : List (κ × PV)} {v : List (κ × V)}, RepKV H as x v → RepKV H' as' x v
  | _, _, .nil => .nil
  | _, _, .cons a b => .cons ⟨a.1, a.2.ext r e⟩ (RepKV.ext r e b)
theorem RepO.ext (r : RepH H as h) (e : Ext H as H' as') {o : PO} {ho : HO} (q : RepO H as o ho) : RepO H' as' o ho := by
  cases o with
  | lst fz xs => obtain ⟨vs, l, z, c⟩ := q; exact ⟨vs, l.ext r e, z, c⟩
  | dK kvs => obtain ⟨ks, c, l⟩ := q; exact ⟨ks, c, l.ext r e⟩
  | dT kvs => obtain ⟨ks, c, l⟩ := q; exact ⟨ks, c, l.ext r e⟩
  | lkd kvs => obtain ⟨ks, o, c, l⟩ := q; exact ⟨ks, o, c, l.ext r e⟩
theorem RepL.length : ∀ {xs : List PV} {vs : List V}, RepL H as xs vs → xs.length = vs.length
  | _, _, .nil => rfl
  | _, _, .cons _ b => by simp [RepL.length b]
theorem RepL.get : ∀ {xs : List PV} {vs : List V} {i : Nat} {x : PV}, RepL H as xs vs → xs[i]? = some x → ∃ v, vs[i]? = some v ∧ RepV H as x v
  | _, _, _, _, .nil, e => by simp at e
  | _, _, 0, _, .cons a b, e => by simp at e; subst e; exact ⟨_, by simp, a⟩
  | _, _, i + 1, x, .cons a b, e => by
    obtain ⟨v, q, r⟩ := RepL.get (i := i) (x := x) b (by simpa using e)
    exact ⟨v, by simpa using q, r⟩
theorem RepL.getV : ∀ {xs : List PV} {vs : List V} {i : Nat} {v : V}, RepL H as xs vs → vs[i]? = some v → ∃ x, xs[i]? = some x ∧ RepV H as x v
  | _, _, _, _, .nil, e => by simp at e
  | _, _, 0, _, .cons a b, e => by simp at e; subst e; exact ⟨_, by simp, a⟩
  | _, _, i + 1, x, .cons a b, e => by
    obtain ⟨v, q, r⟩ := RepL.getV (i := i) (v := x) b (by simpa using e)
    exact ⟨v, by simpa using q, r⟩
theorem RepL.append : ∀ {xs ys : List PV} {vs ws : List V}, RepL H as xs vs → RepL H as ys ws → RepL H as (xs ++ ys) (vs ++ ws)
  | _, _, _, _, .nil, b => b
  | _, _, _, _, .cons a r, b => .cons a (RepL.append r b)
theorem RepL.rep {xs : List PV} {vs : List V} (r : RepL H as xs vs) : ∀ n : Nat, RepL H as (List.replicate n xs).flatten (List.replicate n vs).flatten
  | 0 => .nil
  | n + 1 => by
    rw [List.replicate_succ, List.replicate_succ, List.flatten_cons, List.flatten_cons]
    exact r.append (r.rep n)
theorem RepL.drop : ∀ (n : Nat) {xs : List PV} {vs : List V}, RepL H as xs vs → RepL H as (xs.drop n) (vs.drop n)
  | 0, _, _, r => r
  | _ + 1, _, _, .nil => .nil
  | n + 1, _, _, .cons _ b => RepL.drop n b
theorem RepL.take : ∀ (n : Nat) {xs : List PV} {vs : List V}, RepL H as xs vs → RepL H as (xs.take n) (vs.take n)
  | 0, _, _, _ => .nil
  | _ + 1, _, _, .nil => .nil
  | n + 1, _, _, .cons a b => .cons a (RepL.take n b)
theorem RepL.set {x : PV} {v : V} (q : RepV H as x v) : ∀ (n : Nat) {xs : List PV} {vs : List V}, RepL H as xs vs → RepL H as (xs.set n x) (vs.set n v)
  | _, _, _, .nil => .nil
  | 0, _, _, .cons _ b => .cons q b
  | n + 1, _, _, .cons a b => .cons a (RepL.set q n b)
theorem RepL.dropLast : ∀ {xs : List PV} {vs : List V}, RepL H as xs vs → RepL H as xs.dropLast vs.dropLast
  | _, _, .nil => .nil
  | _, _, .cons a .nil => .nil
  | _, _, .cons a (.cons b c) => .cons a (RepL.dropLast (.cons b c))
theorem RepKV.length {κ : Type} {kvs : List (κ × PV)} {ks : List (κ × V)} (r : RepKV H as kvs ks) : kvs.length = ks.length := Paired.length r

/-- the own object at n -/
theorem RepH.obj (r : RepH H as h) {n : Nat} {o : PO} {a : Addr} (q : h[n]? = some o) (qa : as[n]? = some a) : ∃ ho, H a = some ho ∧ RepO H as o ho := r.at_ n o a q qa
theorem RepH.lst (r : RepH H as h) {n : Nat} {fz : Bool} {xs : List PV} {a : Addr} (q : h[n]? = some (.lst fz xs)) (qa : as[n]? = some a) :
    ∃ vs, RepL H as xs vs ∧ xs.length ≤ sizeLine ∧ SqL K H a vs ∧ (fz = false → H a = some (.lst vs)) := by
  obtain ⟨ho, e, vs, l, z, c⟩ := r.at_ n _ a q qa
  cases fz with
  | true => obtain ⟨o, rfl⟩ := c; exact ⟨vs, l, z, .inl (.inr ⟨o, e⟩), fun w => by cases w⟩
  | false => cases c; exact ⟨vs, l, z, .inl (.inl e), fun _ => e⟩
theorem RepH.dk (r : RepH H as h) {n : Nat} {kvs : List (Key × PV)} {a : Addr} (q : h[n]? = some (.dK kvs)) (qa : as[n]? = some a) :
    ∃ ks, H a = some (.dK ks) ∧ RepKV H as kvs ks := by
  obtain ⟨ho, e, ks, rfl, l⟩ := r.at_ n _ a q qa
  exact ⟨ks, e, l⟩
theorem RepH.dt (r : RepH H as h) {n : Nat} {kvs : List (List Key × PV)} {a : Addr} (q : h[n]? = some (.dT kvs)) (qa : as[n]? = some a) :
    ∃ ks, H a = some (.dT ks) ∧ RepKV H as kvs ks := by
  obtain ⟨ho, e, ks, rfl, l⟩ := r.at_ n _ a q qa
  exact ⟨ks, e, l⟩
theorem RepH.lk (r : RepH H as h) {n : Nat} {kvs : List (Key × PV)} {a : Addr} (q : h[n]? = some (.lkd kvs)) (qa : as[n]? = some a) :
    ∃ ks o, H a = some (.frz o (.dK ks)) ∧ RepKV H as kvs ks := by
  obtain ⟨ho, e, ks, o, rfl, l⟩ := r.at_ n _ a q qa
  exact ⟨ks, o, e, l⟩
/-- what keeps the own objects -/
theorem RepH.ext (r : RepH H as h) (e : Ext H as H' as) (own : ∀ a ∈ as, H' a = H a) : RepH H' as h := by
  refine ⟨r.len, r.nd, fun n o a q qa => ?_⟩
  obtain ⟨ho, e1, ro⟩ := r.at_ n o a q qa
  exact ⟨ho, (own a (List.mem_of_getElem? qa)).trans e1, ro.ext r e⟩
theorem RepH.beside (r : RepH H as h) {p : Addr} {o : HO} (hp : H p = none) : RepH (upd H p o) as h := by
  refine r.ext (Ext.beside hp) fun a ha => ?_
  obtain ⟨n, q⟩ := List.getElem?_of_mem ha
  have hl : n < h.length := by rw [← r.len]; exact (List.getElem?_eq_some_iff.mp q).1
  obtain ⟨ho, e, _⟩ := r.at_ n h[n] a (List.getElem?_eq_getElem hl) q
  exact upd_ne (ne_of_none e hp)
theorem RepH.there (r : RepH H as h) {a : Addr} (ha : a ∈ as) : ∃ o, H a = some o := by
  obtain ⟨n, q⟩ := List.getElem?_of_mem ha
  have hl : n < h.length := by rw [← r.len]; exact (List.getElem?_eq_some_iff.mp q).1
  obtain ⟨ho, e, _⟩ := r.at_ n h[n] a (List.getElem?_eq_getElem hl) q
  exact ⟨ho, e⟩
theorem RepH.new (r : RepH H as h) {p : Addr} {o : HO} {po : PO} (hp : H p = none) (ro : RepO H as po o) : RepH (upd H p o) (as ++ [p]) (h ++ [po]) := by
  have e : Ext H as (upd H p o) (as ++ [p]) := Ext.new hp
  have hn : p ∉ as := fun hm => by
    obtain ⟨o, q⟩ := r.there hm
    rw [hp] at q; cases q
  refine ⟨by simp [r.len], ?_, fun n u a q qa => ?_⟩
  · rw [List.nodup_append]
    exact ⟨r.nd, by simp, fun a ha b hb => by simp at hb; subst hb; exact fun z => hn (z ▸ ha)⟩
  · by_cases hl : n < as.length
    · rw [List.getElem?_append_left hl] at qa
      rw [List.getElem?_append_left (by rw [← r.len]; exact hl)] at q
      obtain ⟨ho, e1, ro1⟩ := r.at_ n u a q qa
      exact ⟨ho, by rw [upd_ne (ne_of_none e1 hp)]; exact e1, ro1.ext r e⟩
    · have hl2 : as.length ≤ n := Nat.le_of_not_lt hl
      rw [List.getElem?_append_right hl2] at qa
      rw [List.getElem?_append_right (by rw [← r.len]; exact hl2), ← r.len] at q
      cases hk : n - as.length with
      | zero =>
        rw [hk] at q qa
        simp at q qa
        subst q qa
        exact ⟨o, upd_same, ro.ext r e⟩
      | succ m =>
        rw [hk] at qa
        simp at qa
theorem RepH.write (r : RepH H as h) {n : Nat} {a : Addr} {o : HO} {po : PO} (qa : as[n]? = some a) (hf : ∀ o u, H a ≠ some (.frz o u)) (ro : RepO H as po o) : RepH (upd H a o) as (h.set n po) := by
  have e : Ext H as (upd H a o) as := Ext.write qa hf
  refine ⟨by simp [r.len], r.nd, fun m u b q qb => ?_⟩
  by_cases hm : m = n
  · subst hm
    rw [qa] at qb; cases qb
    have hl : m < h.length := by rw [← r.len]; exact (List.getElem?_eq_some_iff.mp qa).1
    rw [List.getElem?_set_self hl] at q; cases q
    exact ⟨o, upd_same, ro.ext r e⟩
  · rw [List.getElem?_set_ne (Ne.symm hm)] at q
    obtain ⟨ho, e1, ro1⟩ := r.at_ m u b q qb
    have hb : b ≠ a := fun z => by
      subst z
      exact hm ((List.getElem?_inj (List.getElem?_eq_some_iff.mp qb).1 r.nd).mp (qb.trans qa.symm))
    exact ⟨ho, by rw [upd_ne hb]; exact e1, ro1.ext r e⟩
theorem Rp.to {r : Env} {σ : St} (p : Rp H as r σ h) (e : Ext H as H' as') (q : RepH H' as' h') : Rp H' as' r σ h' :=
  ⟨p.len, fun i v c => let ⟨u, c1, c2⟩ := p.env i v c; ⟨u, c1, c2.ext p.hp e⟩, q⟩
theorem Rp.beside {r : Env} {σ : St} {p : Addr} {o : HO} (q : Rp H as r σ h) (hp : H p = none) : Rp (upd H p o) as r σ h := q.to (Ext.beside hp) (q.hp.beside hp)
theorem RepL.consE {x : PV} {xs : List PV} {vs : List V} (r : RepL H as (x :: xs) vs) : ∃ u us, vs = u :: us ∧ RepV H as x u ∧ RepL H as xs us := by
  cases r with
  | cons a b => exact ⟨_, _, rfl, a, b⟩
theorem RepL.nilE {vs : List V} (r : RepL H as [] vs) : vs = [] := by
  cases r
  rfl
theorem RepV.intE {i : Int} {u : V} (r : RepV H as (.int i) u) : u = .int i := by cases r; rfl
theorem RepV.blE {i : Bool} {u : V} (r : RepV H as (.bl i) u) : u = .bl i := by cases r; rfl
theorem RepV.strE {i : Str} {u : V} (r : RepV H as (.str i) u) : u = .str i := by cases r; rfl
theorem RepV.nonE {u : V} (r : RepV H as .non u) : u = .non := by cases r; rfl
theorem RepV.tupE {xs : List PV} {u : V} (r : RepV H as (.tup xs) u) : ∃ a vs, u = .ref a ∧ H a = some (.tup vs) ∧ RepL H as xs vs := by
  cases r with
  | tup q l => exact ⟨_, _, rfl, q, l⟩
theorem RepV.objE {n : Nat} {u : V} (r : RepV H as (.obj n) u) : ∃ a, u = .ref a ∧ as[n]? = some a := by
  cases r with
  | obj q => exact ⟨_, rfl, q⟩
theorem RepL.ints : ∀ (xs : List PV) (vs : List V) (ns : List Int), RepL H as xs vs → intsOf xs = some ns → vs = ns.map V.int := by
  intro xs
  induction xs with
  | nil => intro vs ns r e; simp [intsOf] at e; subst e; exact r.nilE
  | cons x xs ih =>
    intro vs ns r e
    obtain ⟨u, us, rfl, a, b⟩ := r.consE
    cases x with
    | int i =>
      simp only [intsOf] at e
      cases q : intsOf xs with
      | none => rw [q] at e; cases e
      | some ms =>
        rw [q] at e
        simp at e
        subst e
        rw [ih us ms b q, a.intE]; rfl
    | _ => simp [intsOf] at e
theorem RepL.bls : ∀ (xs : List PV) (vs : List V) (ns : List Bool), RepL H as xs vs → blsOf xs = some ns → vs = ns.map V.bl := by
  intro xs
  induction xs with
  | nil => intro vs ns r e; simp [blsOf] at e; subst e; exact r.nilE
  | cons x xs ih =>
    intro vs ns r e
    obtain ⟨u, us, rfl, a, b⟩ := r.consE
    cases x with
    | bl i =>
      simp only [blsOf] at e
      cases q : blsOf xs with
      | none => rw [q] at e; cases e
      | some ms =>
        rw [q] at e
        simp at e
        subst e
        rw [ih us ms b q, a.blE]; rfl
    | _ => simp [blsOf] at e
theorem RepL.ofInts : ∀ ns : List Int, RepL H as (ns.map PV.int) (ns.map V.int)
  | [] => .nil
  | n :: ns => .cons (.int n) (RepL.ofInts ns)
end
end EV
end
section
set_option Elab.async false
set_option linter.all false
set_option maxRecDepth 100000
set_option maxHeartbeats 4000000
/-! EvRepT: tuple * int for any small int; is of a bool beside anything. -/
namespace L2
open PySem PySem.Spec PyProof.Rows
theorem ev_tuple_mulS (l : Addr) (items : Array Value) (n : Nat) (dd : Option Addr) (sl : Array (Option Value)) (x : Int) (u : Tok) (c0 : (decide (x < -(2 ^ 63)) || decide (x ≥ 2 ^ 63)) = false) (c1 : (items.isEmpty || x == 1) = true) :
    Meets (Builtin.«tuple.__mul__» ⟨[.ref l, .int x u], []⟩) (fun _ R s => s.heap.get? l = some { cls := .type "tuple", dict := dd, data := .seq items n, slots := sl } ∧
      R (.ok (.ret (Value.ref l))) s) :=
  .of_wp fun prog w A R s h => by
    obtain ⟨hp, g, d, tk, os⟩ := s
    obtain ⟨hl, h⟩ := h
    have f1 := AutoSeq1.idx_int
    wp_walk using wpAny_loadPart' hl
    repeat (first
      | (refine wpAny_ite_false (decide_eq_false (by rw [c0]; exact Bool.false_ne_true)) ?_; wp_walk using wpAny_loadPart' hl)
      | (refine wpAny_ite_true (decide_eq_true c1) ?_; wp_walk using wpAny_loadPart' hl))
    exact ⟨_, rfl, h⟩
theorem ev_tuple_mulZ (l : Addr) (items : Array Value) (n : Nat) (dd : Option Addr) (sl : Array (Option Value)) (x : Int) (u : Tok) (c0 : (decide (x < -(2 ^ 63)) || decide (x ≥ 2 ^ 63)) = false) (c1 : (items.isEmpty || x == 1) = false) (c2 : (decide (x ≤ 0) || items.isEmpty) = true) :
    Meets (Builtin.«tuple.__mul__» ⟨[.ref l, .int x u], []⟩) (fun _ R s => s.heap.get? l = some { cls := .type "tuple", dict := dd, data := .seq items n, slots := sl } ∧
      R (.ok (.ret (Value.ref s.heap.objs.size))) { s with heap := s.heap.push { cls := Value.type "tuple", data := Data.seq #[] }, toks := s.toks }) :=
  .of_wp fun prog w A R s h => by
    obtain ⟨hp, g, d, tk, os⟩ := s
    obtain ⟨hl, h⟩ := h
    have f1 := AutoSeq1.idx_int
    wp_walk using wpAny_loadPart' hl
    repeat (first
      | (refine wpAny_ite_false (decide_eq_false (by rw [c0]; exact Bool.false_ne_true)) ?_; wp_walk using wpAny_loadPart' hl)
      | (refine wpAny_ite_false (decide_eq_false (by rw [c1]; exact Bool.false_ne_true)) ?_; wp_walk using wpAny_loadPart' hl)
      | (refine wpAny_ite_true (decide_eq_true c2) ?_; wp_walk using wpAny_loadPart' hl))
    exact ⟨_, rfl, h⟩
def rRepX (K : PySem.W.Frag) : R2 := fun x y H Q => ∃ l k xs, x = .ref l ∧ y = .int k ∧ SqT K H l xs ∧ xs.length ≤ 1000 ∧ -(2 ^ 63) ≤ k ∧ k ≤ 1000 ∧ (k = 1 ∨ xs.length = 0 → Q (.ref l) H) ∧ ∀ p, H p = none → Q (.ref p) (upd H p (.tup (List.replicate k.toNat xs).flatten))
section
variable {X : Cx}
theorem op_repX : OpR X (binaryOp .Mult) (rRepX X.K) := by
  intro pins s σ H x y v u Q I rx ry h
  obtain ⟨l, k, xs, rfl, rfl, hT, hz, h1, h2, q1, q2⟩ := h
  by_cases hbig : xs ≠ [] ∧ 2 ≤ k
  · exact op_repT pins s σ H _ _ v u Q I rx ry ⟨l, k, xs, rfl, rfl, hT, hbig.1, hbig.2, h2, hz, q2⟩
  cases rx
  obtain ⟨t, rfl⟩ := ry
  obtain ⟨its, r, ⟨⟨cls, dd, data, sl⟩, ho, hc, n, hd⟩, hs⟩ := I.tuple hT
  simp only at hc hd
  subst hc hd
  have hle : its.length = xs.length := r.length.symm
  have c0 : (decide (k < -(2 ^ 63)) || decide (k ≥ 2 ^ 63)) = false := by
    rw [decide_eq_false (by omega), decide_eq_false (by omega)] <;> rfl
  by_cases hsame : k = 1 ∨ xs.length = 0
  · have c1 : (its.toArray.isEmpty || k == 1) = true := by
      rcases hsame with e | e
      · rw [e]; simp
      · have : its = [] := List.eq_nil_of_length_eq_zero (by rw [hle]; exact e)
        rw [this]; rfl
    refine wpAny_binaryOp_repeat_ref (T := "tuple") (U := "int") (by decide) ⟨_, ho, rfl⟩ (fun s' => typeIs_int s' k t) noFill_tuple_mul F.fills_int_mul F.slot_int_rmul repeat_tuple F.slot_int_index.lookup
      (call_meets F.slot_int_rmul (typeIs_int s k t) F.entry_int_rmul (F.args_int_rmul_2 _ _) (int_rmul_tuple k t l its.toArray n dd sl)
        ⟨ho, rfl, ⟨_, ho, rfl⟩, call_meets F.slot_tuple_mul ⟨_, ho, rfl⟩ F.entry_tuple_mul (F.args_tuple_mul_2 _ _) (ev_tuple_mulS l its.toArray n dd sl k t c0 c1) ⟨ho, ?_⟩⟩)
    exact ⟨.ref l, H, I, rfl, q1 hsame⟩
  · have hne : xs ≠ [] := fun e => hsame (.inr (by rw [e]; rfl))
    have hk1 : ¬ k = 1 := fun e => hsame (.inl e)
    have hk : k ≤ 0 := by
      have : ¬ 2 ≤ k := fun z => hbig ⟨hne, z⟩
      omega
    have hn : its ≠ [] := fun e => hne (List.eq_nil_of_length_eq_zero (by rw [← hle, e]; rfl))
    have hi : its.toArray.isEmpty = false := by
      cases its with
      | nil => exact absurd rfl hn
      | cons a b => rfl
    have c1 : (its.toArray.isEmpty || k == 1) = false := by
      rw [hi, Bool.false_or]
      exact beq_eq_false_iff_ne.mpr hk1
    have c2 : (decide (k ≤ 0) || its.toArray.isEmpty) = true := by rw [decide_eq_true hk]; rfl
    refine wpAny_binaryOp_repeat_ref (T := "tuple") (U := "int") (by decide) ⟨_, ho, rfl⟩ (fun s' => typeIs_int s' k t) noFill_tuple_mul F.fills_int_mul F.slot_int_rmul repeat_tuple F.slot_int_index.lookup
      (call_meets F.slot_int_rmul (typeIs_int s k t) F.entry_int_rmul (F.args_int_rmul_2 _ _) (int_rmul_tuple k t l its.toArray n dd sl)
        ⟨ho, rfl, ⟨_, ho, rfl⟩, call_meets F.slot_tuple_mul ⟨_, ho, rfl⟩ F.entry_tuple_mul (F.args_tuple_mul_2 _ _) (ev_tuple_mulZ l its.toArray n dd sl k t c0 c1 c2) ⟨ho, ?_⟩⟩)
    have hk0 : k.toNat = 0 := by omega
    have e0 : (List.replicate k.toNat xs).flatten = [] := by rw [hk0]; rfl
    rw [e0] at q2
    refine ⟨.ref s.heap.objs.size, _, I.laid (t' := s.toks) (o := .tup []) (fun b ob q => Heap.get?_push_of_some _ q) (Nat.le_refl _) ?_, rfl, q2 _ (I.hok.fresh (Nat.le_refl _))⟩
    exact ⟨Nat.zero_le _, [], .nil, IsTup.new _ _⟩
/-- x is a truth value -/
def rIsX (neg : Bool) : R2 := fun x y H Q => ∃ b : Bool, y = .bl b ∧ Q (.bl (if neg then !decide (x = .bl b) else decide (x = .bl b))) H
theorem plainIs_bl (x : V) (v : Value) (b : Bool) (rx : RelV x v) : plainIs v (.bool b) = true ∧ (v = .bool b ↔ x = .bl b) := by
  cases x with
  | non => cases rx; exact ⟨rfl, by simp⟩
  | bl c => cases rx; exact ⟨rfl, by simp⟩
  | int i => obtain ⟨t, rfl⟩ := rx; exact ⟨rfl, by simp⟩
  | str i => obtain ⟨t, rfl⟩ := rx; exact ⟨rfl, by simp⟩
  | byt i => obtain ⟨t, rfl⟩ := rx; exact ⟨rfl, by simp⟩
  | flt i => obtain ⟨t, rfl⟩ := rx; exact ⟨rfl, by simp⟩
  | ref a => cases rx; exact ⟨rfl, by simp⟩
  | ty n => cases rx; exact ⟨rfl, by simp⟩
theorem op_isX : OpR X (compareOp .Is) (rIsX false) := by
  intro pins s σ H x y v u Q I rx ry h
  obtain ⟨b, rfl, q⟩ := h
  cases (show u = Value.bool b from ry)
  obtain ⟨h1, h2⟩ := plainIs_bl x v b rx
  by_cases e : x = .bl b
  · have hv := h2.mpr e
    subst hv
    exact wpAny_is_self rfl ⟨.bl true, H, I, rfl, by simpa [e] using q⟩
  · exact wpAny_is_other h1 (fun z => e (h2.mp z)) ⟨.bl false, H, I, rfl, by simpa [e] using q⟩
theorem op_isNotX : OpR X (compareOp .IsNot) (rIsX true) := by
  intro pins s σ H x y v u Q I rx ry h
  obtain ⟨b, rfl, q⟩ := h
  cases (show u = Value.bool b from ry)
  obtain ⟨h1, h2⟩ := plainIs_bl x v b rx
  by_cases e : x = .bl b
  · have hv := h2.mpr e
    subst hv
    exact wpAny_isNot_self rfl ⟨.bl false, H, I, rfl, by simpa [e] using q⟩
  · exact wpAny_isNot_other h1 (fun z => e (h2.mp z)) ⟨.bl true, H, I, rfl, by simpa [e] using q⟩
end
end L2
end
section
set_option Elab.async false
set_option linter.all false
set_option maxRecDepth 100000
/-! EvSnd1: readings of the interpreter, and what operators do by values. -/
namespace EV
open PySem L2

abbrev XTab := Nat → Option (Addr × List Str)
/-- an exception of the table's class c with these arguments -/
def ExRep (T : XTab) (H : Hp) (as : List Addr) (c : Nat) (vs : List PV) (cls : Value) (d : Option Addr) : Prop :=
  ∃ C fs, T c = some (C, fs) ∧ cls = .ref C ∧ ((fs = [] ∧ vs = [] ∧ d = none) ∨ ∃ dd us, d = some dd ∧ H dd = some (.xd (fs.zip us)) ∧ RepL H as vs us ∧ vs.length = fs.length)
def gotR (T : XTab) (W : WX) {α β : Type} (x : Rs α) (as : List Addr) (H : Hp) (σ : St) (rep : List Addr → Hp → α → β → Prop) (Q : β → Hp → Prop) : Prop := match x with
  | .ok v h' => ∀ as' H' u, Ext H as H' as' → RepH H' as' h' → rep as' H' v u → Q u H'
  | .ex c vs h' => ∀ as' H' cls d, Ext H as H' as' → RepH H' as' h' → ExRep T H' as' c vs cls d → W cls d σ H'
  | .no => False
abbrev rV : List Addr → Hp → PV → V → Prop := fun as H v u => RepV H as v u
abbrev rL : List Addr → Hp → List PV → List V → Prop := fun as H v u => RepL H as v u
abbrev rB : List Addr → Hp → Bool → Bool → Prop := fun _ _ v u => v = u
def rdE (T : XTab) (W : WX) (c : Cc) (d : E) : TE := fun σ H Q => ∃ as r h, Rp H as r σ h ∧ gotR T W (evE c d r h) as H σ rV Q
def rdL (T : XTab) (W : WX) (c : Cc) (d : List E) : TA := fun σ H Q => ∃ as r h, Rp H as r σ h ∧ gotR T W (evL c d r h) as H σ rL Q
def rdT (T : XTab) (W : WX) (c : Cc) (d : E) : TT := fun σ H Q => ∃ as r h, Rp H as r σ h ∧ gotR T W (tst (evE c d r h)) as H σ rB Q

theorem PE.imp {X : Cx} {e : Expr} {t t' : TE} (p : PE X e t) (h : ∀ σ H Q, t' σ H Q → t σ H Q) : PE X e t' := ⟨fun pins s σ H Q I q => p.run pins s σ H Q I (h σ H Q q)⟩
theorem PT.imp {X : Cx} {e : Expr} {t t' : TT} (p : PT X e t) (h : ∀ σ H Q, t' σ H Q → t σ H Q) : PT X e t' := ⟨fun pins s σ H Q I q => p.run pins s σ H Q I (h σ H Q q)⟩
theorem PW.imp {X : Cx} {e : Expr} {t t' : TT} (p : PW X e t) (h : ∀ σ H Q, t' σ H Q → t σ H Q) : PW X e t' := ⟨fun wh pins s σ H Q I q => p.run wh pins s σ H Q I (h σ H Q q)⟩
theorem PA.imp {X : Cx} {e : List Expr} {t t' : TA} (p : PA X e t) (h : ∀ σ H Q, t' σ H Q → t σ H Q) : PA X e t' := ⟨fun pos pins s σ H Q I q => p.run pos pins s σ H Q I (h σ H Q q)⟩
theorem PS.imp {X : Cx} {e : Stmt} {t t' : TS} (p : PS X e t) (h : ∀ D σ H, t' D σ H → t D σ H) : PS X e t' := ⟨fun pins s σ H D I q => p.run pins s σ H D I (h D σ H q)⟩
theorem PSs.imp {X : Cx} {e : List Stmt} {t t' : TS} (p : PSs X e t) (h : ∀ D σ H, t' D σ H → t D σ H) : PSs X e t' := ⟨fun pins s σ H D I q => p.run pins s σ H D I (h D σ H q)⟩

section
variable {K : PySem.W.Frag} {T : XTab} {W : WX} {α β γ δ : Type} {as as1 : List Addr} {H H1 : Hp} {σ : St} {r : Env} {h : PH}
theorem gotR.ext {x : Rs α} {rep : List Addr → Hp → α → β → Prop} {Q : β → Hp → Prop} (e : Ext H as H1 as1) (g : gotR T W x as H σ rep Q) : gotR T W x as1 H1 σ rep Q := by
  cases x with
  | ok v h' => exact fun as' H' u e' q rp => g as' H' u (e.trans e') q rp
  | ex c vs h' => exact fun as' H' cls d e' q rp => g as' H' cls d (e.trans e') q rp
  | no => exact g
theorem gotR.mono {x : Rs α} {rep : List Addr → Hp → α → β → Prop} {Q Q' : β → Hp → Prop} (g : gotR T W x as H σ rep Q) (h : ∀ u H', Q u H' → Q' u H') : gotR T W x as H σ rep Q' := by
  cases x with
  | ok v h' => exact fun as' H' u e' q rp => h _ _ (g as' H' u e' q rp)
  | ex c vs h' => exact g
  | no => exact g
/-- one part, then what follows -/
theorem gotR.bnd {x : Rs α} {f : α → PH → Rs γ} {repx : List Addr → Hp → α → β → Prop} {rep : List Addr → Hp → γ → δ → Prop} {Q : δ → Hp → Prop} (p : Rp H as r σ h) (g : gotR T W (x.bnd f) as H σ rep Q) :
    gotR T W x as H σ repx (fun u H1 => ∃ as1 h1 v, Ext H as H1 as1 ∧ Rp H1 as1 r σ h1 ∧ repx as1 H1 v u ∧ x = .ok v h1 ∧ gotR T W (f v h1) as1 H1 σ rep Q) := by
  cases x with
  | ok v h' => exact fun as' H' u e q rp => ⟨as', h', v, e, p.to e q, rp, rfl, g.ext e⟩
  | ex c vs h' => exact g
  | no => exact g
theorem gotR.ok {v : α} {rep : List Addr → Hp → α → β → Prop} {Q : β → Hp → Prop} (g : gotR T W (Rs.ok v h) as H σ rep Q) (rh : RepH H as h) {u : β} (ru : rep as H v u) : Q u H := g as H u Ext.refl rh ru
theorem gotR.okE {v : α} {rep : List Addr → Hp → α → β → Prop} {Q : β → Hp → Prop} (g : gotR T W (Rs.ok v h) as H σ rep Q) (e : Ext H as H1 as1) (rh : RepH H1 as1 h) {u : β} (ru : rep as1 H1 v u) : Q u H1 := g as1 H1 u e rh ru
theorem gotR.tstB {x : Rs PV} {Q : Bool → Hp → Prop} (g : gotR T W (tstB x) as H σ rB Q) : gotR T W x as H σ rV (fun u H' => ∃ b, u = .bl b ∧ Q b H') := by
  cases x with
  | ok v h' =>
    cases v with
    | bl b => exact fun as' H' u e q rp => ⟨b, rp.blE, g as' H' b e q rfl⟩
    | _ => exact g.elim
  | ex c vs h' => exact g
  | no => exact g

theorem gotR.weakT {x : Rs PV} {Q : Bool → Hp → Prop} (g : gotR T W (EV.tstB x) as H σ rB Q) : gotR T W (EV.tst x) as H σ rB Q := by
  cases x with
  | ok v h' =>
    cases v with
    | bl b => exact g
    | _ => exact g.elim
  | ex c vs h' => exact g
  | no => exact g
theorem truth_snd {v : PV} {u : V} {b : Bool} (rh : RepH H as h) (rv : RepV H as v u) (e : truth v h = some b) : TruV K u H b := by
  unfold truth at e
  cases v with
  | non => cases e; rw [rv.nonE]; rfl
  | bl c => cases e; rw [rv.blE]; rfl
  | int i => cases e; rw [rv.intE]; rfl
  | str s => cases e
  | tup xs =>
    cases e
    obtain ⟨a, vs, rfl, qa, la⟩ := rv.tupE
    refine .inr (.inl ⟨vs, .of qa, ?_⟩)
    cases la <;> rfl
  | obj n =>
    obtain ⟨a, rfl, qa⟩ := rv.objE
    simp only at e
    cases ho : h[n]? with
    | none => rw [ho] at e; cases e
    | some o =>
      rw [ho] at e
      cases o with
      | lst fz xs =>
        cases e
        obtain ⟨vs, la, _, sq, _⟩ := rh.lst (K := K) ho qa
        refine .inl ⟨vs, sq, ?_⟩
        cases la <;> rfl
      | dK kvs =>
        cases e
        obtain ⟨ks, e, l⟩ := rh.dk ho qa
        refine .inr (.inr ⟨ks, e, ?_⟩)
        cases l <;> rfl
      | dT _ => cases e
      | lkd _ => cases e
theorem gotR.tstT {x : Rs PV} {Q : Bool → Hp → Prop} (g : gotR T W (EV.tst x) as H σ rB Q) : gotR T W x as H σ rV (fun u H' => ∃ b, TruV K u H' b ∧ Q b H') := by
  cases x with
  | ok v h' =>
    unfold EV.tst at g
    intro as' H' u e rh rp
    cases ht : truth v h' with
    | none => simp only [ht] at g; exact g.elim
    | some b =>
      simp only [ht] at g
      exact ⟨b, truth_snd rh rp ht, g as' H' b e rh rfl⟩
  | ex c vs h' => exact g
  | no => exact g
end

/-! ### operators by values -/
def Op.py : Op → Operator
  | .add => .Add | .sub => .Sub | .mul => .Mult | .fdiv => .FloorDiv | .mod => .Mod | .pow => .Pow
def rBin (K : PySem.W.Frag) : Op → R2
  | .add => fun x y H Q => (rI0 fun i j => .int (i + j)) x y H Q ∨ rCatA K x y H Q ∨ rCat x y H Q
  | .sub => rI0 fun i j => .int (i - j)
  | .mul => fun x y H Q => (rI CMul fun i j => .int (i * j)) x y H Q ∨ rRepX K x y H Q ∨ rRep x y H Q
  | .fdiv => rI CDivW fun i j => .int (i / j)
  | .mod => rI (fun _ j => 0 < j) fun i j => .int (i % j)
  | .pow => rI CPow fun i j => .int (i ^ j.toNat)
theorem op_bin {X : Cx} (o : Op) : OpR X (binaryOp o.py) (rBin X.K o) := by
  cases o with
  | add => exact op_add.or (op_catA.or op_cat)
  | sub => exact op_sub
  | mul => exact op_mul.or (op_repX.or op_rep)
  | fdiv => exact op_fdivW
  | mod => exact op_mod
  | pow => exact op_pow
theorem mulOk_of {i j : Int} (h : mulOk i j = true) : CMul i j := by
  unfold mulOk at h
  simp only [Bool.or_eq_true, Bool.and_eq_true, decide_eq_true_eq] at h
  exact h
section
variable {K : PySem.W.Frag} {T : XTab} {W : WX} {as : List Addr} {H : Hp} {σ : St} {r : Env} {h : PH} {x y : PV} {u w : V} {Q : VK}
theorem RepH.newList (rh : RepH H as h) {xs : List PV} {vs : List V} (l : RepL H as xs vs) (z : xs.length ≤ sizeLine) {p : Addr} (hp : H p = none) :
    RepH (upd H p (.lst vs)) (as ++ [p]) (h ++ [.lst false xs]) := rh.new hp ⟨vs, l, z, rfl⟩
theorem RepV.newObj {p : Addr} (rh : RepH H as h) {H' : Hp} : RepV H' (as ++ [p]) (.obj h.length) (.ref p) := by
  refine .obj ?_
  rw [← rh.len]
  simp
/-- a new tuple -/
theorem gotR.newTup {xs : List PV} {vs : List V} (g : gotR T W (Rs.ok (PV.tup xs) h) as H σ rV Q) (rh : RepH H as h) (l : RepL H as xs vs) {p : Addr} (hp : H p = none) : Q (.ref p) (upd H p (.tup vs)) :=
  g.okE (Ext.beside hp) (rh.beside hp) (.tup upd_same (l.ext rh (Ext.beside hp)))
theorem gotR.newLst {xs : List PV} {vs : List V} (g : gotR T W (Rs.ok (PV.obj h.length) (h ++ [PO.lst false xs])) as H σ rV Q) (rh : RepH H as h) (l : RepL H as xs vs) (z : xs.length ≤ sizeLine) {p : Addr} (hp : H p = none) : Q (.ref p) (upd H p (.lst vs)) :=
  g.okE (Ext.new hp) (rh.newList l z hp) (RepV.newObj rh)

theorem binop_snd (o : Op) (rh : RepH H as h) (rx : RepV H as x u) (ry : RepV H as y w) (g : gotR T W (binop o x y h) as H σ rV Q) : rBin K o u w H Q := by
  unfold binop at g
  split at g
  · rw [rx.intE, ry.intE]; exact .inl ⟨_, _, rfl, rfl, g.ok rh (.int _)⟩
  · rw [rx.intE, ry.intE]; exact ⟨_, _, rfl, rfl, g.ok rh (.int _)⟩
  · split at g
    · rename_i c; rw [rx.intE, ry.intE]; exact .inl ⟨_, _, rfl, rfl, mulOk_of c, g.ok rh (.int _)⟩
    · exact g.elim
  · split at g
    · rename_i c; rw [rx.intE, ry.intE]; exact ⟨_, _, rfl, rfl, c, g.ok rh (.int _)⟩
    · exact g.elim
  · split at g
    · rename_i c; rw [rx.intE, ry.intE]; exact ⟨_, _, rfl, rfl, c, g.ok rh (.int _)⟩
    · exact g.elim
  · split at g
    · rename_i c; rw [rx.intE, ry.intE]; exact ⟨_, _, rfl, rfl, c, g.ok rh (.int _)⟩
    · exact g.elim
  · rename_i xs k
    split at g
    · rename_i c
      obtain ⟨a, vs, rfl, qa, la⟩ := rx.tupE
      rw [ry.intE]
      refine .inr (.inl ⟨a, k, vs, rfl, rfl, .of qa, by rw [← la.length]; exact c.1, c.2.1, c.2.2, fun e => ?_, fun p hp => g.newTup rh (la.rep k.toNat) hp⟩)
      have e2 : (List.replicate k.toNat xs).flatten = xs := by
        rcases e with e | e
        · subst e; simp
        · have : xs = [] := List.eq_nil_of_length_eq_zero (by rw [la.length, e])
          rw [this]; simp
      rw [e2] at g
      exact g.ok rh (.tup qa la)
    · exact g.elim
  · rename_i m k
    split at g
    · rename_i xs e1
      split at g
      · rename_i c
        obtain ⟨a, rfl, qa⟩ := rx.objE
        obtain ⟨vs, la, za, _, ma⟩ := rh.lst (K := K) e1 qa
        rw [ry.intE]
        exact .inr (.inr ⟨a, k, vs, rfl, rfl, ma rfl, c.1, c.2.1, by rw [← la.length]; exact c.2.2, fun p hp => g.newLst rh (la.rep k.toNat) (by rw [PyProof.Rows.lm_len_rep_flat, Nat.mul_comm]; exact c.2.2) hp⟩)
      · exact g.elim
    · exact g.elim
  · rename_i xs ys
    split at g
    · rename_i c
      obtain ⟨a, vs, rfl, qa, la⟩ := rx.tupE
      obtain ⟨b, ws, rfl, qb, lb⟩ := ry.tupE
      refine .inr (.inl ⟨a, b, vs, ws, rfl, rfl, .of qa, .of qb, by rw [← la.length, ← lb.length]; exact c, fun e => ?_, fun e e2 => ?_, fun e e2 p hp => ?_⟩)
      · subst e
        have : xs = [] := List.eq_nil_of_length_eq_zero (by rw [la.length]; rfl)
        subst this
        exact g.ok rh (.tup qb lb)
      · subst e2
        have : ys = [] := List.eq_nil_of_length_eq_zero (by rw [lb.length]; rfl)
        subst this
        rw [List.append_nil] at g
        exact g.ok rh (.tup qa la)
      · exact g.newTup rh (la.append lb) hp
    · exact g.elim
  · rename_i m n
    split at g
    · rename_i xs ys e1 e2
      split at g
      · rename_i c
        obtain ⟨a, rfl, qa⟩ := rx.objE
        obtain ⟨b, rfl, qb⟩ := ry.objE
        obtain ⟨vs, la, za, _, ma⟩ := rh.lst (K := K) e1 qa
        obtain ⟨ws, lb, zb, _, mb⟩ := rh.lst (K := K) e2 qb
        exact .inr (.inr ⟨a, b, vs, ws, rfl, rfl, ma rfl, mb rfl, by rw [← la.length, ← lb.length]; exact c, fun p hp => g.newLst rh (la.append lb) (by simp; exact c) hp⟩)
      · exact g.elim
    · exact g.elim
  · exact g.elim

/-! data -/
theorem optAll_nil {α β : Type} {f : α → Option β} : optAll f [] = some [] := rfl
theorem optAll_consE {α β : Type} {f : α → Option β} {x : α} {xs : List α} {ds : List β} (e : optAll f (x :: xs) = some ds) : ∃ d r, f x = some d ∧ optAll f xs = some r ∧ ds = d :: r := by
  unfold optAll at e
  cases q : f x with
  | none => rw [q] at e; cases e
  | some d =>
    rw [q] at e
    cases q2 : optAll f xs with
    | none => rw [q2] at e; cases e
    | some r =>
      rw [q2] at e
      exact ⟨d, r, rfl, rfl, (Option.some.inj e).symm⟩
/-- what toD tells is so, lies, and is not deep -/
theorem toD_snd (rh : RepH H as h) : ∀ (n : Nat) (x : PV) (u : V) (d : PyData), RepV H as x u → toD h n x = some d → Dp K H u d ∧ PyData.canLay0 d = true ∧ PyData.depth d ≤ n := by
  intro n
  induction n with
  | zero =>
    intro x u d rx e
    cases x with
    | non => cases e; rw [rx.nonE]; exact ⟨.non, rfl, Nat.le_refl _⟩
    | bl b => cases e; rw [rx.blE]; exact ⟨.bl b, rfl, Nat.le_refl _⟩
    | int b => cases e; rw [rx.intE]; exact ⟨.int b, rfl, Nat.le_refl _⟩
    | str b =>
      simp only [toD] at e
      split at e
      · rename_i hs; cases e; rw [rx.strE]; exact ⟨.str b, hs, Nat.le_refl _⟩
      · cases e
    | tup xs => cases e
    | obj a => cases e
  | succ n ih =>
    have all : ∀ (xs : List PV) (vs : List V) (ds : List PyData), RepL H as xs vs → optAll (toD h n) xs = some ds → DpAll K H vs ds ∧ PyData.canLayAll0 ds = true ∧ PyData.depthAll ds ≤ n := by
      intro xs
      induction xs with
      | nil => intro vs ds rl e; cases e; rw [rl.nilE]; exact ⟨.nil, rfl, Nat.zero_le _⟩
      | cons x xs ihx =>
        intro vs ds rl e
        obtain ⟨d, r, e1, e2, rfl⟩ := optAll_consE e
        obtain ⟨u, us, rfl, ra, rb⟩ := rl.consE
        obtain ⟨h1, h2, h3⟩ := ih x u d ra e1
        obtain ⟨g1, g2, g3⟩ := ihx us r rb e2
        refine ⟨.cons h1 g1, ?_, ?_⟩
        · show (PyData.canLay0 d && PyData.canLayAll0 r) = true
          rw [h2, g2]; rfl
        · show max (PyData.depth d) (PyData.depthAll r) ≤ n
          omega
    intro x u d rx e
    cases x with
    | non => cases e; rw [rx.nonE]; exact ⟨.non, rfl, Nat.zero_le _⟩
    | bl b => cases e; rw [rx.blE]; exact ⟨.bl b, rfl, Nat.zero_le _⟩
    | int b => cases e; rw [rx.intE]; exact ⟨.int b, rfl, Nat.zero_le _⟩
    | str b =>
      simp only [toD] at e
      split at e
      · rename_i hs; cases e; rw [rx.strE]; exact ⟨.str b, hs, Nat.zero_le _⟩
      · cases e
    | tup xs =>
      simp only [toD] at e
      cases q : optAll (toD h n) xs with
      | none => rw [q] at e; cases e
      | some ds =>
        rw [q] at e
        cases e
        obtain ⟨a, vs, rfl, qa, la⟩ := rx.tupE
        obtain ⟨h1, h2, h3⟩ := all xs vs ds la q
        exact ⟨.tup (.of qa) h1, h2, Nat.succ_le_succ h3⟩
    | obj m =>
      simp only [toD] at e
      cases q0 : h[m]? with
      | none => rw [q0] at e; cases e
      | some o =>
        rw [q0] at e
        cases o with
        | lst fz xs =>
          simp only at e
          cases q : optAll (toD h n) xs with
          | none => rw [q] at e; cases e
          | some ds =>
            rw [q] at e
            cases e
            obtain ⟨a, rfl, qa⟩ := rx.objE
            obtain ⟨vs, la, _, sq, _⟩ := rh.lst q0 qa
            obtain ⟨h1, h2, h3⟩ := all xs vs ds la q
            exact ⟨.lst sq h1, h2, Nat.succ_le_succ h3⟩
        | dK _ => cases e
        | dT _ => cases e
        | lkd _ => cases e
theorem toD_shaped (rh : RepH H as h) {n : Nat} {x : PV} {u : V} {d : PyData} (hn : n ≤ 64) (rx : RepV H as x u) (e : toD h n x = some d) : Dp K H u d ∧ SeqAt.shaped d = true := by
  obtain ⟨h1, h2, h3⟩ := toD_snd rh n x u d rx e
  refine ⟨h1, ?_⟩
  unfold SeqAt.shaped
  rw [h2, decide_eq_true (Nat.le_trans h3 hn)]; rfl
theorem pyEq_snd (rh : RepH H as h) (rx : RepV H as x u) (ry : RepV H as y w) {b : Bool} (e : pyEq h x y = some b) : ∃ d1 d2, Dp K H u d1 ∧ Dp K H w d2 ∧ SeqAt.shaped d1 = true ∧ SeqAt.shaped d2 = true ∧ PyData.eqv d1 d2 = b := by
  unfold pyEq at e
  cases q1 : toD h 60 x with
  | none => rw [q1] at e; cases e
  | some d1 =>
    rw [q1] at e
    cases q2 : toD h 60 y with
    | none => rw [q2] at e; cases e
    | some d2 =>
      rw [q2] at e
      obtain ⟨a1, a2⟩ := toD_shaped rh (by decide) rx q1
      obtain ⟨b1, b2⟩ := toD_shaped rh (by decide) ry q2
      exact ⟨d1, d2, a1, b1, a2, b2, Option.some.inj e⟩
end
end EV
end
section
set_option Elab.async false
set_option linter.all false
set_option maxRecDepth 100000
/-! EvSnd2: comparisons, subscripts, slices, built-ins, methods by values. -/
namespace EV
open PySem L2

/-! ### keys -/
section
variable {as : List Addr} {H : Hp} {h : PH} {x : PV} {u : V}
theorem toKey_snd {k : Key} (rx : RepV H as x u) (e : toKey x = some k) : u = kV k := by
  cases x with
  | int i => cases e; exact rx.intE
  | str i => cases e; exact rx.strE
  | _ => cases e
theorem toKeys_snd : ∀ (xs : List PV) (vs : List V) (ks : List Key), RepL H as xs vs → optAll toKey xs = some ks → vs = ks.map kV := by
  intro xs
  induction xs with
  | nil => intro vs ks r e; cases e; exact r.nilE
  | cons x xs ih =>
    intro vs ks r e
    obtain ⟨k, ks', e1, e2, rfl⟩ := optAll_consE e
    obtain ⟨u, us, rfl, ra, rb⟩ := r.consE
    rw [toKey_snd ra e1, ih us ks' rb e2]; rfl
theorem toTK_snd {ks : List Key} (rx : RepV H as x u) (e : toTK x = some ks) : ∃ b, u = .ref b ∧ H b = some (.tup (ks.map kV)) := by
  cases x with
  | tup xs =>
    obtain ⟨a, vs, rfl, q, l⟩ := rx.tupE
    rw [toKeys_snd xs vs ks l e] at q
    exact ⟨a, rfl, q⟩
  | _ => cases e
theorem look_snd {κ : Type} [DecidableEq κ] {kvs : List (κ × PV)} {ks : List (κ × V)} (r : RepKV H as kvs ks) (k : κ) : (∃ v w, look k kvs = some v ∧ valV ks k = some w ∧ RepV H as v w) ∨ (look k kvs = none ∧ valV ks k = none) := by
  induction r with
  | nil => exact .inr ⟨rfl, valV_nil⟩
  | cons p r ih =>
    rename_i a b l1 l2
    obtain ⟨p1, p2⟩ := p
    by_cases hk : a.1 = k
    · refine .inl ⟨a.2, b.2, ?_, ?_, p2⟩
      · obtain ⟨a1, a2⟩ := a
        show (if a1 = k then some a2 else look k l1) = some a2
        rw [if_pos hk]
      · exact valV_pos (p1 ▸ hk)
    · have e1 : look k (a :: l1) = look k l1 := by
        obtain ⟨a1, a2⟩ := a
        show (if a1 = k then some a2 else look k l1) = look k l1
        rw [if_neg hk]
      have e2 : valV (b :: l2) k = valV l2 k := valV_neg (by rw [← p1]; exact hk)
      rw [e1, e2]
      exact ih
theorem any_snd {κ : Type} [DecidableEq κ] {kvs : List (κ × PV)} {ks : List (κ × V)} (r : RepKV H as kvs ks) (k : κ) : (kvs.any fun kv => decide (kv.1 = k)) = ks.any fun kv => decide (kv.1 = k) := by
  induction r with
  | nil => rfl
  | cons p r ih =>
    rw [List.any_cons, List.any_cons, ih, p.1]
theorem put_snd {κ : Type} [DecidableEq κ] {kvs : List (κ × PV)} {ks : List (κ × V)} (r : RepKV H as kvs ks) (k : κ) {v : PV} {w : V} (rv : RepV H as v w) : RepKV H as (put k v kvs) (putK ks k w) := by
  unfold put putK
  rw [any_snd r k]
  split
  · have : ∀ {kvs : List (κ × PV)} {ks : List (κ × V)}, RepKV H as kvs ks → RepKV H as (kvs.map fun kv => if kv.1 = k then (kv.1, v) else kv) (ks.map fun kv => if kv.1 = k then (kv.1, w) else kv) := by
      intro kvs ks r
      induction r with
      | nil => exact .nil
      | cons p r ih =>
        refine .cons ?_ ih
        rename_i a b _ _
        obtain ⟨a1, a2⟩ := a
        obtain ⟨b1, b2⟩ := b
        obtain ⟨p1, p2⟩ := p
        simp only at p1 p2 ⊢
        subst p1
        split
        · exact ⟨rfl, rv⟩
        · exact ⟨rfl, p2⟩
    exact this r
  · exact Paired.snoc r ⟨rfl, rv⟩
end

/-! ### comparisons -/
def Cp.py : Cp → CmpOp
  | .lt => .Lt | .le => .LtE | .gt => .Gt | .ge => .GtE | .eq => .Eq | .ne => .NotEq | .is => .Is | .isnot => .IsNot | .isin => .In | .notin => .NotIn
def rInDict (neg : Bool) : R2 := fun y x H Q => ∃ a o, x = .ref a ∧ DGet H a y o ∧ Q (.bl (if neg then !o.isSome else o.isSome)) H
theorem op_in_dict {X : Cx} (hu : X.A.units + 1 < cLine) : OpR X (compareOp .In) (rInDict false) := by
  intro pins s σ H x y v u Q I rx ry h
  obtain ⟨a, o, rfl, g, q⟩ := h
  cases (show u = Value.ref a from ry)
  exact d_in hu I g rx fun s' I' => ⟨.bl o.isSome, _, I', rfl, q⟩
theorem op_notin_dict {X : Cx} (hu : X.A.units + 1 < cLine) : OpR X (compareOp .NotIn) (rInDict true) := by
  intro pins s σ H x y v u Q I rx ry h
  obtain ⟨a, o, rfl, g, q⟩ := h
  cases (show u = Value.ref a from ry)
  exact d_notIn hu I g rx fun s' I' => ⟨.bl (!o.isSome), _, I', rfl, q⟩
def rCmp (K : PySem.W.Frag) : Cp → R2
  | .lt => rI0 fun i j => .bl (decide (i < j))
  | .le => rI0 fun i j => .bl (decide (i ≤ j))
  | .gt => rI0 fun i j => .bl (decide (j < i))
  | .ge => rI0 fun i j => .bl (decide (j ≤ i))
  | .eq => rEqD K
  | .ne => rNeD K
  | .is => fun x y H Q => (y = .non ∧ Q (.bl (decide (x = .non))) H) ∨ rIsX false x y H Q
  | .isnot => fun x y H Q => (y = .non ∧ Q (.bl (!decide (x = .non))) H) ∨ rIsX true x y H Q
  | .isin => fun x y H Q => rIn K false x y H Q ∨ rInD K x y H Q ∨ rInDict false x y H Q
  | .notin => fun x y H Q => rIn K true x y H Q ∨ rNotInD K x y H Q ∨ rInDict true x y H Q
theorem op_cmp {X : Cx} (hu : X.A.units + 65 < cLine) (o : Cp) : OpR X (compareOp o.py) (rCmp X.K o) := by
  cases o with
  | lt => exact op_lt
  | le => exact op_le
  | gt => exact op_gt
  | ge => exact op_ge
  | eq => exact op_eqD (by omega)
  | ne => exact op_neD (by omega)
  | is => exact op_isN.or op_isX
  | isnot => exact op_notN.or op_isNotX
  | isin => exact op_in_seq.or ((op_inD hu).or (op_in_dict (by omega)))
  | notin => exact op_notIn_seq.or ((op_notInD hu).or (op_notin_dict (by omega)))
section
variable {K : PySem.W.Frag} {T : XTab} {W : WX} {as : List Addr} {H : Hp} {σ : L2.St} {r : Env} {h : PH} {x y : PV} {u w : V} {Q : VK}
theorem flat_snd (rx : RepV H as x u) (f : flatP x = true) : flatV u = true := by
  cases x with
  | non => rw [rx.nonE]; rfl
  | bl b => rw [rx.blE]; rfl
  | int b => rw [rx.intE]; rfl
  | str b => rw [rx.strE]; rfl
  | _ => cases f
theorem eqF_snd (rx : RepV H as x u) (ry : RepV H as y w) (f : flatP x = true) (g : flatP y = true) : eqV u w = eqF x y := by
  cases x with
  | non => rw [rx.nonE]; cases y with
    | non => rw [ry.nonE]; rfl
    | bl b => rw [ry.blE]; rfl
    | int b => rw [ry.intE]; rfl
    | str b => rw [ry.strE]; rfl
    | _ => cases g
  | bl b => rw [rx.blE]; cases y with
    | non => rw [ry.nonE]; rfl
    | bl b => rw [ry.blE]; rfl
    | int b => rw [ry.intE]; rfl
    | str b => rw [ry.strE]; rfl
    | _ => cases g
  | int b => rw [rx.intE]; cases y with
    | non => rw [ry.nonE]; rfl
    | bl b => rw [ry.blE]; rfl
    | int b => rw [ry.intE]; rfl
    | str b => rw [ry.strE]; rfl
    | _ => cases g
  | str b => rw [rx.strE]; cases y with
    | non => rw [ry.nonE]; rfl
    | bl b => rw [ry.blE]; rfl
    | int b => rw [ry.intE]; rfl
    | str b => rw [ry.strE]; rfl
    | _ => cases g
  | _ => cases f
theorem flats_snd : ∀ (xs : List PV) (vs : List V), RepL H as xs vs → xs.all flatP = true → vs.all flatV = true := by
  intro xs
  induction xs with
  | nil => intro vs r _; rw [r.nilE]; rfl
  | cons x xs ih =>
    intro vs r f
    obtain ⟨u, us, rfl, ra, rb⟩ := r.consE
    rw [List.all_cons, Bool.and_eq_true] at f ⊢
    exact ⟨flat_snd ra f.1, ih us rb f.2⟩
theorem inV_snd (rx : RepV H as x u) (fx : flatP x = true) : ∀ (ys : List PV) (vs : List V), RepL H as ys vs → ys.all flatP = true → inV u vs = ys.any fun y => eqF y x := by
  intro ys
  induction ys with
  | nil => intro vs r _; rw [r.nilE]; rfl
  | cons y ys ih =>
    intro vs r f
    obtain ⟨v, us, rfl, ra, rb⟩ := r.consE
    rw [List.all_cons, Bool.and_eq_true] at f
    have h1 := ih us rb f.2
    unfold inV at h1 ⊢
    rw [List.any_cons, List.any_cons, h1, eqF_snd ra rx f.1 fx]
/-- membership, both ways -/
theorem isIn_snd (rh : RepH H as h) (rx : RepV H as x u) (ry : RepV H as y w) {b : Bool} (e : isIn h x y = some b) (neg : Bool) (q : Q (.bl (if neg then !b else b)) H) :
    rIn K neg u w H Q ∨ (if neg then rNotInD K u w H Q else rInD K u w H Q) ∨ rInDict neg u w H Q := by
  unfold isIn at e
  cases y with
  | tup ys =>
    simp only at e
    split at e
    · rename_i c
      rw [Bool.and_eq_true] at c
      obtain ⟨a, vs, rfl, qa, la⟩ := ry.tupE
      have hb := Option.some.inj e
      subst hb
      exact .inl ⟨a, vs, rfl, .inr (.of qa), flat_snd rx c.1, flats_snd ys vs la c.2, by rw [inV_snd rx c.1 ys vs la c.2]; exact q⟩
    · cases e
  | obj n =>
    simp only at e
    obtain ⟨a, rfl, qa⟩ := ry.objE
    cases ho : h[n]? with
    | none => rw [ho] at e; cases e
    | some o =>
      rw [ho] at e
      cases o with
      | lst fz xs =>
        simp only at e
        cases q1 : toD h 60 x with
        | none => rw [q1] at e; cases e
        | some d =>
          cases q2 : toD h 60 (.obj n) with
          | none => rw [q1, q2] at e; cases e
          | some d2 =>
            rw [q1, q2] at e
            cases d2 with
            | list ds =>
              have hb := Option.some.inj e
              subst hb
              obtain ⟨a1, a2⟩ := toD_shaped (K := K) rh (by decide) rx q1
              obtain ⟨b1, b2⟩ := toD_shaped (K := K) rh (by decide) (RepV.obj qa) q2
              refine .inr (.inl ?_)
              cases neg with
              | true => exact ⟨d, ds, a1, b1, a2, b2, q⟩
              | false => exact ⟨d, ds, a1, b1, a2, b2, q⟩
            | _ => cases e
      | dK kvs =>
        simp only at e
        obtain ⟨k, hk, hb⟩ := Option.map_eq_some_iff.mp e
        subst hb
        obtain ⟨ks, hH, rk⟩ := rh.dk ho qa
        have ek := toKey_snd rx hk
        subst ek
        refine .inr (.inr ⟨a, valV ks k, rfl, .k hH, ?_⟩)
        rcases look_snd rk k with ⟨v, w, l1, l2, _⟩ | ⟨l1, l2⟩
        · rw [l2]; rw [l1] at q; exact q
        · rw [l2]; rw [l1] at q; exact q
      | dT kvs =>
        simp only at e
        obtain ⟨k, hk, hb⟩ := Option.map_eq_some_iff.mp e
        subst hb
        obtain ⟨ks, hH, rk⟩ := rh.dt ho qa
        obtain ⟨b, rfl, hb⟩ := toTK_snd rx hk
        refine .inr (.inr ⟨a, valV ks k, rfl, .t hH hb, ?_⟩)
        rcases look_snd rk k with ⟨v, w, l1, l2, _⟩ | ⟨l1, l2⟩
        · rw [l2]; rw [l1] at q; exact q
        · rw [l2]; rw [l1] at q; exact q
      | lkd kvs =>
        simp only at e
        obtain ⟨k, hk, hb⟩ := Option.map_eq_some_iff.mp e
        subst hb
        obtain ⟨ks, oo, hH, rk⟩ := rh.lk ho qa
        have ek := toKey_snd rx hk
        subst ek
        refine .inr (.inr ⟨a, valV ks k, rfl, .inl ⟨ks, k, .inr ⟨oo, hH⟩, rfl, rfl⟩, ?_⟩)
        rcases look_snd rk k with ⟨v, w, l1, l2, _⟩ | ⟨l1, l2⟩
        · rw [l2]; rw [l1] at q; exact q
        · rw [l2]; rw [l1] at q; exact q
  | _ => cases e
theorem non_snd (rx : RepV H as x u) : decide (u = .non) = isNon x := by
  cases x with
  | non => rw [rx.nonE]; rfl
  | bl b => rw [rx.blE]; rfl
  | int b => rw [rx.intE]; rfl
  | str b => rw [rx.strE]; rfl
  | tup b => obtain ⟨a, vs, rfl, _⟩ := rx.tupE; rfl
  | obj b => obtain ⟨a, rfl, _⟩ := rx.objE; rfl
theorem bl_snd {b : Bool} (rx : RepV H as x u) : decide (u = .bl b) = isBl b x := by
  cases x with
  | non => rw [rx.nonE]; rfl
  | bl c => rw [rx.blE]; cases b <;> cases c <;> rfl
  | int b => rw [rx.intE]; rfl
  | str b => rw [rx.strE]; rfl
  | tup b => obtain ⟨a, vs, rfl, _⟩ := rx.tupE; rfl
  | obj b => obtain ⟨a, rfl, _⟩ := rx.objE; rfl
theorem cmpop_snd (o : Cp) (rh : RepH H as h) (rx : RepV H as x u) (ry : RepV H as y w) {b : Bool} (e : cmpop o x y h = some b) (q : Q (.bl b) H) : rCmp K o u w H Q := by
  unfold cmpop at e
  split at e
  · cases e; rw [rx.intE, ry.intE]; exact ⟨_, _, rfl, rfl, q⟩
  · cases e; rw [rx.intE, ry.intE]; exact ⟨_, _, rfl, rfl, q⟩
  · cases e; rw [rx.intE, ry.intE]; exact ⟨_, _, rfl, rfl, q⟩
  · cases e; rw [rx.intE, ry.intE]; exact ⟨_, _, rfl, rfl, q⟩
  · obtain ⟨d1, d2, h1, h2, s1, s2, hb⟩ := pyEq_snd (K := K) rh rx ry e
    exact ⟨d1, d2, h1, h2, s1, s2, by rw [hb]; exact q⟩
  · obtain ⟨c, hc, hb⟩ := Option.map_eq_some_iff.mp e
    obtain ⟨d1, d2, h1, h2, s1, s2, hb2⟩ := pyEq_snd (K := K) rh rx ry hc
    exact ⟨d1, d2, h1, h2, s1, s2, by rw [hb2, hb]; exact q⟩
  · refine .inl ⟨ry.nonE, ?_⟩
    rw [non_snd rx, Option.some.inj e]; exact q
  · refine .inl ⟨ry.nonE, ?_⟩
    have e2 := Option.some.inj e
    rw [non_snd rx, e2]
    exact q
  · refine .inr ⟨_, ry.blE, ?_⟩
    rw [bl_snd rx, if_neg Bool.false_ne_true, Option.some.inj e]; exact q
  · refine .inr ⟨_, ry.blE, ?_⟩
    have e2 := Option.some.inj e
    rw [bl_snd rx, if_pos rfl, e2]; exact q
  · rcases isIn_snd (K := K) rh rx ry e false q with z | z | z
    · exact .inl z
    · exact .inr (.inl z)
    · exact .inr (.inr z)
  · obtain ⟨c, hc, hb⟩ := Option.map_eq_some_iff.mp e
    rcases isIn_snd (K := K) rh rx ry hc true (by rw [← hb] at q; exact q) with z | z | z
    · exact .inl z
    · exact .inr (.inl z)
    · exact .inr (.inr z)
  · cases e
end

/-! ### subscripts -/
def rIxD : R2 := fun x y H Q => ∃ a v, x = .ref a ∧ DGet H a y (some v) ∧ Q v H
theorem ix_dict {X : Cx} (hu : X.A.units + 1 < cLine) : IxR X rIxD := by
  intro value slice pins s σ H x y v u Q I rx ry h hs
  obtain ⟨a, z, rfl, g, q⟩ := h
  cases (show v = Value.ref a from rx)
  exact PyProof.Rows.tail_any (dict_typeIs I g) PySem.F.slot_dict_getitem.lookup (d_getItem hu I g ry fun w' s' I' rw' => ⟨z, H, I', rw', q⟩) hs
def rIdx (K : PySem.W.Frag) : R2 := fun x y H Q => rIxL K x y H Q ∨ rIxT K x y H Q ∨ rIxD x y H Q
theorem ix_all {X : Cx} (hu : X.A.units + 1 < cLine) : IxR X (rIdx X.K) := ix_list.or (ix_tup.or (ix_dict hu))
section
variable {K : PySem.W.Frag} {T : XTab} {W : WX} {as : List Addr} {H : Hp} {σ : L2.St} {r : Env} {h : PH} {x y : PV} {u w : V} {Q : VK}
theorem atI_snd {xs : List PV} {vs : List V} (l : RepL H as xs vs) {i : Int} {v : PV} (e : atI xs i = some v) : ∃ z, atI vs i = some z ∧ RepV H as v z := by
  unfold atI at e ⊢
  rw [← l.length]
  cases q : ixN xs.length i with
  | none => rw [q] at e; cases e
  | some j =>
    rw [q] at e
    exact l.get e
theorem idxop_snd (rh : RepH H as h) (rx : RepV H as x u) (ry : RepV H as y w) {v : PV} (e : idxop x y h = some v) (q : ∀ z, RepV H as v z → Q z H) : rIdx K u w H Q := by
  unfold idxop at e
  split at e
  · obtain ⟨a, vs, rfl, qa, la⟩ := rx.tupE
    obtain ⟨z, hz, rz⟩ := atI_snd la e
    rw [ry.intE]
    exact .inr (.inl ⟨a, vs, _, z, rfl, rfl, .of qa, hz, q z rz⟩)
  · obtain ⟨a, rfl, qa⟩ := rx.objE
    split at e
    · rename_i ho
      obtain ⟨vs, la, _, sq, _⟩ := rh.lst (K := K) ho qa
      obtain ⟨z, hz, rz⟩ := atI_snd la e
      rw [ry.intE]
      exact .inl ⟨a, vs, _, z, rfl, rfl, sq, hz, q z rz⟩
    · rename_i ho
      obtain ⟨k, hk, e2⟩ := Option.bind_eq_some_iff.mp e
      obtain ⟨ks, hH, rk⟩ := rh.dk ho qa
      have ek := toKey_snd ry hk
      subst ek
      rcases look_snd rk k with ⟨v', w', l1, l2, rv⟩ | ⟨l1, l2⟩
      · rw [l1] at e2; cases e2
        exact .inr (.inr ⟨a, w', rfl, by rw [← l2]; exact .k hH, q w' rv⟩)
      · rw [l1] at e2; cases e2
    · rename_i ho
      obtain ⟨k, hk, e2⟩ := Option.bind_eq_some_iff.mp e
      obtain ⟨ks, hH, rk⟩ := rh.dt ho qa
      obtain ⟨b, rfl, hb⟩ := toTK_snd ry hk
      rcases look_snd rk k with ⟨v', w', l1, l2, rv⟩ | ⟨l1, l2⟩
      · rw [l1] at e2; cases e2
        exact .inr (.inr ⟨a, w', rfl, by rw [← l2]; exact .t hH hb, q w' rv⟩)
      · rw [l1] at e2; cases e2
    · rename_i ho
      obtain ⟨k, hk, e2⟩ := Option.bind_eq_some_iff.mp e
      obtain ⟨ks, oo, hH, rk⟩ := rh.lk ho qa
      have ek := toKey_snd ry hk
      subst ek
      rcases look_snd rk k with ⟨v', w', l1, l2, rv⟩ | ⟨l1, l2⟩
      · rw [l1] at e2; cases e2
        exact .inr (.inr ⟨a, w', rfl, by rw [← l2]; exact .inl ⟨ks, k, .inr ⟨oo, hH⟩, rfl, rfl⟩, q w' rv⟩)
      · rw [l1] at e2; cases e2
    · cases e
  · cases e
/-! slices -/
def rSl (K : PySem.W.Frag) : V → Option Int → Option Int → Hp → VK → Prop := fun x lo hi H Q => rSlA K x lo hi H Q ∨ rSlL K x lo hi H Q
theorem sl_all {X : Cx} : SlR X (rSl X.K) := sl_tupA.or sl_list
theorem cut_snd {xs : List PV} {vs : List V} (l : RepL H as xs vs) (lo hi : Option Int) : RepL H as (cutP xs lo hi) (cutV vs lo hi) := by
  unfold cutP cutV
  rw [← l.length]
  exact (l.drop _).take _
theorem cut_le (xs : List PV) (lo hi : Option Int) : (cutP xs lo hi).length ≤ xs.length := by
  unfold cutP
  rw [List.length_take, List.length_drop]
  omega
theorem cut_whole {xs : List PV} {lo hi : Option Int} (c : HT.sIx xs.length 0 lo = 0 ∧ HT.sIx xs.length xs.length hi = xs.length) : cutP xs lo hi = xs := by
  unfold cutP
  rw [c.1, c.2]
  simp
theorem slcop_snd (rh : RepH H as h) (rx : RepV H as x u) {lo hi : Option Int} (g : gotR T W (slcop x lo hi h) as H σ rV Q) : rSl K u lo hi H Q := by
  unfold slcop at g
  split at g
  · rename_i xs
    obtain ⟨a, vs, rfl, qa, la⟩ := rx.tupE
    refine .inl ⟨a, vs, rfl, .of qa, fun c => ?_, fun _ p hp => g.newTup rh (cut_snd la lo hi) hp⟩
    rw [← la.length] at c
    rw [cut_whole c] at g
    exact g.ok rh (.tup qa la)
  · obtain ⟨a, rfl, qa⟩ := rx.objE
    split at g
    · rename_i ho
      obtain ⟨vs, la, z, sq, _⟩ := rh.lst (K := K) ho qa
      exact .inr ⟨a, vs, rfl, sq, fun p hp => g.newLst rh (cut_snd la lo hi) (Nat.le_trans (cut_le _ _ _) z) hp⟩
    · exact g.elim
  · exact g.elim
end
end EV
end
section
set_option Elab.async false
set_option linter.all false
set_option maxRecDepth 100000
/-! EvSnd3: expressions, construct by construct. -/
namespace EV
open PySem L2

/-! ### built-ins by values -/
def Ty.nm : Ty → String
  | .int => "int" | .bool => "bool" | .str => "str" | .tuple => "tuple" | .list => "list" | .dict => "dict"
def rLenA (K : PySem.W.Frag) : List V → Hp → VK → Prop := fun xs H Q => (∃ x n, xs = [x] ∧ LenV K x H n ∧ Q (.int n) H) ∨ (∃ a kvs, xs = [V.ref a] ∧ H a = some (.dK kvs) ∧ Q (.int kvs.length) H) ∨ rLenT xs H Q
theorem call_lenA {X : Cx} : CallR X (.builtin "len") (rLenA X.K) := call_len.or (call_lenD.or call_len_dT)
section
variable {K : PySem.W.Frag} {T : XTab} {W : WX} {as : List Addr} {H : Hp} {σ : L2.St} {r : Env} {h : PH} {x y : PV} {u w : V} {Q : VK}
theorem len_snd (rh : RepH H as h) (rx : RepV H as x u) {n : Nat} (e : lenOf x h = some n) (q : Q (.int n) H) : rLenA K [u] H Q := by
  unfold lenOf at e
  split at e
  · cases e
    obtain ⟨a, vs, rfl, qa, la⟩ := rx.tupE
    exact .inl ⟨_, _, rfl, .inr ⟨vs, .of qa, rfl⟩, by rw [← la.length]; exact q⟩
  · obtain ⟨a, rfl, qa⟩ := rx.objE
    split at e
    · rename_i ho
      cases e
      obtain ⟨vs, la, z, sq, _⟩ := rh.lst (K := K) ho qa
      exact .inl ⟨_, _, rfl, .inl ⟨vs, sq, rfl⟩, by rw [← la.length]; exact q⟩
    · rename_i ho
      cases e
      obtain ⟨ks, hH, rk⟩ := rh.dk ho qa
      exact .inr (.inl ⟨a, ks, rfl, hH, by rw [← rk.length]; exact q⟩)
    · rename_i ho
      cases e
      obtain ⟨ks, hH, rk⟩ := rh.dt ho qa
      exact .inr (.inr ⟨a, ks, rfl, hH, by rw [← rk.length]; exact q⟩)
    · cases e
  · cases e
def tyNm (x : PV) (h : PH) : Option String := match x with
  | .non => some "NoneType" | .bl _ => some "bool" | .int _ => some "int" | .str _ => some "str" | .tup _ => some "tuple"
  | .obj n => match h[n]? with
    | some (.lst _ _) => some "list" | some (.dK _) => some "dict" | some (.dT _) => some "dict" | some (.lkd _) => none | none => none
theorem tyNm_snd (rh : RepH H as h) (rx : RepV H as x u) {n : String} (e : tyNm x h = some n) : TyOf K H u (.type n) := by
  unfold tyNm at e
  cases x with
  | non => cases e; rw [rx.nonE]; exact .non
  | bl b => cases e; rw [rx.blE]; exact .bl _
  | int b => cases e; rw [rx.intE]; exact .int _
  | str b => cases e; rw [rx.strE]; exact .str _
  | tup b => cases e; obtain ⟨a, vs, rfl, qa, la⟩ := rx.tupE; exact .tup qa
  | obj m =>
    obtain ⟨a, rfl, qa⟩ := rx.objE
    simp only at e
    cases ho : h[m]? with
    | none => rw [ho] at e; cases e
    | some o =>
      rw [ho] at e
      cases o with
      | lst fz xs =>
        cases e
        obtain ⟨ho, e1, vs, l, z, c⟩ := rh.at_ m _ a ho qa
        cases fz with
        | true => obtain ⟨o, rfl⟩ := c; exact .frz e1
        | false => cases c; exact .lst e1
      | dK kvs => cases e; obtain ⟨ks, hH, rk⟩ := rh.dk ho qa; exact .dK hH
      | dT kvs => cases e; obtain ⟨ks, hH, rk⟩ := rh.dt ho qa; exact .dT hH
      | lkd kvs => cases e
theorem isTy_kit {t : Ty} {b : Bool} (e : isTy t x h = some b) : ∃ n, tyNm x h = some n ∧ kitB n t.nm = some b := by
  unfold isTy at e
  unfold tyNm
  cases x with
  | non => cases e; exact ⟨_, rfl, by cases t <;> decide +kernel⟩
  | bl c => cases e; exact ⟨_, rfl, by cases t <;> decide +kernel⟩
  | int c => cases e; exact ⟨_, rfl, by cases t <;> decide +kernel⟩
  | str c => cases e; exact ⟨_, rfl, by cases t <;> decide +kernel⟩
  | tup c => cases e; exact ⟨_, rfl, by cases t <;> decide +kernel⟩
  | obj m =>
    simp only at e ⊢
    cases ho : h[m]? with
    | none => rw [ho] at e; cases e
    | some o =>
      rw [ho] at e
      cases o with
      | lst fz xs => cases e; exact ⟨_, rfl, by cases t <;> decide +kernel⟩
      | dK kvs => cases e; exact ⟨_, rfl, by cases t <;> decide +kernel⟩
      | dT kvs => cases e; exact ⟨_, rfl, by cases t <;> decide +kernel⟩
      | lkd kvs => cases e
theorem isi_snd (rh : RepH H as h) (rx : RepV H as x u) {t : Ty} {b : Bool} (e : isTy t x h = some b) (q : Q (.bl b) H) : rIsi K [u, .ty t.nm] H Q := by
  obtain ⟨n, e1, e2⟩ := isTy_kit e
  exact ⟨u, .ty t.nm, .type n, .type t.nm, b, rfl, .ty _, .base (tyNm_snd rh rx e1), kit_ty e2, q⟩
end

/-! ### where one stands -/
/-- lists of expressions without a star -/
def noStar : Expr → Bool
  | .Starred .. => false
  | _ => true
theorem each_noStar {e : Expr} {es : List Expr} {env : PySem.Env} (h : noStar e = true) : starEach (e :: es) env = (false, eval e env) :: starEach es env := by
  cases e <;> first | rfl | exact absurd h Bool.false_ne_true
theorem any_noStar {pos : Pos} {env : PySem.Env} : ∀ {es : List Expr}, es.all noStar = true → (backTo pos (starEach es env)).any (·.1) = false
  | [], _ => rfl
  | e :: es, h => by
    rw [List.all_cons, Bool.and_eq_true] at h
    rw [each_noStar h.1]
    show (false || (backTo pos (starEach es env)).any (·.1)) = false
    rw [any_noStar h.2]; rfl

section
variable {X : Cx} {T : XTab} {W : WX} {c : Cc} {pos : Pos}
theorem s_var {i : Nat} {x : Str} (hN : X.N[i]? = some x) (hv : Vis X.env.scope x) (hd : (x == ("__debug__" : Str)) = false) (hcd : (x == ("__classdict__" : Str)) = false) : PE X (.Name x pos) (rdE T W c (.var i)) := by
  refine PE.imp (pe_var hN hv hd hcd) fun σ H Q ⟨as, r, h, p, g⟩ => ?_
  unfold evE at g
  cases q : r[i]? with
  | none => rw [q] at g; exact g.elim
  | some o =>
    cases o with
    | none => rw [q] at g; exact g.elim
    | some v =>
      rw [q] at g
      obtain ⟨u, hu, ru⟩ := p.env i v q
      exact ⟨u, hu, g.ok p.hp ru⟩
theorem s_cst {e : Expr} {v : V} {x : PV} (he : PE X e (tC v)) (rv : ∀ H as, RepV H as x v) : PE X e (rdE T W c (.cst x)) := by
  refine PE.imp he fun σ H Q ⟨as, r, h, p, g⟩ => ?_
  unfold evE at g
  exact g.ok p.hp (rv H as)
theorem s_glb {e : Expr} {v : V} {x : PV} {n : Nat} (he : PE X e (tC v)) (hx : c.glb n = some x) (rv : ∀ H as, RepV H as x v) : PE X e (rdE T W c (.glb n)) := by
  refine PE.imp he fun σ H Q ⟨as, r, h, p, g⟩ => ?_
  unfold evE at g
  rw [hx] at g
  exact g.ok p.hp (rv H as)
theorem s_nil : PA X [] (rdL T W c []) := by
  refine PA.imp pa_nil fun σ H Q ⟨as, r, h, p, g⟩ => ?_
  unfold evL at g
  exact g.ok p.hp .nil
theorem s_cons {e : Expr} {es : List Expr} {d : E} {ds : List E} (ha : PE X e (rdE T W c d)) (hr : PA X es (rdL T W c ds)) (hs : noStar e = true) : PA X (e :: es) (rdL T W c (d :: ds)) := by
  refine PA.imp (pa_cons ha hr (each_noStar hs)) fun σ H Q ⟨as, r, h, p, g⟩ => ?_
  unfold evL at g
  refine ⟨as, r, h, p, (g.bnd (repx := rV) p).mono ?_⟩
  rintro u H1 ⟨as1, h1, v, e1, p1, rv, _, g1⟩
  refine ⟨as1, r, h1, p1, (g1.bnd (repx := rL) p1).mono ?_⟩
  rintro us H2 ⟨as2, h2, vs, e2, p2, rl, _, g2⟩
  exact g2.ok p2.hp (.cons (rv.ext p1.hp e2) rl)
theorem s_tup {es : List Expr} {ds : List E} {x1} (ha : PA X es (rdL T W c ds)) : PE X (.Tuple es x1 pos) (rdE T W c (.tup ds)) := by
  refine PE.imp (pe_tup ha) fun σ H Q ⟨as, r, h, p, g⟩ => ?_
  unfold evE at g
  refine ⟨as, r, h, p, (g.bnd (repx := rL) p).mono ?_⟩
  rintro us H1 ⟨as1, h1, vs, e1, p1, rl, _, g1⟩
  split at g1
  · rename_i hl
    exact ⟨by rw [← rl.length]; exact hl, fun q hq => g1.newTup p1.hp rl hq⟩
  · exact g1.elim
theorem s_lst {es : List Expr} {ds : List E} (ha : PA X es (rdL T W c ds)) : PE X (.List es pos) (rdE T W c (.lst ds)) := by
  refine PE.imp (pe_lst ha) fun σ H Q ⟨as, r, h, p, g⟩ => ?_
  unfold evE at g
  refine ⟨as, r, h, p, (g.bnd (repx := rL) p).mono ?_⟩
  rintro us H1 ⟨as1, h1, vs, e1, p1, rl, _, g1⟩
  split at g1
  · rename_i hl
    exact ⟨by rw [← rl.length]; exact hl, fun q hq => g1.newLst p1.hp rl hl hq⟩
  · exact g1.elim
theorem s_bin {a b : Expr} {A B : E} (o : Op) (ha : PE X a (rdE T W c A)) (hb : PE X b (rdE T W c B)) : PE X (.BinOp a o.py b pos) (rdE T W c (.bin o A B)) := by
  refine PE.imp (pe_op (op_bin o) ha hb) fun σ H Q ⟨as, r, h, p, g⟩ => ?_
  unfold evE at g
  refine ⟨as, r, h, p, (g.bnd (repx := rV) p).mono ?_⟩
  rintro u H1 ⟨as1, h1, v, e1, p1, rv, _, g1⟩
  refine ⟨as1, r, h1, p1, (g1.bnd (repx := rV) p1).mono ?_⟩
  rintro w H2 ⟨as2, h2, y, e2, p2, ry, _, g2⟩
  exact binop_snd o p2.hp (rv.ext p1.hp e2) ry g2
theorem s_neg {a : Expr} {A : E} (ha : PE X a (rdE T W c A)) : PE X (.UnaryOp .USub a pos) (rdE T W c (.neg A)) := by
  refine PE.imp (pe_un un_neg ha) fun σ H Q ⟨as, r, h, p, g⟩ => ?_
  unfold evE at g
  refine ⟨as, r, h, p, (g.bnd (repx := rV) p).mono ?_⟩
  rintro u H1 ⟨as1, h1, v, e1, p1, rv, _, g1⟩
  split at g1
  · exact ⟨_, rv.intE, g1.ok p1.hp (.int _)⟩
  · exact g1.elim
/-- a test's reading from an expression's -/
theorem rdT_of {σ : L2.St} {H : Hp} {Q : Bool → Hp → Prop} {A : E} (q : rdT T W c A σ H Q) : rdE T W c A σ H (fun u H' => ∃ b, TruV X.K u H' b ∧ Q b H') := by
  obtain ⟨as, r, h, p, g⟩ := q
  exact ⟨as, r, h, p, g.tstT⟩
theorem s_tstVal {e : Expr} {A : E} (he : PE X e (rdE T W c A)) (hi : ∀ whole, isTrue e X.env whole = (do let v ← whole; standAt e.pos; holding [v] (truthy v))) : PT X e (rdT T W c A) :=
  PT.imp (pt_truth he hi) fun σ H Q q => rdT_of q
theorem s_not {a : Expr} {A : E} (ha : PE X a (rdE T W c A)) : PE X (.UnaryOp .Not a pos) (rdE T W c (.not A)) := by
  refine PE.imp (pe_notT ha) fun σ H Q ⟨as, r, h, p, g⟩ => ?_
  unfold evE at g
  refine ⟨as, r, h, p, ((g.bnd (repx := rB) p).tstT (K := X.K)).mono ?_⟩
  rintro u H1 ⟨b, tv, as1, h1, v, e1, p1, rfl, _, g1⟩
  exact ⟨_, tv, g1.ok p1.hp (.bl _)⟩
theorem s_notT {a : Expr} {A : E} (ha : PT X a (rdT T W c A)) : PT X (.UnaryOp .Not a pos) (rdT T W c (.not A)) := by
  refine PT.imp (pt_not ha) fun σ H Q ⟨as, r, h, p, g⟩ => ?_
  unfold evE at g
  refine ⟨as, r, h, p, ?_⟩
  cases q : tst (evE c A r h) with
  | ok b h1 =>
    rw [q] at g
    exact fun as' H' u e rh ru => by cases ru; exact g as' H' (!b) e rh rfl
  | ex k vs h1 => rw [q] at g; exact g
  | no => rw [q] at g; exact g
theorem s_one {op : BoolOp} {a : Expr} {A : E} (ha : PE X a (rdE T W c A)) : PE X (.BoolOp op [a] pos) (rdE T W c A) := pe_one ha
theorem s_and {a b : Expr} {rest : List Expr} {A B : E} (ha : PE X a (rdE T W c A)) (hb : PE X (.BoolOp .And (b :: rest) pos) (rdE T W c B)) : PE X (.BoolOp .And (a :: b :: rest) pos) (rdE T W c (.and A B)) := by
  refine PE.imp (pe_and ha hb) fun σ H Q ⟨as, r, h, p, g⟩ => ?_
  unfold evE at g
  refine ⟨as, r, h, p, ((g.bnd (repx := rB) p).tstB).mono ?_⟩
  rintro u H1 ⟨b, rfl, as1, h1, v, e1, p1, rfl, _, g1⟩
  refine ⟨v, rfl, ?_⟩
  cases v with
  | true =>
    rw [if_pos rfl] at g1 ⊢
    refine ⟨as1, r, h1, p1, ((g1.bnd (repx := rB) p1).tstB).mono ?_⟩
    rintro u H2 ⟨b, rfl, as2, h2, v, e2, p2, rfl, _, g2⟩
    exact g2.ok p2.hp (.bl _)
  | false =>
    rw [if_neg Bool.false_ne_true] at g1 ⊢
    exact g1.ok p1.hp (.bl _)
theorem s_or {a b : Expr} {rest : List Expr} {A B : E} (ha : PE X a (rdE T W c A)) (hb : PE X (.BoolOp .Or (b :: rest) pos) (rdE T W c B)) : PE X (.BoolOp .Or (a :: b :: rest) pos) (rdE T W c (.or A B)) := by
  refine PE.imp (pe_or ha hb) fun σ H Q ⟨as, r, h, p, g⟩ => ?_
  unfold evE at g
  refine ⟨as, r, h, p, ((g.bnd (repx := rB) p).tstB).mono ?_⟩
  rintro u H1 ⟨b, rfl, as1, h1, v, e1, p1, rfl, _, g1⟩
  refine ⟨v, rfl, ?_⟩
  cases v with
  | true =>
    rw [if_pos rfl] at g1 ⊢
    exact g1.ok p1.hp (.bl _)
  | false =>
    rw [if_neg Bool.false_ne_true] at g1 ⊢
    refine ⟨as1, r, h1, p1, ((g1.bnd (repx := rB) p1).tstB).mono ?_⟩
    rintro u H2 ⟨b, rfl, as2, h2, v, e2, p2, rfl, _, g2⟩
    exact g2.ok p2.hp (.bl _)
/-- the second part of an and, an or, wrapped as a test -/
theorem tst_wrap (x : Rs PV) : tst (x.bnd fun v h => Rs.ok v h) = tst x := by
  cases x <;> rfl
theorem tst_bl (x : Rs Bool) : tst (x.bnd fun y h => .ok (.bl y) h) = x := by
  cases x <;> rfl
theorem s_andT {a b : Expr} {rest : List Expr} {A B : E} (ha : PT X a (rdT T W c A)) (hb : PW X (.BoolOp .And (b :: rest) pos) (rdT T W c B)) : PW X (.BoolOp .And (a :: b :: rest) pos) (rdT T W c (.and A B)) := by
  refine PW.imp (pw_and ha hb) fun σ H Q ⟨as, r, h, p, g⟩ => ?_
  unfold evE at g
  have e : tst ((tstB (evE c A r h)).bnd fun x h => if x = true then (tstB (evE c B r h)).bnd fun y h => .ok (.bl y) h else .ok (.bl false) h) =
      (tstB (evE c A r h)).bnd fun x h => if x = true then tstB (evE c B r h) else .ok false h := by
    cases tstB (evE c A r h) with
    | ok v h1 => cases v with
      | true => exact tst_bl _
      | false => rfl
    | ex k vs h1 => rfl
    | no => rfl
  rw [e] at g
  refine ⟨as, r, h, p, ((g.bnd (repx := rB) p).weakT).mono ?_⟩
  rintro u H1 ⟨as1, h1, v, e1, p1, rfl, _, g1⟩
  cases v with
  | true => rw [if_pos rfl] at g1 ⊢; exact ⟨as1, r, h1, p1, g1.weakT⟩
  | false => rw [if_neg Bool.false_ne_true] at g1 ⊢; exact g1.ok p1.hp rfl
theorem s_orT {a b : Expr} {rest : List Expr} {A B : E} (ha : PT X a (rdT T W c A)) (hb : PW X (.BoolOp .Or (b :: rest) pos) (rdT T W c B)) : PW X (.BoolOp .Or (a :: b :: rest) pos) (rdT T W c (.or A B)) := by
  refine PW.imp (pw_or ha hb) fun σ H Q ⟨as, r, h, p, g⟩ => ?_
  unfold evE at g
  have e : tst ((tstB (evE c A r h)).bnd fun x h => if x = true then .ok (.bl true) h else (tstB (evE c B r h)).bnd fun y h => .ok (.bl y) h) =
      (tstB (evE c A r h)).bnd fun x h => if x = true then .ok true h else tstB (evE c B r h) := by
    cases tstB (evE c A r h) with
    | ok v h1 => cases v with
      | true => rfl
      | false => exact tst_bl _
    | ex k vs h1 => rfl
    | no => rfl
  rw [e] at g
  refine ⟨as, r, h, p, ((g.bnd (repx := rB) p).weakT).mono ?_⟩
  rintro u H1 ⟨as1, h1, v, e1, p1, rfl, _, g1⟩
  cases v with
  | true => rw [if_pos rfl] at g1 ⊢; exact g1.ok p1.hp rfl
  | false => rw [if_neg Bool.false_ne_true] at g1 ⊢; exact ⟨as1, r, h1, p1, g1.weakT⟩
theorem s_oneAnd {a : Expr} {A : E} (ha : PT X a (rdT T W c A)) : PW X (.BoolOp .And [a] pos) (rdT T W c A) := pw_and1 ha
theorem s_oneOr {a : Expr} {A : E} (ha : PT X a (rdT T W c A)) : PW X (.BoolOp .Or [a] pos) (rdT T W c A) := pw_or1 ha
theorem ofOptB_snd {as : List Addr} {H : Hp} {σ : L2.St} {h : PH} {o : Option Bool} {Q : VK} (g : gotR T W (ofOptB h o) as H σ rV Q) (rh : RepH H as h) : ∃ b, o = some b ∧ Q (.bl b) H := by
  cases o with
  | none => exact g.elim
  | some b => exact ⟨b, rfl, g.ok rh (.bl b)⟩
theorem s_cmp {a b : Expr} {A B : E} (o : Cp) (hu : X.A.units + 65 < cLine) (ha : PE X a (rdE T W c A)) (hb : PE X b (rdE T W c B)) (hm : behindInMarks o.py b = false) : PE X (.Compare a [o.py] [b] pos) (rdE T W c (.cmp o A B)) := by
  refine PE.imp (pe_cmpR (op_cmp hu o) ha hb hm) fun σ H Q ⟨as, r, h, p, g⟩ => ?_
  unfold evE at g
  refine ⟨as, r, h, p, (g.bnd (repx := rV) p).mono ?_⟩
  rintro u H1 ⟨as1, h1, v, e1, p1, rv, _, g1⟩
  refine ⟨as1, r, h1, p1, (g1.bnd (repx := rV) p1).mono ?_⟩
  rintro w H2 ⟨as2, h2, y, e2, p2, ry, _, g2⟩
  obtain ⟨b, hb, q⟩ := ofOptB_snd g2 p2.hp
  exact cmpop_snd o p2.hp (rv.ext p1.hp e2) ry hb q
theorem tst_eqB {x : Rs PV} (hx : ∀ v h, x = .ok v h → ∃ b, v = .bl b) : EV.tst x = EV.tstB x := by
  cases x with
  | ok v h => obtain ⟨b, rfl⟩ := hx v h rfl; rfl
  | ex c v h => rfl
  | no => rfl
theorem bnd_blE {α : Type} {x : Rs α} {f : α → PH → Rs PV} (hf : ∀ a h v h', f a h = .ok v h' → ∃ b, v = .bl b) : ∀ v h, x.bnd f = .ok v h → ∃ b, v = .bl b := fun v h e => by
  cases x with
  | ok a h1 => exact hf a h1 v h e
  | ex c v h => cases e
  | no => cases e
theorem optB_blE {o : Option Bool} {h : PH} : ∀ v h', ofOptB h o = .ok v h' → ∃ b, v = .bl b := fun v h' e => by
  cases o with
  | none => cases e
  | some b => cases e; exact ⟨b, rfl⟩
theorem rdT_cmp {σ : L2.St} {H : Hp} {Q : Bool → Hp → Prop} {A B : E} {o : Cp} (q : rdT T W c (.cmp o A B) σ H Q) : rdE T W c (.cmp o A B) σ H (fun u H' => ∃ b, u = .bl b ∧ Q b H') := by
  obtain ⟨as, r, h, p, g⟩ := q
  refine ⟨as, r, h, p, gotR.tstB ?_⟩
  rw [← tst_eqB]
  · exact g
  · unfold evE
    exact bnd_blE fun a h => bnd_blE fun a h => optB_blE
theorem rdT_chn {σ : L2.St} {H : Hp} {Q : Bool → Hp → Prop} {A B D : E} {o o2 : Cp} (q : rdT T W c (.chn o o2 A B D) σ H Q) : rdE T W c (.chn o o2 A B D) σ H (fun u H' => ∃ b, u = .bl b ∧ Q b H') := by
  obtain ⟨as, r, h, p, g⟩ := q
  refine ⟨as, r, h, p, gotR.tstB ?_⟩
  rw [← tst_eqB]
  · exact g
  · unfold evE
    refine bnd_blE fun a h => bnd_blE fun a h => fun v h' e => ?_
    split at e
    · exact bnd_blE (fun a h => optB_blE) v h' e
    · cases e; exact ⟨_, rfl⟩
    · cases e
theorem s_cmpT {a b : Expr} {A B : E} (o : Cp) (hu : X.A.units + 65 < cLine) (ha : PE X a (rdE T W c A)) (hb : PE X b (rdE T W c B)) (hm : behindInMarks o.py b = false) : PT X (.Compare a [o.py] [b] pos) (rdT T W c (.cmp o A B)) := by
  refine PT.imp (pt_cmpR (op_cmp hu o) ha hb hm) fun σ H Q q => ?_
  obtain ⟨as, r, h, p, g⟩ := rdT_cmp q
  unfold evE at g
  refine ⟨as, r, h, p, (g.bnd (repx := rV) p).mono ?_⟩
  rintro u H1 ⟨as1, h1, v, e1, p1, rv, _, g1⟩
  refine ⟨as1, r, h1, p1, (g1.bnd (repx := rV) p1).mono ?_⟩
  rintro w H2 ⟨as2, h2, y, e2, p2, ry, _, g2⟩
  obtain ⟨b, hb, q⟩ := ofOptB_snd g2 p2.hp
  exact cmpop_snd o p2.hp (rv.ext p1.hp e2) ry hb q
theorem s_chnQ {σ : L2.St} {H : Hp} {Q : VK} {A B D : E} {o o2 : Cp} (q : rdE T W c (.chn o o2 A B D) σ H Q) : tChain (rCmp X.K o) (rCmp X.K o2) (rdE T W c A) (rdE T W c B) (rdE T W c D) σ H Q := by
  obtain ⟨as, r, h, p, g⟩ := q
  unfold evE at g
  refine ⟨as, r, h, p, (g.bnd (repx := rV) p).mono ?_⟩
  rintro u H1 ⟨as1, h1, v, e1, p1, rv, _, g1⟩
  refine ⟨as1, r, h1, p1, (g1.bnd (repx := rV) p1).mono ?_⟩
  rintro w H2 ⟨as2, h2, y, e2, p2, ry, _, g2⟩
  split at g2
  · rename_i hb
    refine cmpop_snd o p2.hp (rv.ext p1.hp e2) ry hb ⟨true, rfl, ?_⟩
    rw [if_pos rfl]
    refine ⟨as2, r, h2, p2, (g2.bnd (repx := rV) p2).mono ?_⟩
    rintro z H3 ⟨as3, h3, y3, e3, p3, rz, _, g3⟩
    obtain ⟨b, hb, q⟩ := ofOptB_snd g3 p3.hp
    exact cmpop_snd o2 p3.hp (ry.ext p2.hp e3) rz hb q
  · rename_i hb
    refine cmpop_snd o p2.hp (rv.ext p1.hp e2) ry hb ⟨false, rfl, ?_⟩
    rw [if_neg Bool.false_ne_true]
    exact g2.ok p2.hp (.bl false)
  · exact g2.elim
theorem s_chn {a b e : Expr} {A B D : E} (o o2 : Cp) (hu : X.A.units + 65 < cLine) (ha : PE X a (rdE T W c A)) (hb : PE X b (rdE T W c B)) (hc : PE X e (rdE T W c D)) (hm : lastMarks [o.py, o2.py] [b, e] = false) :
    PE X (.Compare a [o.py, o2.py] [b, e] pos) (rdE T W c (.chn o o2 A B D)) := PE.imp (pe_chain (op_cmp hu o) (op_cmp hu o2) ha hb hc hm) fun σ H Q q => s_chnQ q
theorem s_chnT {a b e : Expr} {A B D : E} (o o2 : Cp) (hu : X.A.units + 65 < cLine) (ha : PE X a (rdE T W c A)) (hb : PE X b (rdE T W c B)) (hc : PE X e (rdE T W c D)) (hm : lastMarks [o.py, o2.py] [b, e] = false) :
    PT X (.Compare a [o.py, o2.py] [b, e] pos) (rdT T W c (.chn o o2 A B D)) := PT.imp (pt_chain (op_cmp hu o) (op_cmp hu o2) ha hb hc hm) fun σ H Q q => s_chnQ (rdT_chn q)
theorem s_ite {t a b : Expr} {A B D : E} (ht : PT X t (rdT T W c D)) (ha : PE X a (rdE T W c A)) (hb : PE X b (rdE T W c B)) : PE X (.IfExp t a b pos) (rdE T W c (.ite D A B)) := by
  refine PE.imp (pe_ifExp ht ha hb) fun σ H Q ⟨as, r, h, p, g⟩ => ?_
  unfold evE at g
  refine ⟨as, r, h, p, (g.bnd (repx := rB) p).mono ?_⟩
  rintro u H1 ⟨as1, h1, v, e1, p1, rfl, _, g1⟩
  cases v with
  | true => rw [if_pos rfl] at g1 ⊢; exact ⟨as1, r, h1, p1, g1⟩
  | false => rw [if_neg Bool.false_ne_true] at g1 ⊢; exact ⟨as1, r, h1, p1, g1⟩
theorem ofOpt_snd {as : List Addr} {H : Hp} {σ : L2.St} {h : PH} {o : Option PV} {Q : VK} (g : gotR T W (ofOpt h o) as H σ rV Q) (rh : RepH H as h) : ∃ b, o = some b ∧ ∀ z, RepV H as b z → Q z H := by
  cases o with
  | none => exact g.elim
  | some b => exact ⟨b, rfl, fun z rz => g.ok rh rz⟩
theorem s_idx {a b : Expr} {A B : E} (hu : X.A.units + 65 < cLine) (ha : PE X a (rdE T W c A)) (hb : PE X b (rdE T W c B)) (hs : PlainIx b) : PE X (.Subscript a b pos) (rdE T W c (.idx A B)) := by
  refine PE.imp (pe_ix (ix_all (by omega)) ha hb hs) fun σ H Q ⟨as, r, h, p, g⟩ => ?_
  unfold evE at g
  refine ⟨as, r, h, p, (g.bnd (repx := rV) p).mono ?_⟩
  rintro u H1 ⟨as1, h1, v, e1, p1, rv, _, g1⟩
  refine ⟨as1, r, h1, p1, (g1.bnd (repx := rV) p1).mono ?_⟩
  rintro w H2 ⟨as2, h2, y, e2, p2, ry, _, g2⟩
  obtain ⟨b, hb, q⟩ := ofOpt_snd g2 p2.hp
  exact idxop_snd p2.hp (rv.ext p1.hp e2) ry hb q
/-- a bound of a slice -/
def rdO (T : XTab) (W : WX) (c : Cc) (d : E) : TO := fun σ H Q => ∃ as r h, Rp H as r σ h ∧ gotR T W (if d.isNop then Rs.ok none h else optInt (evE c d r h)) as H σ (fun _ _ (v : Option Int) (u : Option Int) => v = u) Q
theorem PO.imp' {X : Cx} {e : Option Expr} {t t' : TO} (p : L2.PO X e t) (h : ∀ σ H Q, t' σ H Q → t σ H Q) : L2.PO X e t' := ⟨fun pins s σ H Q I q => p.run pins s σ H Q I (h σ H Q q)⟩
theorem s_noPart : L2.PO X none (rdO T W c .nop) := by
  refine PO.imp' po_none fun σ H Q ⟨as, r, h, p, g⟩ => ?_
  exact g.ok p.hp rfl
theorem s_part {e : Expr} {d : E} (he : PE X e (rdE T W c d)) (hd : d.isNop = false) : L2.PO X (some e) (rdO T W c d) := by
  refine PO.imp' (po_some he) fun σ H Q ⟨as, r, h, p, g⟩ => ?_
  rw [hd, if_neg Bool.false_ne_true] at g
  refine ⟨as, r, h, p, ?_⟩
  cases q : evE c d r h with
  | ok v h1 =>
    rw [q] at g
    cases v with
    | int i => exact fun as' H' u e rh ru => ⟨i, ru.intE, g as' H' (some i) e rh rfl⟩
    | _ => exact g.elim
  | ex k vs h1 => rw [q] at g; exact g
  | no => rw [q] at g; exact g
theorem s_slc {a : Expr} {lo hi : Option Expr} {p2 : Pos} {A L U : E} (ha : PE X a (rdE T W c A)) (hl : L2.PO X lo (rdO T W c L)) (hh : L2.PO X hi (rdO T W c U)) : PE X (.Subscript a (.Slice lo hi none p2) pos) (rdE T W c (.slc A L U)) := by
  refine PE.imp (pe_slice sl_all ha hl hh) fun σ H Q ⟨as, r, h, p, g⟩ => ?_
  unfold evE at g
  refine ⟨as, r, h, p, (g.bnd (repx := rV) p).mono ?_⟩
  rintro u H1 ⟨as1, h1, v, e1, p1, rv, _, g1⟩
  refine ⟨as1, r, h1, p1, (g1.bnd (repx := fun _ _ (v : Option Int) (u : Option Int) => v = u) p1).mono ?_⟩
  rintro l H2 ⟨as2, h2, y, e2, p2, rfl, _, g2⟩
  refine ⟨as2, r, h2, p2, (g2.bnd (repx := fun _ _ (v : Option Int) (u : Option Int) => v = u) p2).mono ?_⟩
  rintro l H3 ⟨as3, h3, y3, e3, p3, rfl, _, g3⟩
  exact slcop_snd p3.hp (rv.ext p1.hp (e2.trans e3)) g3
end
end EV
end
section
set_option Elab.async false
set_option linter.all false
set_option maxRecDepth 100000
/-! EvSnd4: calls of defs, of built-ins, of methods; displays of dicts. -/
namespace EV
open PySem L2

/-- what a def promises: the interpreter's word -/
def spF (T : XTab) (call : Nat → List PV → PH → Rs PV) (f : Nat) : Sp := fun vs H Q E => ∃ as xs h, RepL H as xs vs ∧ RepH H as h ∧ match call f xs h with
  | .ok v h' => ∀ as' H' u, Ext H as H' as' → RepH H' as' h' → RepV H' as' v u → Q u H'
  | .ex k ws h' => ∀ as' H' cls d, Ext H as H' as' → RepH H' as' h' → ExRep T H' as' k ws cls d → E cls d H'
  | .no => False
theorem spF_of {T : XTab} {W : WX} {call : Nat → List PV → PH → Rs PV} {f : Nat} {as : List Addr} {H : Hp} {σ : L2.St} {h : PH} {xs : List PV} {vs : List V} {Q : VK} (rh : RepH H as h) (rl : RepL H as xs vs)
    (g : gotR T W (call f xs h) as H σ rV Q) : spF T call f vs H Q (WE W σ) := by
  refine ⟨as, xs, h, rl, rh, ?_⟩
  cases q : call f xs h with
  | ok v h' => rw [q] at g; exact g
  | ex k ws h' => rw [q] at g; exact g
  | no => rw [q] at g; exact g

section
variable {X : Cx} {T : XTab} {W : WX} {c : Cc} {pos p : Pos} {x : Str} {k f : Nat} {fa : Addr} {fd : FuncData} {ps : List Str}
theorem pe_callS0 {CX : CXT} {k : Nat} {sp : Sp} {E : L2.St → XK} (F : FnOk X.prog X.w X.K X.mg X.base CX k fa fd ps sp) (hr : Room k X.A) (hg : Gl X x) (hm : X.mg x = some (.ref fa)) (hk : PySem.W.keepIn X.K (.ref fa) = true) (hb : Binds X.K fd ps []) (hx : ∀ σ, PassesAt CX X σ (E σ))
    (hdb : (x == ("__debug__" : Str)) = false) : PE X (.Call (.Name x p) [] [] pos) (tCallS sp E tNil) := by
  refine ⟨fun pins s σ H Q I h => ?_⟩
  refine wpAny_Call_Name_kw (ld_glob I hg hm ?_ hdb)
  exact PySem.W.callWith_K0 I.kIn hk (run_fnS (us := []) F hr hb (hx σ) I .nil h)
theorem s_call {es : List Expr} {ds : List E} (F : FnOk X.prog X.w X.K X.mg X.base (L2.CX X.prog X.w) k fa fd ps (spF T c.call f)) (hr : Room k X.A) (tk : Takes X W) (hg : Gl X x) (hm : X.mg x = some (.ref fa)) (hk : PySem.W.keepIn X.K (.ref fa) = true)
    (hb : Binds X.K fd ps []) (ha : PA X es (rdL T W c ds)) (hs : es.all noStar = true) (hl : es.length = ds.length) (hdb : (x == ("__debug__" : Str)) = false) : PE X (.Call (.Name x p) es [] pos) (rdE T W c (.call f ds)) := by
  cases es with
  | nil =>
    have e0 : ds = [] := List.eq_nil_of_length_eq_zero hl.symm
    subst e0
    refine PE.imp (pe_callS0 (E := WE W) F hr hg hm hk hb (fun σ => passAt tk σ) hdb) fun σ H Q ⟨as, r, h, q, g⟩ => ?_
    unfold evE evL at g
    exact spF_of q.hp .nil g
  | cons e es =>
    rw [List.all_cons, Bool.and_eq_true] at hs
    refine PE.imp (pe_callS (E := WE W) F hr hg hm hk hb (fun σ => passAt tk σ) ha hdb (each_noStar hs.1) (any_noStar hs.2)) fun σ H Q ⟨as, r, h, q, g⟩ => ?_
    unfold evE at g
    refine ⟨as, r, h, q, (g.bnd (repx := rL) q).mono ?_⟩
    rintro us H1 ⟨as1, h1, vs, e1, p1, rl, _, g1⟩
    exact spF_of p1.hp rl g1

/-! keywords -/
def pickA {α : Type} (ord : List Nat) (xs : List α) : Option (List α) := optAll (fun i => xs[i]?) ord
theorem RepL.pick {H : Hp} {as : List Addr} {xs : List PV} {vs : List V} (r : RepL H as xs vs) : ∀ (ord : List Nat) (ys : List PV), EV.pick xs ord = some ys → ∃ us, pickA ord vs = some us ∧ RepL H as ys us := by
  intro ord
  induction ord with
  | nil => intro ys e; cases e; exact ⟨[], rfl, .nil⟩
  | cons i ord ih =>
    intro ys e
    obtain ⟨d, t, e1, e2, rfl⟩ := optAll_consE (f := fun i => xs[i]?) e
    obtain ⟨u, hu, ru⟩ := r.get e1
    obtain ⟨us, h1, h2⟩ := ih t e2
    refine ⟨u :: us, ?_, .cons ru h2⟩
    unfold pickA optAll
    have h1' : optAll (fun i => vs[i]?) ord = some us := h1
    simp only [hu, h1']
theorem vals_pick {vs : List V} {us : List Value} (r : Vals vs us) : ∀ (ord : List Nat) (ws : List V), pickA ord vs = some ws → ∃ zs, pickA ord us = some zs ∧ Vals ws zs := by
  intro ord
  induction ord with
  | nil => intro ys e; cases e; exact ⟨[], rfl, .nil⟩
  | cons i ord ih =>
    intro ys e
    obtain ⟨d, t, e1, e2, rfl⟩ := optAll_consE (f := fun i => vs[i]?) e
    obtain ⟨u, hu, ru⟩ := r.get e1
    obtain ⟨us', h1, h2⟩ := ih t e2
    refine ⟨u :: us', ?_, .cons ru h2⟩
    unfold pickA optAll
    have h1' : optAll (fun i => us[i]?) ord = some us' := h1
    simp only [hu, h1']
/-- how a call with n values and these keywords binds -/
def KwOk (X : Cx) (fd : FuncData) (ps : List Str) (n : Nat) (ks : List Str) (ord : List Nat) : Prop :=
  ∀ (s : Shared) (us ws zs : List Value), us.length = n → ws.length = ks.length → X.K.In s.heap → pickA ord (us ++ ws) = some zs → BindsTo s fd ⟨us, ks.zip ws⟩ (ps.zip zs)
def kwNm (kws : List Keyword) : Option (List Str) := optAll (fun k : Keyword => match k with | ⟨n, _, _⟩ => n) kws
theorem kw_all {env : PySem.Env} {pos : Pos} : ∀ {kws : List Keyword} {ks : List Str}, kwNm kws = some ks → (backToKw pos (keywordEach kws env)).all (·.1.isSome) = true ∧ (backToKw pos (keywordEach kws env)).filterMap (·.1) = ks ∧
    (backToKw pos (keywordEach kws env)).any (·.1.isNone) = false := by
  intro kws
  induction kws with
  | nil => intro ks e; cases e; exact ⟨rfl, rfl, rfl⟩
  | cons k kws ih =>
    intro ks e
    obtain ⟨d, t, e1, e2, rfl⟩ := optAll_consE e
    obtain ⟨h1, h2, h3⟩ := ih e2
    obtain ⟨nm, v, kp⟩ := k
    simp only at e1
    subst e1
    refine ⟨?_, ?_, ?_⟩
    · show (true && (backToKw pos (keywordEach kws env)).all (·.1.isSome)) = true
      rw [h1]; rfl
    · show d :: (backToKw pos (keywordEach kws env)).filterMap (·.1) = d :: t
      rw [h2]
    · show (false || (backToKw pos (keywordEach kws env)).any (·.1.isNone)) = false
      rw [h3]; rfl
theorem PK.imp {X : Cx} {e : List Keyword} {t t' : TA} (p : L2.PK X e t) (h : ∀ σ H Q, t' σ H Q → t σ H Q) : L2.PK X e t' := ⟨fun pos pins s σ H Q I q => p.run pos pins s σ H Q I (h σ H Q q)⟩
theorem s_knil : L2.PK X [] (rdL T W c []) := by
  refine PK.imp pk_nil fun σ H Q ⟨as, r, h, p, g⟩ => ?_
  unfold evL at g
  exact g.ok p.hp .nil
theorem s_kcons {e : Expr} {es : List Keyword} {nm : Option Str} {kp : Pos} {d : E} {ds : List E} (ha : PE X e (rdE T W c d)) (hr : L2.PK X es (rdL T W c ds)) : L2.PK X (⟨nm, e, kp⟩ :: es) (rdL T W c (d :: ds)) := by
  refine PK.imp (pk_cons ha hr) fun σ H Q ⟨as, r, h, p, g⟩ => ?_
  unfold evL at g
  refine ⟨as, r, h, p, (g.bnd (repx := rV) p).mono ?_⟩
  rintro u H1 ⟨as1, h1, v, e1, p1, rv, _, g1⟩
  refine ⟨as1, r, h1, p1, (g1.bnd (repx := rL) p1).mono ?_⟩
  rintro us H2 ⟨as2, h2, vs, e2, p2, rl, _, g2⟩
  exact g2.ok p2.hp (.cons (rv.ext p1.hp e2) rl)
theorem evL_len {c : Cc} : ∀ {ds : List E} {r : Env} {h h' : PH} {vs : List PV}, evL c ds r h = .ok vs h' → vs.length = ds.length := by
  intro ds
  induction ds with
  | nil => intro r h h' vs e; unfold evL at e; cases e; rfl
  | cons d ds ih =>
    intro r h h' vs e
    unfold evL at e
    cases q : evE c d r h with
    | ok v h1 =>
      rw [q] at e
      simp only [Rs.bnd] at e
      cases q2 : evL c ds r h1 with
      | ok us h2 =>
        rw [q2] at e
        simp only at e
        cases e
        rw [List.length_cons, List.length_cons, ih q2]
      | ex k ws h2 => rw [q2] at e; cases e
      | no => rw [q2] at e; cases e
    | ex k ws h1 => rw [q] at e; cases e
    | no => rw [q] at e; cases e
/-- the call with keywords, by values -/
theorem run_fnKS {pins : List (Addr × Obj)} {σ : L2.St} {H : Hp} {s : Shared} {Q : VK} {us ws : List Value} {vs zs ys : List V} {n : Nat} {ks : List Str} {ord : List Nat} {E : L2.St → XK} {sp : Sp} (F : FnOk X.prog X.w X.K X.mg X.base (L2.CX X.prog X.w) k fa fd ps sp) (hr : Room k X.A)
    (hb : KwOk X fd ps n ks ord) (hx : PassesAt (L2.CX X.prog X.w) X σ (E σ)) (I : Inv X pins σ H s) (r : Vals vs us) (rz : Vals zs ws) (hn : vs.length = n) (hz : zs.length = ks.length) (hp : pickA ord (vs ++ zs) = some ys) (h : sp ys H Q (E σ)) :
    wpAny (model X.prog X.w) X.A (call (.ref fa) us (ks.zip ws)) (EP X pins σ Q) X.xe s := by
  obtain ⟨os, h1, h2⟩ := vals_pick (r.append rz) ord ys hp
  have b := hb s us ws os (by rw [← r.length]; exact hn) (by rw [← rz.length]; exact hz) I.kIn h1
  refine wpAny_call (codeAny_mono (F.run X.A X.stack s H ⟨us, ks.zip ws⟩ os ys Q (E σ) hr I.env0 b h2 h) fun r s' hq => ?_)
  cases r with
  | error e => exact hx pins H s e s' I hq
  | ok fl =>
    cases fl with
    | ret u => exact I.after hq
    | next => exact False.elim hq
    | brk => exact False.elim hq
    | cont => exact False.elim hq
theorem s_callK {es : List Expr} {ds us : List E} {kws : List Keyword} {ks : List Str} {ord : List Nat} (F : FnOk X.prog X.w X.K X.mg X.base (L2.CX X.prog X.w) k fa fd ps (spF T c.call f)) (hr : Room k X.A) (tk : Takes X W) (hg : Gl X x) (hm : X.mg x = some (.ref fa)) (hk : PySem.W.keepIn X.K (.ref fa) = true)
    (hb : KwOk X fd ps ds.length ks ord) (ha : PA X es (rdL T W c ds)) (hkw : L2.PK X kws (rdL T W c us)) (hn : kwNm kws = some ks) (hs : es.all noStar = true) (hl : es.length = ds.length) (hku : us.length = ks.length) (hdb : (x == ("__debug__" : Str)) = false) :
    PE X (.Call (.Name x p) es kws pos) (rdE T W c (.callK f ds us ord)) := by
  obtain ⟨n1, n2, n3⟩ := kw_all (env := X.env) (pos := pos) hn
  refine ⟨fun pins s σ H Q I ⟨as, r, h, q, g⟩ => ?_⟩
  unfold evE at g
  refine wpAny_Call_Name_kw (ld_glob I hg hm ?_ hdb)
  have fin : ∀ {s1 : Shared} {H1 : Hp} {vs : List V} {vals : List Value} {as1 : List Addr} {h1 : PH} {xs : List PV}, Inv X pins σ H1 s1 → Vals vs vals → RepL H1 as1 xs vs → Rp H1 as1 r σ h1 → xs.length = ds.length →
      gotR T W ((evL c us r h1).bnd fun us h => match EV.pick (xs ++ us) ord with | some ws => c.call f ws h | none => .no) as1 H1 σ rV Q →
      wpAny (model X.prog X.w) X.A (evalAll ((backToKw pos (keywordEach kws X.env)).map (·.2))) (fun ws s2 => X.K.In s2.heap ∧ wpAny (model X.prog X.w) X.A (call (.ref fa) ([] ++ vals) (((backToKw pos (keywordEach kws X.env)).filterMap (·.1)).zip ws)) (EP X pins σ Q) X.xe s2) X.xe s1 := by
    intro s1 H1 vs vals as1 h1 xs I1 rv rl p1 hx g1
    refine thn (hkw.run pos pins s1 σ H1 _ I1 ⟨as1, r, h1, p1, (g1.bnd (repx := rL) p1)⟩) fun ws s2 ⟨zs, H2, I2, rz, as2, h2, ys, e2, p2, rl2, ev2, g2⟩ => ⟨I2.kIn, ?_⟩
    rw [n2]
    cases hp : EV.pick (xs ++ ys) ord with
    | none => rw [hp] at g2; exact g2.elim
    | some os =>
      rw [hp] at g2
      obtain ⟨qs, h3, h4⟩ := ((rl.ext p1.hp e2).append rl2).pick ord os hp
      have hz : zs.length = ks.length := by rw [← rl2.length, evL_len ev2, hku]
      exact run_fnKS (E := WE W) F hr hb (passAt tk σ) I2 rv rz (by rw [← rl.length]; exact hx) hz h3 (spF_of p2.hp h4 g2)
  cases es with
  | nil =>
    have e0 : ds = [] := List.eq_nil_of_length_eq_zero hl.symm
    subst e0
    have e0 : evL c ([] : List E) r h = .ok [] h := by unfold evL; rfl
    rw [e0] at g
    refine PySem.W.callWith_KW0 (h₀ := X.base) I.ok.mod.kin hk n1 (fin I .nil .nil q rfl g) ?_
    show (false || _) = false
    rw [n3]; rfl
  | cons e es =>
    rw [List.all_cons, Bool.and_eq_true] at hs
    refine PySem.W.callWith_KW (h₀ := X.base) I.ok.mod.kin hk n1 (thn (ha.run pos pins s σ H _ I ⟨as, r, h, q, g.bnd (repx := rL) q⟩) fun vals s1 ⟨vs, H1, I1, rv, as1, h1, xs, e1, p1, rl, ev1, g1⟩ => fin I1 rv rl p1 (evL_len ev1) g1) ?_ (each_noStar hs.1)
    rw [n3, Bool.or_false]
    rw [each_noStar hs.1]
    show (false || (backTo pos (starEach es X.env)).any (·.1)) = false
    rw [any_noStar hs.2]; rfl
end

/-! ### built-ins -/
section
variable {X : Cx} {T : XTab} {W : WX} {c : Cc} {pos p : Pos}
theorem rl1 {H : Hp} {as : List Addr} {x : PV} {vs : List V} (r : RepL H as [x] vs) : ∃ u, vs = [u] ∧ RepV H as x u := by
  obtain ⟨u, us, rfl, a, b⟩ := r.consE
  rw [b.nilE]
  exact ⟨u, rfl, a⟩
theorem rl2 {H : Hp} {as : List Addr} {x y : PV} {vs : List V} (r : RepL H as [x, y] vs) : ∃ u w, vs = [u, w] ∧ RepV H as x u ∧ RepV H as y w := by
  obtain ⟨u, us, rfl, a, b⟩ := r.consE
  obtain ⟨w, rfl, b2⟩ := rl1 b
  exact ⟨u, w, rfl, a, b2⟩
/-- a built-in by values -/
theorem s_bfQ {b : Bf} {ds : List E} {rr : List V → Hp → VK → Prop} {σ : L2.St} {H : Hp} {Q : VK} (hr : ∀ as H h vs us Q, RepH H as h → RepL H as vs us → (∀ o, bfop b vs h = some o → (∀ z, RepV H as o z → Q z H) → rr us H Q)) (q : rdE T W c (.bf b ds) σ H Q) :
    tCB rr (rdL T W c ds) σ H Q := by
  obtain ⟨as, r, h, p, g⟩ := q
  unfold evE at g
  refine ⟨as, r, h, p, (g.bnd (repx := rL) p).mono ?_⟩
  rintro us H1 ⟨as1, h1, vs, e1, p1, rl, _, g1⟩
  obtain ⟨o, ho, q⟩ := ofOpt_snd g1 p1.hp
  exact hr as1 H1 h1 vs us Q p1.hp rl o ho q
theorem bf_len {vs : List PV} {h : PH} {o : PV} (e : bfop .len vs h = some o) : ∃ x n, vs = [x] ∧ lenOf x h = some n ∧ o = .int (n : Nat) := by
  rcases vs with _ | ⟨x, _ | ⟨y, r⟩⟩
  · cases e
  · obtain ⟨n, hn, ho⟩ := Option.map_eq_some_iff.mp (show (lenOf x h).map (fun (n : Nat) => PV.int (n : Int)) = some o from e)
    exact ⟨x, n, rfl, hn, ho.symm⟩
  · cases e
theorem bf_int {vs : List PV} {h : PH} {o : PV} (e : bfop .int vs h = some o) : (∃ i, vs = [.int i] ∧ o = .int i) ∨ ∃ b, vs = [.bl b] ∧ o = .int (if b then 1 else 0) := by
  rcases vs with _ | ⟨x, _ | ⟨y, r⟩⟩
  · cases e
  · cases x with
    | int i => cases e; exact .inl ⟨i, rfl, rfl⟩
    | bl b => cases e; exact .inr ⟨b, rfl, rfl⟩
    | _ => cases e
  · cases x <;> cases e
theorem bf_min {vs : List PV} {h : PH} {o : PV} (e : bfop .min vs h = some o) : ∃ i j, vs = [.int i, .int j] ∧ o = .int (if j < i then j else i) := by
  rcases vs with _ | ⟨x, _ | ⟨y, _ | ⟨z, r⟩⟩⟩
  · cases e
  · cases x <;> cases e
  · cases x with
    | int i => cases y with
      | int j => cases e; exact ⟨i, j, rfl, rfl⟩
      | _ => cases e
    | _ => cases e
  · cases x <;> cases y <;> cases e
theorem bf_max {vs : List PV} {h : PH} {o : PV} (e : bfop .max vs h = some o) : ∃ i j, vs = [.int i, .int j] ∧ o = .int (if j > i then j else i) := by
  rcases vs with _ | ⟨x, _ | ⟨y, _ | ⟨z, r⟩⟩⟩
  · cases e
  · cases x <;> cases e
  · cases x with
    | int i => cases y with
      | int j => cases e; exact ⟨i, j, rfl, rfl⟩
      | _ => cases e
    | _ => cases e
  · cases x <;> cases y <;> cases e
theorem s_len {e : Expr} {d : E} (hg : Gl X "len") (hm : X.mg "len" = none) (ha : PA X [e] (rdL T W c [d])) (hs : noStar e = true) : PE X (.Call (.Name "len" p) [e] [] pos) (rdE T W c (.bf .len [d])) := by
  refine PE.imp (pe_callB call_lenA hg hm PySem.boot_len ha (by decide) (by decide) (each_noStar hs) rfl) fun σ H Q q => s_bfQ (fun as H h vs us Q rh rl o ho q => ?_) q
  obtain ⟨x, n, rfl, hn, rfl⟩ := bf_len ho
  obtain ⟨u, rfl, ru⟩ := rl1 rl
  exact len_snd rh ru hn (q _ (.int _))
theorem boot_int' : bootBuiltins "int" = some (.type "int") := by decide +kernel
theorem boot_min' : bootBuiltins "min" = some (.builtin "min") := by decide +kernel
theorem boot_max' : bootBuiltins "max" = some (.builtin "max") := by decide +kernel
theorem boot_isi' : bootBuiltins "isinstance" = some (.builtin "isinstance") := by decide +kernel
theorem s_int {e : Expr} {d : E} (hg : Gl X "int") (hm : X.mg "int" = none) (ha : PA X [e] (rdL T W c [d])) (hs : noStar e = true) : PE X (.Call (.Name "int" p) [e] [] pos) (rdE T W c (.bf .int [d])) := by
  refine PE.imp (pe_callTy call_int1 hg hm boot_int' ha (by decide) (by decide) (each_noStar hs) rfl) fun σ H Q q => s_bfQ (fun as H h vs us Q rh rl o ho q => ?_) q
  rcases bf_int ho with ⟨i, rfl, rfl⟩ | ⟨b, rfl, rfl⟩
  · obtain ⟨u, rfl, ru⟩ := rl1 rl
    rw [ru.intE]
    exact .inl ⟨_, rfl, q _ (.int _)⟩
  · obtain ⟨u, rfl, ru⟩ := rl1 rl
    rw [ru.blE]
    exact .inr ⟨_, rfl, q _ (.int _)⟩
theorem s_min {e e2 : Expr} {d d2 : E} (hc : X.calm = true) (hg : Gl X "min") (hm : X.mg "min" = none) (ha : PA X [e, e2] (rdL T W c [d, d2])) (hs : noStar e = true) (hs2 : noStar e2 = true) : PE X (.Call (.Name "min" p) [e, e2] [] pos) (rdE T W c (.bf .min [d, d2])) := by
  refine PE.imp (pe_callB (call_min2 hc) hg hm boot_min' ha (by decide) (by decide) (each_noStar hs) (any_noStar (by simp [hs2]))) fun σ H Q q => s_bfQ (fun as H h vs us Q rh rl o ho q => ?_) q
  obtain ⟨i, j, rfl, rfl⟩ := bf_min ho
  obtain ⟨u, w, rfl, ru, rw'⟩ := rl2 rl
  rw [ru.intE, rw'.intE]
  exact ⟨_, _, rfl, q _ (.int _)⟩
theorem s_max {e e2 : Expr} {d d2 : E} (hc : X.calm = true) (hg : Gl X "max") (hm : X.mg "max" = none) (ha : PA X [e, e2] (rdL T W c [d, d2])) (hs : noStar e = true) (hs2 : noStar e2 = true) : PE X (.Call (.Name "max" p) [e, e2] [] pos) (rdE T W c (.bf .max [d, d2])) := by
  refine PE.imp (pe_callB (call_max2 hc) hg hm boot_max' ha (by decide) (by decide) (each_noStar hs) (any_noStar (by simp [hs2]))) fun σ H Q q => s_bfQ (fun as H h vs us Q rh rl o ho q => ?_) q
  obtain ⟨i, j, rfl, rfl⟩ := bf_max ho
  obtain ⟨u, w, rfl, ru, rw'⟩ := rl2 rl
  rw [ru.intE, rw'.intE]
  exact ⟨_, _, rfl, q _ (.int _)⟩
/-- the class that isinstance asks for -/
def Ty.st : Ty → Str
  | .int => "int" | .bool => "bool" | .str => "str" | .tuple => "tuple" | .list => "list" | .dict => "dict"
theorem boot_ty (t : Ty) : bootBuiltins t.st = some (.type t.nm) := by cases t <;> decide +kernel
theorem s_isi {e : Expr} {d : E} {p2 : Pos} (t : Ty) (hg : Gl X "isinstance") (hm : X.mg "isinstance" = none) (hgt : Gl X t.st) (hmt : X.mg t.st = none) (ha : PE X e (rdE T W c d)) (hs : noStar e = true) :
    PE X (.Call (.Name "isinstance" p) [e, .Name t.st p2] [] pos) (rdE T W c (.bf (.isinst t) [d])) := by
  have hty : PE X (.Name t.st p2) (tC (.ty t.nm)) := pe_bltn hgt hmt (boot_ty t) rfl (by cases t <;> decide) (by cases t <;> decide)
  refine PE.imp (pe_callB call_isi hg hm boot_isi' (pa_cons ha (pa_cons hty pa_nil (each_noStar rfl)) (each_noStar hs)) (by decide) (by decide) (each_noStar hs) (any_noStar rfl)) fun σ H Q ⟨as, r, h, p, g⟩ => ?_
  unfold evE evL evL at g
  refine ⟨as, r, h, p, ?_⟩
  cases q : evE c d r h with
  | ok v h1 =>
    rw [q] at g
    intro as1 H1 u e1 rh ru
    simp only [Rs.bnd] at g
    unfold bfop at g
    obtain ⟨o, ho, q⟩ := ofOpt_snd (g.ext e1) rh
    obtain ⟨b, hb, ho⟩ := Option.map_eq_some_iff.mp ho
    subst ho
    exact isi_snd rh ru hb (q _ (.bl _))
  | ex k vs h1 => rw [q] at g; exact g
  | no => rw [q] at g; exact g
end
end EV
end
section
set_option Elab.async false
set_option linter.all false
set_option maxRecDepth 100000
/-! EvSnd5: methods of lists and dicts, displays of dicts, stores by index. -/
namespace EV
open PySem L2

/-- what is no super() -/
def plainBase : Expr → Bool
  | .Call _ (_ :: _) _ _ => true
  | .Call .. => false
  | _ => true
theorem base_plain {o : Expr} {m : Str} {env : PySem.Env} (h : plainBase o = true) : attributeBase o m env (eval o env) = eval o env := by
  cases o with
  | Call f es ks p =>
    cases es with
    | nil => exact absurd h Bool.false_ne_true
    | cons e es => cases f <;> rfl
  | _ => rfl
theorem few1 {cpos : Pos} {e : Expr} {env : PySem.Env} (hs : noStar e = true) : ((backTo cpos (starEach [e] env)).all (fun x => !x.1) && (backToKw cpos (keywordEach [] env)).all (fun x => x.1.isSome)
      && decide (([e] : List Expr).length + ([] : List Keyword).length + (if ([] : List Keyword).isEmpty then 0 else 1) < 30)) = true := by
  rw [each_noStar hs]; rfl
theorem few2 {cpos : Pos} {e f : Expr} {env : PySem.Env} (hs : noStar e = true) (hf : noStar f = true) : ((backTo cpos (starEach [e, f] env)).all (fun x => !x.1) && (backToKw cpos (keywordEach [] env)).all (fun x => x.1.isSome)
      && decide (([e, f] : List Expr).length + ([] : List Keyword).length + (if ([] : List Keyword).isEmpty then 0 else 1) < 30)) = true := by
  rw [each_noStar hs, each_noStar hf]; rfl

section
variable {X : Cx} {T : XTab} {W : WX} {c : Cc} {pos p apos cpos : Pos} {o e f : Expr} {O D F : E}
theorem mtTy_lst {K : PySem.W.Frag} {as : List Addr} {H : Hp} {h : PH} {x : PV} {u : V} {m : Mt} (hm : m = .append ∨ m = .index ∨ m = .pop) (rh : RepH H as h) (rx : RepV H as x u) (e : mtTy m x h = true) : tyV K "list" u H := by
  unfold mtTy at e
  cases x with
  | obj n =>
    simp only at e
    obtain ⟨a, rfl, qa⟩ := rx.objE
    cases ho : h[n]? with
    | none => rw [ho] at e; rcases hm with rfl | rfl | rfl <;> cases e
    | some q =>
      rw [ho] at e
      cases q with
      | lst fz xs =>
        obtain ⟨vs, _, _, sq, _⟩ := rh.lst (K := K) ho qa
        exact .inl ⟨rfl, vs, sq⟩
      | dK _ => rcases hm with rfl | rfl | rfl <;> cases e
      | dT _ => rcases hm with rfl | rfl | rfl <;> cases e
      | lkd _ => rcases hm with rfl | rfl | rfl <;> cases e
  | _ => cases e
theorem mtTy_dict {as : List Addr} {H : Hp} {h : PH} {x : PV} {u : V} {m : Mt} (hm : m = .get1 ∨ m = .get2) (rh : RepH H as h) (rx : RepV H as x u) (e : mtTy m x h = true) : ∃ a, u = .ref a ∧ IsD H a := by
  unfold mtTy at e
  cases x with
  | obj n =>
    simp only at e
    obtain ⟨a, rfl, qa⟩ := rx.objE
    cases ho : h[n]? with
    | none => rw [ho] at e; rcases hm with rfl | rfl <;> cases e
    | some q =>
      rw [ho] at e
      cases q with
      | lst fz xs => rcases hm with rfl | rfl <;> cases e
      | dK _ => obtain ⟨ks, hH, _⟩ := rh.dk ho qa; exact ⟨a, rfl, .inl ⟨ks, .inl hH⟩⟩
      | dT _ => obtain ⟨ks, hH, _⟩ := rh.dt ho qa; exact ⟨a, rfl, .inr ⟨ks, .inl hH⟩⟩
      | lkd _ => rcases hm with rfl | rfl <;> cases e
  | _ => cases e
/-- the reading of a list's method with one argument -/
theorem s_mtQ {K : PySem.W.Frag} {m : Mt} {rr : V → List V → Hp → VK → Prop} {ds : List E} {σ : L2.St} {H : Hp} {Q : VK} (hm : m = .append ∨ m = .index ∨ m = .pop)
    (hr : ∀ as H h x u vs us Q, RepH H as h → RepV H as x u → RepL H as vs us → gotR T W (mtop m x vs h) as H σ rV Q → rr u us H Q) (q : rdE T W c (.mt m O ds) σ H Q) : tBM K "list" rr (rdE T W c O) (rdL T W c ds) σ H Q := by
  obtain ⟨as, r, h, p, g⟩ := q
  unfold evE at g
  refine ⟨as, r, h, p, (g.bnd (repx := rV) p).mono ?_⟩
  rintro u H1 ⟨as1, h1, x, e1, p1, rx, _, g1⟩
  split at g1
  · rename_i ht
    refine ⟨mtTy_lst hm p1.hp rx ht, as1, r, h1, p1, (g1.bnd (repx := rL) p1).mono ?_⟩
    rintro us H2 ⟨as2, h2, vs, e2, p2, rl, _, g2⟩
    exact hr as2 H2 h2 x u vs us Q p2.hp (rx.ext p1.hp e2) rl g2
  · exact g1.elim
theorem s_append (hb : plainBase o = true) (hline : (apos.endLine == cpos.line) = true) (ho : PE X o (rdE T W c O)) (ha : PA X [e] (rdL T W c [D])) (hs : noStar e = true) : PE X (.Call (.Attribute o "append" apos) [e] [] cpos) (rdE T W c (.mt .append O [D])) := by
  refine PE.imp (pe_bm PySem.F.plainAttrs_list PySem.F.slot_list_append PySem.F.type_list_append mt_append ho ha (base_plain hb) (few1 hs) hline (each_noStar hs) rfl) fun σ H Q q => s_mtQ (.inl rfl) (fun as H h x u vs us Q rh rx rl g => ?_) q
  unfold mtop at g
  cases x with
  | obj n =>
    simp only at g
    rcases vs with _ | ⟨v, _ | ⟨v2, r⟩⟩
    · exact g.elim
    · obtain ⟨a, rfl, qa⟩ := rx.objE
      cases hq : h[n]? with
      | none => rw [hq] at g; exact g.elim
      | some q =>
        rw [hq] at g
        cases q with
        | lst fz xs =>
          cases fz with
          | true => exact g.elim
          | false =>
            simp only at g
            split at g
            · rename_i hz
              obtain ⟨ws, la, z, _, ma⟩ := rh.lst (K := X.K) hq qa
              obtain ⟨w, rfl, rw'⟩ := rl1 rl
              refine ⟨a, ws, w, rfl, rfl, ma rfl, by rw [← la.length]; exact hz, ?_⟩
              have la2 : RepL H as (xs ++ [v]) (ws ++ [w]) := la.append (.cons rw' .nil)
              have hf : ∀ o u, H a ≠ some (.frz o u) := fun o u z => by rw [ma rfl] at z; cases z
              exact g.okE (Ext.write qa hf) (rh.write qa hf ⟨_, la2, by simp; exact hz, rfl⟩) .non
            · exact g.elim
        | dK _ => exact g.elim
        | dT _ => exact g.elim
        | lkd _ => exact g.elim
    · exact g.elim
  | _ => exact g.elim
theorem toD_list {K : PySem.W.Frag} {as : List Addr} {H : Hp} {h : PH} {n : Nat} {a : Addr} {ds : List PyData} (rh : RepH H as h) (qa : as[n]? = some a) (e : toD h 60 (.obj n) = some (.list ds)) : Dp K H (.ref a) (.list ds) ∧ SeqAt.shaped (.list ds) = true :=
  toD_shaped rh (by decide) (RepV.obj qa) e
theorem s_index (hu : X.A.units + 65 < cLine) (hb : plainBase o = true) (hline : (apos.endLine == cpos.line) = true) (ho : PE X o (rdE T W c O)) (ha : PA X [e] (rdL T W c [D])) (hs : noStar e = true) : PE X (.Call (.Attribute o "index" apos) [e] [] cpos) (rdE T W c (.mt .index O [D])) := by
  refine PE.imp (pe_bm PySem.F.plainAttrs_list PySem.F.slot_list_index PySem.F.type_list_index (mt_indexD hu) ho ha (base_plain hb) (few1 hs) hline (each_noStar hs) rfl) fun σ H Q q => s_mtQ (.inr (.inl rfl)) (fun as H h x u vs us Q rh rx rl g => ?_) q
  unfold mtop at g
  cases x with
  | obj n =>
    simp only at g
    rcases vs with _ | ⟨v, _ | ⟨v2, r⟩⟩
    · exact g.elim
    · obtain ⟨a, rfl, qa⟩ := rx.objE
      obtain ⟨w, rfl, rw'⟩ := rl1 rl
      cases hq : h[n]? with
      | none => rw [hq] at g; exact g.elim
      | some q =>
        rw [hq] at g
        cases q with
        | lst fz xs =>
          simp only at g
          cases q1 : toD h 60 v with
          | none => rw [q1] at g; exact g.elim
          | some d =>
            cases q2 : toD h 60 (.obj n) with
            | none => rw [q1, q2] at g; exact g.elim
            | some d2 =>
              rw [q1, q2] at g
              cases d2 with
              | list ds =>
                simp only at g
                cases q3 : ds.findIdx? (fun z => PyData.eqv z d) with
                | none => rw [q3] at g; exact g.elim
                | some j =>
                  rw [q3] at g
                  obtain ⟨a1, a2⟩ := toD_shaped (K := X.K) rh (by decide) rw' q1
                  obtain ⟨b1, b2⟩ := toD_list (K := X.K) rh qa q2
                  obtain ⟨hj, h1, h2⟩ := List.findIdx?_eq_some_iff_getElem.mp q3
                  refine ⟨a, w, d, ds, j, ds[j], rfl, rfl, b1, a1, b2, a2, List.getElem?_eq_getElem hj, h1, fun m z' hm hz => ?_, g.ok rh (.int _)⟩
                  have := h2 m hm
                  obtain ⟨hml, hz'⟩ := List.getElem?_eq_some_iff.mp hz
                  rw [← hz']
                  simpa using this
              | _ => exact g.elim
        | dK _ => exact g.elim
        | dT _ => exact g.elim
        | lkd _ => exact g.elim
    · exact g.elim
  | _ => exact g.elim
theorem get_snd {as : List Addr} {H : Hp} {h : PH} {n : Nat} {a : Addr} {k d : PV} {w w2 : V} {v : PV} (rh : RepH H as h) (qa : as[n]? = some a) (rk : RepV H as k w) (rd : RepV H as d w2)
    (e : (match h[n]? with | some (.dK kvs) => (toKey k).map fun k => (look k kvs).getD d | some (.dT kvs) => (toTK k).map fun k => (look k kvs).getD d | _ => none) = some v) : ∃ o, DGet H a w o ∧ RepV H as v (o.getD w2) := by
  cases hq : h[n]? with
  | none => rw [hq] at e; cases e
  | some q =>
    rw [hq] at e
    cases q with
    | lst fz xs => cases e
    | dK kvs =>
      obtain ⟨ks, hH, rkv⟩ := rh.dk hq qa
      obtain ⟨k', hk, e⟩ := Option.map_eq_some_iff.mp e
      subst e
      rw [toKey_snd rk hk]
      refine ⟨valV ks k', .k hH, ?_⟩
      rcases look_snd rkv k' with ⟨v, w, l1, l2, rv⟩ | ⟨l1, l2⟩
      · rw [l1, l2]; exact rv
      · rw [l1, l2]; exact rd
    | dT kvs =>
      obtain ⟨ks, hH, rkv⟩ := rh.dt hq qa
      obtain ⟨k', hk, e⟩ := Option.map_eq_some_iff.mp e
      subst e
      obtain ⟨b, rfl, hb⟩ := toTK_snd rk hk
      refine ⟨valV ks k', .t hH hb, ?_⟩
      rcases look_snd rkv k' with ⟨v, w, l1, l2, rv⟩ | ⟨l1, l2⟩
      · rw [l1, l2]; exact rv
      · rw [l1, l2]; exact rd
    | lkd kvs => cases e
/-- what get tells, as one table -/
theorem get_tab {m : Mt} {n : Nat} {k d : PV} {h : PH} {vs : List PV} (hm : (m = .get1 ∧ vs = [k] ∧ d = .non) ∨ (m = .get2 ∧ vs = [k, d])) : mtop m (.obj n) vs h = ofOpt h (match h[n]? with | some (.dK kvs) => (toKey k).map fun k => (look k kvs).getD d | some (.dT kvs) => (toTK k).map fun k => (look k kvs).getD d | _ => none) := by
  rcases hm with ⟨rfl, rfl, rfl⟩ | ⟨rfl, rfl⟩
  · unfold mtop
    simp only
    cases h[n]? with
    | none => rfl
    | some q => cases q with
      | lst fz xs => rfl
      | dK kvs => simp only; cases toKey k <;> rfl
      | dT kvs => simp only; cases toTK k <;> rfl
      | lkd kvs => rfl
  · unfold mtop
    simp only
    cases h[n]? with
    | none => rfl
    | some q => cases q with
      | lst fz xs => rfl
      | dK kvs => simp only; cases toKey k <;> rfl
      | dT kvs => simp only; cases toTK k <;> rfl
      | lkd kvs => rfl
theorem s_get1 (hu : X.A.units + 65 < cLine) (hb : plainBase o = true) (hline : (apos.endLine == cpos.line) = true) (ho : PE X o (rdE T W c O)) (ha : PE X e (rdE T W c D)) (hs : noStar e = true) : PE X (.Call (.Attribute o "get" apos) [e] [] cpos) (rdE T W c (.mt .get1 O [D])) := by
  refine PE.imp (pe_dget1 (by omega) ho ha ⟨base_plain hb, few1 hs, hline, by rw [each_noStar hs]; rfl⟩) fun σ H Q ⟨as, r, h, p, g⟩ => ?_
  unfold evE at g
  refine ⟨as, r, h, p, (g.bnd (repx := rV) p).mono ?_⟩
  rintro u H1 ⟨as1, h1, x, e1, p1, rx, _, g1⟩
  split at g1
  · rename_i ht
    obtain ⟨a, rfl, hd⟩ := mtTy_dict (.inl rfl) p1.hp rx ht
    refine ⟨a, rfl, hd, ?_⟩
    unfold evL evL at g1
    refine ⟨as1, r, h1, p1, ?_⟩
    cases q : evE c D r h1 with
    | ok v h2 =>
      rw [q] at g1
      intro as2 H2 w e2 rh2 rw'
      simp only [Rs.bnd] at g1
      cases x with
      | obj n =>
        rw [get_tab (.inl ⟨rfl, rfl, rfl⟩)] at g1
        obtain ⟨b, hb, q2⟩ := ofOpt_snd (g1.ext e2) rh2
        obtain ⟨a', ea, qa⟩ := (rx.ext p1.hp e2).objE
        cases ea
        obtain ⟨oo, d1, d2⟩ := get_snd rh2 qa rw' .non hb
        exact ⟨oo, d1, q2 _ d2⟩
      | _ => exact g1.elim
    | ex k vs h2 => rw [q] at g1; exact g1
    | no => rw [q] at g1; exact g1
  · exact g1.elim
theorem s_get2 (hu : X.A.units + 65 < cLine) (hb : plainBase o = true) (hline : (apos.endLine == cpos.line) = true) (ho : PE X o (rdE T W c O)) (ha : PE X e (rdE T W c D)) (hf : PE X f (rdE T W c F)) (hs : noStar e = true) (hs2 : noStar f = true) :
    PE X (.Call (.Attribute o "get" apos) [e, f] [] cpos) (rdE T W c (.mt .get2 O [D, F])) := by
  refine PE.imp (pe_dget2 (by omega) ho ha hf ⟨base_plain hb, few2 hs hs2, hline, by rw [each_noStar hs, each_noStar hs2]; rfl⟩) fun σ H Q ⟨as, r, h, p, g⟩ => ?_
  unfold evE at g
  refine ⟨as, r, h, p, (g.bnd (repx := rV) p).mono ?_⟩
  rintro u H1 ⟨as1, h1, x, e1, p1, rx, _, g1⟩
  split at g1
  · rename_i ht
    obtain ⟨a, rfl, hd⟩ := mtTy_dict (.inr rfl) p1.hp rx ht
    refine ⟨a, rfl, hd, ?_⟩
    have e0 : evL c [D, F] r h1 = (evE c D r h1).bnd fun v h => (evE c F r h).bnd fun w h => .ok [v, w] h := by
      unfold evL evL evL
      cases evE c D r h1 with
      | ok v h2 =>
        simp only [Rs.bnd]
        cases evE c F r h2 <;> rfl
      | ex k vs h2 => rfl
      | no => rfl
    rw [e0] at g1
    have e3 : ((evE c D r h1).bnd fun v h => (evE c F r h).bnd fun w h => Rs.ok [v, w] h).bnd (fun vs h => mtop .get2 x vs h) = (evE c D r h1).bnd fun v h => (evE c F r h).bnd fun w h => mtop .get2 x [v, w] h := by
      cases evE c D r h1 with
      | ok v h2 =>
        simp only [Rs.bnd]
        cases evE c F r h2 <;> rfl
      | ex k vs h2 => rfl
      | no => rfl
    rw [e3] at g1
    refine ⟨as1, r, h1, p1, (g1.bnd (repx := rV) p1).mono ?_⟩
    rintro w H2 ⟨as2, h2, v, e2, p2, rv, _, g2⟩
    refine ⟨as2, r, h2, p2, (g2.bnd (repx := rV) p2).mono ?_⟩
    rintro w2 H3 ⟨as3, h3, v2, e4, p3, rv2, _, g3⟩
    cases x with
    | obj n =>
      rw [get_tab (.inr ⟨rfl, rfl⟩)] at g3
      obtain ⟨b, hb, q2⟩ := ofOpt_snd g3 p3.hp
      obtain ⟨a', ea, qa⟩ := (rx.ext p1.hp (e2.trans e4)).objE
      cases ea
      obtain ⟨oo, d1, d2⟩ := get_snd p3.hp qa (rv.ext p2.hp e4) rv2 hb
      exact ⟨oo, d1, q2 _ d2⟩
    | _ => exact g3.elim
  · exact g1.elim

/-! displays of dicts -/
theorem s_dnewK : PE X (.Dict [] [] pos) (rdE T W c (.dnew false)) := by
  refine PE.imp pe_dnewK fun σ H Q ⟨as, r, h, p, g⟩ => ?_
  unfold evE at g
  exact fun q hq => g.okE (Ext.new hq) (p.hp.new hq ⟨[], rfl, .nil⟩) (RepV.newObj p.hp)
theorem s_dnewT : PE X (.Dict [] [] pos) (rdE T W c (.dnew true)) := by
  refine PE.imp pe_dnewT fun σ H Q ⟨as, r, h, p, g⟩ => ?_
  unfold evE at g
  exact fun q hq => g.okE (Ext.new hq) (p.hp.new hq ⟨[], rfl, .nil⟩) (RepV.newObj p.hp)
end
end EV
end
section
set_option Elab.async false
set_option linter.all false
set_option maxRecDepth 100000
/-! EvIter: enumerate of a tuple. -/
namespace PySem
open Sem (wp)
set_option maxHeartbeats 1000000 in
theorem ev_meets_enum1 {v : Value} {o : Obj} {H : Heap → Prop} (B : Begins v o H) :
    Meets (Builtin.«enumerate.__new__» ⟨[.type "enumerate", v], []⟩) (fun _ R s => H s.heap ∧
      R (.ok (.ret (.ref (s.heap.push o).objs.size))) { s with heap := (s.heap.push o).push { cls := .type "enumerate", data := .fields #[.none, .bool false, .ref s.heap.objs.size, rawInt 0, .none, .none] } }) :=
  .of_wp fun prog w A R s h => by
    obtain ⟨hp, g, d, tk, os⟩ := s; obtain ⟨h1, h⟩ := h
    have hsub := sub_enumerate
    have q1 : ∀ {A' : Around} {E : Value → Shared → Prop} {Q : Value → Shared → Prop}, Q (.ref hp.objs.size) ⟨hp.push o, g, d, tk, os⟩ → wpAny (model prog w) A' (pyIter v) Q E ⟨hp, g, d, tk, os⟩ :=
      fun q => B.iter prog w _ _ ⟨hp, g, d, tk, os⟩ _ h1 q
    wp_walk using q1
    refine wpAny_stack_any fun st => wpAny_pure ?_
    split
    · rename_i c _ _ _ _ _
      cases (c == Value.type "enumerate")
      · wp_walk using q1
        exact ⟨_, rfl, h⟩
      · wp_walk using q1
        exact ⟨_, rfl, h⟩
    · wp_walk using q1
      exact ⟨_, rfl, h⟩
section
variable {prog : Program} {w : World} {A : Around} {E : Value → Shared → Prop} {s : Shared}
theorem ev_enum_begins1 {v : Value} {o : Obj} {H : Heap → Prop} {Q : Value → Shared → Prop} (B : Begins v o H) (h1 : H s.heap)
    (h : ∀ h', IsEnum h' (s.heap.objs.size + 1) s.heap.objs.size 0 .none → h'.get? s.heap.objs.size = some o → h'.objs.size = s.heap.objs.size + 2 →
      (∀ b o, s.heap.get? b = some o → h'.get? b = some o) → Q (.ref (s.heap.objs.size + 1)) { s with heap := h' }) :
    wpAny (model prog w) A (call (.type "enumerate") [v]) Q E s := by
  refine callType_new F.called_enumerate (by decide) (F.typeCall_enumerate_1 _) (F.newCall_enumerate_1 _) (fun obj => F.args_object_init_2 obj _) F.entry_enumerate_new
    (ev_meets_enum1 B) ⟨h1, ?_⟩
  have hz : (s.heap.push o).objs.size = s.heap.objs.size + 1 := Heap.size_push ..
  show _ ∧ _
  rw [hz]
  have he : IsEnum ((s.heap.push o).push { cls := .type "enumerate", data := .fields #[.none, .bool false, .ref s.heap.objs.size, rawInt 0, .none, .none] }) (s.heap.objs.size + 1) s.heap.objs.size 0 .none := by
    have := Heap.get?_push_size (s.heap.push o) (o := { cls := .type "enumerate", data := .fields #[.none, .bool false, .ref s.heap.objs.size, rawInt 0, .none, .none] }) rfl
    rw [hz] at this; exact this
  refine ⟨⟨_, he, rfl⟩, h _ he (Heap.get?_push_of_some _ (Heap.get?_push_size _ B.free)) (by rw [Heap.size_push, hz]) fun b o x => Heap.get?_push_of_some _ (Heap.get?_push_of_some _ x)⟩
end
end PySem
namespace L2
open PySem PySem.Spec PyProof.Rows
/-- the tuple at a, each item in a new pair, counted from 0 -/
def IteT (K : PySem.W.Frag) (a : Addr) : It :=
  ⟨fun i H => ∃ (xs : List V) (x : V), SqT K H a xs ∧ xs[i]? = some x, fun i H v H' => ∃ T x, v = .ref T ∧ H T = none ∧ H' = upd H T (.tup [.int (i : Nat), x]) ∧ ∀ xs, SqT K H a xs → xs[i]? = some x, fun i H => ∃ xs : List V, SqT K H a xs ∧ xs.length ≤ i⟩
theorem turn_enumT {P : Program} {w : World} {K : PySem.W.Frag} {elts : List Expr} {kk : Nat} {tpos : Pos} (a e it : Addr) :
    Turn P w K (.Tuple elts kk tpos) (IteT K a) [e, it] e (fun i h => (∃ old, IsEnum h e it ((i : Nat) : Int) old) ∧ h.IsTupleIter it a i ∧ e ≠ it ∧ a ≠ e ∧ a ≠ it) where
  mem := by simp
  obj := fun i h st b hb => by
    obtain ⟨⟨old, he⟩, ⟨o, ho, hc, hd⟩, _⟩ := st
    have e' : b = e ∨ b = it := by simpa using hb
    rcases e' with z | z
    · rw [z]; exact ⟨_, he, fun v q => nomatch q⟩
    · rw [z]; exact ⟨o, ho, fun v q => by rw [hd] at q; cases q⟩
  keep := fun i h h' st k => let ⟨⟨old, he⟩, hi, hne⟩ := st; ⟨⟨old, k e (by simp) _ he⟩, hi.at fun o q => k it (by simp) o q, hne⟩
  item := by
    intro X hP hw hK hc i pins s σ H E I hf st hg
    subst hP hw hK
    obtain ⟨⟨old, he⟩, hit, hne, hae, hai⟩ := st
    obtain ⟨xs, x, hq, hx⟩ := hg
    obtain ⟨its, rv, p, hz⟩ := I.tuple hq
    obtain ⟨u, hu, ru⟩ := rv.get hx
    have hel : e < s.heap.objs.size := Heap.lt_size he
    have hil : it < s.heap.objs.size := by obtain ⟨_, q, _⟩ := hit; exact Heap.lt_size q
    have hlt : i < its.toArray.size := by
      have := (List.getElem?_eq_some_iff.mp hu).1
      simpa using this
    have D : Draws X.prog X.w X.A.in1 it [it, a] its.toArray.size (fun i v => its.toArray[i]? = some v) (fun i h => h.IsTupleIter it a i ∧ h.IsTuple a its.toArray) := Draws.tuple (show X.A.in1.handled = none from I.ok.hd hc) it a hai its.toArray
    refine wpAny_pyNext_enum_itemC D he ⟨hit, p⟩ hlt hne (by simp [hne, Ne.symm hae]) fun x' h' tk hPx ho hst' hT hsz hk => ?_
    have ex : x' = u := by
      have h2 : its.toArray[i]? = some x' := hPx
      have h3 : its.toArray[i]? = some u := by simpa using hu
      rw [h3] at h2; exact (Option.some.inj h2).symm
    subst ex
    refine ⟨_, rfl, wpAny_letOwnedTupleGo_enum (s := { s with heap := h', toks := tk + 1 }) ho fun h'' he' sb => ?_⟩
    have hT2 : h''.get? s.heap.objs.size = some { cls := .type "tuple", data := .seq #[.int i tk, x'] } := (sb.2 _ (Nat.ne_of_gt hel)).trans hT
    have new : ObjOk X.prog X.w (upd H s.heap.objs.size (.tup [.int (i : Nat), x])) h'' s.heap.objs.size (.tup [.int (i : Nat), x]) :=
      ⟨by show 2 ≤ sizeLine; decide, [.int i tk, x'], .cons ⟨_, rfl⟩ (.cons ru .nil), ⟨_, hT2, rfl, _, rfl⟩⟩
    have I1 : Inv X pins σ (upd H s.heap.objs.size (.tup [.int (i : Nat), x])) { s with heap := h'', toks := tk + 1 } :=
      I.turnedNew (ch := [e, it]) (fun b ob hb q => (sb.2 b (fun z => hb (by simp [z]))).trans (hk b ob (fun z => hb (by simp [z])) (fun z => hb (by simp [z])) q)) hf (Nat.le_refl _) new
    refine ⟨.ref s.heap.objs.size, _, I1, rfl, ⟨_, x, rfl, I.hok.fresh (Nat.le_refl _), rfl, fun ys hy => by rw [I.tuple_inj hy hq]; exact hx⟩, ⟨⟨x', ?_⟩, hst'.1.at fun o q => (sb.2 it (Ne.symm hne)).trans q, hne, hae, hai⟩, fun b hb => ?_⟩
    · have e1 : ((i + 1 : Nat) : Int) = (i : Int) + 1 := by omega
      rw [e1]; exact he'
    · have hb' : b < s.heap.objs.size := by
        have e' : b = e ∨ b = it := by simpa using hb
        rcases e' with z | z
        · rw [z]; exact hel
        · rw [z]; exact hil
      rw [upd_ne (Nat.ne_of_lt hb')]
      exact (hf b hb).1
  done := by
    intro X hP hw hK hc i pins s σ H E I hf st hg
    subst hP hw hK
    obtain ⟨⟨old, he⟩, hit, hne, hae, hai⟩ := st
    obtain ⟨xs, hq, hx⟩ := hg
    obtain ⟨its, rv, p, hz⟩ := I.tuple hq
    obtain ⟨f0, f1, f2, f3, f4, f5⟩ := hf it (by simp)
    have hl := rv.length
    have hh := I.ok.hd hc
    -- the end by the same two steps as for a list
    have D : Draws X.prog X.w X.A.in1 it [it, a] i (fun _ _ => True) (fun j h => h.IsTupleIter it a i ∧ h.IsTuple a its.toArray ∧ j = i) :=
      { live := fun _ _ st => let ⟨o, ho, _⟩ := st.1; ⟨o, ho⟩
        frame := fun _ _ _ st hk => ⟨st.1.at fun o e => hk it (by simp) o e, st.2.1.at fun o e => hk a (by simp) o e, st.2.2⟩
        item := fun j s Q E hi st hQ => absurd st.2.2 (Nat.ne_of_lt hi)
        done := fun s Q E st hE => wpAny_nextOf_tuple_end (show X.A.in1.handled = none from hh) st.1 st.2.1 (by simp; omega) hE }
    exact wpAny_pyNext_enum_endD D he ⟨hit, p, rfl⟩ fun h' eb => ⟨rfl, I.turned (t' := s.toks) (fun b o hb q => eb b o hb q) f0 f1 f3 f4 f5⟩
  self := fun A i s Q E st h => let ⟨⟨_, he⟩, _⟩ := st; wpAny_pyIter_enum he h
def iEnumA (K : PySem.W.Frag) (ta : TA) : TI := fun σ H R => ta σ H fun vs H1 => ∃ a xs, vs = [.ref a] ∧ ((SqL K H1 a xs ∧ R (Ite K a) H1) ∨ (SqT K H1 a xs ∧ R (IteT K a) H1))
theorem pi_enumA {X : Cx} {e : Expr} {ta : TA} {p pos tpos : Pos} {elts : List Expr} {kk : Nat} (hg : Gl X "enumerate") (hm : X.mg "enumerate" = none) (ha : PA X [e] ta) (hs : starEach [e] X.env = [(false, eval e X.env)] := by rfl) :
    PI X (.Tuple elts kk tpos) (.Call (.Name "enumerate" p) [e] [] pos) (iEnumA X.K ta) := by
  refine ⟨fun pins s σ H R I h => ?_⟩
  refine Call_ (ld_blt I hg hm boot_enumerate (PyProof.Rows.callWith_type1 (thn (ha.run pos pins s σ H _ I h) fun us s1 ⟨vs, H1, I1, r1, q1⟩ => ?_) hs rfl))
  obtain ⟨a, xs, ex, q1⟩ := q1
  subst ex
  cases r1 with
  | cons r rr =>
    cases rr
    cases r
    have fresh2 : ∀ b ∈ [s1.heap.objs.size + 1, s1.heap.objs.size], FpOk X pins H1 b := fun b hb => by
      have e' : b = s1.heap.objs.size + 1 ∨ b = s1.heap.objs.size := by simpa using hb
      have hle : s1.heap.objs.size ≤ b := by
        rcases e' with z | z
        · rw [z]; exact Nat.le_add_right _ _
        · rw [z]; exact Nat.le_refl _
      exact I1.fpOk hle (I1.hok.fresh hle)
    rcases q1 with ⟨hq, q⟩ | ⟨hq, q⟩
    · obtain ⟨its, rv, p', hz⟩ := I1.list hq
      refine call_enumerate_list p'.isList fun h' he hit hsz hk => wpAny_pyIter_enum he ?_
      have I2 : Inv X pins σ H1 { s1 with heap := h' } := I1.kept (t' := s1.toks) hk
      exact ⟨s1.heap.objs.size + 1, [s1.heap.objs.size + 1, s1.heap.objs.size], _, _, H1, rfl, I2, turn_enum a (s1.heap.objs.size + 1) s1.heap.objs.size, ⟨⟨.none, he⟩, hit, Nat.succ_ne_self _⟩, fresh2, q⟩
    · obtain ⟨its, rv, p', hz⟩ := I1.tuple hq
      have hal : a < s1.heap.objs.size := p'.lt
      refine ev_enum_begins1 (begins_tuple a its.toArray) p' fun h' he hit hsz hk => wpAny_pyIter_enum he ?_
      have I2 : Inv X pins σ H1 { s1 with heap := h' } := I1.kept (t' := s1.toks) hk
      exact ⟨s1.heap.objs.size + 1, [s1.heap.objs.size + 1, s1.heap.objs.size], _, _, H1, rfl, I2, turn_enumT a (s1.heap.objs.size + 1) s1.heap.objs.size, ⟨⟨.none, he⟩, ⟨_, hit, rfl, rfl⟩, Nat.succ_ne_self _, Nat.ne_of_lt (Nat.lt_succ_of_lt hal), Nat.ne_of_lt hal⟩, fresh2, q⟩
end L2
end
section
set_option Elab.async false
set_option linter.all false
set_option maxRecDepth 100000
/-! EvDisp: a dict display whose keys are tuples. -/
namespace L2
open PySem PySem.Spec PyProof.Rows
section
variable {prog : Program} {w : World} {K : Type} [DecidableEq K] {knd : HeapKind prog w K} {A : Around} {E : Value → Shared → Prop} {s : Shared}
theorem ev_Dict_pairsT {env : PySem.Env} {keys : List (Option Expr)} {values : List Expr} {pos : Pos} {Q : Value → Shared → Prop} (hu : knd.room A)
    (hall : keys.all (·.isSome) = true) (hl : keys.length = values.length) (h0 : keys ≠ []) (hlen : keys.length ≤ 15)
    (h : wpAny (model prog w) A (evalPairs (pairTrees keys values env pos)) (fun vs s₁ => ∃ ps, CarriesH knd s₁.heap vs ps ∧ s₁.heap.DictOfH knd s.heap.objs.size [] ∧
      ∀ h' tk, h'.DictOfH knd s.heap.objs.size (storedAllH [] ps) → Heap.SameBut s.heap.objs.size s₁.heap h' → Q (.ref s.heap.objs.size) { s₁ with heap := h', toks := tk }) E
      { s with heap := s.heap.push { cls := .type "dict", data := .dict #[] } }) :
    wpAny (model prog w) A (eval (.Dict keys values pos) env) Q E s := by
  have hn := pairTrees_length keys values env pos hall hl
  have hp0 : pairTrees keys values env pos ≠ [] := by
    intro he
    rw [he] at hn
    exact h0 (List.length_eq_zero_iff.mp hn.symm)
  rw [arm_eval_Dict, zip_pairTrees keys values env pos hall hl, dictDisplay_pairs (pairTrees keys values env pos) hp0 (by omega)]
  exact wpAny_bind (wpAny_standAt (wpAny_bind (wpAny_subDictH (knd := knd) (Q := fun d s' => wpAny (model prog w) A (pure (Value.ref d)) Q E s') hu (by omega)
    (wpAny_mono h (fun vs s₁ h₁ => by obtain ⟨ps, hc, hm, hq⟩ := h₁; exact ⟨ps, hc, hm, fun h' tk a b => wpAny_pure (hq h' tk a b)⟩) fun _ _ e => e))))
end
def mergeT (kvs more : List (List Key × V)) : List (List Key × V) := more.foldl (fun acc kv => putK acc kv.1 kv.2) kvs
theorem length_mergeT : ∀ (more kvs : List (List Key × V)), (mergeT kvs more).length ≤ kvs.length + more.length
  | [], kvs => by show kvs.length ≤ kvs.length + 0; omega
  | p :: r, kvs => by
    have h1 := length_mergeT r (putK kvs p.1 p.2)
    have h2 := length_putK kvs p.1 p.2
    show (mergeT (putK kvs p.1 p.2) r).length ≤ _
    rw [List.length_cons]; omega
abbrev KTd (H : Hp) : List (V × V) → List (List Key × V) → Prop := Paired fun p q => (∃ b, p.1 = .ref b ∧ H b = some (.tup (q.1.map kV))) ∧ p.2 = q.2
theorem KT.merge {H : Hp} : ∀ {more : List (List Key × V)} {ps : List (List Key × Addr × Value)} {kvs : List (List Key × V)} {xs : List (List Key × Addr × Value)}, KT H more ps → KT H kvs xs → KT H (mergeT kvs more) (storedAllH xs ps) := by
  intro more ps kvs xs r
  induction r generalizing kvs xs with
  | nil => intro q; exact q
  | @cons p q as bs h t ih =>
    intro r0
    obtain ⟨h1, h2, h3⟩ := h
    have e : KT H (putK kvs p.1 p.2) (storedH xs q.1 q.2.1 q.2.2) := by
      rw [← h1]
      exact r0.put p.1 h2 h3
    exact ih e
theorem carriesT_of {P : Program} {w : World} {H : Hp} {h : Heap} (ok : HOk P w H h) : ∀ {ps : List (V × V)} {kvs : List (List Key × V)} {ws : List (Value × Value)}, KTd H ps kvs → VV ps ws → ∃ xs, CarriesH (tupleKind (mixKind P w)) h ws xs ∧ KT H kvs xs
  | [], [], _, .nil, r => by cases r; exact ⟨[], True.intro, .nil⟩
  | p :: ps, q :: kvs, _, .cons hk tk, r => by
    cases r with
    | @cons a b as bs h1 t =>
      obtain ⟨xs, c, kt⟩ := carriesT_of ok tk t
      obtain ⟨⟨a1, e1, e2⟩, e3⟩ := hk
      obtain ⟨r1, r2⟩ := h1
      obtain ⟨b1, b2⟩ := b
      rw [e1] at r1
      refine ⟨(q.1, a1, b2) :: xs, ⟨r1, rfl, key_of ok e2, c⟩, .cons ⟨rfl, e2, by rw [← e3]; exact r2⟩ kt⟩
def tDispT (trs : List (TE × TE)) : TE := fun σ H Q => ∀ p, H p = none → tPairs trs σ (upd H p (.dT [])) fun ps H2 => H2 p = some (.dT []) ∧ ∃ kvs : List (List Key × V), KTd H2 ps kvs ∧ kvs.length ≤ 15 ∧ Q (.ref p) (upd H2 p (.dT (mergeT [] kvs)))
theorem pe_dispT {X : Cx} {pos : Pos} {keys : List (Option Expr)} {values : List Expr} {trs : List (TE × TE)} (hu : X.A.units + 2 < cLine) (h : PPs X pos keys values trs) (hall : keys.all (·.isSome) = true) (hl : keys.length = values.length) (h0 : keys ≠ [])
    (h15 : keys.length ≤ 15) : PE X (.Dict keys values pos) (tDispT trs) := by
  refine ⟨fun pins s σ H Q I q => ?_⟩
  have hn := I.hok.fresh (Nat.le_refl s.heap.objs.size)
  have I1 := I.laid (a := s.heap.objs.size) (o := .dT []) (h' := s.heap.push { cls := .type "dict", data := .dict #[] }) (t' := s.toks) (fun _ _ q => Heap.get?_push_of_some _ q) (Nat.le_refl _) (dt_empty s.heap I.big)
  refine ev_Dict_pairsT (knd := tupleKind (mixKind X.prog X.w)) ?_ hall hl h0 h15 (thn (h.run pins _ σ _ _ I1 (q _ hn)) fun ws s2 ⟨ps, H2, I2, rel, e, kvs, ep, lk, q2⟩ => ?_)
  · show X.A.units < cLine
    omega
  · obtain ⟨xs, c, kt⟩ := carriesT_of I2.hok ep rel
    obtain ⟨z, hd, vs0, r0, dd⟩ := dt_of I2.hok e
    cases r0
    refine ⟨xs, c, dd, fun h' tk dd' hs => ⟨.ref s.heap.objs.size, _, ?_, rfl, q2⟩⟩
    have hz : (mergeT [] kvs).length ≤ sizeLine := by
      have h1 := length_mergeT kvs []
      rw [List.length_nil] at h1
      rw [sizeLine_eq]; omega
    obtain ⟨q, es, epp, hq, h2, h3, h4, _, h5⟩ := dd'
    refine d_write I2 (by rw [e]; exact True.intro) hs ⟨q, hq⟩ ⟨hz, hd, _, (KT.merge kt .nil).keeps fun c ys ec => ?_, q, es, epp, hq, h2, h3, h4, h5⟩
    rw [upd_ne (ne_of ec e (fun z => nomatch z))]
    exact ec
end L2
end
section
set_option Elab.async false
set_option linter.all false
set_option maxRecDepth 100000
/-! EvSnd6: displays of dicts, targets, plain statements. -/
namespace EV
open PySem L2

section
variable {H : Hp} {as nw : List Addr} {p : Addr} {o : HO}
mutual
theorem RepV.adopt (np : ∀ vs, H p ≠ some (.tup vs)) : ∀ {x : PV} {v : V}, RepV H as x v → RepV (upd H p o) (as ++ nw) x v
  | _, _, .non => .non
  | _, _, .bl b => .bl b
  | _, _, .int i => .int i
  | _, _, .str s => .str s
  | _, _, .tup (a := a) (vs := vs) q l => .tup (by rw [upd_ne (fun z => np vs (by rw [← z]; exact q))]; exact q) (RepL.adopt np l)
  | _, _, .obj q => .obj (by rw [List.getElem?_append_left (List.getElem?_eq_some_iff.mp q).1]; exact q)
theorem RepL.adopt (np : ∀ vs, H p ≠ some (.tup vs)) : ∀ {x : List PV} {v : List V}, RepL H as x v → RepL (upd H p o) (as ++ nw) x v
  | _, _, .nil => .nil
  | _, _, .cons a b => .cons (RepV.adopt np a) (RepL.adopt np b)
end
theorem RepKV.adopt {κ : Type} (np : ∀ vs, H p ≠ some (.tup vs)) : ∀ {x : List (κ × PV)} {v : List (κ × V)}, RepKV H as x v → RepKV (upd H p o) (as ++ nw) x v
  | _, _, .nil => .nil
  | _, _, .cons a b => .cons ⟨a.1, a.2.adopt np⟩ (RepKV.adopt np b)
theorem RepO.adopt (np : ∀ vs, H p ≠ some (.tup vs)) {x : PO} {v : HO} (q : RepO H as x v) : RepO (upd H p o) (as ++ nw) x v := by
  cases x with
  | lst fz xs => obtain ⟨vs, l, z, c⟩ := q; exact ⟨vs, l.adopt np, z, c⟩
  | dK kvs => obtain ⟨ks, c, l⟩ := q; exact ⟨ks, c, l.adopt np⟩
  | dT kvs => obtain ⟨ks, c, l⟩ := q; exact ⟨ks, c, l.adopt np⟩
  | lkd kvs => obtain ⟨ks, o, c, l⟩ := q; exact ⟨ks, o, c, l.adopt np⟩
/-- a tracked object becomes an own one -/
theorem RepH.adopt {h : PH} (r : RepH H as h) (np : ∀ vs, H p ≠ some (.tup vs)) (hn : p ∉ as) {po : PO} (ro : RepO H as po o) : RepH (upd H p o) (as ++ [p]) (h ++ [po]) := by
  refine ⟨by simp [r.len], ?_, fun n u a q qa => ?_⟩
  · rw [List.nodup_append]
    exact ⟨r.nd, by simp, fun a ha b hb => by simp at hb; subst hb; exact fun z => hn (z ▸ ha)⟩
  · by_cases hl : n < as.length
    · rw [List.getElem?_append_left hl] at qa
      rw [List.getElem?_append_left (by rw [← r.len]; exact hl)] at q
      obtain ⟨ho, e1, ro1⟩ := r.at_ n u a q qa
      exact ⟨ho, by rw [upd_ne (fun z => hn (by rw [← z]; exact List.mem_of_getElem? qa))]; exact e1, ro1.adopt np⟩
    · have hl2 : as.length ≤ n := Nat.le_of_not_lt hl
      rw [List.getElem?_append_right hl2] at qa
      rw [List.getElem?_append_right (by rw [← r.len]; exact hl2), ← r.len] at q
      cases hk : n - as.length with
      | zero =>
        rw [hk] at q qa
        simp at q qa
        subst q qa
        exact ⟨o, upd_same, ro.adopt np⟩
      | succ m =>
        rw [hk] at qa
        simp at qa
end

/-! ### displays of dicts -/
def flatE : List (E × E) → List E
  | [] => []
  | p :: r => p.1 :: p.2 :: flatE r
def flatW : List (V × V) → List V
  | [] => []
  | p :: r => p.1 :: p.2 :: flatW r
section
variable {X : Cx} {T : XTab} {W : WX} {c : Cc} {pos : Pos} {σ : L2.St} {r : Env}
theorem pairs_rd : ∀ (prs : List (E × E)) {as : List Addr} {H : Hp} {h : PH} {C : List V → Hp → Prop}, Rp H as r σ h → gotR T W (evL c (flatE prs) r h) as H σ rL C →
    tPairs (prs.map fun p => (rdE T W c p.1, rdE T W c p.2)) σ H (fun ps H2 => C (flatW ps) H2) := by
  intro prs
  induction prs with
  | nil =>
    intro as H h C p g
    unfold flatE evL at g
    exact g.ok p.hp .nil
  | cons q prs ih =>
    intro as H h C p g
    unfold flatE evL evL at g
    refine ⟨as, r, h, p, (g.bnd (repx := rV) p).mono ?_⟩
    rintro u H1 ⟨as1, h1, x, e1, p1, rx, _, g1⟩
    have e : ((evE c q.2 r h1).bnd fun v h => (evL c (flatE prs) r h).bnd fun vs h => Rs.ok (v :: vs) h).bnd (fun vs h => Rs.ok (x :: vs) h) = (evE c q.2 r h1).bnd fun v h => (evL c (flatE prs) r h).bnd fun vs h => Rs.ok (x :: v :: vs) h := by
      cases evE c q.2 r h1 with
      | ok v h2 =>
        simp only [Rs.bnd]
        cases evL c (flatE prs) r h2 <;> rfl
      | ex k vs h2 => rfl
      | no => rfl
    rw [e] at g1
    refine ⟨as1, r, h1, p1, (g1.bnd (repx := rV) p1).mono ?_⟩
    rintro w H2 ⟨as2, h2, y, e2, p2, ry, _, g2⟩
    refine ih (C := fun us H => C (u :: w :: us) H) p2 ((g2.bnd (repx := rL) p2).mono ?_)
    rintro us H3 ⟨as3, h3, vs, e3, p3, rl, _, g3⟩
    exact g3.ok p3.hp (.cons (rx.ext p1.hp (e2.trans e3)) (.cons (ry.ext p2.hp e3) rl))
theorem pairsK_snd {H : Hp} {as : List Addr} : ∀ (n : Nat) (vs : List PV) (ps : List (V × V)) (acc : List (Key × PV)) (ac : List (Key × V)) (kvs : List (Key × PV)), vs.length ≤ n → RepL H as vs (flatW ps) → RepKV H as acc ac → pairsK vs acc = some kvs →
    ∃ ks : List (Key × V), ps = ks.map (fun kv => (kV kv.1, kv.2)) ∧ RepKV H as kvs (mergeK ac ks) := by
  intro n
  induction n with
  | zero =>
    intro vs ps acc ac kvs hn rl ra e
    have : vs = [] := List.eq_nil_of_length_eq_zero (by omega)
    subst this
    cases ps with
    | nil => cases e; exact ⟨[], rfl, ra⟩
    | cons p ps => have := rl.length; simp [flatW] at this
  | succ n ih =>
    intro vs ps acc ac kvs hn rl ra e
    cases ps with
    | nil =>
      have h0 := rl.length
      have : vs = [] := List.eq_nil_of_length_eq_zero (by simpa [flatW] using h0)
      subst this
      cases e; exact ⟨[], rfl, ra⟩
    | cons p ps =>
      rcases vs with _ | ⟨k, _ | ⟨v, vs⟩⟩
      · have := rl.length; simp [flatW] at this
      · have := rl.length; simp [flatW] at this
      · obtain ⟨u, us, hu, rk, rl2⟩ := rl.consE
        obtain ⟨w, ws, hw, rv, rl3⟩ := rl2.consE
        unfold flatW at hu
        injection hu with hu1 hu2
        subst hu1
        rw [← hu2] at hw
        injection hw with hw1 hw2
        subst hw1
        rw [← hw2] at rl3
        unfold pairsK at e
        cases hk : toKey k with
        | none => rw [hk] at e; cases e
        | some kk =>
          rw [hk] at e
          obtain ⟨ks, e1, e2⟩ := ih vs ps (put kk v acc) (putK ac kk p.2) kvs (by simp at hn; omega) rl3 (put_snd ra kk rv) e
          refine ⟨(kk, p.2) :: ks, ?_, e2⟩
          rw [List.map_cons, ← e1, ← toKey_snd rk hk]
theorem s_dct {ks : List (Option Expr)} {vs : List Expr} {prs : List (E × E)} (h : PPs X pos ks vs (prs.map fun p => (rdE T W c p.1, rdE T W c p.2))) (hall : ks.all (·.isSome) = true) (hl : ks.length = vs.length) (h0 : ks ≠ []) (h15 : ks.length ≤ 15) (hp : prs.length = ks.length) :
    PE X (.Dict ks vs pos) (rdE T W c (.dct (flatE prs))) := by
  refine PE.imp (pe_disp h hall hl h0 h15) fun σ H Q ⟨as, r, h, p, g⟩ q hq => ?_
  unfold evE at g
  have C : gotR T W (evL c (flatE prs) r h) as (upd H q (.dK [])) σ rL (fun us H2 => ∃ as2 h2 vs, Ext (upd H q (.dK [])) as H2 as2 ∧ RepH H2 as2 h2 ∧ RepL H2 as2 vs us ∧ evL c (flatE prs) r h = .ok vs h2) := by
    cases ev : evL c (flatE prs) r h with
    | ok vs h2 => exact fun as2 H2 us e rh rl => ⟨as2, h2, vs, e, rh, rl, rfl⟩
    | ex k vs h2 => rw [ev] at g; exact fun as2 H2 cls d e rh rx => g as2 H2 cls d ((Ext.beside hq).trans e) rh rx
    | no => rw [ev] at g; exact g
  have hn : q ∉ as := fun hm => by
    obtain ⟨o, z⟩ := p.hp.there hm
    rw [hq] at z; cases z
  have main := pairs_rd (c := c) prs (p.beside hq) C
  have mono : ∀ (trs : List (TE × TE)) (hm : ∀ t ∈ trs, (∀ σ H Q Q', (∀ v H', Q v H' → Q' v H') → t.1 σ H Q → t.1 σ H Q') ∧ ∀ σ H Q Q', (∀ v H', Q v H' → Q' v H') → t.2 σ H Q → t.2 σ H Q') {σ : L2.St} {H : Hp} {Q Q' : List (V × V) → Hp → Prop}, (∀ ps H', ps.length = trs.length → Q ps H' → Q' ps H') → tPairs trs σ H Q → tPairs trs σ H Q' := by
    intro trs
    induction trs with
    | nil => intro hm σ H Q Q' hq z; exact hq [] H rfl z
    | cons t trs ih =>
      intro hm σ H Q Q' hq z
      obtain ⟨t1, t2⟩ := t
      obtain ⟨m1, m2⟩ := hm _ List.mem_cons_self
      refine m1 σ H _ _ (fun v H1 z1 => m2 σ H1 _ _ (fun w H2 z2 => ih (fun t ht => hm t (List.mem_cons_of_mem _ ht)) (fun ps H' hl z3 => hq _ _ (by simp [hl]) z3) z2) z1) z
  refine mono _ (fun t ht => ?_) (fun ps H2 hlen z => ?_) main
  · obtain ⟨pp, _, rfl⟩ := List.mem_map.mp ht
    exact ⟨fun σ H Q Q' hq ⟨as, r, h, p, g⟩ => ⟨as, r, h, p, g.mono hq⟩, fun σ H Q Q' hq ⟨as, r, h, p, g⟩ => ⟨as, r, h, p, g.mono hq⟩⟩
  · obtain ⟨as2, h2, us, e2, rh2, rl, ev⟩ := z
    rw [ev] at g
    simp only [Rs.bnd] at g
    cases hk : pairsK us [] with
    | none => rw [hk] at g; exact g.elim
    | some kvs =>
      rw [hk] at g
      simp only at g
      split at g
      · have hd : H2 q = some (.dK []) := e2.keep _ _ upd_same hn
        have hn2 : q ∉ as2 := fun hm => by
          obtain ⟨nw, x1, x2⟩ := e2.more
          rw [x1] at hm
          rcases List.mem_append.mp hm with z | z
          · exact hn z
          · have := x2 q z
            rw [upd_same] at this; cases this
        obtain ⟨ks', e3, e4⟩ := pairsK_snd us.length us ps [] [] kvs (Nat.le_refl _) rl .nil hk
        refine ⟨hd, ks', e3, ?_, ?_⟩
        · have h1 : ps.length = ks'.length := by rw [e3, List.length_map]
          rw [← h1, hlen, List.length_map, hp]; exact h15
        · refine g (as2 ++ [q]) _ _ ⟨?_, fun a o z hna => ?_, fun a o z => ?_, fun a o u z => ?_⟩ (rh2.adopt (fun vs z => by rw [hd] at z; cases z) hn2 ⟨_, rfl, e4⟩) (RepV.newObj rh2)
          · obtain ⟨nw, x1, x2⟩ := e2.more
            refine ⟨nw ++ [q], by rw [x1, List.append_assoc], fun a ha => ?_⟩
            rcases List.mem_append.mp ha with z | z
            · have := x2 a z
              by_cases haq : a = q
              · subst haq; exact hq
              · rwa [upd_ne haq] at this
            · simp at z; subst z; exact hq
          · have haq : a ≠ q := fun x => by subst x; rw [hq] at z; cases z
            rw [upd_ne haq]
            exact e2.keep a o (by rw [upd_ne haq]; exact z) hna
          · have haq : a ≠ q := fun x => by subst x; rw [hq] at z; cases z
            rw [upd_ne haq]
            exact e2.there a o (by rw [upd_ne haq]; exact z)
          · have haq : a ≠ q := fun x => by subst x; rw [hq] at z; cases z
            rw [upd_ne haq]
            exact e2.fz a o u (by rw [upd_ne haq]; exact z)
      · exact g.elim
theorem pairsT_snd {H : Hp} {as : List Addr} : ∀ (n : Nat) (vs : List PV) (ps : List (V × V)) (acc : List (List Key × PV)) (ac : List (List Key × V)) (kvs : List (List Key × PV)), vs.length ≤ n → RepL H as vs (flatW ps) → RepKV H as acc ac → pairsT vs acc = some kvs →
    ∃ ks : List (List Key × V), KTd H ps ks ∧ RepKV H as kvs (mergeT ac ks) := by
  intro n
  induction n with
  | zero =>
    intro vs ps acc ac kvs hn rl ra e
    have : vs = [] := List.eq_nil_of_length_eq_zero (by omega)
    subst this
    cases ps with
    | nil => cases e; exact ⟨[], .nil, ra⟩
    | cons p ps => have := rl.length; simp [flatW] at this
  | succ n ih =>
    intro vs ps acc ac kvs hn rl ra e
    cases ps with
    | nil =>
      have h0 := rl.length
      have : vs = [] := List.eq_nil_of_length_eq_zero (by simpa [flatW] using h0)
      subst this
      cases e; exact ⟨[], .nil, ra⟩
    | cons p ps =>
      rcases vs with _ | ⟨k, _ | ⟨v, vs⟩⟩
      · have := rl.length; simp [flatW] at this
      · have := rl.length; simp [flatW] at this
      · obtain ⟨u, us, hu, rk, rl2⟩ := rl.consE
        obtain ⟨w, ws, hw, rv, rl3⟩ := rl2.consE
        unfold flatW at hu
        injection hu with hu1 hu2
        subst hu1
        rw [← hu2] at hw
        injection hw with hw1 hw2
        subst hw1
        rw [← hw2] at rl3
        unfold pairsT at e
        cases hk : toTK k with
        | none => rw [hk] at e; cases e
        | some kk =>
          rw [hk] at e
          obtain ⟨ks, e1, e2⟩ := ih vs ps (put kk v acc) (putK ac kk p.2) kvs (by simp at hn; omega) rl3 (put_snd ra kk rv) e
          obtain ⟨b, eb, hb⟩ := toTK_snd rk hk
          exact ⟨(kk, p.2) :: ks, .cons ⟨⟨b, eb, hb⟩, rfl⟩ e1, e2⟩
theorem s_dctT (hu : X.A.units + 65 < cLine) {ks : List (Option Expr)} {vs : List Expr} {prs : List (E × E)} (h : PPs X pos ks vs (prs.map fun p => (rdE T W c p.1, rdE T W c p.2))) (hall : ks.all (·.isSome) = true) (hl : ks.length = vs.length) (h0 : ks ≠ []) (h15 : ks.length ≤ 15) (hp : prs.length = ks.length) :
    PE X (.Dict ks vs pos) (rdE T W c (.dctT (flatE prs))) := by
  refine PE.imp (pe_dispT (by omega) h hall hl h0 h15) fun σ H Q ⟨as, r, h, p, g⟩ q hq => ?_
  unfold evE at g
  have C : gotR T W (evL c (flatE prs) r h) as (upd H q (.dT [])) σ rL (fun us H2 => ∃ as2 h2 vs, Ext (upd H q (.dT [])) as H2 as2 ∧ RepH H2 as2 h2 ∧ RepL H2 as2 vs us ∧ evL c (flatE prs) r h = .ok vs h2) := by
    cases ev : evL c (flatE prs) r h with
    | ok vs h2 => exact fun as2 H2 us e rh rl => ⟨as2, h2, vs, e, rh, rl, rfl⟩
    | ex k vs h2 => rw [ev] at g; exact fun as2 H2 cls d e rh rx => g as2 H2 cls d ((Ext.beside hq).trans e) rh rx
    | no => rw [ev] at g; exact g
  have hn : q ∉ as := fun hm => by
    obtain ⟨o, z⟩ := p.hp.there hm
    rw [hq] at z; cases z
  have main := pairs_rd (c := c) prs (p.beside hq) C
  have mono : ∀ (trs : List (TE × TE)) (hm : ∀ t ∈ trs, (∀ σ H Q Q', (∀ v H', Q v H' → Q' v H') → t.1 σ H Q → t.1 σ H Q') ∧ ∀ σ H Q Q', (∀ v H', Q v H' → Q' v H') → t.2 σ H Q → t.2 σ H Q') {σ : L2.St} {H : Hp} {Q Q' : List (V × V) → Hp → Prop}, (∀ ps H', ps.length = trs.length → Q ps H' → Q' ps H') → tPairs trs σ H Q → tPairs trs σ H Q' := by
    intro trs
    induction trs with
    | nil => intro hm σ H Q Q' hq z; exact hq [] H rfl z
    | cons t trs ih =>
      intro hm σ H Q Q' hq z
      obtain ⟨t1, t2⟩ := t
      obtain ⟨m1, m2⟩ := hm _ List.mem_cons_self
      refine m1 σ H _ _ (fun v H1 z1 => m2 σ H1 _ _ (fun w H2 z2 => ih (fun t ht => hm t (List.mem_cons_of_mem _ ht)) (fun ps H' hl z3 => hq _ _ (by simp [hl]) z3) z2) z1) z
  refine mono _ (fun t ht => ?_) (fun ps H2 hlen z => ?_) main
  · obtain ⟨pp, _, rfl⟩ := List.mem_map.mp ht
    exact ⟨fun σ H Q Q' hq ⟨as, r, h, p, g⟩ => ⟨as, r, h, p, g.mono hq⟩, fun σ H Q Q' hq ⟨as, r, h, p, g⟩ => ⟨as, r, h, p, g.mono hq⟩⟩
  · obtain ⟨as2, h2, us, e2, rh2, rl, ev⟩ := z
    rw [ev] at g
    simp only [Rs.bnd] at g
    cases hk : pairsT us [] with
    | none => rw [hk] at g; exact g.elim
    | some kvs =>
      rw [hk] at g
      simp only at g
      split at g
      · have hd : H2 q = some (.dT []) := e2.keep _ _ upd_same hn
        have hn2 : q ∉ as2 := fun hm => by
          obtain ⟨nw, x1, x2⟩ := e2.more
          rw [x1] at hm
          rcases List.mem_append.mp hm with z | z
          · exact hn z
          · have := x2 q z
            rw [upd_same] at this; cases this
        obtain ⟨ks', e3, e4⟩ := pairsT_snd us.length us ps [] [] kvs (Nat.le_refl _) rl .nil hk
        refine ⟨hd, ks', e3, ?_, ?_⟩
        · have h1 : ps.length = ks'.length := Paired.length e3
          rw [← h1, hlen, List.length_map, hp]; exact h15
        · refine g (as2 ++ [q]) _ _ ⟨?_, fun a o z hna => ?_, fun a o z => ?_, fun a o u z => ?_⟩ (rh2.adopt (fun vs z => by rw [hd] at z; cases z) hn2 ⟨_, rfl, e4⟩) (RepV.newObj rh2)
          · obtain ⟨nw, x1, x2⟩ := e2.more
            refine ⟨nw ++ [q], by rw [x1, List.append_assoc], fun a ha => ?_⟩
            rcases List.mem_append.mp ha with z | z
            · have := x2 a z
              by_cases haq : a = q
              · subst haq; exact hq
              · rwa [upd_ne haq] at this
            · simp at z; subst z; exact hq
          · have haq : a ≠ q := fun x => by subst x; rw [hq] at z; cases z
            rw [upd_ne haq]
            exact e2.keep a o (by rw [upd_ne haq]; exact z) hna
          · have haq : a ≠ q := fun x => by subst x; rw [hq] at z; cases z
            rw [upd_ne haq]
            exact e2.there a o (by rw [upd_ne haq]; exact z)
          · have haq : a ≠ q := fun x => by subst x; rw [hq] at z; cases z
            rw [upd_ne haq]
            exact e2.fz a o u (by rw [upd_ne haq]; exact z)
      · exact g.elim
end

/-! ### statements -/
/-- what a statement comes to, as a reading -/
def gotS (T : XTab) (W : WX) (x : Rt) (as : List Addr) (H : Hp) (D : Ends) : Prop := match x with
  | .nx r h' => ∀ as' H' σ', Ext H as H' as' → Rp H' as' r σ' h' → D.nx σ' H'
  | .rt v h' => ∀ as' H' u, Ext H as H' as' → RepH H' as' h' → RepV H' as' v u → D.rt u H'
  | .bk r h' => ∀ as' H' σ', Ext H as H' as' → Rp H' as' r σ' h' → D.bk σ' H'
  | .ct r h' => ∀ as' H' σ', Ext H as H' as' → Rp H' as' r σ' h' → D.ct σ' H'
  | .ex c vs r h' => ∀ as' H' σ' cls d, Ext H as H' as' → Rp H' as' r σ' h' → ExRep T H' as' c vs cls d → W cls d σ' H'
  | .no => False
def rdS (T : XTab) (W : WX) (c : Cc) (s : S) : TS := fun D σ H => ∃ as r h, Rp H as r σ h ∧ gotS T W (exS c s r h) as H D
def rdB (T : XTab) (W : WX) (c : Cc) (s : List S) : TS := fun D σ H => ∃ as r h, Rp H as r σ h ∧ gotS T W (exB c s r h) as H D
section
variable {T : XTab} {W : WX} {as as1 : List Addr} {H H1 : Hp} {D D' : Ends} {σ : L2.St} {r : Env} {h : PH}
theorem gotS.ext {x : Rt} (e : Ext H as H1 as1) (g : gotS T W x as H D) : gotS T W x as1 H1 D := by
  cases x with
  | nx r h' => exact fun as' H' σ' e' p => g as' H' σ' (e.trans e') p
  | rt v h' => exact fun as' H' u e' q rp => g as' H' u (e.trans e') q rp
  | bk r h' => exact fun as' H' σ' e' p => g as' H' σ' (e.trans e') p
  | ct r h' => exact fun as' H' σ' e' p => g as' H' σ' (e.trans e') p
  | ex c vs r h' => exact fun as' H' σ' cls d e' p rx => g as' H' σ' cls d (e.trans e') p rx
  | no => exact g
theorem gotS.mono {x : Rt} (g : gotS T W x as H D) (h1 : ∀ σ H, D.nx σ H → D'.nx σ H) (h2 : ∀ v H, D.rt v H → D'.rt v H) (h3 : ∀ σ H, D.bk σ H → D'.bk σ H) (h4 : ∀ σ H, D.ct σ H → D'.ct σ H) : gotS T W x as H D' := by
  cases x with
  | nx r h' => exact fun as' H' σ' e' p => h1 _ _ (g as' H' σ' e' p)
  | rt v h' => exact fun as' H' u e' q rp => h2 _ _ (g as' H' u e' q rp)
  | bk r h' => exact fun as' H' σ' e' p => h3 _ _ (g as' H' σ' e' p)
  | ct r h' => exact fun as' H' σ' e' p => h4 _ _ (g as' H' σ' e' p)
  | ex c vs r h' => exact g
  | no => exact g
/-- an expression, then what follows in the statement -/
theorem gotS.st {α β : Type} {x : Rs α} {f : α → PH → Rt} {repx : List Addr → Hp → α → β → Prop} (p : Rp H as r σ h) (g : gotS T W (x.st r f) as H D) :
    gotR T W x as H σ repx (fun u H1 => ∃ as1 h1 v, Ext H as H1 as1 ∧ Rp H1 as1 r σ h1 ∧ repx as1 H1 v u ∧ x = .ok v h1 ∧ gotS T W (f v h1) as1 H1 D) := by
  cases x with
  | ok v h' => exact fun as' H' u e q rp => ⟨as', h', v, e, p.to e q, rp, rfl, g.ext e⟩
  | ex c vs h' => exact fun as' H' cls d e q rx => g as' H' σ cls d e (p.to e q) rx
  | no => exact g
theorem gotS.nxt (g : gotS T W (Rt.nx r h) as H D) (p : Rp H as r σ h) : D.nx σ H := g as H σ Ext.refl p
end
/-- a slot is stored -/
theorem Rp.store {H : Hp} {as : List Addr} {r : Env} {σ : L2.St} {h : PH} {v : PV} {u : V} (p : Rp H as r σ h) (i : Nat) (rv : RepV H as v u) : Rp H as (r.set i (some v)) (σ.set i (some u)) h := by
  refine ⟨by simp [p.len], fun j w e => ?_, p.hp⟩
  by_cases hj : j = i
  · subst hj
    have hl : j < r.length := by
      by_cases hl : j < r.length
      · exact hl
      · rw [List.getElem?_eq_none (by simp; omega)] at e; cases e
    rw [List.getElem?_set_self hl] at e
    cases e
    exact ⟨u, by rw [List.getElem?_set_self (by rw [p.len]; exact hl)], rv⟩
  · rw [List.getElem?_set_ne (Ne.symm hj)] at e
    obtain ⟨z, h1, h2⟩ := p.env j w e
    exact ⟨z, by rw [List.getElem?_set_ne (Ne.symm hj)]; exact h1, h2⟩
end EV
end
section
set_option Elab.async false
set_option linter.all false
set_option maxRecDepth 100000
/-! EvSnd7: what is walked; targets; statements. -/
namespace EV
open PySem L2

/-! ### what is walked -/
/-- J walks as it tells, wherever what follows H keeps -/
def JRep (it : EV.It) (H : Hp) (as : List Addr) (J : L2.It) : Prop := ∀ (i : Nat) (as' : List Addr) (H' : Hp) (h' : PH), Ext H as H' as' → RepH H' as' h' →
  match itAt it i h' with
  | some (some x) => J.go i H' ∧ ∀ v H'', J.yld i H' v H'' → Ext H' as' H'' as' ∧ RepH H'' as' h' ∧ RepV H'' as' x v
  | some none => J.stop i H'
  | none => True
abbrev rJ : List Addr → Hp → EV.It → L2.It → Prop := fun as H it J => JRep it H as J
def rdI (T : XTab) (W : WX) (c : Cc) (d : E) : TI := fun σ H R => ∃ as r h, Rp H as r σ h ∧ gotR T W (evI c d r h) as H σ rJ R
theorem PI.imp {X : Cx} {tg e : Expr} {t t' : TI} (p : L2.PI X tg e t) (h : ∀ σ H R, t' σ H R → t σ H R) : L2.PI X tg e t' := ⟨fun pins s σ H R I q => p.run pins s σ H R I (h σ H R q)⟩
section
variable {K : PySem.W.Frag} {as : List Addr} {H : Hp} {n : Nat} {a : Addr} {xs : List PV} {vs : List V}
/-- an own list -/
theorem jrep_live (qa : as[n]? = some a) : JRep (.live n) H as (Itl K a) := by
  intro i as' H' h' e rh
  unfold itAt
  cases ho : h'[n]? with
  | none => trivial
  | some o =>
    cases o with
    | lst fz xs =>
      obtain ⟨vs, la, z, sq, _⟩ := rh.lst (K := K) ho (e.get qa)
      simp only
      cases hx : xs[i]? with
      | none => exact ⟨vs, sq, by rw [← la.length]; exact List.getElem?_eq_none_iff.mp hx⟩
      | some x =>
        obtain ⟨v, hv, rv⟩ := la.get hx
        refine ⟨⟨vs, v, sq, hv⟩, fun v' H'' y => ?_⟩
        obtain ⟨rfl, y⟩ := y
        have := y vs sq
        rw [hv] at this; cases this
        exact ⟨Ext.refl, rh, rv⟩
    | dK _ => trivial
    | dT _ => trivial
    | lkd _ => trivial
/-- a tuple -/
theorem jrep_tup (rh0 : ∃ h, RepH H as h) (q : H a = some (.tup vs)) (l : RepL H as xs vs) : JRep (.vals xs) H as (Itt K a) := by
  intro i as' H' h' e rh
  obtain ⟨h, rh0⟩ := rh0
  have q' := tup_ext q rh0 e
  have l' := l.ext rh0 e
  unfold itAt
  cases hx : xs[i]? with
  | none => exact ⟨vs, .of q', by rw [← l'.length]; exact List.getElem?_eq_none_iff.mp hx⟩
  | some x =>
    obtain ⟨v, hv, rv⟩ := l'.get hx
    refine ⟨⟨vs, v, .of q', hv⟩, fun v' H'' y => ?_⟩
    obtain ⟨rfl, y⟩ := y
    have := y vs (.of q')
    rw [hv] at this; cases this
    exact ⟨Ext.refl, rh, rv⟩
/-- a list that nobody holds -/
theorem jrep_lst (rh0 : ∃ h, RepH H as h) (q : H a = some (.lst vs)) (hn : a ∉ as) (l : RepL H as xs vs) : JRep (.vals xs) H as (Itl K a) := by
  intro i as' H' h' e rh
  obtain ⟨h, rh0⟩ := rh0
  have q' := e.keep _ _ q hn
  have l' := l.ext rh0 e
  unfold itAt
  cases hx : xs[i]? with
  | none => exact ⟨vs, .of q', by rw [← l'.length]; exact List.getElem?_eq_none_iff.mp hx⟩
  | some x =>
    obtain ⟨v, hv, rv⟩ := l'.get hx
    refine ⟨⟨vs, v, .of q', hv⟩, fun v' H'' y => ?_⟩
    obtain ⟨rfl, y⟩ := y
    have := y vs (.of q')
    rw [hv] at this; cases this
    exact ⟨Ext.refl, rh, rv⟩
theorem jrep_rng {lo : Int} : JRep (.rng lo n) H as (Itr lo n) := by
  intro i as' H' h' e rh
  unfold itAt
  by_cases hi : i < n
  · simp only [hi, if_true]
    refine ⟨hi, fun v' H'' y => ?_⟩
    obtain ⟨rfl, rfl⟩ := y
    exact ⟨Ext.refl, rh, .int _⟩
  · simp only [hi, if_false]
    exact Nat.le_of_not_lt hi
/-- pairs with their number -/
theorem pair_snd {H' : Hp} {as' : List Addr} {h' : PH} (rh : RepH H' as' h') {T : Addr} {x : PV} {v : V} {i : Nat} (hT : H' T = none) (rv : RepV H' as' x v) :
    Ext H' as' (upd H' T (.tup [.int (i : Nat), v])) as' ∧ RepH (upd H' T (.tup [.int (i : Nat), v])) as' h' ∧ RepV (upd H' T (.tup [.int (i : Nat), v])) as' (.tup [.int (i : Nat), x]) (.ref T) :=
  ⟨Ext.beside hT, rh.beside hT, .tup upd_same (.cons (.int _) (.cons (rv.ext rh (Ext.beside hT)) .nil))⟩
theorem pair2_snd {H' : Hp} {as' : List Addr} {h' : PH} (rh : RepH H' as' h') {T : Addr} {x y : PV} {v w : V} (hT : H' T = none) (rv : RepV H' as' x v) (rw' : RepV H' as' y w) :
    Ext H' as' (upd H' T (.tup [v, w])) as' ∧ RepH (upd H' T (.tup [v, w])) as' h' ∧ RepV (upd H' T (.tup [v, w])) as' (.tup [x, y]) (.ref T) :=
  ⟨Ext.beside hT, rh.beside hT, .tup upd_same (.cons (rv.ext rh (Ext.beside hT)) (.cons (rw'.ext rh (Ext.beside hT)) .nil))⟩
/-- where a sequence stands: a list of one's own, a tuple -/
inductive SrcR (H : Hp) (as : List Addr) : EV.It → Addr → Bool → Prop
  | live {n : Nat} {a : Addr} : as[n]? = some a → SrcR H as (.live n) a true
  | vals {xs : List PV} {vs : List V} {a : Addr} : H a = some (.tup vs) → RepL H as xs vs → SrcR H as (.vals xs) a false
theorem src_at {K : PySem.W.Frag} {it : EV.It} {b : Bool} (s : SrcR H as it a b) (rh0 : ∃ h, RepH H as h) {as' : List Addr} {H' : Hp} {h' : PH} (e : Ext H as H' as') (rh : RepH H' as' h') (i : Nat) :
    match itAt it i h' with
    | some o => ∃ vs, (if b then SqL K H' a vs else SqT K H' a vs) ∧ (match o with | some x => ∃ v, vs[i]? = some v ∧ RepV H' as' x v | none => vs.length ≤ i)
    | none => True := by
  cases s with
  | live qa =>
    unfold itAt
    rename_i n
    cases ho : h'[n]? with
    | none => trivial
    | some o =>
      cases o with
      | lst fz xs =>
        obtain ⟨vs, la, z, sq, _⟩ := rh.lst (K := K) ho (e.get qa)
        refine ⟨vs, sq, ?_⟩
        cases hx : xs[i]? with
        | none => show vs.length ≤ i; rw [← la.length]; exact List.getElem?_eq_none_iff.mp hx
        | some x => exact la.get hx
      | dK _ => trivial
      | dT _ => trivial
      | lkd _ => trivial
  | vals q l =>
    obtain ⟨h, rh0⟩ := rh0
    have q' := tup_ext q rh0 e
    have l' := l.ext rh0 e
    unfold itAt
    rename_i xs vs
    refine ⟨vs, .of q', ?_⟩
    cases hx : xs[i]? with
    | none => show vs.length ≤ i; rw [← l'.length]; exact List.getElem?_eq_none_iff.mp hx
    | some x => exact l'.get hx
theorem jrep_enmL {it : EV.It} (s : SrcR H as it a true) (rh0 : ∃ h, RepH H as h) : JRep (.enm it) H as (Ite K a) := by
  intro i as' H' h' e rh
  have k := src_at (K := K) s rh0 e rh i
  unfold itAt
  cases q : itAt it i h' with
  | none => trivial
  | some o =>
    rw [q] at k
    obtain ⟨vs, sq, k⟩ := k
    cases o with
    | none => exact ⟨vs, sq, k⟩
    | some x =>
      obtain ⟨v, hv, rv⟩ := k
      refine ⟨⟨vs, v, sq, hv⟩, fun v' H'' y => ?_⟩
      obtain ⟨T, w, rfl, hT, rfl, y⟩ := y
      have := y vs sq
      rw [hv] at this; cases this
      exact pair_snd rh hT rv
theorem jrep_enmT {it : EV.It} (s : SrcR H as it a false) (rh0 : ∃ h, RepH H as h) : JRep (.enm it) H as (IteT K a) := by
  intro i as' H' h' e rh
  have k := src_at (K := K) s rh0 e rh i
  unfold itAt
  cases q : itAt it i h' with
  | none => trivial
  | some o =>
    rw [q] at k
    obtain ⟨vs, sq, k⟩ := k
    cases o with
    | none => exact ⟨vs, sq, k⟩
    | some x =>
      obtain ⟨v, hv, rv⟩ := k
      refine ⟨⟨vs, v, sq, hv⟩, fun v' H'' y => ?_⟩
      obtain ⟨T, w, rfl, hT, rfl, y⟩ := y
      have := y vs sq
      rw [hv] at this; cases this
      exact pair_snd rh hT rv
theorem jrep_zipL {it it2 : EV.It} {b : Addr} (s : SrcR H as it a true) (s2 : SrcR H as it2 b true) (rh0 : ∃ h, RepH H as h) : JRep (.zip it it2) H as (Itz K a b) := by
  intro i as' H' h' e rh
  have k := src_at (K := K) s rh0 e rh i
  have k2 := src_at (K := K) s2 rh0 e rh i
  unfold itAt
  cases q : itAt it i h' with
  | none => trivial
  | some o =>
    rw [q] at k
    obtain ⟨vs, sq, k⟩ := k
    cases q2 : itAt it2 i h' with
    | none => cases o <;> trivial
    | some o2 =>
      rw [q2] at k2
      obtain ⟨ws, sq2, k2⟩ := k2
      cases o with
      | none => exact ⟨vs, ws, sq, sq2, .inl k⟩
      | some x =>
        obtain ⟨v, hv, rv⟩ := k
        cases o2 with
        | none => exact ⟨vs, ws, sq, sq2, .inr k2⟩
        | some y =>
          obtain ⟨w, hw, rw'⟩ := k2
          refine ⟨⟨vs, ws, v, w, sq, sq2, hv, hw⟩, fun v' H'' y => ?_⟩
          obtain ⟨T, w1, w2, rfl, hT, rfl, y1, y2⟩ := y
          have := y1 vs sq
          rw [hv] at this; cases this
          have := y2 ws sq2
          rw [hw] at this; cases this
          exact pair2_snd rh hT rv rw'
theorem jrep_zipT {it it2 : EV.It} {b : Addr} (s : SrcR H as it a false) (s2 : SrcR H as it2 b false) (rh0 : ∃ h, RepH H as h) : JRep (.zip it it2) H as (RZ.ItzT K a b) := by
  intro i as' H' h' e rh
  have k := src_at (K := K) s rh0 e rh i
  have k2 := src_at (K := K) s2 rh0 e rh i
  unfold itAt
  cases q : itAt it i h' with
  | none => trivial
  | some o =>
    rw [q] at k
    obtain ⟨vs, sq, k⟩ := k
    cases q2 : itAt it2 i h' with
    | none => cases o <;> trivial
    | some o2 =>
      rw [q2] at k2
      obtain ⟨ws, sq2, k2⟩ := k2
      cases o with
      | none => exact ⟨vs, ws, sq, sq2, .inl k⟩
      | some x =>
        obtain ⟨v, hv, rv⟩ := k
        cases o2 with
        | none => exact ⟨vs, ws, sq, sq2, .inr k2⟩
        | some y =>
          obtain ⟨w, hw, rw'⟩ := k2
          refine ⟨⟨vs, ws, v, w, sq, sq2, hv, hw⟩, fun v' H'' y => ?_⟩
          obtain ⟨T, w1, w2, rfl, hT, rfl, y1, y2⟩ := y
          have := y1 vs sq
          rw [hv] at this; cases this
          have := y2 ws sq2
          rw [hw] at this; cases this
          exact pair2_snd rh hT rv rw'
end

/-! ### expressions that are walked -/
section
variable {X : Cx} {T : XTab} {W : WX} {c : Cc} {pos p tpos : Pos} {tg : Expr} {elts : List Expr} {kk : Nat}
def iSeq (K : PySem.W.Frag) (tl : TE) : TI := fun σ H R => tl σ H fun x H1 => ∃ a, x = .ref a ∧ (((∃ xs, SqL K H1 a xs) ∧ R (Itl K a) H1) ∨ ((∃ xs, SqT K H1 a xs) ∧ R (Itt K a) H1))
theorem pi_seq {l : Expr} {tl : TE} (hl : PE X l tl) : L2.PI X tg l (iSeq X.K tl) := by
  refine ⟨fun pins s σ H R I h => ?_⟩
  refine thn (hl.run pins s σ H _ I h) fun v s1 ⟨x, H1, I1, r1, q1⟩ => ?_
  obtain ⟨a, e, q⟩ := q1
  subst e
  cases r1
  rcases q with ⟨⟨xs, hq⟩, q⟩ | ⟨⟨xs, hq⟩, q⟩
  · obtain ⟨its, rv, p, hz⟩ := I1.list hq
    refine wpAny_pyIter_list p.isList ?_
    refine ⟨s1.heap.objs.size, [s1.heap.objs.size], _, _, H1, rfl, I1.kept (t' := s1.toks) fun b o e => Heap.get?_push_of_some _ e, turn_list a _, ⟨_, Heap.get?_push_size _ rfl, rfl, rfl⟩, fun b hb => ?_, q⟩
    have e : b = s1.heap.objs.size := by simpa using hb
    subst e
    exact I1.fpOk (Nat.le_refl _) (I1.hok.fresh (Nat.le_refl _))
  · obtain ⟨its, rv, p, hz⟩ := I1.tuple hq
    refine wpAny_pyIter_tuple (show s1.heap.IsTuple a its.toArray from p) ?_
    refine ⟨s1.heap.objs.size, [s1.heap.objs.size], _, _, H1, rfl, I1.kept (t' := s1.toks) fun b o e => Heap.get?_push_of_some _ e, turn_tuple a _, ⟨_, Heap.get?_push_size _ rfl, rfl, rfl⟩, fun b hb => ?_, q⟩
    have e : b = s1.heap.objs.size := by simpa using hb
    subst e
    exact I1.fpOk (Nat.le_refl _) (I1.hok.fresh (Nat.le_refl _))
theorem toIt_snd {K : PySem.W.Frag} {as : List Addr} {H : Hp} {h : PH} {x : PV} {u : V} {it : EV.It} (rh : RepH H as h) (rx : RepV H as x u) (e : toIt x h = some it) :
    ∃ a b, u = .ref a ∧ SrcR H as it a b ∧ (∃ vs, if b then SqL K H a vs else SqT K H a vs) := by
  unfold toIt at e
  cases x with
  | tup xs => cases e; obtain ⟨a, vs, rfl, qa, la⟩ := rx.tupE; exact ⟨a, false, rfl, .vals qa la, vs, .of qa⟩
  | obj n =>
    obtain ⟨a, rfl, qa⟩ := rx.objE
    simp only at e
    cases ho : h[n]? with
    | none => rw [ho] at e; cases e
    | some o =>
      rw [ho] at e
      cases o with
      | lst fz xs => cases e; obtain ⟨vs, _, _, sq, _⟩ := rh.lst (K := K) ho qa; exact ⟨a, true, rfl, .live qa, vs, sq⟩
      | dK _ => cases e
      | dT _ => cases e
      | lkd _ => cases e
  | _ => cases e
theorem src_jrep {K : PySem.W.Frag} {as : List Addr} {H : Hp} {it : EV.It} {a : Addr} {b : Bool} (s : SrcR H as it a b) (rh0 : ∃ h, RepH H as h) : JRep it H as (if b then Itl K a else Itt K a) := by
  cases s with
  | live q => exact jrep_live q
  | vals q l => exact jrep_tup rh0 q l
theorem ofOptI_snd {as : List Addr} {H : Hp} {σ : L2.St} {h : PH} {o : Option EV.It} {R : L2.It → Hp → Prop} (g : gotR T W (ofOptI h o) as H σ rJ R) (rh : RepH H as h) : ∃ it, o = some it ∧ ∀ J, JRep it H as J → R J H := by
  cases o with
  | none => exact g.elim
  | some b => exact ⟨b, rfl, fun z rz => g.ok rh rz⟩
/-- a value that is walked: a list of one's own, a tuple -/
theorem i_val {e : Expr} {d : E} (he : PE X e (rdE T W c d)) : L2.PI X tg e (rdI T W c (.itv d)) := by
  refine PI.imp (pi_seq he) fun σ H R ⟨as, r, h, p, g⟩ => ?_
  unfold evI at g
  refine ⟨as, r, h, p, (g.bnd (repx := rV) p).mono ?_⟩
  rintro u H1 ⟨as1, h1, x, e1, p1, rx, _, g1⟩
  obtain ⟨it, hit, q⟩ := ofOptI_snd g1 p1.hp
  obtain ⟨a, b, rfl, sr, vs, sq⟩ := toIt_snd (K := X.K) p1.hp rx hit
  have jr := src_jrep (K := X.K) sr ⟨_, p1.hp⟩
  cases b with
  | true => exact ⟨a, rfl, .inl ⟨⟨vs, sq⟩, q _ jr⟩⟩
  | false => exact ⟨a, rfl, .inr ⟨⟨vs, sq⟩, q _ jr⟩⟩
theorem i_rng1 {e : Expr} {d : E} (hg : Gl X "range") (hm : X.mg "range" = none) (ha : PA X [e] (rdL T W c [d])) (hs : noStar e = true) : L2.PI X tg (.Call (.Name "range" p) [e] [] pos) (rdI T W c (.rng (.cst (.int 0)) d)) := by
  refine PI.imp (pi_range1 hg hm ha (by rw [each_noStar hs]; rfl)) fun σ H R ⟨as, r, h, p, g⟩ => ?_
  unfold evI at g
  have e0 : evE c (.cst (.int 0)) r h = .ok (.int 0) h := by unfold evE; rfl
  rw [e0] at g
  simp only [Rs.bnd] at g
  refine ⟨as, r, h, p, ?_⟩
  have e1 : evL c [d] r h = (evE c d r h).bnd fun v h => .ok [v] h := by
    unfold evL evL
    cases evE c d r h <;> rfl
  rw [e1]
  cases q : evE c d r h with
  | ok v h1 =>
    rw [q] at g
    intro as1 H1 us e2 rh rl
    simp only at g
    obtain ⟨u, rfl, ru⟩ := rl1 rl
    unfold rngOf at g
    cases v with
    | int j =>
      simp only at g
      split at g
      · rename_i hb
        refine ⟨j, by rw [ru.intE], hb.2.2.1, hb.2.2.2, ?_⟩
        have := (g.ext e2).ok rh (u := Itr 0 j.toNat) (by
          have : (j - 0).toNat = j.toNat := by omega
          rw [this]; exact jrep_rng)
        exact this
      · exact g.elim
    | _ => exact g.elim
  | ex k vs h1 => rw [q] at g; exact g
  | no => rw [q] at g; exact g
theorem i_rng2 {e e2 : Expr} {d d2 : E} (hg : Gl X "range") (hm : X.mg "range" = none) (ha : PA X [e, e2] (rdL T W c [d, d2])) (hs : noStar e = true) (hs2 : noStar e2 = true) : L2.PI X tg (.Call (.Name "range" p) [e, e2] [] pos) (rdI T W c (.rng d d2)) := by
  refine PI.imp (pi_range2 hg hm ha (by rw [each_noStar hs, each_noStar hs2]; rfl) (by rw [each_noStar hs2]; rfl)) fun σ H R ⟨as, r, h, p, g⟩ => ?_
  unfold evI at g
  have e1 : (evL c [d, d2] r h).bnd (fun vs h => match vs with | [x, y] => rngOf x y h | _ => .no) = (evE c d r h).bnd fun x h => (evE c d2 r h).bnd fun y h => rngOf x y h := by
    unfold evL evL evL
    cases evE c d r h with
    | ok v h1 =>
      simp only [Rs.bnd]
      cases evE c d2 r h1 <;> rfl
    | ex k vs h1 => rfl
    | no => rfl
  rw [← e1] at g
  refine ⟨as, r, h, p, (g.bnd (repx := rL) p).mono ?_⟩
  rintro us H1 ⟨as1, h1, vs, e3, p1, rl, _, g1⟩
  split at g1
  · rename_i x y
    obtain ⟨u, w, rfl, ru, rw'⟩ := rl2 rl
    unfold rngOf at g1
    split at g1
    · split at g1
      · rename_i hb
        exact ⟨_, _, by rw [ru.intE, rw'.intE], hb, g1.ok p1.hp jrep_rng⟩
      · exact g1.elim
    · exact g1.elim
  · exact g1.elim
theorem ev1 {d : E} {r : Env} {h : PH} : evL c [d] r h = (evE c d r h).bnd fun v h => .ok [v] h := by
  unfold evL evL
  cases evE c d r h <;> rfl
theorem ev2 {d d2 : E} {r : Env} {h : PH} : evL c [d, d2] r h = (evE c d r h).bnd fun x h => (evE c d2 r h).bnd fun y h => .ok [x, y] h := by
  unfold evL evL evL
  cases evE c d r h with
  | ok v h1 =>
    simp only [Rs.bnd]
    cases evE c d2 r h1 <;> rfl
  | ex k vs h1 => rfl
  | no => rfl
theorem bnd_assoc {α β γ : Type} {x : Rs α} {f : α → PH → Rs β} {g : β → PH → Rs γ} : (x.bnd f).bnd g = x.bnd fun a h => (f a h).bnd g := by
  cases x <;> rfl
theorem i_enm {e : Expr} {d : E} (hg : Gl X "enumerate") (hm : X.mg "enumerate" = none) (ha : PA X [e] (rdL T W c [d])) (hs : noStar e = true) : L2.PI X (.Tuple elts kk tpos) (.Call (.Name "enumerate" p) [e] [] pos) (rdI T W c (.enm d)) := by
  refine PI.imp (pi_enumA hg hm ha (by rw [each_noStar hs]; rfl)) fun σ H R ⟨as, r, h, p, g⟩ => ?_
  unfold evI at g
  have e0 : ((evE c d r h).bnd fun x h => ofOptI h ((toIt x h).map .enm)) = (evL c [d] r h).bnd fun vs h => match vs with | [x] => ofOptI h ((toIt x h).map .enm) | _ => .no := by
    rw [ev1, bnd_assoc]; rfl
  rw [e0] at g
  refine ⟨as, r, h, p, (g.bnd (repx := rL) p).mono ?_⟩
  rintro us H1 ⟨as1, h1, vs, e1, p1, rl, _, g1⟩
  split at g1
  · obtain ⟨u, rfl, ru⟩ := rl1 rl
    obtain ⟨it, hit, q⟩ := ofOptI_snd g1 p1.hp
    obtain ⟨it0, hi0, rfl⟩ := Option.map_eq_some_iff.mp hit
    obtain ⟨a, b, rfl, sr, vs, sq⟩ := toIt_snd (K := X.K) p1.hp ru hi0
    cases b with
    | true => exact ⟨a, vs, rfl, .inl ⟨sq, q _ (jrep_enmL sr ⟨_, p1.hp⟩)⟩⟩
    | false => exact ⟨a, vs, rfl, .inr ⟨sq, q _ (jrep_enmT sr ⟨_, p1.hp⟩)⟩⟩
  · exact g1.elim
theorem i_zip {e e2 : Expr} {d d2 : E} (hg : Gl X "zip") (hm : X.mg "zip" = none) (ha : PA X [e, e2] (rdL T W c [d, d2])) (hs : noStar e = true) (hs2 : noStar e2 = true) : L2.PI X (.Tuple elts kk tpos) (.Call (.Name "zip" p) [e, e2] [] pos) (rdI T W c (.zip d d2)) := by
  refine PI.imp (RZ.pi_zipA hg hm ha (by rw [each_noStar hs]) (any_noStar (by simp [hs2]))) fun σ H R ⟨as, r, h, p, g⟩ => ?_
  unfold evI at g
  have e0 : ((evE c d r h).bnd fun x h => (evE c d2 r h).bnd fun y h => ofOptI h (zipIt x y h)) = (evL c [d, d2] r h).bnd fun vs h => match vs with | [x, y] => ofOptI h (zipIt x y h) | _ => .no := by
    rw [ev2, bnd_assoc]
    congr 1
    funext x h
    rw [bnd_assoc]; rfl
  rw [e0] at g
  refine ⟨as, r, h, p, (g.bnd (repx := rL) p).mono ?_⟩
  rintro us H1 ⟨as1, h1, vs, e1, p1, rl, _, g1⟩
  split at g1
  · rename_i x y
    obtain ⟨u, w, rfl, ru, rw'⟩ := rl2 rl
    obtain ⟨it, hit, q⟩ := ofOptI_snd g1 p1.hp
    unfold zipIt at hit
    split at hit
    · rename_i h1 h2
      cases hit
      obtain ⟨a, b, rfl, sr, vs, sq⟩ := toIt_snd (K := X.K) p1.hp ru h1
      obtain ⟨a2, b2, rfl, sr2, vs2, sq2⟩ := toIt_snd (K := X.K) p1.hp rw' h2
      cases sr
      cases sr2
      rename_i q1 q2
      exact ⟨a, a2, vs, vs2, rfl, .inl ⟨sq, sq2, q _ (jrep_zipL (.live q1) (.live q2) ⟨_, p1.hp⟩)⟩⟩
    · rename_i h1 h2
      cases hit
      obtain ⟨a, b, rfl, sr, vs, sq⟩ := toIt_snd (K := X.K) p1.hp ru h1
      obtain ⟨a2, b2, rfl, sr2, vs2, sq2⟩ := toIt_snd (K := X.K) p1.hp rw' h2
      cases sr with
      | vals q1 l1 =>
      cases sr2 with
      | vals q2 l2 =>
      exact ⟨a, a2, vs, vs2, rfl, .inr ⟨sq, sq2, q _ (jrep_zipT (.vals q1 l1) (.vals q2 l2) ⟨_, p1.hp⟩)⟩⟩
    · cases hit
  · exact g1.elim
end
end EV
end
section
set_option Elab.async false
set_option linter.all false
set_option maxRecDepth 100000
/-! EvSnd8: targets, plain statements, loops. -/
namespace EV
open PySem L2

/-! ### targets -/
/-- the slots a target stores in -/
def tgS : Tg → List Nat
  | .nm i => [i]
  | .tup ts => tgSs ts
where tgSs : List Tg → List Nat
  | [] => []
  | t :: ts => tgS t ++ tgSs ts
/-- but for these slots the same -/
def Fr (vs : List Nat) (σ σ' : L2.St) : Prop := σ'.length = σ.length ∧ ∀ i, i ∉ vs → σ'[i]? = σ[i]?
theorem Fr.refl {vs : List Nat} {σ : L2.St} : Fr vs σ σ := ⟨rfl, fun _ _ => rfl⟩
theorem Fr.trans {vs ws : List Nat} {σ σ1 σ2 : L2.St} (a : Fr vs σ σ1) (b : Fr ws σ1 σ2) : Fr (vs ++ ws) σ σ2 :=
  ⟨b.1.trans a.1, fun i hi => by rw [List.mem_append, not_or] at hi; exact (b.2 i hi.2).trans (a.2 i hi.1)⟩
def rdGk (t : Tg) : TG := fun v σ H Q => ∃ as r h pv, Rp H as r σ h ∧ RepV H as pv v ∧ match bindT t pv r with
  | some r' => ∀ σ', Rp H as r' σ' h → Fr (tgS t) σ σ' → Q σ' H
  | none => False
def rdGks (ts : List Tg) : TGs := fun vs σ H Q => ∃ as r h pvs, Rp H as r σ h ∧ RepL H as pvs vs ∧ match bindTs ts pvs r with
  | some r' => ∀ σ', Rp H as r' σ' h → Fr (tgS.tgSs ts) σ σ' → Q σ' H
  | none => False
def rdG (t : Tg) : TG := fun v σ H Q => ∃ as r h pv, Rp H as r σ h ∧ RepV H as pv v ∧ match bindT t pv r with
  | some r' => ∀ σ', Rp H as r' σ' h → Q σ' H
  | none => False
theorem PG.imp {X : Cx} {tg : Expr} {t t' : TG} (p : L2.PG X tg t) (h : ∀ v σ H Q, t' v σ H Q → t v σ H Q) : L2.PG X tg t' := ⟨fun pins s σ H v u Q I r q => p.run pins s σ H v u Q I r (h v σ H Q q)⟩
theorem PGs.imp {X : Cx} {tg : List Expr} {t t' : TGs} (p : L2.PGs X tg t) (h : ∀ v σ H Q, t' v σ H Q → t v σ H Q) : L2.PGs X tg t' := ⟨fun pins s σ H v u Q I r q => p.run pins s σ H v u Q I r (h v σ H Q q)⟩
theorem g_of {X : Cx} {tg : Expr} {t : Tg} (p : L2.PG X tg (rdGk t)) : L2.PG X tg (rdG t) := PG.imp p fun v σ H Q ⟨as, r, h, pv, a, b, q⟩ => by
  refine ⟨as, r, h, pv, a, b, ?_⟩
  cases e : bindT t pv r with
  | none => rw [e] at q; exact q
  | some r' => rw [e] at q; exact fun σ' p' _ => q σ' p'
theorem each_len {env : PySem.Env} : ∀ {es : List Expr}, es.all noStar = true → (assignEach es env).length = es.length ∧ (assignEach es env).findIdx? (·.1) = none := by
  intro es
  induction es with
  | nil => intro _; exact ⟨rfl, rfl⟩
  | cons e es ih =>
    intro h
    rw [List.all_cons, Bool.and_eq_true] at h
    obtain ⟨h1, h2⟩ := ih h.2
    have : assignEach (e :: es) env = (false, assign e env) :: assignEach es env := by
      cases e <;> first | rfl | exact absurd h.1 Bool.false_ne_true
    rw [this]
    refine ⟨by simp [h1], ?_⟩
    rw [List.findIdx?_cons, h2]; rfl
theorem each_map {e : Expr} {es : List Expr} {env : PySem.Env} (h : noStar e = true) : (assignEach (e :: es) env).map (·.2) = assign e env :: (assignEach es env).map (·.2) := by
  cases e <;> first | rfl | exact absurd h Bool.false_ne_true
section
variable {X : Cx} {pos : Pos}
theorem fr_set {i : Nat} {σ : L2.St} {v : Option V} : Fr [i] σ (σ.set i v) := ⟨List.length_set .., fun j hj => List.getElem?_set_ne (fun z => hj (by rw [z]; exact List.mem_cons_self))⟩
theorem g_name {i : Nat} {x : Str} (hN : X.N.Nodup) (hi : X.N[i]? = some x) (hx : Loc X.env.scope x) (hf : X.fn x = true ∨ X.env.scope.names.lookup x = some .local) : L2.PG X (.Name x pos) (rdGk (.nm i)) := by
  refine PG.imp (pg_name hN hi hx hf) fun v σ H Q ⟨as, r, h, pv, p, rv, q⟩ => ?_
  unfold bindT at q
  exact q _ (p.store i rv) fr_set
theorem g_nil : L2.PGs X [] (rdGks []) := by
  refine PGs.imp pgs_nil fun vs σ H Q ⟨as, r, h, pvs, p, rl, q⟩ => ?_
  cases pvs with
  | nil => unfold bindTs at q; exact ⟨rl.nilE, q σ p .refl⟩
  | cons x xs => unfold bindTs at q; exact q.elim
theorem g_cons {e : Expr} {es : List Expr} {t : Tg} {ts : List Tg} (h1 : L2.PG X e (rdGk t)) (h2 : L2.PGs X es (rdGks ts)) (hs : noStar e = true) : L2.PGs X (e :: es) (rdGks (t :: ts)) := by
  refine PGs.imp (pgs_cons h1 h2 (each_map hs)) fun vs σ H Q ⟨as, r, h, pvs, p, rl, q⟩ => ?_
  cases pvs with
  | nil => unfold bindTs at q; exact q.elim
  | cons x xs =>
    obtain ⟨u, us, rfl, rx, rr⟩ := rl.consE
    unfold bindTs at q
    refine ⟨u, us, rfl, as, r, h, x, p, rx, ?_⟩
    cases hb : bindT t x r with
    | none => rw [hb] at q; exact q
    | some r' =>
      rw [hb] at q
      intro σ' p' f1
      refine ⟨as, r', h, xs, p', rr, ?_⟩
      simp only at q
      cases hb2 : bindTs ts xs r' with
      | none => rw [hb2] at q; exact q
      | some r2 => rw [hb2] at q; exact fun σ2 p2 f2 => q σ2 p2 (f1.trans f2)
theorem bindTs_len : ∀ {ts : List Tg} {xs : List PV} {r r' : Env}, bindTs ts xs r = some r' → ts.length = xs.length := by
  intro ts
  induction ts with
  | nil => intro xs r r' e; cases xs with
    | nil => rfl
    | cons x xs => unfold bindTs at e; cases e
  | cons t ts ih => intro xs r r' e; cases xs with
    | nil => unfold bindTs at e; cases e
    | cons x xs =>
      unfold bindTs at e
      cases hb : bindT t x r with
      | none => rw [hb] at e; cases e
      | some r1 => rw [hb] at e; simp [ih e]
theorem g_tup {es : List Expr} {k : Nat} {ts : List Tg} (hc : X.calm = true) (h : L2.PGs X es (rdGks ts)) (hs : es.all noStar = true) (hl : es.length = ts.length) : L2.PG X (.Tuple es k pos) (rdGk (.tup ts)) := by
  refine PG.imp (pg_tup (n := ts.length) hc h (by rw [(each_len hs).1, hl]) (each_len hs).2) fun v σ H Q ⟨as, r, h, pv, p, rv, q⟩ => ?_
  cases pv with
  | tup xs =>
    obtain ⟨a, vs, rfl, qa, la⟩ := rv.tupE
    unfold bindT at q
    cases hb : bindTs ts xs r with
    | none => rw [hb] at q; exact q.elim
    | some r' =>
      refine ⟨a, vs, rfl, .of qa, by rw [← la.length, bindTs_len hb], as, r, h, xs, p, la, q⟩
  | _ => unfold bindT at q; exact q.elim
end

/-! ### plain statements -/
/-- what is no comprehension -/
def noComp : Expr → Bool
  | .ListComp .. => false
  | .SetComp .. => false
  | .DictComp .. => false
  | _ => true
theorem swaps_no {e : Expr} {t : Option Expr} {l : Nat} {env : PySem.Env} (h : noComp e = true) : swapsWith e t l env = pure false := by
  cases e <;> first | rfl | exact absurd h Bool.false_ne_true
theorem swapsS_no {tg e : Expr} {l : Nat} {env : PySem.Env} (h : noComp e = true) : swapsWithSole [tg] e l env = pure false := by
  unfold swapsWithSole; exact swaps_no h
def isTupE : Expr → Bool
  | .Tuple .. => true
  | _ => false
theorem swapped_no {tg e : Expr} {env : PySem.Env} (h : isTupE e = false) : swappedStores [tg] e env = pure none := by
  cases tg <;> cases e <;> first | rfl | exact absurd h (by intro z; cases z)
section
variable {X : Cx} {T : XTab} {W : WX} {c : Cc} {pos : Pos}
theorem st_pass : PS X (.Pass pos) (rdS T W c .pass) := by
  refine PS.imp ps_pass fun D σ H ⟨as, r, h, p, g⟩ => ?_
  unfold exS at g
  exact g.nxt p
theorem st_expr {e : Expr} {d : E} (he : PE X e (rdE T W c d)) (hs : noComp e = true) : PS X (.Expr e pos) (rdS T W c (.expr d)) := by
  refine PS.imp (ps_expr he (swaps_no hs)) fun D σ H ⟨as, r, h, p, g⟩ => ?_
  unfold exS at g
  refine ⟨as, r, h, p, (g.st (repx := rV) p).mono ?_⟩
  rintro u H1 ⟨as1, h1, x, e1, p1, rx, _, g1⟩
  exact g1.nxt p1
/-- storing what was reckoned -/
theorem bind_end {as : List Addr} {H : Hp} {D : Ends} {σ : L2.St} {r : Env} {h : PH} {t : Tg} {v : PV} {u : V} (p : Rp H as r σ h) (rv : RepV H as v u) (g : gotS T W (match bindT t v r with | some r' => .nx r' h | none => .no) as H D) : rdG t u σ H D.nx := by
  refine ⟨as, r, h, v, p, rv, ?_⟩
  cases hb : bindT t v r with
  | none => rw [hb] at g; exact g
  | some r' => rw [hb] at g; exact fun σ' p' => g as H σ' Ext.refl p'
theorem asg_rd {d : E} {t : Tg} {D : Ends} {σ : L2.St} {H : Hp} (q : rdS T W c (.asg t d) D σ H) : tAsg (rdE T W c d) (rdG t) D σ H := by
  obtain ⟨as, r, h, p, g⟩ := q
  unfold exS at g
  refine ⟨as, r, h, p, (g.st (repx := rV) p).mono ?_⟩
  rintro u H1 ⟨as1, h1, x, e1, p1, rx, _, g1⟩
  exact bind_end p1 rx g1
theorem st_name {i : Nat} {x : Str} {e : Expr} {d : E} {px : Pos} (hN : X.N.Nodup) (hi : X.N[i]? = some x) (hx : Loc X.env.scope x) (hf : X.fn x = true ∨ X.env.scope.names.lookup x = some .local) (he : PE X e (rdE T W c d)) (hs : noComp e = true) : PS X (.Assign [.Name x px] e pos) (rdS T W c (.asg (.nm i) d)) := by
  refine PS.imp (ps_set hN hi hx he (swaps_no hs) hf) fun D σ H q => ?_
  obtain ⟨as, r, h, p, g⟩ := q
  unfold exS at g
  refine ⟨as, r, h, p, (g.st (repx := rV) p).mono ?_⟩
  rintro u H1 ⟨as1, h1, x, e1, p1, rx, _, g1⟩
  unfold bindT at g1
  exact g1 as1 H1 _ Ext.refl (p1.store i rx)
/-- any target but a plain name; what is stored is no comprehension and no display of a tuple -/
theorem st_tgt {tg e : Expr} {d : E} {t : Tg} (hg : L2.PG X tg (rdG t)) (he : PE X e (rdE T W c d)) (hs : noComp e = true) (ht : isTupE e = false) (hn : noStar tg = true) : PS X (.Assign [tg] e pos) (rdS T W c (.asg t d)) :=
  PS.imp (ps_asg he hg (swaps_no hs) (swapped_no ht) (each_map hn)) fun D σ H q => asg_rd q
/-- a display of a tuple, stored the plain way -/
theorem st_tgtT {tg e : Expr} {d : E} {t : Tg} (hg : L2.PG X tg (rdG t)) (he : PE X e (rdE T W c d)) (hs : noComp e = true) (ht : swappedStores [tg] e X.env = pure none) (hn : noStar tg = true) : PS X (.Assign [tg] e pos) (rdS T W c (.asg t d)) :=
  PS.imp (ps_asg he hg (swaps_no hs) ht (each_map hn)) fun D σ H q => asg_rd q
theorem evL_two {d1 d2 : E} {r : Env} {h : PH} {f : PV → PH → Rt} : (evE c (.tup [d1, d2]) r h).st r f = (evL c [d1, d2] r h).st r fun vs h => f (.tup vs) h := by
  unfold evE
  cases q : evL c [d1, d2] r h with
  | ok vs h1 =>
    have := evL_len q
    simp only [Rs.bnd, Rs.st]
    rw [if_pos (by rw [this]; show _ ≤ sizeLine; simp [sizeLine_eq])]
  | ex k vs h1 => rfl
  | no => rfl
theorem evL_three {d1 d2 d3 : E} {r : Env} {h : PH} {f : PV → PH → Rt} : (evE c (.tup [d1, d2, d3]) r h).st r f = (evL c [d1, d2, d3] r h).st r fun vs h => f (.tup vs) h := by
  unfold evE
  cases q : evL c [d1, d2, d3] r h with
  | ok vs h1 =>
    have := evL_len q
    simp only [Rs.bnd, Rs.st]
    rw [if_pos (by rw [this]; show _ ≤ sizeLine; simp [sizeLine_eq])]
  | ex k vs h1 => rfl
  | no => rfl
theorem st_par {i j : Nat} {x y : Str} {a b : Expr} {d1 d2 : E} {px py pt pt2 : Pos} {kt k2} (hc : X.calm = true) (hN : X.N.Nodup) (hi : X.N[i]? = some x) (hj : X.N[j]? = some y) (hij : i ≠ j)
    (hx : X.env.scope.names.lookup x = some .local) (hy : X.env.scope.names.lookup y = some .local) (ha : PA X [a, b] (rdL T W c [d1, d2])) (hw : swappedStores [.Tuple [.Name x px, .Name y py] kt pt] (.Tuple [a, b] k2 pt2) X.env = pure (some [x, y])) :
    PS X (.Assign [.Tuple [.Name x px, .Name y py] kt pt] (.Tuple [a, b] k2 pt2) pos) (rdS T W c (.asg (.tup [.nm i, .nm j]) (.tup [d1, d2]))) := by
  refine PS.imp (ps_par hc hN hi hj hij hx hy ha hw rfl) fun D σ H ⟨as, r, h, p, g⟩ => ?_
  unfold exS at g
  rw [evL_two] at g
  refine ⟨as, r, h, p, (g.st (repx := rL) p).mono ?_⟩
  rintro us H1 ⟨as1, h1, vs, e1, p1, rl, ev, g1⟩
  have hl := evL_len ev
  rcases vs with _ | ⟨v, _ | ⟨w, _ | ⟨z, vs⟩⟩⟩
  · simp at hl
  · simp at hl
  · obtain ⟨u, u2, rfl, ru, ru2⟩ := rl2 rl
    simp only [bindT, bindTs] at g1
    exact ⟨u, u2, rfl, g1 as1 H1 _ Ext.refl ((p1.store i ru).store j ru2)⟩
  · simp at hl
theorem st_par3 {i j l : Nat} {x y z : Str} {a b e : Expr} {d1 d2 d3 : E} {px py pz pt pt2 : Pos} {kt k2} (hc : X.calm = true) (hN : X.N.Nodup) (hi : X.N[i]? = some x) (hj : X.N[j]? = some y) (hl : X.N[l]? = some z) (hij : i ≠ j) (hil : i ≠ l) (hjl : j ≠ l)
    (hx : X.env.scope.names.lookup x = some .local) (hy : X.env.scope.names.lookup y = some .local) (hz : X.env.scope.names.lookup z = some .local) (ha : PA X [a, b, e] (rdL T W c [d1, d2, d3]))
    (hw : swappedStores [.Tuple [.Name x px, .Name y py, .Name z pz] kt pt] (.Tuple [a, b, e] k2 pt2) X.env = pure (some [x, y, z])) :
    PS X (.Assign [.Tuple [.Name x px, .Name y py, .Name z pz] kt pt] (.Tuple [a, b, e] k2 pt2) pos) (rdS T W c (.asg (.tup [.nm i, .nm j, .nm l]) (.tup [d1, d2, d3]))) := by
  refine PS.imp (ps_par3 hc hN hi hj hl hij hil hjl hx hy hz ha hw rfl) fun D σ H ⟨as, r, h, p, g⟩ => ?_
  unfold exS at g
  rw [evL_three] at g
  refine ⟨as, r, h, p, (g.st (repx := rL) p).mono ?_⟩
  rintro us H1 ⟨as1, h1, vs, e1, p1, rl, ev, g1⟩
  have hl := evL_len ev
  rcases vs with _ | ⟨v, _ | ⟨w, _ | ⟨v3, _ | ⟨z, vs⟩⟩⟩⟩
  · simp at hl
  · simp at hl
  · simp at hl
  · obtain ⟨u, us2, rfl, ru, rl2'⟩ := rl.consE
    obtain ⟨u2, u3, rfl, ru2, ru3⟩ := rl2 rl2'
    simp only [bindT, bindTs] at g1
    exact ⟨u, u2, u3, rfl, g1 as1 H1 _ Ext.refl (((p1.store i ru).store j ru2).store l ru3)⟩
  · simp at hl
theorem st_ret {e : Expr} {d : E} (he : PE X e (rdE T W c d)) : PS X (.Return (some e) pos) (rdS T W c (.ret d)) := by
  refine PS.imp (ps_ret he) fun D σ H ⟨as, r, h, p, g⟩ => ?_
  unfold exS at g
  refine ⟨as, r, h, p, (g.st (repx := rV) p).mono ?_⟩
  rintro u H1 ⟨as1, h1, x, e1, p1, rx, _, g1⟩
  exact g1 as1 H1 u Ext.refl p1.hp rx
theorem st_retN : PS X (.Return none pos) (rdS T W c .retN) := by
  refine PS.imp ps_retN fun D σ H ⟨as, r, h, p, g⟩ => ?_
  unfold exS at g
  exact g as H _ Ext.refl p.hp .non
theorem st_brk : PS X (.Break pos) (rdS T W c .brk) := by
  refine PS.imp ps_break fun D σ H ⟨as, r, h, p, g⟩ => ?_
  unfold exS at g
  exact g as H σ Ext.refl p
theorem st_cnt : PS X (.Continue pos) (rdS T W c .cnt) := by
  refine PS.imp ps_continue fun D σ H ⟨as, r, h, p, g⟩ => ?_
  unfold exS at g
  exact g as H σ Ext.refl p
theorem st_ite {t : Expr} {a b : List Stmt} {d : E} {A B : List S} (ht : PT X t (rdT T W c d)) (ha : PSs X a (rdB T W c A)) (hb : PSs X b (rdB T W c B)) : PS X (.If t a b pos) (rdS T W c (.ite d A B)) := by
  refine PS.imp (ps_if ht ha hb) fun D σ H ⟨as, r, h, p, g⟩ => ?_
  unfold exS at g
  refine ⟨as, r, h, p, (g.st (repx := rB) p).mono ?_⟩
  rintro u H1 ⟨as1, h1, x, e1, p1, rfl, _, g1⟩
  cases x with
  | true => rw [if_pos rfl] at g1 ⊢; exact ⟨as1, r, h1, p1, g1⟩
  | false => rw [if_neg Bool.false_ne_true] at g1 ⊢; exact ⟨as1, r, h1, p1, g1⟩
theorem bs_nil : PSs X [] (rdB T W c []) := by
  refine PSs.imp pss_nil fun D σ H ⟨as, r, h, p, g⟩ => ?_
  unfold exB at g
  exact g.nxt p
theorem bs_cons {s : Stmt} {ss : List Stmt} {a : S} {as' : List S} (h1 : PS X s (rdS T W c a)) (h2 : PSs X ss (rdB T W c as')) : PSs X (s :: ss) (rdB T W c (a :: as')) := by
  refine PSs.imp (pss_cons h1 h2) fun D σ H ⟨as, r, h, p, g⟩ => ?_
  unfold exB at g
  refine ⟨as, r, h, p, ?_⟩
  cases q : exS c a r h with
  | nx r' h' =>
    rw [q] at g
    exact fun as1 H1 σ1 e1 p1 => ⟨as1, r', h', p1, g.ext e1⟩
  | rt v h' => rw [q] at g; exact g
  | bk r' h' => rw [q] at g; exact g
  | ct r' h' => rw [q] at g; exact g
  | ex k vs r' h' => rw [q] at g; exact g
  | no => rw [q] at g; exact g
/-- name op= e, ints -/
def ipA (o : Op) : TIp := fun x y H Q => ∃ i j, x = .int i ∧ y = .int j ∧ ((o = .add ∧ Q (.int (i + j)) H) ∨ (o = .sub ∧ Q (.int (i - j)) H))
theorem ip_aug {X : Cx} (o : Op) (ho : o = .add ∨ o = .sub) : PIp X o.py (ipA o) := by
  intro pins s σ H x y v u Q I r1 r2 h
  obtain ⟨i, j, rfl, rfl, q⟩ := h
  rcases q with ⟨rfl, q⟩ | ⟨rfl, q⟩
  · exact ip_add pins s σ H _ _ v u Q I r1 r2 ⟨i, j, rfl, rfl, q⟩
  · exact ip_sub pins s σ H _ _ v u Q I r1 r2 ⟨i, j, rfl, rfl, q⟩
theorem st_aug {i : Nat} {x : Str} {e : Expr} {d : E} {o : Op} {px : Pos} (hN : X.N.Nodup) (hi : X.N[i]? = some x) (hx : Loc X.env.scope x) (hf : X.fn x = true ∨ X.env.scope.names.lookup x = some .local) (ho : o = .add ∨ o = .sub) (he : PE X e (rdE T W c d)) :
    PS X (.AugAssign (.Name x px) o.py e pos) (rdS T W c (.aug i o d)) := by
  refine PS.imp (ps_aug hN hi hx he (ip_aug o ho) hf) fun D σ H ⟨as, r, h, p, g⟩ => ?_
  unfold exS at g
  split at g
  · rename_i k hk
    obtain ⟨u, hu, ru⟩ := p.env i _ hk
    rw [ru.intE] at hu
    refine ⟨_, hu, as, r, h, p, (g.st (repx := rV) p).mono ?_⟩
    rintro w H1 ⟨as1, h1, y, e1, p1, ry, _, g1⟩
    unfold augop at g1
    rcases ho with rfl | rfl
    · cases y with
      | int j => exact ⟨k, j, rfl, ry.intE, .inl ⟨rfl, g1 as1 H1 _ Ext.refl (p1.store i (.int _))⟩⟩
      | _ => exact g1.elim
    · cases y with
      | int j => exact ⟨k, j, rfl, ry.intE, .inr ⟨rfl, g1 as1 H1 _ Ext.refl (p1.store i (.int _))⟩⟩
      | _ => exact g1.elim
  · exact g.elim
/-- o[i] = v -/
def tSetA : TSet := fun o i v H Q => rSetL o i v H Q ∨ ∃ a H', o = .ref a ∧ DPut H a i v H' ∧ Q H'
theorem set_all (hu : X.A.units + 1 < cLine) : PSet X tSetA := by
  intro pins s σ H o i v ov iv u Q I ro ri rv h
  rcases h with h | ⟨a, H', rfl, g, q⟩
  · exact set_list pins s σ H o i v ov iv u Q I ro ri rv h
  · cases (show ov = Value.ref a from ro)
    exact d_setItem hu I g ri rv fun s' I' => ⟨H', I', q⟩
def notSlice : Expr → Bool
  | .Slice .. => false
  | _ => true
theorem sub_assign {o i : Expr} {tpos : Pos} {env : PySem.Env} (h : notSlice i = true) : ∀ v, assign (.Subscript o i tpos) env v = (do
      let ov ← holding [v] (eval o env)
      let iv ← holding [v, ov] (eval i env)
      standAt tpos
      holding [v, ov, iv] (setItem ov iv v)
      release [v, ov, iv] []) := by
  intro v
  cases i <;> first | rfl | exact absurd h Bool.false_ne_true
theorem plainIx {b : Expr} (h : notSlice b = true) : PlainIx b := by
  intro o i
  cases b <;> first | rfl | exact absurd h Bool.false_ne_true
theorem setop_snd {K : PySem.W.Frag} {as : List Addr} {H : Hp} {σ : L2.St} {r : Env} {h h' : PH} {o i v : PV} {ov iv vv : V} {Q : Hp → Prop} (p : Rp H as r σ h) (ro : RepV H as o ov) (ri : RepV H as i iv) (rv : RepV H as v vv) (e : setop o i v h = some h')
    (q : ∀ H', Ext H as H' as → Rp H' as r σ h' → Q H') : tSetA ov iv vv H Q := by
  unfold setop at e
  cases o with
  | obj n =>
    obtain ⟨a, rfl, qa⟩ := ro.objE
    simp only at e
    split at e
    · rename_i ho
      obtain ⟨j, hj, e⟩ := Option.map_eq_some_iff.mp e
      subst e
      obtain ⟨vs, la, z, _, ma⟩ := p.hp.lst (K := K) ho qa
      rw [ri.intE]
      refine .inl ⟨a, vs, _, j, rfl, rfl, ma rfl, by rw [← la.length]; exact hj, ?_⟩
      have hf : ∀ o u, H a ≠ some (.frz o u) := fun o u z => by rw [ma rfl] at z; cases z
      refine q _ (Ext.write qa hf) (p.to (Ext.write qa hf) (p.hp.write qa hf ⟨_, la.set rv j, by simpa using z, rfl⟩))
    · rename_i ho
      obtain ⟨k, hk, e⟩ := Option.bind_eq_some_iff.mp e
      split at e
      · rename_i hz
        cases e
        obtain ⟨ks, hH, rk⟩ := p.hp.dk ho qa
        rw [toKey_snd ri hk]
        refine .inr ⟨a, _, rfl, .k hH (by rw [← rk.length]; exact hz), ?_⟩
        have hf : ∀ o u, H a ≠ some (.frz o u) := fun o u z => by rw [hH] at z; cases z
        exact q _ (Ext.write qa hf) (p.to (Ext.write qa hf) (p.hp.write qa hf ⟨_, rfl, put_snd rk k rv⟩))
      · cases e
    · rename_i ho
      obtain ⟨k, hk, e⟩ := Option.bind_eq_some_iff.mp e
      split at e
      · rename_i hz
        cases e
        obtain ⟨ks, hH, rk⟩ := p.hp.dt ho qa
        obtain ⟨b, rfl, hb⟩ := toTK_snd ri hk
        refine .inr ⟨a, _, rfl, .t hH hb (by rw [← rk.length]; exact hz), ?_⟩
        have hf : ∀ o u, H a ≠ some (.frz o u) := fun o u z => by rw [hH] at z; cases z
        exact q _ (Ext.write qa hf) (p.to (Ext.write qa hf) (p.hp.write qa hf ⟨_, rfl, put_snd rk k rv⟩))
      · cases e
    · cases e
  | _ => cases e
theorem st_set {o i e : Expr} {O I' d : E} {tpos : Pos} (hu : X.A.units + 65 < cLine) (ho : PE X o (rdE T W c O)) (hi : PE X i (rdE T W c I')) (he : PE X e (rdE T W c d)) (hsl : notSlice i = true) (hs : noComp e = true) :
    PS X (.Assign [.Subscript o i tpos] e pos) (rdS T W c (.set O I' d)) := by
  have hw : swappedStores [.Subscript o i tpos] e X.env = pure none := by cases e <;> rfl
  refine PS.imp (ps_asg he (pg_sub ho hi (set_all (by omega)) (sub_assign hsl)) (swapsS_no hs) hw (each_map rfl)) fun D σ H ⟨as, r, h, p, g⟩ => ?_
  unfold exS at g
  refine ⟨as, r, h, p, (g.st (repx := rV) p).mono ?_⟩
  rintro u H1 ⟨as1, h1, v, e1, p1, rv, _, g1⟩
  refine ⟨as1, r, h1, p1, (g1.st (repx := rV) p1).mono ?_⟩
  rintro u2 H2 ⟨as2, h2, x, e2, p2, rx, _, g2⟩
  refine ⟨as2, r, h2, p2, (g2.st (repx := rV) p2).mono ?_⟩
  rintro u3 H3 ⟨as3, h3, y, e3, p3, ry, _, g3⟩
  cases hq : setop x y v h3 with
  | none => rw [hq] at g3; exact g3.elim
  | some h' =>
    rw [hq] at g3
    exact setop_snd (K := X.K) p3 (rx.ext p2.hp e3) ry (rv.ext p1.hp (e2.trans e3)) hq fun H' e' p' => g3 as3 H' σ e' p'
end

/-! ### loops -/
section
variable {X : Cx} {T : XTab} {W : WX} {c : Cc} {pos : Pos}
theorem st_whl {t : Expr} {b : List Stmt} {d : E} {B : List S} (hp : PassesOwn (model X.prog X.w) X.A X.env X.xe) (ht : PT X t (rdT T W c d)) (hb : PSs X b (rdB T W c B)) : PS X (.While t b [] pos) (rdS T W c (.whl d B)) := by
  refine PS.imp (ps_while hp ht hb) fun D σ H ⟨as, r, h, p, g⟩ => ?_
  unfold exS at g
  refine ⟨fun m σ H => ∃ as r h, Rp H as r σ h ∧ gotS T W (loopW (fun r h => match tst (evE c d r h) with
      | .ok true h1 => match exB c B r h1 with
        | .nx r' h' => Lp.go r' h'
        | .ct r' h' => .go r' h'
        | .bk r' h' => .out (.nx r' h')
        | z => .out z
      | .ok false h1 => .out (.nx r h1)
      | .ex k vs h1 => .out (.ex k vs r h1)
      | .no => .out .no) .no m r h) as H D, ⟨c.fuel, as, r, h, p, g⟩, ?_⟩
  rintro m σ H ⟨as, r, h, p, g⟩
  cases m with
  | zero => unfold loopW at g; exact g.elim
  | succ m =>
    unfold loopW at g
    refine ⟨as, r, h, p, ?_⟩
    cases q : tst (evE c d r h) with
    | ok v h1 =>
      intro as1 H1 u e1 rh ru
      cases ru
      rw [q] at g
      cases v with
      | true =>
        rw [if_pos rfl]
        refine ⟨fun σ' H' => ∃ as r h, Rp H' as r σ' h ∧ gotS T W (loopW (fun r h => match tst (evE c d r h) with
          | .ok true h1 => match exB c B r h1 with
            | .nx r' h' => Lp.go r' h'
            | .ct r' h' => .go r' h'
            | .bk r' h' => .out (.nx r' h')
            | z => .out z
          | .ok false h1 => .out (.nx r h1)
          | .ex k vs h1 => .out (.ex k vs r h1)
          | .no => .out .no) .no m r h) as H' D, fun σ' H' n => ⟨m, Nat.lt_succ_self m, n⟩, as1, r, h1, p.to e1 rh, ?_⟩
        cases q2 : exB c B r h1 with
        | nx r' h' => simp only [q2] at g; exact fun as' H' σ' e p' => ⟨as', r', h', p', (g.ext e1).ext e⟩
        | rt v h' => simp only [q2] at g; exact g.ext e1
        | bk r' h' => simp only [q2] at g; exact fun as' H' σ' e p' => ((g.ext e1).ext e).nxt p'
        | ct r' h' => simp only [q2] at g; exact fun as' H' σ' e p' => ⟨as', r', h', p', (g.ext e1).ext e⟩
        | ex c vs r' h' => simp only [q2] at g; exact g.ext e1
        | no => simp only [q2] at g; exact g.elim
      | false =>
        rw [if_neg Bool.false_ne_true]
        exact g as1 H1 σ e1 (p.to e1 rh)
    | ex k vs h1 =>
      rw [q] at g
      exact fun as' H' cls d e rh rx => g as' H' σ cls d e (p.to e rh) rx
    | no => rw [q] at g; exact g
theorem st_for {tg it : Expr} {b : List Stmt} {t : Tg} {d : E} {B : List S} (hp : PassesOwn (model X.prog X.w) X.A X.env X.xe) (hc : X.calm = true) (hi : L2.PI X tg it (rdI T W c d)) (hg : L2.PG X tg (rdG t)) (hb : PSs X b (rdB T W c B))
    (hs : ∀ x, foldedSetIterable it X.env x = pure x) : PS X (.For tg it b [] pos) (rdS T W c (.forS t d B)) := by
  refine PS.imp (ps_for hp hc hi hg hb hs) fun D σ H ⟨as, r, h, p, g⟩ => ?_
  unfold exS at g
  refine ⟨as, r, h, p, (g.st (repx := rJ) p).mono ?_⟩
  rintro J H0 ⟨as0, h0, w, e0, p0, jr, _, g0⟩
  refine ⟨fun i m σ H => ∃ as r h, Ext H0 as0 H as ∧ Rp H as r σ h ∧ gotS T W (loopIt w (fun x r h => match bindT t x r with
      | none => .out .no
      | some r1 => match exB c B r1 h with
        | .nx r' h' => Lp.go r' h'
        | .ct r' h' => .go r' h'
        | .bk r' h' => .out (.nx r' h')
        | z => .out z) (fun r h => .nx r h) .no m i r h) as H D, ⟨c.fuel, as0, r, h0, Ext.refl, p0, g0⟩, ?_⟩
  rintro i m σ H ⟨as, r, h, e, p, g⟩
  cases m with
  | zero => unfold loopIt at g; exact g.elim
  | succ m =>
    unfold loopIt at g
    have jq := jr i as H h e p.hp
    cases q : itAt w i h with
    | none => rw [q] at g; exact g.elim
    | some o =>
      rw [q] at g jq
      cases o with
      | none => exact .inl ⟨jq, g.nxt p⟩
      | some x =>
        obtain ⟨jg, jy⟩ := jq
        refine .inr ⟨jg, fun σ' H' => ∃ as r h, Ext H0 as0 H' as ∧ Rp H' as r σ' h ∧ gotS T W (loopIt w (fun x r h => match bindT t x r with
          | none => .out .no
          | some r1 => match exB c B r1 h with
            | .nx r' h' => Lp.go r' h'
            | .ct r' h' => .go r' h'
            | .bk r' h' => .out (.nx r' h')
            | z => .out z) (fun r h => .nx r h) .no m (i + 1) r h) as H' D, fun σ' H' n => ⟨m, Nat.lt_succ_self m, n⟩, fun v H1 y => ?_⟩
        obtain ⟨e1, rh1, rv⟩ := jy v H1 y
        have p1 := p.to e1 rh1
        refine ⟨as, r, h, x, p1, rv, ?_⟩
        simp only at g
        cases hb : bindT t x r with
        | none => rw [hb] at g; exact g
        | some r1 =>
          rw [hb] at g
          intro σ' p2
          refine ⟨as, r1, h, p2, ?_⟩
          cases q2 : exB c B r1 h with
          | nx r' h' => simp only [q2] at g; exact fun as' H' σ' e2 p' => ⟨as', r', h', (e.trans e1).trans e2, p', (g.ext e1).ext e2⟩
          | rt v h' => simp only [q2] at g; exact g.ext e1
          | bk r' h' => simp only [q2] at g; exact fun as' H' σ' e2 p' => ((g.ext e1).ext e2).nxt p'
          | ct r' h' => simp only [q2] at g; exact fun as' H' σ' e2 p' => ⟨as', r', h', (e.trans e1).trans e2, p', (g.ext e1).ext e2⟩
          | ex c vs r' h' => simp only [q2] at g; exact g.ext e1
          | no => simp only [q2] at g; exact g.elim
end
end EV
end
section
set_option Elab.async false
set_option linter.all false
set_option maxRecDepth 100000
/-! EvSnd9: comprehensions. -/
namespace EV
open PySem L2

section
variable {K : PySem.W.Frag} {H H1 H2 : Hp} {as as1 : List Addr} {h : PH} {p : Addr} {o : HO}
theorem Ext.own (e : Ext H as H1 as1) (hp : H p = none) : Ext H as H1 (as1 ++ [p]) := by
  obtain ⟨⟨nw, x, f⟩, k, t, z⟩ := e
  refine ⟨⟨nw ++ [p], by rw [x, List.append_assoc], fun a ha => ?_⟩, k, t, z⟩
  rcases List.mem_append.mp ha with z | z
  · exact f a z
  · rw [List.mem_singleton.mp z]; exact hp
theorem Ext.over (e : Ext H as H1 as1) (hp : H p = none) : Ext H as (upd H1 p o) as1 := by
  obtain ⟨m, k, t, z⟩ := e
  refine ⟨m, fun a u q hn => ?_, fun a u q => ?_, fun a oo u q => by rw [upd_ne (ne_of_none q hp)]; exact z a oo u q⟩
  · rw [upd_ne (ne_of_none q hp)]; exact k a u q hn
  · by_cases ha : a = p
    · subst ha; exact ⟨_, upd_same⟩
    · rw [upd_ne ha]; exact t a u q
theorem RepH.side (r : RepH H as h) (np : ∀ vs, H p ≠ some (.tup vs)) (hn : p ∉ as) : RepH (upd H p o) as h := by
  refine ⟨r.len, r.nd, fun n u a q qa => ?_⟩
  obtain ⟨ho, e1, ro1⟩ := r.at_ n u a q qa
  have := ro1.adopt (o := o) (nw := []) np
  rw [List.append_nil] at this
  exact ⟨ho, by rw [upd_ne (fun z => hn (by rw [← z]; exact List.mem_of_getElem? qa))]; exact e1, this⟩
theorem RepV.side {x : PV} {v : V} (r : RepV H as x v) (np : ∀ vs, H p ≠ some (.tup vs)) : RepV (upd H p o) as x v := by
  have := r.adopt (o := o) (nw := []) np
  rw [List.append_nil] at this
  exact this
theorem RepL.side {x : List PV} {v : List V} (r : RepL H as x v) (np : ∀ vs, H p ≠ some (.tup vs)) : RepL (upd H p o) as x v := by
  have := r.adopt (o := o) (nw := []) np
  rw [List.append_nil] at this
  exact this
theorem upd_id (e : H p = some o) : upd H p o = H := by
  funext a
  by_cases ha : a = p
  · subst ha; rw [upd_same, e]
  · rw [upd_ne ha]
/-- a list beside becomes one's own -/
theorem RepH.take_in (r : RepH H as h) (e : H p = some o) (np : ∀ vs, H p ≠ some (.tup vs)) (hn : p ∉ as) {po : PO} (ro : RepO H as po o) : RepH H (as ++ [p]) (h ++ [po]) := by
  have := r.adopt (o := o) np hn ro
  rw [upd_id e] at this
  exact this
theorem lst_np {vs : List V} (e : H p = some (.lst vs)) : ∀ us, H p ≠ some (.tup us) := fun us z => by rw [e] at z; cases z
end

theorem wipe_at {σ : L2.St} {i : Nat} : ∀ {vs : List Nat}, i ∈ vs → (wipe σ vs)[i]? = if i < σ.length then some none else none
  | v :: vs, h => by
    unfold wipe
    by_cases hv : v = i
    · subst hv
      by_cases hl : v < (wipe σ vs).length
      · rw [List.getElem?_set_self hl, if_pos (by rw [wipe_length] at hl; exact hl)]
      · rw [List.getElem?_eq_none (by simpa using hl), if_neg (by rw [wipe_length] at hl; exact hl)]
    · rw [List.getElem?_set_ne hv]
      rcases List.mem_cons.mp h with z | z
      · exact absurd z.symm hv
      · exact wipe_at z
theorem wipe_fr {σ σ2 : L2.St} {vs ws : List Nat} (f : Fr ws (wipe σ vs) σ2) (hs : ∀ i ∈ ws, i ∈ vs) : wipe σ2 vs = wipe σ vs := by
  apply List.ext_getElem?
  intro i
  by_cases hi : i ∈ vs
  · rw [wipe_at hi, wipe_at hi, f.1, wipe_length]
  · rw [wipe_out hi, f.2 i (fun z => hi (hs i z))]
theorem wipeP_length (r : Env) : ∀ vs : List Nat, (wipeP r vs).length = r.length
  | [] => rfl
  | v :: vs => by unfold wipeP; rw [List.length_set, wipeP_length r vs]
theorem wipeP_some {r : Env} {i : Nat} {x : PV} : ∀ {vs : List Nat}, (wipeP r vs)[i]? = some (some x) → r[i]? = some (some x) ∧ i ∉ vs
  | [], h => ⟨h, by simp⟩
  | v :: vs, h => by
    unfold wipeP at h
    by_cases hi : v = i
    · subst hi
      by_cases hv : v < (wipeP r vs).length
      · rw [List.getElem?_set_self hv] at h; cases h
      · rw [List.getElem?_eq_none (by simpa using hv)] at h; cases h
    · rw [List.getElem?_set_ne hi] at h
      obtain ⟨h1, h2⟩ := wipeP_some h
      exact ⟨h1, by simp only [List.mem_cons, not_or]; exact ⟨fun e => hi e.symm, h2⟩⟩
theorem Rp.wiped {H : Hp} {as : List Addr} {r : Env} {σ : L2.St} {h : PH} (p : Rp H as r σ h) (vs : List Nat) : Rp H as (wipeP r vs) (wipe σ vs) h := by
  refine ⟨by rw [wipe_length, wipeP_length, p.len], fun i v e => ?_, p.hp⟩
  obtain ⟨e1, e2⟩ := wipeP_some e
  obtain ⟨u, hu, ru⟩ := p.env i v e1
  exact ⟨u, by rw [wipe_out e2]; exact hu, ru⟩

abbrev W0 : WX := fun _ _ _ _ => False
section
variable {T : XTab} {W : WX} {c : Cc} {σ : L2.St} {r : Env} {γ δ : Type}
/-- the loop of a comprehension -/
theorem lc_snd {w : EV.It} {J : L2.It} {H1 H0 : Hp} {as1 as0 : List Addr} {h1 : PH} {t : Tg} {own : List Nat} {dC dE : E} {f : List PV → PH → Rs γ} {rep : List Addr → Hp → γ → δ → Prop} {Q : δ → Hp → Prop} {Q0 : Hp → Prop} {D : Addr}
    (jr : JRep w H1 as1 J) (p : Rp H1 as1 r σ h1) (hD : H1 D = none) (hs : ∀ i ∈ tgS t, i ∈ own)
    (g : gotR T W ((loopIt w (compStep t own r (fun r h => evE c dC r h) (fun r h => evE c dE r h)) (fun acc h => Rs.ok acc h) .no c.fuel 0 [] h1).bnd f) as0 H0 σ rep Q)
    (fin : ∀ as H h acc av, Ext H1 as1 H as → RepH H as h → D ∉ as → H D = some (.lst av) → RepL H as acc av → acc.length ≤ sizeLine → gotR T W (f acc h) as0 H0 σ rep Q → Q0 H) :
    ∃ Wf : Nat → Nat → Hp → Prop, (∃ m, Wf 0 m (upd H1 D (.lst []))) ∧ ∀ i m H, Wf i m H →
      (J.stop i H ∧ Q0 H) ∨ (J.go i H ∧ ∃ Nx : Hp → Prop, (∀ H', Nx H' → ∃ m', m' < m ∧ Wf (i + 1) m' H') ∧ ∀ x H', J.yld i H x H' → rdGk t x (wipe σ own) H' fun σ2 H2 => wipe σ2 own = wipe σ own ∧ rdT T W0 c dC σ2 H2 fun b H3 =>
        if b = true then rdE T W0 c dE σ2 H3 fun y H4 => ∃ acc, H4 D = some (.lst acc) ∧ acc.length < sizeLine ∧ Nx (upd H4 D (.lst (acc ++ [y]))) else Nx H3) := by
  have nD : D ∉ as1 := fun hm => by
    obtain ⟨o, q⟩ := p.hp.there hm
    rw [hD] at q; cases q
  let Inv2 : Nat → Nat → Hp → Prop := fun i m H => ∃ as h acc av, Ext H1 as1 H as ∧ RepH H as h ∧ D ∉ as ∧ H D = some (.lst av) ∧ RepL H as acc av ∧ acc.length ≤ sizeLine ∧
    gotR T W ((loopIt w (compStep t own r (fun r h => evE c dC r h) (fun r h => evE c dE r h)) (fun acc h => Rs.ok acc h) .no m i acc h).bnd f) as0 H0 σ rep Q
  refine ⟨Inv2, ⟨c.fuel, as1, h1, [], [], Ext.refl.over hD, p.hp.beside hD, nD, upd_same, .nil, Nat.zero_le _, g⟩, ?_⟩
  rintro i m H ⟨as, h, acc, av, e, rh, nd, qd, la, hz, g⟩
  cases m with
  | zero => unfold loopIt at g; exact g.elim
  | succ m =>
    unfold loopIt at g
    have jq := jr i as H h e rh
    cases q : itAt w i h with
    | none => rw [q] at g; exact g.elim
    | some o =>
      rw [q] at g jq
      cases o with
      | none => exact .inl ⟨jq, fin as H h acc av e rh nd qd la hz g⟩
      | some x =>
        obtain ⟨jg, jy⟩ := jq
        refine .inr ⟨jg, Inv2 (i + 1) m, fun H' n => ⟨m, Nat.lt_succ_self m, n⟩, fun v H' y => ?_⟩
        obtain ⟨e', rh', rv⟩ := jy v H' y
        have qd' : H' D = some (.lst av) := e'.keep _ _ qd nd
        have la' := la.ext rh e'
        have p' : Rp H' as r σ h := p.to (e.trans e') rh'
        refine ⟨as, wipeP r own, h, x, p'.wiped own, rv, ?_⟩
        simp only [compStep] at g
        cases hb : bindT t x (wipeP r own) with
        | none => rw [hb] at g; exact g
        | some r1 =>
          simp only [hb] at g
          intro σ2 p2 fr
          refine ⟨wipe_fr fr hs, as, r1, h, p2, ?_⟩
          cases hc : tst (evE c dC r1 h) with
          | no => simp only [hc] at g; exact g
          | ex k vs h2 => simp only [hc] at g; exact g.elim
          | ok b h2 =>
            simp only [hc] at g
            intro as3 H3 b' e3 rh3 eb
            cases eb
            have nd3 : D ∉ as3 := fun hm => by
              obtain ⟨⟨nw, z, fz⟩, _, _⟩ := e3
              rw [z] at hm
              rcases List.mem_append.mp hm with z | z
              · exact nd z
              · rw [fz D z] at qd'; cases qd'
            have qd3 : H3 D = some (.lst av) := e3.keep _ _ qd' nd
            have la3 := la'.ext rh' e3
            cases b with
            | false =>
              rw [if_neg Bool.false_ne_true]
              exact ⟨as3, h2, acc, av, (e.trans e').trans e3, rh3, nd3, qd3, la3, hz, g⟩
            | true =>
              rw [if_pos rfl]
              refine ⟨as3, r1, h2, p2.to e3 rh3, ?_⟩
              cases he : evE c dE r1 h2 with
              | no => simp only [he] at g; exact g
              | ex k vs h3 => simp only [he] at g; exact g.elim
              | ok y h3 =>
                simp only [he] at g
                intro as4 H4 u e4 rh4 ru
                have nd4 : D ∉ as4 := fun hm => by
                  obtain ⟨⟨nw, z, fz⟩, _, _⟩ := e4
                  rw [z] at hm
                  rcases List.mem_append.mp hm with z | z
                  · exact nd3 z
                  · rw [fz D z] at qd3; cases qd3
                have qd4 : H4 D = some (.lst av) := e4.keep _ _ qd3 nd3
                have la4 := la3.ext rh3 e4
                by_cases hl : acc.length < sizeLine
                · rw [if_pos hl] at g
                  have np := lst_np qd4
                  refine ⟨av, qd4, by rw [← la4.length]; exact hl, as4, h3, acc ++ [y], av ++ [u], (((e.trans e').trans e3).trans e4).over hD, rh4.side np nd4, nd4, upd_same, (la4.side np).append (.cons (ru.side np) .nil), by simp; exact hl, g⟩
                · rw [if_neg hl] at g; exact g.elim
end
end EV
end
section
set_option Elab.async false
set_option linter.all false
set_option maxRecDepth 100000
/-! EvSndA: comprehensions as values, consumers. -/
namespace EV
open PySem L2

/-! ### sources -/
inductive SrcW (H : Hp) (as : List Addr) : EV.It → V → Prop
  | live {n : Nat} {a : Addr} : as[n]? = some a → SrcW H as (.live n) (.ref a)
  | tup {xs : List PV} {vs : List V} {a : Addr} : H a = some (.tup vs) → RepL H as xs vs → SrcW H as (.tvs xs) (.ref a)
  | lst {xs : List PV} {vs : List V} {a : Addr} : H a = some (.lst vs) → RepL H as xs vs → xs.length ≤ sizeLine → SrcW H as (.vals xs) (.ref a)
  | keys {kvs : List (Key × V)} {a : Addr} : H a = some (.dK kvs) → SrcW H as (.keys (kvs.map (·.1))) (.ref a)
abbrev rW : List Addr → Hp → EV.It → V → Prop := fun as H w u => SrcW H as w u
def rdW (T : XTab) (W : WX) (c : Cc) (d : E) : TE := fun σ H Q => ∃ as r h, Rp H as r σ h ∧ gotR T W (evI c d r h) as H σ rW Q

theorem paired_fst {κ : Type} {H : Hp} {as : List Addr} : ∀ {kvs : List (κ × PV)} {ks : List (κ × V)}, RepKV H as kvs ks → kvs.map (·.1) = ks.map (·.1)
  | _, _, .nil => rfl
  | _, _, .cons a b => by rw [List.map_cons, List.map_cons, a.1, paired_fst b]
section
variable {X : Cx} {T : XTab} {W : WX} {c : Cc} {pos p : Pos}
theorem w_its {e : Expr} {d : E} (he : PE X e (rdE T W c d)) : PE X e (rdW T W c (.its d)) := by
  refine PE.imp he fun σ H Q ⟨as, r, h, p, g⟩ => ?_
  unfold evI at g
  refine ⟨as, r, h, p, (g.bnd (repx := rV) p).mono ?_⟩
  rintro u H1 ⟨as1, h1, x, e1, p1, rx, _, g1⟩
  cases x with
  | tup xs =>
    obtain ⟨a, vs, rfl, q, l⟩ := rx.tupE
    exact g1.ok p1.hp (.tup q l)
  | obj n =>
    obtain ⟨a, rfl, qa⟩ := rx.objE
    unfold toItC at g1
    cases ho : h1[n]? with
    | none => simp only [ho] at g1; exact g1.elim
    | some o =>
      cases o with
      | lst fz xs => simp only [ho] at g1; exact g1.ok p1.hp (.live qa)
      | dK kvs =>
        simp only [ho] at g1
        obtain ⟨ks, e, rk⟩ := p1.hp.dk ho qa
        exact g1.ok p1.hp (by rw [paired_fst rk]; exact .keys e)
      | dT kvs => simp only [ho] at g1; exact g1.elim
      | lkd kvs => simp only [ho] at g1; exact g1.elim
  | _ => exact g1.elim
/-- the condition of a comprehension -/
theorem c_nil {X : Cx} {T : XTab} {c : Cc} : PTs X [] (rdT T EV.W0 c (.cst (.bl true))) := by
  refine ⟨fun pins s σ H Q I ⟨as, r, h, p, g⟩ => pts_nil.run pins s σ H Q I ?_⟩
  unfold evE at g
  exact g as H true Ext.refl p.hp rfl
theorem c_one {X : Cx} {T : XTab} {c : Cc} {e : Expr} {d : E} (h : PT X e (rdT T EV.W0 c d)) : PTs X [e] (rdT T EV.W0 c d) := pts_one h
section
variable {elt tg iter : Expr} {ifs : List Expr} {scope : Scope} {own : List (Str × Nat)} {dE dI dC : E} {t : Tg}
/-- the reading behind a comprehension -/
theorem lc_read {γ δ : Type} {as : List Addr} {H : Hp} {σ : L2.St} {r : Env} {h : PH} {vs : List Nat} {f : List PV → PH → Rs γ} {rep : List Addr → Hp → γ → δ → Prop} {Q : δ → Hp → Prop} {Q0 : VK} (hs : ∀ i ∈ tgS t, i ∈ vs) (p : Rp H as r σ h)
    (g : gotR T W ((evI c dI r h).bnd fun w h => (loopIt w (compStep t vs r (fun r h => evE c dC r h) (fun r h => evE c dE r h)) (fun acc h => Rs.ok acc h) .no c.fuel 0 [] h).bnd f) as H σ rep Q)
    (fin : ∀ as1 H1 h1 as H h acc av D, Rp H1 as1 r σ h1 → H1 D = none → Ext H1 as1 H as → RepH H as h → D ∉ as → H D = some (.lst av) → RepL H as acc av → acc.length ≤ sizeLine → gotR T W (f acc h) as1 H1 σ rep Q → Q0 (.ref D) H) :
    tLc (rdI T W c dI) (rdGk t) (rdT T EV.W0 c dC) (rdE T EV.W0 c dE) vs σ H Q0 := by
  refine ⟨as, r, h, p, (g.bnd (repx := rJ) p).mono ?_⟩
  rintro J H1 ⟨as1, h1, w, e1, p1, jr, _, g1⟩ D hD
  exact lc_snd jr p1 hD hs g1 fun as H h acc av e rh nd qd la hz g => fin as1 H1 h1 as H h acc av D p1 hD e rh nd qd la hz g
theorem lc_w (hs : ∀ i ∈ tgS t, i ∈ own.map (·.2)) {σ : L2.St} {H : Hp} {Q : VK} (q : rdW T W c (.itc dE t dI dC (own.map (·.2))) σ H Q) : tLc (rdI T W c dI) (rdGk t) (rdT T EV.W0 c dC) (rdE T EV.W0 c dE) (own.map (·.2)) σ H Q := by
  obtain ⟨as, r, h, p, g⟩ := q
  unfold evI at g
  refine lc_read hs p g fun as1 H1 h1 as H h acc av D p1 hD e rh nd qd la hz g => ?_
  exact g as H _ e rh (.lst qd la hz)
theorem lc_e (hs : ∀ i ∈ tgS t, i ∈ own.map (·.2)) {σ : L2.St} {H : Hp} {Q : VK} (q : rdE T W c (.comp dE t dI dC (own.map (·.2))) σ H Q) : tLc (rdI T W c dI) (rdGk t) (rdT T EV.W0 c dC) (rdE T EV.W0 c dE) (own.map (·.2)) σ H Q := by
  obtain ⟨as, r, h, p, g⟩ := q
  unfold evE at g
  unfold newList at g
  refine lc_read hs p g fun as1 H1 h1 as H h acc av D p1 hD e rh nd qd la hz g => ?_
  have rh2 : RepH H (as ++ [D]) (h ++ [.lst false acc]) := rh.take_in qd (lst_np qd) nd ⟨av, la, hz, rfl⟩
  have : RepV H (as ++ [D]) (.obj h.length) (.ref D) := .obj (by rw [← rh.len, List.getElem?_append_right (Nat.le_refl _)]; simp)
  exact g _ H _ (e.own hD) rh2 this
/-- a comprehension as a value; as what is handed on -/
theorem s_lc (hc : X.calm = true) (hN : X.N.Nodup) (hi : L2.PI X tg iter (rdI T W c dI)) (ok : BlkOk X.N X.env.scope scope own) (hs : ∀ i ∈ tgS t, i ∈ own.map (·.2))
    (hg : ∀ (s : Shared) (H : Hp) (C : Addr) (cl : List (Str × Addr)) (fp : List Addr), L2.PG (X.blk s H scope (compEnvC scope cl C X.env) fp) tg (rdGk t)) (ht : ∀ (s : Shared) (H : Hp) (C : Addr) (cl : List (Str × Addr)) (fp : List Addr), PTs (X.blk s H scope (compEnvC scope cl C X.env) fp) ifs (rdT T EV.W0 c dC))
    (he : ∀ (s : Shared) (H : Hp) (C : Addr) (cl : List (Str × Addr)) (fp : List Addr), PE (X.blk s H scope (compEnvC scope cl C X.env) fp) elt (rdE T EV.W0 c dE)) (hf : ∀ x, foldedSetIterable iter X.env x = pure x) :
    PE X (.ListComp elt [⟨tg, iter, ifs, 0⟩] scope pos) (rdE T W c (.comp dE t dI dC (own.map (·.2)))) :=
  PE.imp (pe_lc hc hN hi ok hg ht he hf) fun σ H Q q => lc_e hs q
theorem w_lc (hc : X.calm = true) (hN : X.N.Nodup) (hi : L2.PI X tg iter (rdI T W c dI)) (ok : BlkOk X.N X.env.scope scope own) (hs : ∀ i ∈ tgS t, i ∈ own.map (·.2))
    (hg : ∀ (s : Shared) (H : Hp) (C : Addr) (cl : List (Str × Addr)) (fp : List Addr), L2.PG (X.blk s H scope (compEnvC scope cl C X.env) fp) tg (rdGk t)) (ht : ∀ (s : Shared) (H : Hp) (C : Addr) (cl : List (Str × Addr)) (fp : List Addr), PTs (X.blk s H scope (compEnvC scope cl C X.env) fp) ifs (rdT T EV.W0 c dC))
    (he : ∀ (s : Shared) (H : Hp) (C : Addr) (cl : List (Str × Addr)) (fp : List Addr), PE (X.blk s H scope (compEnvC scope cl C X.env) fp) elt (rdE T EV.W0 c dE)) (hf : ∀ x, foldedSetIterable iter X.env x = pure x) :
    PE X (.ListComp elt [⟨tg, iter, ifs, 0⟩] scope pos) (rdW T W c (.itc dE t dI dC (own.map (·.2)))) :=
  PE.imp (pe_lc hc hN hi ok hg ht he hf) fun σ H Q q => lc_w hs q
/-- name = [..] on one line -/
theorem st_lc {i : Nat} {y : Str} {py spos : Pos} (hc : X.calm = true) (hN : X.N.Nodup) (hy : X.N[i]? = some y) (hyl : X.env.scope.names.lookup y = some .local)
    (hsw : swapsWith (.ListComp elt [⟨tg, iter, ifs, 0⟩] scope pos) (some (.Name y py)) spos.line X.env = pure true) (hi : L2.PI X tg iter (rdI T W c dI)) (ok : BlkOk X.N X.env.scope scope own) (hs : ∀ i ∈ tgS t, i ∈ own.map (·.2))
    (hg : ∀ (s : Shared) (H : Hp) (C : Addr) (cl : List (Str × Addr)) (fp : List Addr), L2.PG (X.blk s H scope (compEnvC scope cl C X.env) fp) tg (rdGk t)) (ht : ∀ (s : Shared) (H : Hp) (C : Addr) (cl : List (Str × Addr)) (fp : List Addr), PTs (X.blk s H scope (compEnvC scope cl C X.env) fp) ifs (rdT T EV.W0 c dC))
    (he : ∀ (s : Shared) (H : Hp) (C : Addr) (cl : List (Str × Addr)) (fp : List Addr), PE (X.blk s H scope (compEnvC scope cl C X.env) fp) elt (rdE T EV.W0 c dE)) (hf : ∀ x, foldedSetIterable iter X.env x = pure x) :
    PS X (.Assign [.Name y py] (.ListComp elt [⟨tg, iter, ifs, 0⟩] scope pos) spos) (rdS T W c (.asg (.nm i) (.comp dE t dI dC (own.map (·.2))))) := by
  refine PS.imp (ps_setLc hc hN hy hyl hsw hi ok hg ht he hf) fun D σ H ⟨as, r, h, p, g⟩ => ?_
  unfold exS at g
  refine lc_e hs ⟨as, r, h, p, (g.st (repx := rV) p).mono ?_⟩
  rintro u H1 ⟨as1, h1, x, e1, p1, rx, _, g1⟩
  unfold bindT at g1
  exact g1 as1 H1 _ Ext.refl (p1.store i rx)
end

/-! ### walking a dict -/
section
variable {X : Cx} {T : XTab} {W : WX} {c : Cc} {pos p : Pos}
variable {elt tg iter : Expr} {ifs : List Expr} {scope : Scope} {own : List (Str × Nat)} {dE dC : E} {t : Tg} {n : Nat}
theorem jrep_keys {H : Hp} {as : List Addr} {a : Addr} {od : Obj} {kk : List (Key × V)} (e : H a = some (.frz od (.dK kk))) : JRep (.keys (kk.map (·.1))) H as (Itk a od kk) := by
  intro i as' H' h' ex rh
  have e' : H' a = some (.frz od (.dK kk)) := ex.fz _ _ _ e
  unfold itAt
  rw [List.getElem?_map]
  cases hx : kk[i]? with
  | none => exact ⟨e', by simpa using hx⟩
  | some kv =>
    have hl := (List.getElem?_eq_some_iff.mp hx).1
    refine ⟨⟨e', hl⟩, fun v H'' y => ?_⟩
    obtain ⟨rfl, k, v', hk, rfl⟩ := y
    rw [hx] at hk
    cases hk
    refine ⟨Ext.refl, rh, ?_⟩
    show RepV _ _ (ofKey k) (kV k)
    cases k with
    | inl i => exact .int _
    | inr s => exact .str _
theorem lc_d {i : Nat} (hs : ∀ i ∈ tgS t, i ∈ own.map (·.2)) {σ : L2.St} {H : Hp} {Q : VK} (q : rdE T W c (.compD dE t i dC (own.map (·.2))) σ H Q) :
    tLockE (tLc (iKeys (rdE T W c (.var i))) (rdGk t) (rdT T EV.W0 c dC) (rdE T EV.W0 c dE) (own.map (·.2))) σ H Q := by
  obtain ⟨as, r, h, p, g⟩ := q
  unfold evE at g
  split at g
  · rename_i m hv
    obtain ⟨u, hu, ru⟩ := p.env i _ hv
    obtain ⟨a, rfl, qa⟩ := ru.objE
    split at g
    · rename_i ks h1 hlk
      unfold lockD at hlk
      split at hlk
      · rename_i kvs ho
        cases hlk
        obtain ⟨kk, hH, rk⟩ := p.hp.dk ho qa
        have hf : ∀ o u, H a ≠ some (.frz o u) := fun o u z => by rw [hH] at z; cases z
        refine ⟨a, .dK kk, hH, True.intro, fun od => ?_⟩
        have e1 : Ext H as (upd H a (.frz od (.dK kk))) as := Ext.write qa hf
        have p1 : Rp (upd H a (.frz od (.dK kk))) as r σ (h.set m (.lkd kvs)) := p.to e1 (p.hp.write qa hf ⟨kk, od, rfl, rk⟩)
        refine ⟨as, r, h.set m (.lkd kvs), p1, ?_⟩
        have ev : evE c (.var i) r (h.set m (.lkd kvs)) = .ok (.obj m) (h.set m (.lkd kvs)) := by
          unfold evE
          rw [hv]
        rw [ev]
        intro as2 H2 u2 e2 rh2 ru2
        obtain ⟨a2, rfl, qa2⟩ := ru2.objE
        have ea : a2 = a := by
          have := e2.get qa
          rw [qa2] at this
          exact Option.some.inj this
        subst ea
        have hz2 : H2 a2 = some (.frz od (.dK kk)) := e2.fz _ _ _ upd_same
        refine ⟨a2, od, rfl, .inl ⟨kk, hz2, fun D hD => ?_⟩⟩
        have hks : kvs.map (·.1) = kk.map (·.1) := paired_fst rk
        rw [hks] at g
        unfold newListD at g
        refine lc_snd (jrep_keys hz2) (p1.to e2 rh2) hD hs g fun as3 H3 h3 acc av e3 rh3 nd3 qd3 la3 hz3 g3 => ?_
        have hz : H3 a2 = some (.frz od (.dK kk)) := e3.fz _ _ _ hz2
        refine ⟨hz, ?_⟩
        have qa3 : as3[m]? = some a2 := e3.get qa2
        cases ul : unlockD m h3 with
        | none => rw [ul] at g3; exact g3.elim
        | some h4 =>
          rw [ul] at g3
          unfold unlockD at ul
          split at ul
          · rename_i kvs3 ho3
            cases ul
            obtain ⟨kk3, od3, hH3, rk3⟩ := rh3.lk ho3 qa3
            rw [hz] at hH3
            cases hH3
            have nda : D ≠ a2 := fun z => by rw [z, hz] at qd3; cases qd3
            -- the heap with the dict free again
            have e13 : Ext (upd H a2 (.frz od (.dK kk))) as H3 as3 := e2.trans e3
            have eF : Ext H as (upd H3 a2 (.dK kk)) as3 := by
              obtain ⟨⟨nw, x, f⟩, k, tt, fz⟩ := e13
              refine ⟨⟨nw, x, fun b hb => ?_⟩, fun b o q hn => ?_, fun b o q => ?_, fun b o u q => ?_⟩
              · have := f b hb
                by_cases hba : b = a2
                · subst hba; rw [upd_same] at this; cases this
                · rwa [upd_ne hba] at this
              · have hba : b ≠ a2 := fun z => hn (by rw [z]; exact List.mem_of_getElem? qa)
                rw [upd_ne hba]
                exact k b o (by rw [upd_ne hba]; exact q) hn
              · by_cases hba : b = a2
                · subst hba; exact ⟨_, upd_same⟩
                · rw [upd_ne hba]
                  exact tt b o (by rw [upd_ne hba]; exact q)
              · have hba : b ≠ a2 := fun z => hf o u (by rw [← z]; exact q)
                rw [upd_ne hba]
                exact fz b o u (by rw [upd_ne hba]; exact q)
            have np3 : ∀ vs, H3 a2 ≠ some (.tup vs) := fun vs z => by rw [hz] at z; cases z
            have rhF : RepH (upd H3 a2 (.dK kk)) as3 (h3.set m (.dK kvs3)) := by
              refine ⟨by simp [rh3.len], rh3.nd, fun j u b q qb => ?_⟩
              by_cases hj : j = m
              · subst hj
                rw [qa3] at qb; cases qb
                have hl : j < h3.length := by rw [← rh3.len]; exact (List.getElem?_eq_some_iff.mp qa3).1
                rw [List.getElem?_set_self hl] at q; cases q
                have := RepKV.adopt (nw := []) (o := .dK kk) np3 rk3
                rw [List.append_nil] at this
                exact ⟨_, upd_same, kk, rfl, this⟩
              · rw [List.getElem?_set_ne (Ne.symm hj)] at q
                obtain ⟨ho, e1, ro1⟩ := rh3.at_ j u b q qb
                have hb : b ≠ a2 := fun z => by
                  subst z
                  exact hj ((List.getElem?_inj (List.getElem?_eq_some_iff.mp qb).1 rh3.nd).mp (qb.trans qa3.symm))
                have := RepO.adopt (nw := []) (o := .dK kk) np3 ro1
                rw [List.append_nil] at this
                exact ⟨ho, by rw [upd_ne hb]; exact e1, this⟩
            have laF : RepL (upd H3 a2 (.dK kk)) as3 acc av := la3.side np3
            have qdF : (upd H3 a2 (.dK kk)) D = some (.lst av) := by rw [upd_ne nda]; exact qd3
            have rh5 : RepH (upd H3 a2 (.dK kk)) (as3 ++ [D]) (h3.set m (.dK kvs3) ++ [.lst false acc]) := rhF.take_in qdF (lst_np qdF) nd3 ⟨av, laF, hz3, rfl⟩
            have hDn : H D = none := by
              cases hq : H D with
              | none => rfl
              | some o =>
                obtain ⟨o', q'⟩ := (e1.trans e2).there D o hq
                rw [hD] at q'; cases q'
            have rv : RepV (upd H3 a2 (.dK kk)) (as3 ++ [D]) (.obj (h3.set m (.dK kvs3)).length) (.ref D) := .obj (by rw [← rhF.len, List.getElem?_append_right (Nat.le_refl _)]; simp)
            exact g3 _ _ _ (eF.own hDn) rh5 rv
          · cases ul
      · cases hlk
    · exact g.elim
  · exact g.elim
/-- [.. for x in d ..] over a dict that a local name holds -/
theorem s_lcD {i : Nat} (hc : X.calm = true) (hN : X.N.Nodup) (hi : PE X iter (rdE T W c (.var i))) (ok : BlkOk X.N X.env.scope scope own) (hs : ∀ i ∈ tgS t, i ∈ own.map (·.2))
    (hg : ∀ (s : Shared) (H : Hp) (C : Addr) (cl : List (Str × Addr)) (fp : List Addr), L2.PG (X.blk s H scope (compEnvC scope cl C X.env) fp) tg (rdGk t)) (ht : ∀ (s : Shared) (H : Hp) (C : Addr) (cl : List (Str × Addr)) (fp : List Addr), PTs (X.blk s H scope (compEnvC scope cl C X.env) fp) ifs (rdT T EV.W0 c dC))
    (he : ∀ (s : Shared) (H : Hp) (C : Addr) (cl : List (Str × Addr)) (fp : List Addr), PE (X.blk s H scope (compEnvC scope cl C X.env) fp) elt (rdE T EV.W0 c dE)) (hf : ∀ x, foldedSetIterable iter X.env x = pure x) :
    PE X (.ListComp elt [⟨tg, iter, ifs, 0⟩] scope pos) (rdE T W c (.compD dE t i dC (own.map (·.2)))) :=
  PE.imp (pe_lock (pe_lc hc hN (pi_keys hi) ok hg ht he hf)) fun σ H Q q => lc_d hs q
theorem st_lcD {i j : Nat} {y : Str} {py spos : Pos} (hc : X.calm = true) (hN : X.N.Nodup) (hy : X.N[j]? = some y) (hyl : X.env.scope.names.lookup y = some .local)
    (hsw : swapsWith (.ListComp elt [⟨tg, iter, ifs, 0⟩] scope pos) (some (.Name y py)) spos.line X.env = pure true) (hi : PE X iter (rdE T W c (.var i))) (ok : BlkOk X.N X.env.scope scope own) (hs : ∀ i ∈ tgS t, i ∈ own.map (·.2))
    (hg : ∀ (s : Shared) (H : Hp) (C : Addr) (cl : List (Str × Addr)) (fp : List Addr), L2.PG (X.blk s H scope (compEnvC scope cl C X.env) fp) tg (rdGk t)) (ht : ∀ (s : Shared) (H : Hp) (C : Addr) (cl : List (Str × Addr)) (fp : List Addr), PTs (X.blk s H scope (compEnvC scope cl C X.env) fp) ifs (rdT T EV.W0 c dC))
    (he : ∀ (s : Shared) (H : Hp) (C : Addr) (cl : List (Str × Addr)) (fp : List Addr), PE (X.blk s H scope (compEnvC scope cl C X.env) fp) elt (rdE T EV.W0 c dE)) (hf : ∀ x, foldedSetIterable iter X.env x = pure x) :
    PS X (.Assign [.Name y py] (.ListComp elt [⟨tg, iter, ifs, 0⟩] scope pos) spos) (rdS T W c (.asg (.nm j) (.compD dE t i dC (own.map (·.2))))) := by
  refine PS.imp (ps_lock (ps_setLc hc hN hy hyl hsw (pi_keys hi) ok hg ht he hf)) fun D σ H ⟨as, r, h, p, g⟩ => ?_
  unfold exS at g
  have q : rdE T W c (.compD dE t i dC (own.map (·.2))) σ H (fun u H1 => D.nx (σ.set j (some u)) H1) := by
    refine ⟨as, r, h, p, (g.st (repx := rV) p).mono ?_⟩
    rintro u H1 ⟨as1, h1, x, e1, p1, rx, _, g1⟩
    unfold bindT at g1
    exact g1 as1 H1 _ Ext.refl (p1.store j rx)
  obtain ⟨d, u, h1, h2, h3⟩ := lc_d hs q
  exact ⟨d, u, h1, h2, fun od => h3 od⟩
end

/-! ### consumers -/
theorem insI_perm (x : Int) : ∀ xs : List Int, (insI x xs).Perm (x :: xs)
  | [] => .refl _
  | y :: ys => by
    unfold insI
    split
    · exact .refl _
    · exact ((insI_perm x ys).cons y).trans (.swap x y ys)
theorem sortI_perm : ∀ xs : List Int, (sortI xs).Perm xs
  | [] => .refl _
  | x :: xs => (insI_perm x _).trans ((sortI_perm xs).cons x)
theorem insI_pair (x : Int) : ∀ xs : List Int, xs.Pairwise (· ≤ ·) → (insI x xs).Pairwise (· ≤ ·)
  | [], _ => by simp [insI]
  | y :: ys, h => by
    unfold insI
    split
    · rename_i hx
      refine List.pairwise_cons.mpr ⟨fun z hz => ?_, h⟩
      rcases List.mem_cons.mp hz with e | hz
      · rw [e]; exact hx
      · exact Int.le_trans hx ((List.pairwise_cons.mp h).1 z hz)
    · rename_i hx
      obtain ⟨h1, h2⟩ := List.pairwise_cons.mp h
      refine List.pairwise_cons.mpr ⟨fun z hz => ?_, insI_pair x ys h2⟩
      rcases List.mem_cons.mp ((insI_perm x ys).mem_iff.mp hz) with e | hz
      · rw [e]; omega
      · exact h1 z hz
theorem sortI_pair : ∀ xs : List Int, (sortI xs).Pairwise (· ≤ ·)
  | [] => .nil
  | x :: xs => insI_pair x _ (sortI_pair xs)
theorem sorted_eq {xs ys : List Int} (h : ys.Perm xs) (hs : ys.Pairwise (· ≤ ·)) : ys = sortI xs :=
  (h.trans (sortI_perm xs).symm).eq_of_pairwise (fun a b _ _ h1 h2 => Int.le_antisymm h1 h2) hs (sortI_pair xs)
theorem foldl_min (n : Int) : ∀ ns : List Int, ns.foldl min n ∈ n :: ns ∧ ∀ y ∈ n :: ns, ns.foldl min n ≤ y := by
  intro ns
  induction ns generalizing n with
  | nil => exact ⟨by simp, by simp⟩
  | cons m ns ih =>
    obtain ⟨h1, h2⟩ := ih (min n m)
    rw [List.foldl_cons]
    have hm := h2 _ (List.mem_cons_self)
    refine ⟨?_, fun y hy => ?_⟩
    · rcases List.mem_cons.mp h1 with e | e
      · rw [e]
        rcases Int.le_total n m with z | z
        · rw [Int.min_eq_left z]; simp
        · rw [Int.min_eq_right z]; simp
      · simp [e]
    · rcases List.mem_cons.mp hy with e | hy
      · rw [e]; exact Int.le_trans hm (Int.min_le_left ..)
      · rcases List.mem_cons.mp hy with e | hy
        · rw [e]; exact Int.le_trans hm (Int.min_le_right ..)
        · exact h2 y (List.mem_cons_of_mem _ hy)
theorem foldl_max (n : Int) : ∀ ns : List Int, ns.foldl max n ∈ n :: ns ∧ ∀ y ∈ n :: ns, y ≤ ns.foldl max n := by
  intro ns
  induction ns generalizing n with
  | nil => exact ⟨by simp, by simp⟩
  | cons m ns ih =>
    obtain ⟨h1, h2⟩ := ih (max n m)
    rw [List.foldl_cons]
    have hm := h2 _ (List.mem_cons_self)
    refine ⟨?_, fun y hy => ?_⟩
    · rcases List.mem_cons.mp h1 with e | e
      · rw [e]
        rcases Int.le_total n m with z | z
        · rw [Int.max_eq_right z]; simp
        · rw [Int.max_eq_left z]; simp
      · simp [e]
    · rcases List.mem_cons.mp hy with e | hy
      · rw [e]; exact Int.le_trans (Int.le_max_left ..) hm
      · rcases List.mem_cons.mp hy with e | hy
        · rw [e]; exact Int.le_trans (Int.le_max_right ..) hm
        · exact h2 y (List.mem_cons_of_mem _ hy)
theorem callR_or {X : Cx} {f : Value} {r1 r2 : List V → Hp → VK → Prop} (h1 : CallR X f r1) (h2 : CallR X f r2) : CallR X f fun xs H Q => r1 xs H Q ∨ r2 xs H Q := fun pins s σ H xs us Q I r h => h.elim (h1 pins s σ H xs us Q I r) (h2 pins s σ H xs us Q I r)
def lw : EV.It → Bool
  | .live _ => true
  | .vals _ => true
  | _ => false
/-- a source that is a list: one's own, or beside -/
theorem src_list {K : PySem.W.Frag} {H : Hp} {as : List Addr} {h : PH} {w : EV.It} {u : V} (rh : RepH H as h) (s : SrcW H as w u) (hw : lw w = true) {xs : List PV} (e : itList w h = some xs) :
    ∃ a vs, u = .ref a ∧ SqL K H a vs ∧ RepL H as xs vs ∧ xs.length ≤ sizeLine := by
  cases s with
  | live qa =>
    unfold itList at e
    split at e
    · rename_i ho
      cases e
      obtain ⟨vs, la, z, sq, _⟩ := rh.lst (K := K) ho qa
      exact ⟨_, vs, rfl, sq, la, z⟩
    · cases e
  | lst q l z => cases e; exact ⟨_, _, rfl, .inl (.inl q), l, z⟩
  | tup q l => cases hw
  | keys q => cases hw
theorem con_read {d : E} {f : Fo} {r : List V → Hp → VK → Prop} (rule : ∀ {as H h w u σ Q}, RepH H as h → SrcW H as w u → gotR T W (conW f w h) as H σ rV Q → r [u] H Q) {σ : L2.St} {H : Hp} {Q : VK} (q : rdE T W c (.con f d) σ H Q) : tCB r (tCons (rdW T W c d) tNil) σ H Q := by
  show rdW T W c d σ H fun u H1 => r [u] H1 Q
  obtain ⟨as, r, h, p, g⟩ := q
  unfold evE at g
  refine ⟨as, r, h, p, (g.bnd (repx := rW) p).mono ?_⟩
  rintro u H1 ⟨as1, h1, w, e1, p1, sw, _, g1⟩
  exact rule p1.hp sw g1
end
end EV
end
section
set_option Elab.async false
set_option linter.all false
set_option maxRecDepth 100000
/-! EvSndB: consumers. -/
namespace EV
open PySem L2

theorem boot_tuple' : bootBuiltins "tuple" = some (.type "tuple") := by decide +kernel
theorem boot_list' : bootBuiltins "list" = some (.type "list") := by decide +kernel
theorem boot_all' : bootBuiltins "all" = some (.builtin "all") := by decide +kernel
theorem boot_any' : bootBuiltins "any" = some (.builtin "any") := by decide +kernel
theorem boot_sum' : bootBuiltins "sum" = some (.builtin "sum") := by decide +kernel
theorem boot_sorted' : bootBuiltins "sorted" = some (.builtin "sorted") := by decide +kernel
theorem intK_some : ∀ {ks : List Key} {ns : List Int}, intK ks = some ns → ks = ns.map Sum.inl
  | [], ns, e => by cases e; rfl
  | .inl i :: r, ns, e => by
    unfold intK at e
    obtain ⟨ms, hm, rfl⟩ := Option.map_eq_some_iff.mp e
    rw [intK_some hm]; rfl
  | .inr s :: r, ns, e => by cases e
theorem repL_keys {H : Hp} {as : List Addr} : ∀ (ks : List Key), RepL H as (ks.map ofKey) (ks.map kV)
  | [] => .nil
  | .inl i :: r => .cons (.int i) (repL_keys r)
  | .inr s :: r => .cons (.str s) (repL_keys r)
section
variable {X : Cx} {T : XTab} {W : WX} {c : Cc} {pos p : Pos} {e : Expr} {d : E}
theorem s_tuple (hg : Gl X "tuple") (hm : X.mg "tuple" = none) (he : PE X e (rdW T W c d)) (hs : noStar e = true) : PE X (.Call (.Name "tuple" p) [e] [] pos) (rdE T W c (.con .tuple (d))) := by
  refine PE.imp (pe_callTy call_tuple_of hg hm boot_tuple' (pa_cons he pa_nil (each_noStar hs)) (by decide) (by decide) (each_noStar hs) rfl) fun σ H Q q => con_read (fun {as H h w u σ Q} rh sw g => ?_) q
  cases sw with
  | @live n a qa =>
    unfold conW at g
    cases q : itList (.live n) h with
    | none => simp only [q] at g; exact g.elim
    | some xs =>
      simp only [q] at g
      obtain ⟨a, vs, ea, sq, l, z⟩ := src_list (K := X.K) rh (.live qa) rfl q
      cases ea
      unfold conop at g
      simp only [z, if_true] at g
      exact ⟨_, vs, rfl, .inl ⟨sq, fun l' hl => g.newTup rh l hl⟩⟩
  | lst q l z =>
    unfold conW itList conop at g
    simp only [z, if_true] at g
    exact ⟨_, _, rfl, .inl ⟨.inl (.inl q), fun l' hl => g.newTup rh l hl⟩⟩
  | tup q l => exact ⟨_, _, rfl, .inr ⟨.of q, g.ok rh (.tup q l)⟩⟩
  | keys q => exact g.elim
theorem s_list (hc : X.calm = true) (hg : Gl X "list") (hm : X.mg "list" = none) (he : PE X e (rdW T W c d)) (hs : noStar e = true) : PE X (.Call (.Name "list" p) [e] [] pos) (rdE T W c (.con .list (d))) := by
  refine PE.imp (pe_callTy (callR_or call_list_of (call_list_dK hc)) hg hm boot_list' (pa_cons he pa_nil (each_noStar hs)) (by decide) (by decide) (each_noStar hs) rfl) fun σ H Q q => con_read (fun {as H h w u σ Q} rh sw g => ?_) q
  cases sw with
  | @live n a qa =>
    unfold conW at g
    cases q : itList (.live n) h with
    | none => simp only [q] at g; exact g.elim
    | some xs =>
      simp only [q] at g
      obtain ⟨a, vs, ea, sq, l, z⟩ := src_list (K := X.K) rh (.live qa) rfl q
      cases ea
      unfold conop at g
      simp only [z, if_true] at g
      exact .inl ⟨_, vs, rfl, .inl sq, fun l' hl => g.newLst rh l z hl⟩
  | lst q l z =>
    unfold conW itList conop at g
    simp only [z, if_true] at g
    exact .inl ⟨_, _, rfl, .inl (.inl (.inl q)), fun l' hl => g.newLst rh l z hl⟩
  | tup q l =>
    unfold conW at g
    simp only at g
    split at g
    · rename_i z
      exact .inl ⟨_, _, rfl, .inr (.of q), fun l' hl => g.newLst rh l z hl⟩
    · exact g.elim
  | keys q =>
    rename_i kvs a
    unfold conW at g
    simp only at g
    split at g
    · rename_i z
      refine .inr ⟨_, kvs, rfl, q, fun q' hq => ?_⟩
      have l := repL_keys (H := H) (as := as) (kvs.map (·.1))
      have := g.newLst rh l (by simpa using z) hq
      rw [List.map_map] at this
      exact this
    · exact g.elim
/-- what reads a list of booleans -/
theorem con_bools {f : Fo} {as : List Addr} {H : Hp} {h : PH} {w : EV.It} {u : V} {σ : L2.St} {Q : VK} {F : List Bool → Bool} (hf : ∀ xs, conop f xs h = match blsOf xs with | some bs => .ok (.bl (F bs)) h | none => .no)
    (hk : ∀ ks, conW f (.keys ks) h = .no) (ht : ∀ xs, conW f (.tvs xs) h = .no) (rh : RepH H as h) (sw : SrcW H as w u) (g : gotR T W (conW f w h) as H σ rV Q) :
    ∃ (a : Addr) (bs : List Bool), [u] = [V.ref a] ∧ SqL X.K H a (bs.map V.bl) ∧ Q (.bl (F bs)) H := by
  have main : ∀ xs, itList w h = some xs → lw w = true → gotR T W (conop f xs h) as H σ rV Q → ∃ (a : Addr) (bs : List Bool), [u] = [V.ref a] ∧ SqL X.K H a (bs.map V.bl) ∧ Q (.bl (F bs)) H := fun xs e hw g => by
    obtain ⟨a, vs, ea, sq, l, z⟩ := src_list (K := X.K) rh sw hw e
    rw [hf] at g
    cases hb : blsOf xs with
    | none => rw [hb] at g; exact g.elim
    | some bs =>
      rw [hb] at g
      rw [l.bls _ _ _ hb] at sq
      exact ⟨a, bs, by rw [ea], sq, g.ok rh (.bl _)⟩
  cases sw with
  | @live n a qa =>
    unfold conW at g
    cases q : itList (.live n) h with
    | none => simp only [q] at g; exact g.elim
    | some xs => simp only [q] at g; exact main xs q rfl g
  | lst q l z => exact main _ rfl rfl g
  | tup q l => rw [ht] at g; exact g.elim
  | keys q => rw [hk] at g; exact g.elim
/-- what reads a list of ints -/
theorem con_ints {f : Fo} {as : List Addr} {H : Hp} {h : PH} {w : EV.It} {u : V} {σ : L2.St} {Q : VK} {F : List Int → Rs PV} (hf : ∀ xs, conop f xs h = match intsOf xs with | some bs => F bs | none => .no)
    (hk : ∀ ks, w ≠ .keys ks) (ht : ∀ xs, conW f (.tvs xs) h = .no) (rh : RepH H as h) (sw : SrcW H as w u) (g : gotR T W (conW f w h) as H σ rV Q) :
    ∃ (a : Addr) (bs : List Int), [u] = [V.ref a] ∧ SqL X.K H a (bs.map V.int) ∧ gotR T W (F bs) as H σ rV Q := by
  have main : ∀ xs, itList w h = some xs → lw w = true → gotR T W (conop f xs h) as H σ rV Q → ∃ (a : Addr) (bs : List Int), [u] = [V.ref a] ∧ SqL X.K H a (bs.map V.int) ∧ gotR T W (F bs) as H σ rV Q := fun xs e hw g => by
    obtain ⟨a, vs, ea, sq, l, z⟩ := src_list (K := X.K) rh sw hw e
    rw [hf] at g
    cases hb : intsOf xs with
    | none => rw [hb] at g; exact g.elim
    | some bs =>
      rw [hb] at g
      rw [l.ints _ _ _ hb] at sq
      exact ⟨a, bs, by rw [ea], sq, g⟩
  cases sw with
  | @live n a qa =>
    unfold conW at g
    cases q : itList (.live n) h with
    | none => simp only [q] at g; exact g.elim
    | some xs => simp only [q] at g; exact main xs q rfl g
  | lst q l z => exact main _ rfl rfl g
  | tup q l => rw [ht] at g; exact g.elim
  | keys q => exact absurd rfl (hk _)
theorem s_all (hc : X.calm = true) (hg : Gl X "all") (hm : X.mg "all" = none) (he : PE X e (rdW T W c d)) (hs : noStar e = true) : PE X (.Call (.Name "all" p) [e] [] pos) (rdE T W c (.con .all (d))) :=
  PE.imp (pe_callB (cr_all hc) hg hm boot_all' (pa_cons he pa_nil (each_noStar hs)) (by decide) (by decide) (each_noStar hs) rfl) fun σ H Q q => con_read (fun {as H h w u σ Q} rh sw g => con_bools (F := fun bs => bs.all id) (fun _ => rfl) (fun _ => rfl) (fun _ => rfl) rh sw g) q
theorem s_any (hc : X.calm = true) (hg : Gl X "any") (hm : X.mg "any" = none) (he : PE X e (rdW T W c d)) (hs : noStar e = true) : PE X (.Call (.Name "any" p) [e] [] pos) (rdE T W c (.con .any (d))) :=
  PE.imp (pe_callB (cr_any hc) hg hm boot_any' (pa_cons he pa_nil (each_noStar hs)) (by decide) (by decide) (each_noStar hs) rfl) fun σ H Q q => con_read (fun {as H h w u σ Q} rh sw g => con_bools (F := fun bs => bs.any id) (fun _ => rfl) (fun _ => rfl) (fun _ => rfl) rh sw g) q
theorem no_keys {f : Fo} {ks : List Key} {as : List Addr} {H : Hp} {h : PH} {σ : L2.St} {Q : VK} {w : EV.It} (hf : ∀ ks, conW f (.keys ks) h = .no) (g : gotR T W (conW f w h) as H σ rV Q) : ∀ ks, w ≠ .keys ks := fun ks e => by
  subst e
  rw [hf] at g
  exact g
theorem s_sum (hc : X.calm = true) (hg : Gl X "sum") (hm : X.mg "sum" = none) (he : PE X e (rdW T W c d)) (hs : noStar e = true) : PE X (.Call (.Name "sum" p) [e] [] pos) (rdE T W c (.con .sum (d))) := by
  refine PE.imp (pe_callB (cr_sum hc) hg hm boot_sum' (pa_cons he pa_nil (each_noStar hs)) (by decide) (by decide) (each_noStar hs) rfl) fun σ H Q q => con_read (fun {as H h w u σ Q} rh sw g => ?_) q
  obtain ⟨a, ns, e1, sq, g⟩ := con_ints (X := X) (F := fun ns => .ok (.int ns.sum) h) (fun _ => rfl) (no_keys (ks := []) (fun _ => rfl) g) (fun _ => rfl) rh sw g
  exact ⟨a, ns, e1, sq, g.ok rh (.int _)⟩
theorem s_minL (hc : X.calm = true) (hg : Gl X "min") (hm : X.mg "min" = none) (he : PE X e (rdW T W c d)) (hs : noStar e = true) : PE X (.Call (.Name "min" p) [e] [] pos) (rdE T W c (.con .min (d))) := by
  refine PE.imp (pe_callB (cr_min hc) hg hm boot_min' (pa_cons he pa_nil (each_noStar hs)) (by decide) (by decide) (each_noStar hs) rfl) fun σ H Q q => con_read (fun {as H h w u σ Q} rh sw g => ?_) q
  obtain ⟨a, ns, e1, sq, g⟩ := con_ints (X := X) (F := fun ns => match ns with | n :: ns => .ok (.int (ns.foldl min n)) h | [] => .no) (fun xs => by unfold conop; cases intsOf xs with | none => rfl | some l => cases l <;> rfl) (no_keys (ks := []) (fun _ => rfl) g) (fun _ => rfl) rh sw g
  cases ns with
  | nil => exact g.elim
  | cons n ns =>
    refine ⟨a, n :: ns, e1, sq, Nat.succ_pos _, fun m hm hy => ?_⟩
    have : m = ns.foldl min n := Int.le_antisymm (hy _ (foldl_min n ns).1) ((foldl_min n ns).2 m hm)
    rw [this]
    exact g.ok rh (.int _)
theorem s_maxL (hc : X.calm = true) (hg : Gl X "max") (hm : X.mg "max" = none) (he : PE X e (rdW T W c d)) (hs : noStar e = true) : PE X (.Call (.Name "max" p) [e] [] pos) (rdE T W c (.con .max (d))) := by
  refine PE.imp (pe_callB (cr_max hc) hg hm boot_max' (pa_cons he pa_nil (each_noStar hs)) (by decide) (by decide) (each_noStar hs) rfl) fun σ H Q q => con_read (fun {as H h w u σ Q} rh sw g => ?_) q
  obtain ⟨a, ns, e1, sq, g⟩ := con_ints (X := X) (F := fun ns => match ns with | n :: ns => .ok (.int (ns.foldl max n)) h | [] => .no) (fun xs => by unfold conop; cases intsOf xs with | none => rfl | some l => cases l <;> rfl) (no_keys (ks := []) (fun _ => rfl) g) (fun _ => rfl) rh sw g
  cases ns with
  | nil => exact g.elim
  | cons n ns =>
    refine ⟨a, n :: ns, e1, sq, Nat.succ_pos _, fun m hm hy => ?_⟩
    have : m = ns.foldl max n := Int.le_antisymm ((foldl_max n ns).2 m hm) (hy _ (foldl_max n ns).1)
    rw [this]
    exact g.ok rh (.int _)
theorem s_sorted (hc : X.calm = true) (hg : Gl X "sorted") (hm : X.mg "sorted" = none) (he : PE X e (rdW T W c d)) (hs : noStar e = true) : PE X (.Call (.Name "sorted" p) [e] [] pos) (rdE T W c (.con .sorted (d))) := by
  refine PE.imp (pe_callB (callR_or cr_sortedI (call_sortedDI hc)) hg hm boot_sorted' (pa_cons he pa_nil (each_noStar hs)) (by decide) (by decide) (each_noStar hs) rfl) fun σ H Q q => con_read (fun {as H h w u σ Q} rh sw g => ?_) q
  by_cases hk : ∃ ks, w = .keys ks
  · obtain ⟨ks, rfl⟩ := hk
    cases sw with
    | keys q =>
      rename_i kvs a
      unfold conW at g
      simp only at g
      cases hi : intK (kvs.map (·.1)) with
      | none => simp only [hi] at g; exact g.elim
      | some ns =>
        simp only [hi] at g
        split at g
        · rename_i z
          refine .inr ⟨a, kvs, ns, rfl, .inl q, intK_some hi, z, fun ys p hp hs hn => ?_⟩
          rw [sorted_eq hp hs]
          exact g.newLst rh (.ofInts _) (by rw [List.length_map, (sortI_perm ns).length_eq]; rw [sizeLine_eq]; omega) hn
        · exact g.elim
  · refine .inl ?_
    obtain ⟨a, ns, e1, sq, g⟩ := con_ints (X := X) (F := fun ns => if ns.length ≤ sizeLine then .ok (.obj h.length) (h ++ [.lst false ((sortI ns).map .int)]) else .no) (fun xs => rfl) (fun ks e => hk ⟨ks, e⟩) (fun _ => rfl) rh sw g
    split at g
    · rename_i z
      refine ⟨a, ns, e1, sq, fun ys p hp hs hn => ?_⟩
      rw [sorted_eq hp hs]
      exact g.newLst rh (.ofInts _) (by rw [List.length_map, (sortI_perm ns).length_eq]; exact z) hn
    · exact g.elim
/-- tuple(range(..)) -/
theorem rg_rep {H : Hp} {as : List Addr} {i j : Int} : RepL H as ((List.range (j - i).toNat).map fun k => PV.int (i + (k : Nat))) (rgV i j) := by
  unfold rgV
  have := RepL.ofInts (H := H) (as := as) ((List.range (j - i).toNat).map fun k => i + ((k : Nat) : Int))
  rw [List.map_map, List.map_map] at this
  exact this
theorem rng_end {as : List Addr} {H : Hp} {h : PH} {σ : L2.St} {Q : VK} {x y : PV} {u w : V} (rh : RepH H as h) (rx : RepV H as x u) (ry : RepV H as y w) (g : gotR T W ((rngOf x y h).bnd fun w h => conW .tuple w h) as H σ rV Q) :
    ∃ i j, u = .int i ∧ w = .int j ∧ RgOk i j ∧ ∀ q, H q = none → Q (.ref q) (upd H q (.tup (rgV i j))) := by
  unfold rngOf at g
  split at g
  · rename_i i j
    split at g
    · rename_i b
      simp only [Rs.bnd] at g
      unfold conW at g
      simp only at g
      split at g
      · rename_i b2
        refine ⟨i, j, rx.intE, ry.intE, ⟨b.1, b.2.1, b.2.2.1, b.2.2.2, b2.2.2⟩, fun q hq => g.newTup rh rg_rep hq⟩
      · exact g.elim
    · exact g.elim
  · exact g.elim
theorem s_tupRg2 {e2 : Expr} {d2 : E} {p2 pos2 : Pos} (hg : Gl X "tuple") (hm : X.mg "tuple" = none) (hc : X.calm = true) (hg2 : Gl X "range") (hm2 : X.mg "range" = none) (he : PE X e (rdE T W c d)) (he2 : PE X e2 (rdE T W c d2)) (hs : noStar e = true) (hs2 : noStar e2 = true) :
    PE X (.Call (.Name "tuple" p) [.Call (.Name "range" p2) [e, e2] [] pos2] [] pos) (rdE T W c (.con .tuple (.rng d d2))) := by
  refine PE.imp (pe_tupRg hc hg hm (prg_2 hg2 hm2 he he2 (each_noStar hs) (each_noStar hs2) (any_noStar (by simp [hs2])))) fun σ H Q ⟨as, r, h, p, g⟩ => ?_
  unfold evE evI at g
  simp only [bnd_assoc] at g
  refine ⟨as, r, h, p, (g.bnd (repx := rV) p).mono ?_⟩
  rintro u H1 ⟨as1, h1, x, e1, p1, rx, _, g1⟩
  refine ⟨as1, r, h1, p1, (g1.bnd (repx := rV) p1).mono ?_⟩
  rintro u2 H2 ⟨as2, h2, y, e2, p2, ry, _, g2⟩
  obtain ⟨i, j, z1, z2, ok, q⟩ := rng_end p2.hp (rx.ext p1.hp e2) ry g2
  exact ⟨i, j, z1, z2, ok, q⟩
theorem s_tupRg1 {p2 pos2 : Pos} (hg : Gl X "tuple") (hm : X.mg "tuple" = none) (hc : X.calm = true) (hg2 : Gl X "range") (hm2 : X.mg "range" = none) (he : PE X e (rdE T W c d)) (hs : noStar e = true) :
    PE X (.Call (.Name "tuple" p) [.Call (.Name "range" p2) [e] [] pos2] [] pos) (rdE T W c (.con .tuple (.rng (.cst (.int 0)) d))) := by
  refine PE.imp (pe_tupRg hc hg hm (prg_1 hg2 hm2 he (each_noStar hs))) fun σ H Q ⟨as, r, h, p, g⟩ => ?_
  unfold evE evI at g
  rw [show evE c (.cst (.int 0)) r h = .ok (.int 0) h by unfold evE; rfl] at g
  simp only [bnd_assoc] at g
  have g : gotR T W ((evE c d r h).bnd fun y h => (rngOf (.int 0) y h).bnd fun w h => conW .tuple w h) as H σ rV Q := g
  refine ⟨as, r, h, p, (g.bnd (repx := rV) p).mono ?_⟩
  rintro u H1 ⟨as1, h1, x, e1, p1, rx, _, g1⟩
  obtain ⟨i, j, z1, z2, ok, q⟩ := rng_end (u := .int 0) p1.hp (.int 0) rx g1
  cases z1
  exact ⟨j, z2, ok, q⟩
end
end EV
end
section
set_option Elab.async false
set_option linter.all false
set_option maxRecDepth 100000
set_option maxHeartbeats 1000000
/-! EvZip: tuple(zip(a, b)) of two tuples. -/
namespace EVZ
open PySem PySem.Spec PyProof.Rows RZ
open PySem.Sem (wp)
open PySem.Calls
section
variable {prog : Program} {w : World} {A : Around} {E : Value → Shared → Prop} {s : Shared}
variable {z TI TO i1 i2 l1 l2 : Addr} {xs ys : Array Value}
theorem heldT_item {T : Addr} {f : Bool} {oT : Obj} {k1 k2 : Nat} {x y : Value} {Q : Value → Shared → Prop} (D : ZipApart z TI TO i1 i2 l1 l2)
    (hz : IsZipHeld s.heap z TI TO T f) (hT : s.heap.get? T = some oT) (hTI : IsPair s.heap TI (.ref i1) (.ref i2))
    (h1 : s.heap.IsTupleIter i1 l1 k1) (h2 : s.heap.IsTupleIter i2 l2 k2) (hl1 : s.heap.IsTuple l1 xs) (hl2 : s.heap.IsTuple l2 ys) (hx : xs[k1]? = some x) (hy : ys[k2]? = some y)
    (hQ : ∀ h', IsZipHeld h' z TI TO T true → h'.IsTupleIter i1 l1 (k1 + 1) → h'.IsTupleIter i2 l2 (k2 + 1) → IsPair h' s.heap.objs.size x y → h'.objs.size = s.heap.objs.size + 1 →
      (∀ c o, c ≠ z → c ≠ i1 → c ≠ i2 → s.heap.get? c = some o → h'.get? c = some o) → Q (.ref s.heap.objs.size) { s with heap := h' }) :
    wpAny (model prog w) A (Builtin.«zip.__next__» ⟨[.ref z], []⟩) (fun fin s' => ∃ v, fin = .done (.ret v) ∧ Q v s') E s := by
  show wpAny _ _ (field (.ref z) 2 >>= _) _ _ _
  refine wpAny_bind (wpAny_field hz rfl (x := .bool false) rfl ?_)
  show wpAny _ _ (field (.ref z) 3 >>= _) _ _ _
  refine wpAny_bind (wpAny_field hz rfl (x := .ref TI) rfl ?_)
  refine wpAny_bind (wpAny_seqItems hTI rfl ?_)
  show wpAny _ _ (Builtin.SmallTypes.ownedTupleIsFree (.ref z) >>= _) _ _ _
  refine wpAny_bind (wpAny_tupleHeld_zip hz hT fun h₁ hz₁ hs₁ => ?_)
  simp only [Bool.false_eq_true, if_false]
  refine wpAny_bind ?_
  rw [← Array.forIn_toList]
  simp only [List.forIn_cons, List.forIn_nil]
  refine wpAny_bind (wpAny_bind (wpAny_holding ?_))
  show wpAny _ _ (Builtin.SmallTypes.nextOf (.ref i1) >>= _) _ _ _
  refine wpAny_bind (nextOf_tuple_item (s := { s with heap := h₁ }) (h1.extBut hs₁.extBut D.i1z) (hl1.extBut hs₁.extBut D.l1z) hx fun h₂ h1₂ hs₂ => wpAny_pure ?_)
  refine wpAny_pure ?_
  refine wpAny_bind (wpAny_bind (wpAny_holding ?_))
  show wpAny _ _ (Builtin.SmallTypes.nextOf (.ref i2) >>= _) _ _ _
  refine wpAny_bind (nextOf_tuple_item (s := { s with heap := h₂ }) ((h2.extBut hs₁.extBut D.i2z).extBut hs₂.extBut D.i12.symm) ((hl2.extBut hs₁.extBut D.l2z).extBut hs₂.extBut D.l2i1) hy fun h₃ h2₃ hs₃ => wpAny_pure ?_)
  refine wpAny_pure (wpAny_pure ?_)
  show wpAny _ _ (newTuple [x, y] >>= _) _ _ _
  refine wpAny_bind (wpAny_newTuple ?_)
  have hsz : h₃.objs.size = s.heap.objs.size := by rw [hs₃.1, hs₂.1, hs₁.1]
  have hz₃ : IsZipHeld h₃ z TI TO T true := hs₃.extBut _ _ D.i2z.symm (hs₂.extBut _ _ D.i1z.symm hz₁)
  have hk : ∀ c o, c ≠ z → c ≠ i1 → c ≠ i2 → s.heap.get? c = some o → h₃.get? c = some o := fun c o c1 c2 c3 e => hs₃.extBut _ _ c3 (hs₂.extBut _ _ c2 (hs₁.extBut _ _ c1 e))
  have h1₃ : h₃.IsTupleIter i1 l1 (k1 + 1) := h1₂.extBut hs₃.extBut D.i12
  refine wpAny_pure ⟨_, rfl, ?_⟩
  show Q (.ref h₃.objs.size) _
  have hp : IsPair (h₃.push { cls := .type "tuple", data := .seq #[x, y] }) h₃.objs.size x y := Heap.get?_push_size _ rfl
  have hz4 : (h₃.push { cls := .type "tuple", data := .seq #[x, y] }).objs.size = h₃.objs.size + 1 := Heap.size_push ..
  rw [hsz] at hp hz4 ⊢
  exact hQ _ (Heap.get?_push_of_some _ hz₃) (h1₃.at fun o e => Heap.get?_push_of_some _ e) (h2₃.at fun o e => Heap.get?_push_of_some _ e) hp hz4 fun c o c1 c2 c3 e => Heap.get?_push_of_some _ (hk c o c1 c2 c3 e)
theorem heldT_end {T : Addr} {f : Bool} {oT : Obj} {k1 k2 : Nat} {Q : Fin → Shared → Prop} (hh : A.handled = none) (D : ZipApart z TI TO i1 i2 l1 l2)
    (hz : IsZipHeld s.heap z TI TO T f) (hT : s.heap.get? T = some oT) (hTI : IsPair s.heap TI (.ref i1) (.ref i2))
    (h1 : s.heap.IsTupleIter i1 l1 k1) (h2 : s.heap.IsTupleIter i2 l2 k2) (hl1 : s.heap.IsTuple l1 xs) (hl2 : s.heap.IsTuple l2 ys) (hend : xs[k1]? = none ∨ ys[k2]? = none)
    (hE : ∀ h' e, (∀ c o, c ≠ z → c ≠ i1 → c ≠ i2 → s.heap.get? c = some o → h'.get? c = some o) → (∃ o, h'.get? e = some o ∧ o.cls = .type "StopIteration") → E (.ref e) { s with heap := h' }) :
    wpAny (model prog w) A (Builtin.«zip.__next__» ⟨[.ref z], []⟩) Q E s := by
  show wpAny _ _ (field (.ref z) 2 >>= _) _ _ _
  refine wpAny_bind (wpAny_field hz rfl (x := .bool false) rfl ?_)
  show wpAny _ _ (field (.ref z) 3 >>= _) _ _ _
  refine wpAny_bind (wpAny_field hz rfl (x := .ref TI) rfl ?_)
  refine wpAny_bind (wpAny_seqItems hTI rfl ?_)
  show wpAny _ _ (Builtin.SmallTypes.ownedTupleIsFree (.ref z) >>= _) _ _ _
  refine wpAny_bind (wpAny_tupleHeld_zip hz hT fun h₁ hz₁ hs₁ => ?_)
  simp only [Bool.false_eq_true, if_false]
  refine wpAny_bind ?_
  rw [← Array.forIn_toList]
  simp only [List.forIn_cons, List.forIn_nil]
  refine wpAny_bind (wpAny_bind (wpAny_holding ?_))
  show wpAny _ _ (Builtin.SmallTypes.nextOf (.ref i1) >>= _) _ _ _
  cases hx : xs[k1]? with
  | none =>
    refine wpAny_bind (nextOf_tuple_end (s := { s with heap := h₁ }) hh (h1.extBut hs₁.extBut D.i1z) (hl1.extBut hs₁.extBut D.l1z) hx fun h₂ e hs₂ he => ?_)
    exact hE h₂ e (fun c o c1 c2 _ x => hs₂ _ _ c2 (hs₁.extBut _ _ c1 x)) he
  | some x =>
    have hy : ys[k2]? = none := by rcases hend with h | h; rw [hx] at h; cases h; exact h
    refine wpAny_bind (nextOf_tuple_item (s := { s with heap := h₁ }) (h1.extBut hs₁.extBut D.i1z) (hl1.extBut hs₁.extBut D.l1z) hx fun h₂ h1₂ hs₂ => wpAny_pure ?_)
    refine wpAny_pure ?_
    refine wpAny_bind (wpAny_bind (wpAny_holding ?_))
    show wpAny _ _ (Builtin.SmallTypes.nextOf (.ref i2) >>= _) _ _ _
    refine wpAny_bind (nextOf_tuple_end (s := { s with heap := h₂ }) hh ((h2.extBut hs₁.extBut D.i2z).extBut hs₂.extBut D.i12.symm) ((hl2.extBut hs₁.extBut D.l2z).extBut hs₂.extBut D.l2i1) hy fun h₃ e hs₃ he => ?_)
    exact hE h₃ e (fun c o c1 c2 c3 x => hs₃ _ _ c3 (hs₂.extBut _ _ c2 (hs₁.extBut _ _ c1 x))) he
theorem nextT_held {T : Addr} {f : Bool} {oT : Obj} {k1 k2 : Nat} {x y : Value} {Q : Option Value → Shared → Prop} (D : ZipApart z TI TO i1 i2 l1 l2)
    (hz : IsZipHeld s.heap z TI TO T f) (hT : s.heap.get? T = some oT) (hTI : IsPair s.heap TI (.ref i1) (.ref i2))
    (h1 : s.heap.IsTupleIter i1 l1 k1) (h2 : s.heap.IsTupleIter i2 l2 k2) (hl1 : s.heap.IsTuple l1 xs) (hl2 : s.heap.IsTuple l2 ys) (hx : xs[k1]? = some x) (hy : ys[k2]? = some y)
    (hQ : ∀ h', IsZipHeld h' z TI TO T true → h'.IsTupleIter i1 l1 (k1 + 1) → h'.IsTupleIter i2 l2 (k2 + 1) → IsPair h' s.heap.objs.size x y → h'.objs.size = s.heap.objs.size + 1 →
      (∀ c o, c ≠ z → c ≠ i1 → c ≠ i2 → s.heap.get? c = some o → h'.get? c = some o) → Q (some (.ref s.heap.objs.size)) { s with heap := h' }) :
    wpAny (model prog w) A (pyNext (.ref z)) Q E s := by
  have hTy : s.TypeIs (.ref z) "zip" := ⟨_, hz, rfl⟩
  unfold pyNext
  exact wpAny_bind (wpAny_attempt (wpAny_callSpecial?_slot (name := Str.ofString "__next__") hTy F.slot_zip_next
    (wpAny_call_entry F.slot_zip_next hTy F.entry_zip_next
      (heldT_item D hz hT hTI h1 h2 hl1 hl2 hx hy fun h' a1 a3 a4 a5 a6 a7 => wpAny_pure (hQ h' a1 a3 a4 a5 a6 a7)) (F.args_zip_next_1 _))))
theorem nextT_heldEnd {T : Addr} {f : Bool} {oT : Obj} {k1 k2 : Nat} {Q : Option Value → Shared → Prop} (hh : A.handled = none) (D : ZipApart z TI TO i1 i2 l1 l2)
    (hz : IsZipHeld s.heap z TI TO T f) (hT : s.heap.get? T = some oT) (hTI : IsPair s.heap TI (.ref i1) (.ref i2))
    (h1 : s.heap.IsTupleIter i1 l1 k1) (h2 : s.heap.IsTupleIter i2 l2 k2) (hl1 : s.heap.IsTuple l1 xs) (hl2 : s.heap.IsTuple l2 ys) (hend : xs[k1]? = none ∨ ys[k2]? = none)
    (hQ : ∀ h', (∀ c o, c ≠ z → c ≠ i1 → c ≠ i2 → s.heap.get? c = some o → h'.get? c = some o) → Q none { s with heap := h' }) : wpAny (model prog w) A (pyNext (.ref z)) Q E s := by
  have hTy : s.TypeIs (.ref z) "zip" := ⟨_, hz, rfl⟩
  unfold pyNext
  refine wpAny_bind (wpAny_attempt (wpAny_callSpecial?_slot (name := Str.ofString "__next__") hTy F.slot_zip_next
    (wpAny_call_entry F.slot_zip_next hTy F.entry_zip_next (heldT_end hh D hz hT hTI h1 h2 hl1 hl2 hend fun h' e hk he => ?_) (F.args_zip_next_1 _))))
  obtain ⟨o, ho, hc⟩ := he
  refine wpAny_bind (wpAny_isInstance (T := "StopIteration") (b := true) ⟨o, ho, hc⟩ isSubtype_stop ?_)
  exact wpAny_pure (hQ _ hk)
/-- the zip, i pairs told -/
structure ZS (xs ys : Array Value) (z TI TO i1 i2 l1 l2 : Addr) (i : Nat) (h : Heap) : Prop where
  zip : (IsZip h z TI TO .none ∧ ∃ a b, IsPair h TO a b) ∨ ∃ T f oT, IsZipHeld h z TI TO T f ∧ h.get? T = some oT ∧ T ≠ z ∧ T ≠ TO ∧ T ≠ i1 ∧ T ≠ i2
  ti : IsPair h TI (.ref i1) (.ref i2)
  j1 : h.IsTupleIter i1 l1 i
  j2 : h.IsTupleIter i2 l2 i
  t1 : h.IsTuple l1 xs
  t2 : h.IsTuple l2 ys
  tob : ∃ o, h.get? TO = some o
theorem ZS.keep {i : Nat} {h h' : Heap} (Z : ZS xs ys z TI TO i1 i2 l1 l2 i h) {S : Addr} (hS : ∀ c o, c ≠ S → h.get? c = some o → h'.get? c = some o) (n1 : S ≠ z) (n2 : S ≠ TI) (n3 : S ≠ TO) (n4 : S ≠ i1) (n5 : S ≠ i2) (n6 : S ≠ l1) (n7 : S ≠ l2) (hT : ∀ b o, h.get? b = some o → ∃ o', h'.get? b = some o') : ZS xs ys z TI TO i1 i2 l1 l2 i h' where
  zip := by
    rcases Z.zip with ⟨a, b, c, e⟩ | ⟨T, f, oT, a, b, c⟩
    · exact .inl ⟨hS _ _ (Ne.symm n1) a, b, c, hS _ _ (Ne.symm n3) e⟩
    · obtain ⟨o, ho⟩ := hT T oT b
      exact .inr ⟨T, f, o, hS _ _ (Ne.symm n1) a, ho, c⟩
  ti := hS _ _ (Ne.symm n2) Z.ti
  j1 := Z.j1.at fun o e => hS _ _ (Ne.symm n4) e
  j2 := Z.j2.at fun o e => hS _ _ (Ne.symm n5) e
  t1 := by obtain ⟨o, e, r⟩ := Z.t1; exact ⟨o, hS _ _ (Ne.symm n6) e, r⟩
  t2 := by obtain ⟨o, e, r⟩ := Z.t2; exact ⟨o, hS _ _ (Ne.symm n7) e, r⟩
  tob := by obtain ⟨o, e⟩ := Z.tob; exact hT _ _ e
/-- one step -/
theorem next_item {i : Nat} {x y : Value} {Q : Option Value → Shared → Prop} (D : ZipApart z TI TO i1 i2 l1 l2) (Z : ZS xs ys z TI TO i1 i2 l1 l2 i s.heap) (hx : xs[i]? = some x) (hy : ys[i]? = some y)
    (hQ : ∀ h' T, ZS xs ys z TI TO i1 i2 l1 l2 (i + 1) h' → T = s.heap.objs.size → IsPair h' T x y → (∀ c o, c ≠ z → c ≠ TO → c ≠ i1 → c ≠ i2 → s.heap.get? c = some o → h'.get? c = some o) → Q (some (.ref T)) { s with heap := h' }) :
    wpAny (model prog w) A (pyNext (.ref z)) Q E s := by
  have ltz : z < s.heap.objs.size ∧ TO < s.heap.objs.size ∨ z < s.heap.objs.size := by
    rcases Z.zip with ⟨a, _, _, e⟩ | ⟨T, f, oT, a, _⟩
    · exact .inl ⟨Heap.lt_size a, Heap.lt_size e⟩
    · exact .inr (Heap.lt_size a)
  have lt1 : i1 < s.heap.objs.size := by obtain ⟨_, e, _⟩ := Z.j1; exact Heap.lt_size e
  have lt2 : i2 < s.heap.objs.size := by obtain ⟨_, e, _⟩ := Z.j2; exact Heap.lt_size e
  have up : ∀ {h' : Heap} {l : Addr} {us : Array Value}, s.heap.IsTuple l us → l ≠ z → l ≠ TO → l ≠ i1 → l ≠ i2 → (∀ c o, c ≠ z → c ≠ TO → c ≠ i1 → c ≠ i2 → s.heap.get? c = some o → h'.get? c = some o) → h'.IsTuple l us := fun ⟨o, e, r⟩ a1 a2 a3 a4 k => ⟨o, k _ _ a1 a2 a3 a4 e, r⟩
  rcases Z.zip with ⟨hz, a, b, hTO⟩ | ⟨T, f, oT, hz, hT, nz, nTO, n1, n2⟩
  · refine pyNext_zipT_item D hz Z.ti hTO Z.j1 Z.j2 Z.t1 Z.t2 hx hy fun h' a1 a2 a3 a4 a5 a6 a7 => hQ h' _ ⟨.inr ⟨s.heap.objs.size, false, _, a1, a5, ?_, ?_, ?_, ?_⟩, a7 _ _ D.TIz D.TITO D.TIi1 D.TIi2 Z.ti, a3, a4, up Z.t1 D.l1z D.l1TO D.l1i1 D.l1i2 a7, up Z.t2 D.l2z D.l2TO D.l2i1 D.l2i2 a7, ⟨_, a2⟩⟩ rfl a5 a7
    · exact Nat.ne_of_gt (Heap.lt_size hz)
    · exact Nat.ne_of_gt (Heap.lt_size hTO)
    · exact Nat.ne_of_gt lt1
    · exact Nat.ne_of_gt lt2
  · refine nextT_held D hz hT Z.ti Z.j1 Z.j2 Z.t1 Z.t2 hx hy fun h' a1 a3 a4 a5 a6 a7 => ?_
    have a7' : ∀ c o, c ≠ z → c ≠ TO → c ≠ i1 → c ≠ i2 → s.heap.get? c = some o → h'.get? c = some o := fun c o c1 _ c2 c3 e => a7 c o c1 c2 c3 e
    exact hQ h' _ ⟨.inr ⟨T, true, oT, a1, a7 _ _ nz n1 n2 hT, nz, nTO, n1, n2⟩, a7 _ _ D.TIz D.TIi1 D.TIi2 Z.ti, a3, a4, up Z.t1 D.l1z D.l1TO D.l1i1 D.l1i2 a7', up Z.t2 D.l2z D.l2TO D.l2i1 D.l2i2 a7', let ⟨o, e⟩ := Z.tob; ⟨o, a7 _ _ D.TOz D.TOi1 D.TOi2 e⟩⟩ rfl a5 a7'
theorem next_end {i : Nat} {Q : Option Value → Shared → Prop} (hh : A.handled = none) (D : ZipApart z TI TO i1 i2 l1 l2) (Z : ZS xs ys z TI TO i1 i2 l1 l2 i s.heap) (hend : xs[i]? = none ∨ ys[i]? = none)
    (hQ : ∀ h', (∀ c o, c ≠ z → c ≠ TO → c ≠ i1 → c ≠ i2 → s.heap.get? c = some o → h'.get? c = some o) → Q none { s with heap := h' }) : wpAny (model prog w) A (pyNext (.ref z)) Q E s := by
  rcases Z.zip with ⟨hz, a, b, hTO⟩ | ⟨T, f, oT, hz, hT, nz, nTO, n1, n2⟩
  · exact pyNext_zipT_end hh D hz Z.ti hTO Z.j1 Z.j2 Z.t1 Z.t2 hend hQ
  · exact nextT_heldEnd hh D hz hT Z.ti Z.j1 Z.j2 Z.t1 Z.t2 hend fun h' k => hQ h' fun c o c1 _ c2 c3 e => k c o c1 c2 c3 e
/-- what has been gathered -/
def Acc (xs ys : Array Value) (bad : List Addr) (n0 : Nat) (h : Heap) (acc : Array Value) (i : Nat) : Prop := acc.size = i ∧ ∀ (j : Nat) (v : Value), acc[j]? = some v → ∃ (T : Addr) (x y : Value), v = Value.ref T ∧ xs[j]? = some x ∧ ys[j]? = some y ∧ IsPair h T x y ∧ T ∉ bad ∧ n0 ≤ T
def Dst (acc : Array Value) : Prop := ∀ (j k : Nat) (v : Value), acc[j]? = some v → acc[k]? = some v → j = k
theorem zip_loop {S : Addr} {n n0 : Nat} {res : Value} {R : Result → Shared → Prop} (D : ZipApart z TI TO i1 i2 l1 l2) (n1 : S ≠ z) (n2 : S ≠ TI) (n3 : S ≠ TO) (n4 : S ≠ i1) (n5 : S ≠ i2) (n6 : S ≠ l1) (n7 : S ≠ l2) (hn : n ≤ sizeLine) (hm : n = min xs.size ys.size) :
    ∀ (k i : Nat) (A : Around) (s : Shared) (acc : Array Value) (c : Nat), A.handled = none → n - i = k → i ≤ n → n0 ≤ s.heap.objs.size → ZS xs ys z TI TO i1 i2 l1 l2 i s.heap → s.heap.get? S = some { cls := .type "list", dict := none, data := .seq acc c, slots := #[] } → Acc xs ys [S, z, TO, i1, i2] n0 s.heap acc i → Dst acc →
    (∀ h' acc' c', (∀ b o, b ∉ [S, z, TO, i1, i2] → s.heap.get? b = some o → h'.get? b = some o) → h'.get? S = some { cls := .type "list", dict := none, data := .seq acc' c', slots := #[] } → Acc xs ys [S, z, TO, i1, i2] n0 h' acc' n → Dst acc' → R (.ok (.ret res)) { s with heap := h' }) →
    codeAny (model prog w) A (.builtin "list.extend.loop" ⟨[.ref S, .ref z, res], []⟩) R s := by
  intro k
  induction k with
  | zero =>
    intro i A s acc c hh hk hi h0 Z hS ha hd hR
    have hin : i = n := by omega
    subst hin
    refine codeAny_builtin F.entry_extend_loop ?_
    rw [Around.under_plainId F.plain_extend_loop _]
    show wpAny _ A.in1 (pyNext (.ref z) >>= _) _ _ s
    have hend : xs[i]? = none ∨ ys[i]? = none := by
      rcases Nat.le_total xs.size ys.size with q | q
      · exact .inl (Array.getElem?_eq_none_iff.mpr (by omega))
      · exact .inr (Array.getElem?_eq_none_iff.mpr (by omega))
    refine wpAny_bind (next_end (A := A.in1) hh D Z hend fun h' kp => ?_)
    have kp' : ∀ b o, b ∉ [S, z, TO, i1, i2] → s.heap.get? b = some o → h'.get? b = some o := fun b o hb e => by
      simp only [List.mem_cons, not_or, List.not_mem_nil, not_false_eq_true, and_true] at hb
      exact kp b o hb.2.1 hb.2.2.1 hb.2.2.2.1 hb.2.2.2.2 e
    refine wpAny_pure (hR h' acc c kp' (kp S _ n1 n3 n4 n5 hS) ⟨ha.1, fun j v hj => ?_⟩ hd)
    obtain ⟨T, x, y, e1, e2, e3, e4, e5, e6⟩ := ha.2 j v hj
    exact ⟨T, x, y, e1, e2, e3, kp' _ _ e5 e4, e5, e6⟩
  | succ k ih =>
    intro i A s acc c hh hk hi h0 Z hS ha hd hR
    have hlt : i < n := by omega
    obtain ⟨x, hx⟩ : ∃ x, xs[i]? = some x := ⟨xs[i]'(by omega), by rw [Array.getElem?_eq_getElem]⟩
    obtain ⟨y, hy⟩ : ∃ y, ys[i]? = some y := ⟨ys[i]'(by omega), by rw [Array.getElem?_eq_getElem]⟩
    refine codeAny_builtin F.entry_extend_loop ?_
    rw [Around.under_plainId F.plain_extend_loop _]
    show wpAny _ A.in1 (pyNext (.ref z) >>= _) _ _ s
    refine wpAny_bind (next_item (A := A.in1) D Z hx hy fun h' T Z' eT hT kp => ?_)
    have hS' := kp S _ n1 n3 n4 n5 hS
    have lS : S < s.heap.objs.size := Heap.lt_size hS
    have lz : z < s.heap.objs.size ∧ i1 < s.heap.objs.size ∧ i2 < s.heap.objs.size := by
      refine ⟨?_, ?_, ?_⟩
      · rcases Z.zip with ⟨a, _⟩ | ⟨_, _, _, a, _⟩ <;> exact Heap.lt_size a
      · obtain ⟨_, e, _⟩ := Z.j1; exact Heap.lt_size e
      · obtain ⟨_, e, _⟩ := Z.j2; exact Heap.lt_size e
    have TnS : T ≠ S := by rw [eT]; exact Nat.ne_of_gt lS
    have TnTO : T ≠ TO := by
      obtain ⟨o, e⟩ := Z.tob
      rw [eT]; exact Nat.ne_of_gt (Heap.lt_size e)
    have hTb : T ∉ [S, z, TO, i1, i2] := by
      simp only [List.mem_cons, not_or, List.not_mem_nil, not_false_eq_true, and_true]
      exact ⟨TnS, by rw [eT]; exact Nat.ne_of_gt lz.1, TnTO, by rw [eT]; exact Nat.ne_of_gt lz.2.1, by rw [eT]; exact Nat.ne_of_gt lz.2.2⟩
    show wpAny _ A.in1 (updateSeq S (·.push (.ref T)) >>= _) _ _ _
    refine wpAny_bind ?_
    have oth : ∀ b o, b ≠ S → h'.get? b = some o → (h'.update S (Obj.mapSeq (·.push (Value.ref T)))).get? b = some o := fun b o hb e => (Heap.get?_update_other _ _ (Ne.symm hb)).trans e
    refine wpAny_updateSeq hS' rfl (wpAny_pure ⟨plainId_quiet F.plain_extend_loop _, ih (i + 1) A _ (acc.push (.ref T)) _ hh (by omega) hlt ?_ (Z'.keep oth n1 n2 n3 n4 n5 n6 n7 fun b o e => ?_) (Heap.get?_update_self _ hS' rfl) ⟨by rw [Array.size_push, ha.1], fun j v hj => ?_⟩ ?_ fun h'' acc' c' kp2 hS2 ha2 hd2 => ?_⟩)
      (by rw [ha.1]; omega) (by show (acc.push (.ref T)).size ≤ sizeLine + 1; rw [Array.size_push, ha.1]; omega)
    · have h2 := Heap.lt_size (oth _ _ TnS hT)
      refine Nat.le_of_lt (Nat.lt_of_le_of_lt ?_ h2)
      rw [eT]; exact h0
    · by_cases hb : b = S
      · subst hb; exact ⟨_, Heap.get?_update_self _ hS' rfl⟩
      · exact ⟨o, oth _ _ hb e⟩
    · rw [Array.getElem?_push] at hj
      split at hj
      · rename_i e
        cases hj
        rw [ha.1] at e
        subst e
        exact ⟨T, x, y, rfl, hx, hy, oth _ _ TnS hT, hTb, by rw [eT]; exact h0⟩
      · obtain ⟨T1, x1, y1, e1, e2, e3, e4, e5, e6⟩ := ha.2 j v hj
        refine ⟨T1, x1, y1, e1, e2, e3, ?_, e5, e6⟩
        simp only [List.mem_cons, not_or, List.not_mem_nil, not_false_eq_true, and_true] at e5
        exact oth _ _ e5.1 (kp _ _ e5.2.1 e5.2.2.1 e5.2.2.2.1 e5.2.2.2.2 e4)
    · have old : ∀ (j : Nat), acc[j]? = some (Value.ref T) → False := fun j hj => by
        obtain ⟨T1, x1, y1, e1, e2, e3, e4, e5, e6⟩ := ha.2 j _ hj
        cases e1
        have := Heap.lt_size e4
        rw [eT] at this
        exact Nat.lt_irrefl _ this
      intro j k v hj hk
      rw [Array.getElem?_push] at hj hk
      split at hj
      · split at hk
        · rename_i e1 e2; rw [e1, e2]
        · cases hj; exact (old _ hk).elim
      · split at hk
        · cases hk; exact (old _ hj).elim
        · exact hd j k v hj hk
    · refine hR h'' acc' c' (fun b o hb e => kp2 b o hb ?_) hS2 ha2 hd2
      simp only [List.mem_cons, not_or, List.not_mem_nil, not_false_eq_true, and_true] at hb
      exact oth _ _ hb.1 (kp _ _ hb.2.1 hb.2.2.1 hb.2.2.2.1 hb.2.2.2.2 e)
theorem zip_nolen : typeLookup (.type "zip") "__len__" = pure none := by rw [typeLookup_type, builtinLookup_eq_fast]; kernel_rfl
theorem zip_nohint : typeLookup (.type "zip") "__length_hint__" = pure none := by rw [typeLookup_type, builtinLookup_eq_fast]; kernel_rfl
theorem collect_zipT {n : Nat} {Q : List Value → Shared → Prop} (hh : A.handled = none) (D : ZipApart z TI TO i1 i2 l1 l2) (Z : ZS xs ys z TI TO i1 i2 l1 l2 0 s.heap) (hz : IsZip s.heap z TI TO .none) (hn : n ≤ sizeLine) (hm : n = min xs.size ys.size)
    (hQ : ∀ h' acc, (∀ b o, b ∉ [z, TO, i1, i2] → s.heap.get? b = some o → h'.get? b = some o) → Acc xs ys [s.heap.objs.size, z, TO, i1, i2] s.heap.objs.size h' acc n → Dst acc → Q acc.toList { s with heap := h' }) : wpAny (model prog w) A (collect (.ref z)) Q E s := by
  have lz : z < s.heap.objs.size := Heap.lt_size hz
  have lTI : TI < s.heap.objs.size := Heap.lt_size Z.ti
  have lTO : TO < s.heap.objs.size := by obtain ⟨o, e⟩ := Z.tob; exact Heap.lt_size e
  have lj1 : i1 < s.heap.objs.size := by obtain ⟨_, e, _⟩ := Z.j1; exact Heap.lt_size e
  have lj2 : i2 < s.heap.objs.size := by obtain ⟨_, e, _⟩ := Z.j2; exact Heap.lt_size e
  have ll1 : l1 < s.heap.objs.size := by obtain ⟨_, e, _⟩ := Z.t1; exact Heap.lt_size e
  have ll2 : l2 < s.heap.objs.size := by obtain ⟨_, e, _⟩ := Z.t2; exact Heap.lt_size e
  have hSI : s.heap.objs.size ≠ z := Nat.ne_of_gt lz
  unfold collect
  refine wpAny_bind (wpAny_runValue (codeAny_builtin F.entry_proto_collect ?_))
  rw [Around.under_plainId F.plain_proto_collect _]
  show wpAny _ A.in1 (newList [] >>= fun l => again (.builtin "list.__iadd__" ⟨[l, .ref z], []⟩)) _ _ s
  refine wpAny_bind (wpAny_newObj_type ?_)
  refine wpAny_pure ⟨plainId_quiet F.plain_list_iadd _, codeAny_builtin F.entry_list_iadd ?_⟩
  rw [Around.under_plainId F.plain_list_iadd _]
  show wpAny _ A.in1 (Builtin.List.listExtendWith (.ref s.heap.objs.size) (.ref z) (.ref s.heap.objs.size)) _ _ _
  generalize hh1 : s.heap.push { cls := .type "list", data := .seq ([] : List Value).toArray } = hp1
  have up1 : ∀ b o, s.heap.get? b = some o → hp1.get? b = some o := fun b o e => by rw [← hh1]; exact Heap.get?_push_of_some _ e
  have hz1 : IsZip hp1 z TI TO .none := up1 _ _ hz
  have hS₁ : hp1.get? s.heap.objs.size = some { cls := .type "list", data := .seq ([] : List Value).toArray } := by rw [← hh1]; exact Heap.get?_push_size _ rfl
  have hT1 : ({ s with heap := hp1 } : Shared).TypeIs (.ref z) "zip" := ⟨_, hz1, rfl⟩
  unfold Builtin.List.listExtendWith
  refine wpAny_bind (wpAny_typeOf hT1 ?_)
  have h1 : Builtin.List.listSameRef (.ref s.heap.objs.size) (.ref z) = false := by simp [Builtin.List.listSameRef, hSI]
  have h2 : (Value.type "zip" == Value.type "list") = false := by decide
  have h3 : (Value.type "zip" == Value.type "tuple") = false := by decide
  simp only [h1, h2, h3, Bool.or_false, Bool.false_eq_true, if_false]
  refine wpAny_bind (wpAny_pyIter_zip hz1 ?_)
  refine wpAny_bind (wpAny_holding ?_)
  unfold Builtin.List.listLengthHint
  refine wpAny_bind (wpAny_specialOf hT1 zip_nolen ?_)
  show wpAny _ A.in1 (specialOf (Value.ref z) (Str.ofString "__length_hint__") >>= _) _ _ _
  refine wpAny_bind (wpAny_specialOf hT1 zip_nohint ?_)
  refine wpAny_pure ?_
  show wpAny _ A.in1 (rule "list.extend.makes-room" >>= fun _ => Builtin.List.listTouch (.ref s.heap.objs.size) >>= fun _ =>
    again (.builtin "list.extend.loop" ⟨[.ref s.heap.objs.size, .ref z, .ref s.heap.objs.size], []⟩)) _ _ _
  refine wpAny_bind (wpAny_rule ?_)
  refine wpAny_bind ?_
  show wpAny _ A.in1 (updateSeq s.heap.objs.size (·.push .none) >>= fun _ => updateSeq s.heap.objs.size (·.pop)) _ _ _
  refine wpAny_bind (wpAny_updateSeq hS₁ rfl ?_)
  have hS₂ := Heap.get?_update_self (Obj.mapSeq (·.push Value.none)) hS₁ rfl
  refine wpAny_updateSeq hS₂ rfl ?_
  have hS₃ := Heap.get?_update_self (Obj.mapSeq (·.pop)) hS₂ rfl
  have oth : ∀ b o, b ≠ s.heap.objs.size → hp1.get? b = some o → ((hp1.update s.heap.objs.size (Obj.mapSeq (·.push Value.none))).update s.heap.objs.size (Obj.mapSeq (·.pop))).get? b = some o :=
    fun b o hb e => (Heap.get?_update_other _ _ (Ne.symm hb)).trans ((Heap.get?_update_other _ _ (Ne.symm hb)).trans e)
  have oth2 : ∀ b o, s.heap.get? b = some o → ((hp1.update s.heap.objs.size (Obj.mapSeq (·.push Value.none))).update s.heap.objs.size (Obj.mapSeq (·.pop))).get? b = some o := fun b o e => oth b o (Nat.ne_of_lt (Heap.lt_size e)) (up1 b o e)
  generalize (hp1.update s.heap.objs.size (Obj.mapSeq (·.push Value.none))).update s.heap.objs.size (Obj.mapSeq (·.pop)) = hp2 at hS₃ oth2 ⊢
  obtain ⟨c0, hS4⟩ : ∃ c, hp2.get? s.heap.objs.size = some { cls := .type "list", dict := none, data := .seq #[] c, slots := #[] } := ⟨_, hS₃⟩
  have Z2 : ZS xs ys z TI TO i1 i2 l1 l2 0 hp2 := Z.keep (S := s.heap.objs.size) (fun b o _ e => oth2 b o e) hSI (Nat.ne_of_gt lTI) (Nat.ne_of_gt lTO) (Nat.ne_of_gt lj1) (Nat.ne_of_gt lj2) (Nat.ne_of_gt ll1) (Nat.ne_of_gt ll2) fun b o e => ⟨o, oth2 b o e⟩
  have ha0 : Acc xs ys [s.heap.objs.size, z, TO, i1, i2] s.heap.objs.size hp2 #[] 0 := ⟨rfl, fun j v h => by simp at h⟩
  refine wpAny_pure ⟨plainId_quiet F.plain_extend_loop _, zip_loop (n := n) (n0 := s.heap.objs.size) D hSI (Nat.ne_of_gt lTI) (Nat.ne_of_gt lTO) (Nat.ne_of_gt lj1) (Nat.ne_of_gt lj2) (Nat.ne_of_gt ll1) (Nat.ne_of_gt ll2) hn hm n 0 A { s with heap := hp2 } #[] c0 hh rfl (Nat.zero_le _) (Nat.le_of_lt (Heap.lt_size hS4)) Z2 hS4 ha0 (fun j k v hj => by simp at hj) fun h' acc' c' kp hS' ha hd => ?_⟩
  show wpAny _ A (load s.heap.objs.size >>= _) _ _ _
  refine wpAny_bind (wpAny_load hS' ?_)
  refine wpAny_pure (hQ h' acc' (fun b o hb e => kp b o ?_ (oth2 b o e)) ha hd)
  simp only [List.mem_cons, not_or, List.not_mem_nil, not_false_eq_true, and_true] at hb ⊢
  exact ⟨Nat.ne_of_lt (Heap.lt_size e), hb⟩
theorem tuple_new_zip {n : Nat} {Q₁ : Value → Shared → Prop} (hh : A.handled = none) (D : ZipApart z TI TO i1 i2 l1 l2) (Z : ZS xs ys z TI TO i1 i2 l1 l2 0 s.heap) (hz : IsZip s.heap z TI TO .none) (hn : n ≤ sizeLine) (hm : n = min xs.size ys.size)
    (h : ∀ h' acc, (∀ b o, b ∉ [z, TO, i1, i2] → s.heap.get? b = some o → h'.get? b = some o) → Acc xs ys [s.heap.objs.size, z, TO, i1, i2] s.heap.objs.size h' acc n → Dst acc → Q₁ (.ref h'.objs.size) { s with heap := h'.push { cls := .type "tuple", data := .seq acc } }) :
    codeAny (model prog w) A (.call (.builtin "tuple.__new__") ⟨[.type "tuple", .ref z], []⟩) (wants Q₁ E) s := by
  refine codeAny_of_tree ?_
  show wpAny _ A.in1 (do checkBuiltinCall "tuple.__new__" ⟨[.type "tuple", .ref z], []⟩; again (.builtin "tuple.__new__" ⟨[.type "tuple", .ref z], []⟩)) _ _ s
  refine wpAny_bind (wpAny_of_eq (F.newCall_tuple_1 _) (wpAny_pure ⟨plainId_quiet F.plain_tuple_new _, codeAny_builtin F.entry_tuple_new ?_⟩))
  rw [Around.under_plainId F.plain_tuple_new _]
  have hsub := sub_tuple_self
  have hinit := init_tuple_lookup
  have hmh := madeHere_tuple
  have hTI : s.TypeIs (.ref z) "zip" := ⟨_, hz, rfl⟩
  have hh1 : A.in1.handled = none := hh
  wp_walk using wpAny_typeOf hTI, collect_zipT (A := A.in1) hh1 D Z hz hn hm
  intro h' acc hk hacc hd
  show wpAny _ _ (Builtin.Tuple.tupleExact acc.toList.toArray >>= fun v => ret v) _ _ _
  unfold Builtin.Tuple.tupleExact
  refine wpAny_bind (wpAny_newObj_type ?_ (by show acc.toList.toArray.size ≤ sizeLine; simp only [Array.toArray_toList]; rw [hacc.1]; exact hn))
  refine wpAny_pure ?_
  have e : acc.toList.toArray = acc := by simp
  rw [e]
  exact h h' acc hk hacc hd
theorem call_tuple_zip {n : Nat} {Q : Value → Shared → Prop} (hh : A.handled = none) (D : ZipApart z TI TO i1 i2 l1 l2) (Z : ZS xs ys z TI TO i1 i2 l1 l2 0 s.heap) (hz : IsZip s.heap z TI TO .none) (hn : n ≤ sizeLine) (hm : n = min xs.size ys.size)
    (hQ : ∀ h' acc, (∀ b o, b ∉ [z, TO, i1, i2] → s.heap.get? b = some o → h'.get? b = some o) → Acc xs ys [s.heap.objs.size, z, TO, i1, i2] s.heap.objs.size h' acc n → Dst acc → Q (.ref h'.objs.size) { s with heap := h'.push { cls := .type "tuple", data := .seq acc } }) :
    wpAny (model prog w) A (call (.type "tuple") [.ref z]) Q E s := by
  refine callType_codes (Q₁ := fun obj s₁ => s₁.TypeIs obj "tuple" ∧ Q obj s₁) F.called_tuple (F.typeCall_tuple_1 _) F.entry_object_init
    (tuple_new_zip (A := A.in1) hh D Z hz hn hm fun h' acc hk hacc hd => ⟨⟨_, Heap.get?_push_size _ rfl, rfl⟩, hQ h' acc hk hacc hd⟩) fun obj s₁ h₁ => ?_
  exact ⟨h₁.1, F.args_object_init_2 obj _, object_init_meets F.called_tuple.init.lookup F.called_tuple.made (by decide) prog w A.in1 _ s₁ ⟨h₁.1, rfl, h₁.2⟩⟩
end
namespace L2E
open L2
section
variable {X : Cx} {pins : List (Addr × Obj)} {σ : L2.St} {s : Shared}
/-- pairs that stand in h', tracked one behind another -/
theorem track_pairs {h' : Heap} : ∀ (ts : List (Addr × V × V)) (H : Hp) (G : Heap), (∀ b o, G.get? b = some o → h'.get? b = some o) → (∀ t ∈ ts, G.get? t.1 = none ∧ H t.1 = none ∧ ∃ u w, IsPair h' t.1 u w ∧ RelV t.2.1 u ∧ RelV t.2.2 w) → (ts.map (·.1)).Nodup →
    Inv X pins σ H { s with heap := G } → ∃ H2, Inv X pins σ H2 { s with heap := h' } ∧ (∀ b o, H b = some o → H2 b = some o) ∧ ∀ t ∈ ts, H2 t.1 = some (.tup [t.2.1, t.2.2]) := by
  intro ts
  induction ts with
  | nil => intro H G hG _ _ I; exact ⟨H, I.kept (t' := s.toks) hG, fun _ _ e => e, fun t ht => absurd ht (by simp)⟩
  | cons t r ih =>
    intro H G hG ht nd I
    obtain ⟨t1, t2, u, w, t3, t4, t5⟩ := ht t List.mem_cons_self
    rw [List.map_cons, List.nodup_cons] at nd
    obtain ⟨G1, g1, g2⟩ := restrict h' fun b => decide (b = t.1) || (G.get? b).isSome
    have k1 : ∀ b o, G.get? b = some o → G1.get? b = some o := fun b o e => by
      rw [g1 b (by simp [e])]; exact hG b o e
    have n1 : ∀ b, b ≠ t.1 → G.get? b = none → G1.get? b = none := fun b hb e => g2 b (by simp [hb, e])
    have p1 : IsPair G1 t.1 u w := by
      show G1.get? t.1 = _
      rw [g1 t.1 (by simp)]; exact t3
    have I1 : Inv X pins σ (upd H t.1 (.tup [t.2.1, t.2.2])) { s with heap := G1 } :=
      I.laidN (t' := s.toks) k1 t1 t2 (show ObjOk X.prog X.w _ G1 _ (.tup [t.2.1, t.2.2]) from ⟨by show 2 ≤ sizeLine; decide, [u, w], .cons t4 (.cons t5 .nil), ⟨_, p1, rfl, _, rfl⟩⟩)
    obtain ⟨H2, I2, a1, a2⟩ := ih (upd H t.1 (.tup [t.2.1, t.2.2])) G1 (fun b o e => by
        by_cases hb : (decide (b = t.1) || (G.get? b).isSome) = true
        · rw [g1 b hb] at e; exact e
        · rw [g2 b (Bool.eq_false_iff.mpr hb)] at e; cases e)
      (fun q hq => by
        have hne : q.1 ≠ t.1 := fun z => nd.1 (by rw [← z]; exact List.mem_map.mpr ⟨q, hq, rfl⟩)
        obtain ⟨q1, q2, q3⟩ := ht q (List.mem_cons_of_mem _ hq)
        exact ⟨n1 _ hne q1, by rw [upd_ne hne]; exact q2, q3⟩) nd.2 I1
    refine ⟨H2, I2, fun b o e => a1 b o (by rw [upd_ne (ne_of_none e t2)]; exact e), fun q hq => ?_⟩
    rcases List.mem_cons.mp hq with e | hq
    · rw [e]; exact a1 _ _ upd_same
    · exact a2 q hq
end
def adr : Value → Addr
  | .ref T => T
  | _ => 0
theorem vals_adr : ∀ {l : List Value}, (∀ v ∈ l, ∃ T, v = Value.ref T) → Vals ((l.map adr).map V.ref) l
  | [], _ => .nil
  | v :: l, h => by
    obtain ⟨T, e⟩ := h v List.mem_cons_self
    subst e
    exact .cons rfl (vals_adr fun v hv => h v (List.mem_cons_of_mem _ hv))
theorem nodup_adr : ∀ {l : List Value}, (∀ v ∈ l, ∃ T, v = Value.ref T) → l.Nodup → (l.map adr).Nodup
  | [], _, _ => .nil
  | v :: l, h, nd => by
    rw [List.nodup_cons] at nd
    rw [List.map_cons, List.nodup_cons]
    refine ⟨fun hm => ?_, nodup_adr (fun v hv => h v (List.mem_cons_of_mem _ hv)) nd.2⟩
    obtain ⟨u, hu, e⟩ := List.mem_map.mp hm
    obtain ⟨T, e1⟩ := h v List.mem_cons_self
    obtain ⟨U, e2⟩ := h u (List.mem_cons_of_mem _ hu)
    subst e1 e2
    have : U = T := e
    subst this
    exact nd.1 hu
theorem nodup_dst {acc : Array Value} (h : Dst acc) : acc.toList.Nodup := by
  refine List.pairwise_iff_getElem.mpr fun i j hi hj hij z => ?_
  have e1 : acc[i]? = some acc.toList[i] := by rw [← Array.getElem?_toList, List.getElem?_eq_getElem hi]
  have e2 : acc[j]? = some acc.toList[i] := by rw [← Array.getElem?_toList, z, List.getElem?_eq_getElem hj]
  exact absurd (h i j _ e1 e2) (Nat.ne_of_lt hij)
theorem ne_n {a b : Nat} (h : a ≠ b) : (a : Addr) ≠ (b : Addr) := h
theorem vals_back {xs : List V} {us : List Value} (r : Vals xs us) {j : Nat} {u : Value} (h : us[j]? = some u) : ∃ x, xs[j]? = some x ∧ RelV x u := by
  have hl : j < xs.length := by rw [r.length]; exact (List.getElem?_eq_some_iff.mp h).1
  obtain ⟨u', h1, h2⟩ := r.get (List.getElem?_eq_getElem hl)
  rw [h] at h1
  cases h1
  exact ⟨_, List.getElem?_eq_getElem hl, h2⟩
/-- tuple(zip(a, b)), a and b tuples -/
def tTupZip (K : PySem.W.Frag) (ta : TA) : TE := fun σ H Q => ta σ H fun vs H1 => ∃ (a b : Addr) (xs ys : List V), vs = [.ref a, .ref b] ∧ SqT K H1 a xs ∧ SqT K H1 b ys ∧
  ∀ (H2 : Hp) (ts : List Addr) (q : Addr), (∀ b o, H1 b = some o → H2 b = some o) → ts.length = min xs.length ys.length → (∀ (j : Nat) (t : Addr), ts[j]? = some t → ∃ x y, xs[j]? = some x ∧ ys[j]? = some y ∧ H2 t = some (.tup [x, y])) → H2 q = none → Q (.ref q) (upd H2 q (.tup (ts.map V.ref)))
theorem pe_tupZip {X : Cx} {e e2 : Expr} {ta : TA} {p pos p2 pos2 : Pos} (hc : X.calm = true) (hg : Gl X "tuple") (hm : X.mg "tuple" = none) (hg2 : Gl X "zip") (hm2 : X.mg "zip" = none) (ha : PA X [e, e2] ta)
    (hs : starEach [e, e2] X.env = (false, eval e X.env) :: starEach [e2] X.env) (hpl : (backTo pos2 (starEach [e2] X.env)).any (·.1) = false) :
    PE X (.Call (.Name "tuple" p) [.Call (.Name "zip" p2) [e, e2] [] pos2] [] pos) (tTupZip X.K ta) := by
  refine ⟨fun pins s σ H Q I h => ?_⟩
  refine Call_ (ld_blt I hg hm boot_tuple (PyProof.Rows.callWith_type1 (args_cons ?_ rfl) rfl))
  refine Call_ (ld_blt I hg2 hm2 PyProof.Rows.boot_zip (PyProof.Rows.callWith_type1 (thn (ha.run pos2 pins s σ H _ I h) fun us s1 ⟨vs, H1, I1, r1, q1⟩ => ?_) hs hpl))
  obtain ⟨a, b, xs, ys, ev, hqx, hqy, q1⟩ := q1
  subst ev
  obtain ⟨u1, u2, rfl, ra, rb⟩ : ∃ u1 u2, us = [u1, u2] ∧ RelV (.ref a) u1 ∧ RelV (.ref b) u2 := by
    cases r1 with
    | cons r rr => cases rr with
      | cons r2 rn => cases rn; exact ⟨_, _, rfl, r, r2⟩
  obtain rfl : u1 = .ref a := ra
  obtain rfl : u2 = .ref b := rb
  obtain ⟨its, rv, pa, hza⟩ := I1.tuple hqx
  obtain ⟨its2, rv2, pb, hzb⟩ := I1.tuple hqy
  have lx := rv.length
  have ly := rv2.length
  have la : a < s1.heap.objs.size := by obtain ⟨_, z, _⟩ := pa; exact Heap.lt_size z
  have lb : b < s1.heap.objs.size := by obtain ⟨_, z, _⟩ := pb; exact Heap.lt_size z
  show wpAny _ _ (call (.type "zip") [.ref a, .ref b]) _ _ _
  refine call_zipT pa pb fun h' z1 z2 z3 z4 z5 hsz kp => args_nil ?_
  have up : ∀ {l : Addr} {us : Array Value}, s1.heap.IsTuple l us → h'.IsTuple l us := fun ⟨o, e, r⟩ => ⟨o, kp _ _ e, r⟩
  have nn : ∀ i j : Nat, i ≠ j → s1.heap.objs.size + i ≠ s1.heap.objs.size + j := fun i j h e => h (Nat.add_left_cancel e)
  have na : ∀ (l : Addr) (i : Nat), l < s1.heap.objs.size → l ≠ s1.heap.objs.size + i := fun l i h => Nat.ne_of_lt (Nat.lt_of_lt_of_le h (Nat.le_add_right _ _))
  have D : ZipApart (s1.heap.objs.size + 4) (s1.heap.objs.size + 2) (s1.heap.objs.size + 3) s1.heap.objs.size (s1.heap.objs.size + 1) a b :=
    ⟨nn 2 4 (by decide), nn 3 4 (by decide), nn 0 4 (by decide), nn 1 4 (by decide), nn 2 3 (by decide), nn 2 0 (by decide), nn 2 1 (by decide), nn 3 0 (by decide), nn 3 1 (by decide), nn 0 1 (by decide),
      na a 4 la, na a 3 la, na a 0 la, na a 1 la, na b 4 lb, na b 3 lb, na b 0 lb, na b 1 lb⟩
  show wpAny _ _ (call (.type "tuple") [.ref (s1.heap.objs.size + 4)]) _ _ _
  refine call_tuple_zip (n := min its.length its2.length) (I1.ok.hd hc) D (s := { s1 with heap := h' }) ⟨.inl ⟨z1, _, _, z3⟩, z2, z4, z5, up pa, up pb, ⟨_, z3⟩⟩ z1 (by omega) (by simp) fun h2 acc kp2 ha hd => ?_
  have kp3 : ∀ c o, s1.heap.get? c = some o → h2.get? c = some o := fun c o e => by
    have lc := Heap.lt_size e
    refine kp2 c o ?_ (kp c o e)
    simp only [List.mem_cons, not_or, List.not_mem_nil, not_false_eq_true, and_true]
    exact ⟨na c 4 lc, na c 3 lc, na c 0 lc, na c 1 lc⟩
  have hsz : h'.objs.size = s1.heap.objs.size + 5 := hsz
  obtain ⟨G, g1, g2⟩ := restrict h2 fun c => (s1.heap.get? c).isSome
  have IG : Inv X pins σ H1 { s1 with heap := G } := I1.kept (t' := s1.toks) fun c o e => by rw [g1 c (by simp [e])]; exact kp3 c o e
  have isr : ∀ v ∈ acc.toList, ∃ T, v = Value.ref T := fun v hv => by
    obtain ⟨j, hj⟩ := List.getElem?_of_mem hv
    obtain ⟨T, _, _, e, _⟩ := ha.2 j v (by rw [← Array.getElem?_toList]; exact hj)
    exact ⟨T, e⟩
  have hlen : (acc.toList.map adr).length = min xs.length ys.length := by rw [List.length_map, Array.length_toList, ha.1, lx, ly]
  have get3 : ∀ (j : Nat) (t : Addr), (acc.toList.map adr)[j]? = some t → ∃ (u w : Value) (x y : V), xs[j]? = some x ∧ ys[j]? = some y ∧ IsPair h2 t u w ∧ RelV x u ∧ RelV y w ∧ s1.heap.objs.size ≤ t := fun j t e => by
    rw [List.getElem?_map] at e
    obtain ⟨v, hv, e⟩ := Option.map_eq_some_iff.mp e
    obtain ⟨T, u, w, e1, e2, e3, e4, _, e6⟩ := ha.2 j v (by rw [← Array.getElem?_toList]; exact hv)
    subst e1
    obtain rfl : T = t := e
    have hx : its[j]? = some u := by simpa using e2
    have hy : its2[j]? = some w := by simpa using e3
    obtain ⟨x, hx1, hx2⟩ := vals_back rv hx
    obtain ⟨y, hy1, hy2⟩ := vals_back rv2 hy
    have e6 : h'.objs.size ≤ T := e6
    exact ⟨u, w, x, y, hx1, hy1, e4, hx2, hy2, by omega⟩
  obtain ⟨H2, I2, a1, a2⟩ := track_pairs (h' := h2) ((acc.toList.map adr).zip (xs.zip ys)) H1 G (fun c o e => by
      by_cases hb : (s1.heap.get? c).isSome = true
      · rw [g1 c hb] at e; exact e
      · rw [g2 c (Bool.eq_false_iff.mpr hb)] at e; cases e)
    (fun t ht => by
      obtain ⟨j, hj⟩ := List.getElem?_of_mem ht
      rw [List.getElem?_zip_eq_some] at hj
      obtain ⟨j1, j2⟩ := hj
      rw [List.getElem?_zip_eq_some] at j2
      obtain ⟨u, w, x, y, b1, b2, b3, b4, b5, b6⟩ := get3 j _ j1
      have hn : s1.heap.get? t.1 = none := by
        cases q : s1.heap.get? t.1 with
        | none => rfl
        | some o => exact absurd (Heap.lt_size q) (Nat.not_lt.mpr b6)
      refine ⟨g2 _ (by rw [hn]; rfl), I1.hok.fresh b6, u, w, b3, ?_, ?_⟩
      · rw [j2.1] at b1; cases b1; exact b4
      · rw [j2.2] at b2; cases b2; exact b5)
    (by rw [List.map_fst_zip (by rw [hlen, List.length_zip]; exact Nat.le_refl _)]; exact nodup_adr isr (nodup_dst hd)) IG
  have I3 : Inv X pins σ (upd H2 h2.objs.size (.tup ((acc.toList.map adr).map V.ref))) { s1 with heap := h2.push { cls := .type "tuple", data := .seq acc } } :=
    I2.laid (t' := s1.toks) (fun c o e => Heap.get?_push_of_some _ e) (Nat.le_refl _) (show ObjOk X.prog X.w _ _ _ (.tup ((acc.toList.map adr).map V.ref)) from ⟨by rw [List.length_map, hlen]; omega, acc.toList, vals_adr isr, by rw [Array.toArray_toList]; exact IsTup.new _ _⟩)
  refine ⟨.ref h2.objs.size, _, I3, rfl, q1 H2 (acc.toList.map adr) h2.objs.size a1 hlen (fun j t e => ?_) (I2.hok.fresh (Nat.le_refl _))⟩
  obtain ⟨u, w, x, y, b1, b2, _⟩ := get3 j t e
  refine ⟨x, y, b1, b2, a2 (t, x, y) ?_⟩
  refine List.mem_of_getElem? (i := j) ?_
  rw [List.getElem?_zip_eq_some]
  exact ⟨e, by rw [List.getElem?_zip_eq_some]; exact ⟨b1, b2⟩⟩
end L2E
end EVZ
end
section
set_option Elab.async false
set_option linter.all false
set_option maxRecDepth 100000
/-! EvSndC: tuple(zip(a, b)). -/
namespace EV
open PySem L2

theorem rep_zip {H : Hp} {as : List Addr} {H2 : Hp} {h : PH} (rh : RepH H as h) (e : Ext H as H2 as) : ∀ {ps qs : List PV} {xs ys : List V} {ts : List Addr}, RepL H as ps xs → RepL H as qs ys → ts.length = min xs.length ys.length →
    (∀ (j : Nat) (t : Addr), ts[j]? = some t → ∃ x y, xs[j]? = some x ∧ ys[j]? = some y ∧ H2 t = some (.tup [x, y])) → RepL H2 as (List.zipWith (fun x y => .tup [x, y]) ps qs) (ts.map V.ref)
  | [], qs, xs, ys, ts, r1, r2, hl, ht => by
    rw [r1.nilE] at hl
    have : ts = [] := List.eq_nil_of_length_eq_zero (by simpa using hl)
    subst this
    exact .nil
  | p :: ps, [], xs, ys, ts, r1, r2, hl, ht => by
    rw [r2.nilE] at hl
    have : ts = [] := List.eq_nil_of_length_eq_zero (by simpa using hl)
    subst this
    exact .nil
  | p :: ps, q :: qs, xs, ys, ts, r1, r2, hl, ht => by
    obtain ⟨u, us, rfl, a1, a2⟩ := r1.consE
    obtain ⟨w, ws, rfl, b1, b2⟩ := r2.consE
    cases ts with
    | nil => simp at hl
    | cons t ts =>
      obtain ⟨x, y, e1, e2, e3⟩ := ht 0 t rfl
      cases e1
      cases e2
      refine .cons (.tup e3 (.cons (a1.ext rh e) (.cons (b1.ext rh e) .nil))) (rep_zip rh e a2 b2 (by simp at hl; omega) fun j t h => ?_)
      obtain ⟨x, y, h1, h2, h3⟩ := ht (j + 1) t (by simpa using h)
      exact ⟨x, y, by simpa using h1, by simpa using h2, h3⟩
theorem RepH.more {H H2 : Hp} {as : List Addr} {h : PH} (rh : RepH H as h) (e : ∀ b o, H b = some o → H2 b = some o) : Ext H as H2 as ∧ RepH H2 as h := by
  have e1 : Ext H as H2 as := ⟨⟨[], by simp⟩, fun a o q _ => e a o q, fun a o q => ⟨o, e a o q⟩, fun a o u q => e a _ q⟩
  exact ⟨e1, rh.ext e1 fun a ha => by obtain ⟨o, q⟩ := rh.there ha; rw [q]; exact e a o q⟩
section
variable {X : Cx} {T : XTab} {W : WX} {c : Cc} {pos p p2 pos2 : Pos} {e e2 : Expr} {d d2 : E}
theorem s_tupZip (hc : X.calm = true) (hg : Gl X "tuple") (hm : X.mg "tuple" = none) (hg2 : Gl X "zip") (hm2 : X.mg "zip" = none) (ha : PA X [e, e2] (rdL T W c [d, d2])) (hs : noStar e = true) (hs2 : noStar e2 = true) :
    PE X (.Call (.Name "tuple" p) [.Call (.Name "zip" p2) [e, e2] [] pos2] [] pos) (rdE T W c (.con .tuple (.zip d d2))) := by
  refine PE.imp (EVZ.L2E.pe_tupZip hc hg hm hg2 hm2 ha (each_noStar hs) (any_noStar (by simp [hs2]))) fun σ H Q ⟨as, r, h, p, g⟩ => ?_
  unfold evE evI at g
  have e0 : (((evE c d r h).bnd fun x h => (evE c d2 r h).bnd fun y h => ofOptI h (zipIt x y h)).bnd fun w h => conW .tuple w h) = (evL c [d, d2] r h).bnd fun vs h => match vs with | [x, y] => (ofOptI h (zipIt x y h)).bnd fun w h => conW .tuple w h | _ => .no := by
    rw [ev2]
    simp only [bnd_assoc]
    rfl
  rw [e0] at g
  refine ⟨as, r, h, p, (g.bnd (repx := rL) p).mono ?_⟩
  rintro us H1 ⟨as1, h1, vs, e1, p1, rl, _, g1⟩
  split at g1
  · rename_i x y ev
    obtain ⟨u, w, rfl, ru, rw'⟩ := rl2 rl
    cases hz : zipIt x y h1 with
    | none => rw [hz] at g1; exact g1.elim
    | some it =>
      rw [hz] at g1
      have g1 : gotR T W (conW .tuple it h1) as1 H1 σ rV Q := g1
      unfold zipIt at hz
      split at hz
      · cases hz; exact g1.elim
      · rename_i xs ys h2 h3
        cases hz
        obtain ⟨a, b, rfl, sr, ws, sq⟩ := toIt_snd (K := X.K) p1.hp ru h2
        obtain ⟨a2, b2, rfl, sr2, ws2, sq2⟩ := toIt_snd (K := X.K) p1.hp rw' h3
        cases sr with
        | vals q1 l1 =>
        cases sr2 with
        | vals q2 l2 =>
        refine ⟨a, a2, _, _, rfl, .of q1, .of q2, fun H2 ts q ek hl ht hq => ?_⟩
        obtain ⟨e2, rh2⟩ := p1.hp.more ek
        have rz := rep_zip p1.hp e2 l1 l2 hl ht
        exact (g1.ext e2).newTup rh2 rz hq
      · cases hz
  · exact g1.elim
end
end EV
end
section
set_option Elab.async false
set_option linter.all false
set_option maxRecDepth 100000
/-! EvCmp: from the program's form to the own language. -/
namespace EV
open PySem L2

/-- the built-ins that are known -/
inductive Bn where
  | len | int | min | max | isinstance | tuple | list | all | any | sum | sorted | range | enumerate | zip | bool | str | dict
def Bn.nm : Bn → Str
  | .len => "len" | .int => "int" | .min => "min" | .max => "max" | .isinstance => "isinstance" | .tuple => "tuple" | .list => "list" | .all => "all" | .any => "any"
  | .sum => "sum" | .sorted => "sorted" | .range => "range" | .enumerate => "enumerate" | .zip => "zip" | .bool => "bool" | .str => "str" | .dict => "dict"
def Bn.ty : Bn → Option Ty
  | .int => some .int | .bool => some .bool | .str => some .str | .tuple => some .tuple | .list => some .list | .dict => some .dict
  | _ => none
theorem Bn.ty_nm {b : Bn} {t : Ty} (h : b.ty = some t) : b.nm = t.st := by
  cases b <;> first | (cases h; rfl) | cases h
def mtNm : Mt → Str
  | .append => "append" | .get1 => "get" | .get2 => "get" | .index => "index" | .pop => "pop"
/-- what a global name is -/
inductive GK where
  | fn (f : Nat) (ps : List Str) | con (g : Nat) | blt (b : Bn)
structure Gx where
  sc : Scope
  N : List Str
  tab : List (Str × GK)
  mts : List (Str × Mt)
  hot : Option Scope
  kws : List (Nat × Nat × List Str × List Nat)
  tds : List Nat
abbrev Rec := Gx → Expr → E
def Gx.slot (G : Gx) (x : Str) : Option Nat := G.N.findIdx? (· == x)
def Gx.gl (G : Gx) (x : Str) : Bool := decide (G.sc.names.lookup x = some .globalImplicit)
/-- a name that may be stored -/
def Gx.okT (G : Gx) (x : Str) : Bool := match G.sc.names.lookup x with
  | some .local => true
  | some .cell => match G.hot with
    | none => true
    | some s => s.names.lookup x == some .cell
  | _ => false
def Gx.blk (G : Gx) (scope : Scope) : Gx := { G with sc := relS scope G.sc, hot := some scope }
def opOf : Operator → Option Op
  | .Add => some .add | .Sub => some .sub | .Mult => some .mul | .FloorDiv => some .fdiv | .Mod => some .mod | .Pow => some .pow
  | _ => none
def cpOf : CmpOp → Option Cp
  | .Lt => some .lt | .LtE => some .le | .Gt => some .gt | .GtE => some .ge | .Eq => some .eq | .NotEq => some .ne | .Is => some .is | .IsNot => some .isnot | .In => some .isin | .NotIn => some .notin
theorem opOf_py {p : Operator} {o : Op} (h : opOf p = some o) : p = o.py := by cases p <;> first | (cases h; rfl) | cases h
theorem cpOf_py {p : CmpOp} {o : Cp} (h : cpOf p = some o) : p = o.py := by cases p <;> first | (cases h; rfl) | cases h

def cName (G : Gx) (x : Str) : E := match G.sc.names.lookup x with
  | some .globalImplicit => match G.tab.lookup x with
    | some (.con g) => .glb g
    | _ => .nop
  | some .globalExplicit => .nop
  | some _ => if (x == ("__debug__" : Str)) || (x == ("__classdict__" : Str)) then .nop else match G.slot x with
    | some i => .var i
    | none => .nop
  | none => .nop
def cConst : Const → E
  | .none => .cst .non
  | .bool b => .cst (.bl b)
  | .int i => .cst (.int i)
  | .str s => .cst (.str s)
  | _ => .nop
def cBool (r : Rec) (G : Gx) (op : BoolOp) : List Expr → E
  | [] => .nop
  | [a] => r G a
  | a :: b :: rest => match op with
    | .And => .and (r G a) (cBool r G op (b :: rest))
    | .Or => .or (r G a) (cBool r G op (b :: rest))
def cCmp (r : Rec) (G : Gx) (a : Expr) (ops : List CmpOp) (bs : List Expr) : E := match ops, bs with
  | [p], [b] => if behindInMarks p b then .nop else match cpOf p with
    | some o => .cmp o (r G a) (r G b)
    | none => .nop
  | [p, q], [b, e] => if lastMarks [p, q] [b, e] then .nop else match cpOf p, cpOf q with
    | some o, some o2 => .chn o o2 (r G a) (r G b) (r G e)
    | _, _ => .nop
  | _, _ => .nop
/-- plain as an index -/
def cPart (r : Rec) (G : Gx) : Option Expr → Option E
  | none => some .nop
  | some e => if (r G e).isNop then none else some (r G e)
def cSub (r : Rec) (G : Gx) (a b : Expr) : E := match b with
  | .Slice lo hi none _ => match cPart r G lo, cPart r G hi with
    | some l, some u => .slc (r G a) l u
    | _, _ => .nop
  | .Slice .. => .nop
  | b => .idx (r G a) (r G b)
/-- pairs of a display -/
def cPairs (r : Rec) (G : Gx) : List (Option Expr) → List Expr → Option (List (E × E))
  | [], [] => some []
  | some k :: ks, v :: vs => (cPairs r G ks vs).map ((r G k, r G v) :: ·)
  | _, _ => none
def isTupK : List (Option Expr) → Bool
  | some (.Tuple ..) :: _ => true
  | _ => false
def cDict (r : Rec) (G : Gx) (ks : List (Option Expr)) (vs : List Expr) (pos : Pos) : E := match ks, vs with
  | [], [] => .dnew (G.tds.contains pos.line)
  | k :: ks, vs => if (k :: ks).length ≤ 15 then match cPairs r G (k :: ks) vs with
    | some prs => if isTupK (k :: ks) then .dctT (flatE prs) else .dct (flatE prs)
    | none => .nop
    else .nop
  | _, _ => .nop
def ownOf (G : Gx) (scope : Scope) : List (Str × Nat) := scope.names.filterMap fun y => match y.2 with
  | .local => (G.slot y.1).map fun i => (y.1, i)
  | .cell => (G.slot y.1).map fun i => (y.1, i)
  | _ => none
def cTg : Nat → Gx → Expr → Option Tg
  | 0, _, _ => none
  | n + 1, G, e => match e with
    | .Name x _ => if G.okT x then (G.slot x).map .nm else none
    | .Tuple es _ _ => if es.all noStar then (optAll (cTg n G) es).map .tup else none
    | _ => none
def plainIt : Expr → Bool
  | .Set .. => false
  | _ => true
def isTupT : Expr → Bool
  | .Tuple .. => true
  | _ => false
def cItC (r : Rec) (G : Gx) (tg it : Expr) (b : Bn) (as : List Expr) : E := match b, as with
  | .range, [e] => if noStar e then .rng (.cst (.int 0)) (r G e) else .nop
  | .range, [e, e2] => if noStar e && noStar e2 then .rng (r G e) (r G e2) else .nop
  | .enumerate, [e] => if noStar e && isTupT tg then .enm (r G e) else .nop
  | .zip, [e, e2] => if noStar e && noStar e2 && isTupT tg then .zip (r G e) (r G e2) else .nop
  | _, _ => .itv (r G it)
/-- the call of a built-in -/
def bltOf (G : Gx) : Expr → Option (Bn × List Expr)
  | .Call (.Name y _) as [] _ => if G.gl y then match G.tab.lookup y with
    | some (.blt b) => some (b, as)
    | _ => none
    else none
  | _ => none
def cIt (r : Rec) (G : Gx) (tg it : Expr) : E := match bltOf G it with
  | some (b, as) => cItC r G tg it b as
  | none => .itv (r G it)
structure Cpr where
  elt : E
  t : Tg
  it : E
  cond : E
  own : List (Str × Nat)
def cComp (r : Rec) (G : Gx) (elt : Expr) (gens : List Comprehension) (scope : Scope) : Option Cpr := match gens with
  | [⟨tg, it, ifs, a⟩] => if a = 0 then if plainIt it then if blkC G.N G.sc scope (ownOf G scope) then match cTg 8 (G.blk scope) tg with
    | some t => if (tgS t).all (fun i => ((ownOf G scope).map (·.2)).contains i) then match ifs with
      | [] => some ⟨r (G.blk scope) elt, t, cIt r G tg it, .cst (.bl true), ownOf G scope⟩
      | [k] => some ⟨r (G.blk scope) elt, t, cIt r G tg it, r (G.blk scope) k, ownOf G scope⟩
      | _ => none
      else none
    | none => none
    else none else none else none
  | _ => none
/-- a dict that is walked -/
def cLcD (r : Rec) (G : Gx) (elt : Expr) (gens : List Comprehension) (scope : Scope) : Option (Cpr × Nat) := match cComp r G elt gens scope with
  | some q => match gens with
    | [⟨_, it, _, _⟩] => match r G it with
      | .var i => some (q, i)
      | _ => none
    | _ => none
  | none => none
/-- what a consumer is handed -/
def cW (r : Rec) (G : Gx) (e : Expr) : E := match e with
  | .ListComp elt gens scope _ => match cComp r G elt gens scope with
    | some q => .itc q.elt q.t q.it q.cond (q.own.map (·.2))
    | none => .its (r G e)
  | e => .its (r G e)
def cTup (r : Rec) (G : Gx) (e : Expr) : E := match bltOf G e with
  | some (.range, [a]) => if noStar a then .con .tuple (.rng (.cst (.int 0)) (r G a)) else .nop
  | some (.range, [a, b]) => if noStar a && noStar b then .con .tuple (.rng (r G a) (r G b)) else .nop
  | some (.zip, [a, b]) => if noStar a && noStar b then .con .tuple (.zip (r G a) (r G b)) else .nop
  | _ => .con .tuple (cW r G e)
def cIsi (r : Rec) (G : Gx) (e ty : Expr) : E := match ty with
  | .Name y _ => if G.gl y then match G.tab.lookup y with
    | some (.blt b) => match b.ty with
      | some t => .bf (.isinst t) [r G e]
      | none => .nop
    | _ => .nop
    else .nop
  | _ => .nop
def cBlt1 (r : Rec) (G : Gx) (b : Bn) (e : Expr) : E := match b with
  | .len => .bf .len [r G e]
  | .int => .bf .int [r G e]
  | .tuple => cTup r G e
  | .list => .con .list (cW r G e)
  | .all => .con .all (cW r G e)
  | .any => .con .any (cW r G e)
  | .sum => .con .sum (cW r G e)
  | .min => .con .min (cW r G e)
  | .max => .con .max (cW r G e)
  | .sorted => .con .sorted (cW r G e)
  | _ => .nop
def cBlt2 (r : Rec) (G : Gx) (b : Bn) (e e2 : Expr) : E := match b with
  | .min => .bf .min [r G e, r G e2]
  | .max => .bf .max [r G e, r G e2]
  | .isinstance => cIsi r G e e2
  | _ => .nop
def cBlt (r : Rec) (G : Gx) (b : Bn) (es : List Expr) : E := match es with
  | [e] => if noStar e then cBlt1 r G b e else .nop
  | [e, e2] => if noStar e && noStar e2 then cBlt2 r G b e e2 else .nop
  | _ => .nop
def kwVal : Keyword → Expr
  | ⟨_, e, _⟩ => e
def cFn (r : Rec) (G : Gx) (f : Nat) (es : List Expr) (kws : List Keyword) : E := if es.all noStar then match kws with
  | [] => .call f (es.map (r G))
  | kws => match kwNm kws with
    | some ks => match G.kws.find? (fun q => q.1 == f && (q.2.1 == es.length && q.2.2.1 == ks)) with
      | some q => .callK f (es.map (r G)) (kws.map fun k => r G (kwVal k)) q.2.2.2
      | none => .nop
    | none => .nop
  else .nop
def cMt (r : Rec) (G : Gx) (o : Expr) (m : Mt) (es : List Expr) : E := match m, es with
  | .append, [e] => if noStar e then .mt .append (r G o) [r G e] else .nop
  | .index, [e] => if noStar e then .mt .index (r G o) [r G e] else .nop
  | .get1, [e] => if noStar e then .mt .get1 (r G o) [r G e] else .nop
  | .get1, [e, d] => if noStar e && noStar d then .mt .get2 (r G o) [r G e, r G d] else .nop
  | _, _ => .nop
def cCall (r : Rec) (G : Gx) (f : Expr) (es : List Expr) (kws : List Keyword) (cpos : Pos) : E := match f with
  | .Name x _ => if G.gl x then match G.tab.lookup x with
    | some (.fn f _) => cFn r G f es kws
    | some (.blt b) => match kws with
      | [] => cBlt r G b es
      | _ => .nop
    | _ => .nop
    else .nop
  | .Attribute o m apos => match kws with
    | [] => if plainBase o && (apos.endLine == cpos.line) then match G.mts.lookup m with
      | some k => cMt r G o k es
      | none => .nop
      else .nop
    | _ => .nop
  | _ => .nop
def cStep (r : Rec) : Rec := fun G e => match e with
  | .Name x _ => cName G x
  | .Constant k _ _ => cConst k
  | .Tuple es _ _ => if es.all noStar then .tup (es.map (r G)) else .nop
  | .List es _ => if es.all noStar then .lst (es.map (r G)) else .nop
  | .BinOp a p b _ => match opOf p with
    | some o => .bin o (r G a) (r G b)
    | none => .nop
  | .UnaryOp .USub a _ => .neg (r G a)
  | .UnaryOp .Not a _ => .not (r G a)
  | .BoolOp op vs _ => cBool r G op vs
  | .Compare a ops bs _ => cCmp r G a ops bs
  | .IfExp t a b _ => .ite (r G t) (r G a) (r G b)
  | .Subscript a b _ => cSub r G a b
  | .Dict ks vs pos => cDict r G ks vs pos
  | .Call f es kws pos => cCall r G f es kws pos
  | .ListComp elt gens scope lpos => if G.tds.contains (lpos.line + 1000000) then match cLcD r G elt gens scope with
      | some (q, i) => .compD q.elt q.t i q.cond (q.own.map (·.2))
      | none => .nop
    else match cComp r G elt gens scope with
    | some q => .comp q.elt q.t q.it q.cond (q.own.map (·.2))
    | none => .nop
  | _ => .nop
def cE : Nat → Rec
  | 0 => fun _ _ => .nop
  | n + 1 => cStep (cE n)

/-! ### statements -/
/-- how a tuple on both sides is stored -/
def swDec (sc : Scope) (ts vs : List Expr) : Option (Option (List Str)) :=
  if (!(ts.length == 2 || ts.length == 3) || vs.length != ts.length) = true then some none else
  if (vs.any fun | .Starred .. => true | _ => false) = true then some none else
  let line := (ts.head?.map (·.pos.line)).getD 0
  let names := ts.filterMap fun
    | .Name id pos => if (sc.names.lookup id == some .local && pos.line == line) = true then some id else none
    | _ => none
  if (names.length != ts.length || names.eraseDups.length != names.length) = true then some none else
  if vs.all (foldedForSure 8) = true then some none else
  if vs.all (constantsAlone 8) = true then none else some (some names)
def cPar (r : Rec) (G : Gx) (ts vs : List Expr) : S := match ts, vs with
  | [.Name x _, .Name y _], [a, b] => match G.slot x, G.slot y with
    | some i, some j => if G.sc.names.lookup x = some .local ∧ G.sc.names.lookup y = some .local ∧ i ≠ j ∧ noStar a = true ∧ noStar b = true then .asg (.tup [.nm i, .nm j]) (.tup [r G a, r G b]) else .bad
    | _, _ => .bad
  | [.Name x _, .Name y _, .Name z _], [a, b, e] => match G.slot x, G.slot y, G.slot z with
    | some i, some j, some l => if G.sc.names.lookup x = some .local ∧ G.sc.names.lookup y = some .local ∧ G.sc.names.lookup z = some .local ∧ (i ≠ j ∧ i ≠ l ∧ j ≠ l) ∧ noStar a = true ∧ noStar b = true ∧ noStar e = true then .asg (.tup [.nm i, .nm j, .nm l]) (.tup [r G a, r G b, r G e]) else .bad
    | _, _, _ => .bad
  | _, _ => .bad
def parNm : List Expr → List Str
  | [] => []
  | .Name x _ :: r => x :: parNm r
  | _ :: r => parNm r
def cAsgT (r : Rec) (G : Gx) (tg : Expr) (ts : List Expr) (e : Expr) : S := match e with
  | .Tuple vs _ _ => match swDec G.sc ts vs with
    | some none => match cTg 8 G tg with
      | some t => .asg t (r G e)
      | none => .bad
    | some (some ns) => if ns = parNm ts then cPar r G ts vs else .bad
    | none => .bad
  | e => if noComp e then match cTg 8 G tg with
      | some t => .asg t (r G e)
      | none => .bad
    else .bad
def swLc (G : Gx) (x : Str) (px lpos : Pos) (scope : Scope) : Bool := decide (G.sc.names.lookup x = some .local) && (px.line == lpos.line) && !(scope.names.any fun (n, k) => n == x && (k == .local || k == .cell))
def cAsgN (r : Rec) (G : Gx) (x : Str) (px : Pos) (e : Expr) : S := if G.okT x then match G.slot x with
  | some i => match e with
    | .ListComp elt gens scope lpos => if G.tds.contains (lpos.line + 1000000) then match cLcD r G elt gens scope with
        | some (q, j) => .asg (.nm i) (.compD q.elt q.t j q.cond (q.own.map (·.2)))
        | none => .bad
      else match cComp r G elt gens scope with
      | some q => .asg (.nm i) (.comp q.elt q.t q.it q.cond (q.own.map (·.2)))
      | none => .bad
    | e => if noComp e then .asg (.nm i) (r G e) else .bad
  | none => .bad
  else .bad
def cAsg (r : Rec) (G : Gx) (tg e : Expr) : S := match tg with
  | .Name x px => cAsgN r G x px e
  | .Subscript o i _ => if notSlice i && noComp e then .set (r G o) (r G i) (r G e) else .bad
  | .Tuple ts _ _ => cAsgT r G tg ts e
  | _ => .bad
def cAug (r : Rec) (G : Gx) (tg : Expr) (p : Operator) (e : Expr) : S := match tg with
  | .Name x _ => if G.okT x then match G.slot x, opOf p with
    | some i, some .add => .aug i .add (r G e)
    | some i, some .sub => .aug i .sub (r G e)
    | _, _ => .bad
    else .bad
  | _ => .bad
mutual
def cS (r : Rec) (G : Gx) : Stmt → S
  | .Pass _ => .pass
  | .Expr e _ => if noComp e then .expr (r G e) else .bad
  | .Return none _ => .retN
  | .Return (some e) _ => .ret (r G e)
  | .Break _ => .brk
  | .Continue _ => .cnt
  | .Assign [tg] e _ => cAsg r G tg e
  | .AugAssign tg p e _ => cAug r G tg p e
  | .If t a b _ => .ite (r G t) (cB r G a) (cB r G b)
  | .While t b [] _ => .whl (r G t) (cB r G b)
  | .For tg it b [] _ => if plainIt it then match cTg 8 G tg with
    | some t => .forS t (cIt r G tg it) (cB r G b)
    | none => .bad
    else .bad
  | .Try b (_ :: _) [] [] _ => .tryN (cB r G b)
  | _ => .bad
def cB (r : Rec) (G : Gx) : List Stmt → List S
  | [] => []
  | s :: ss => cS r G s :: cB r G ss
end
end EV
end
section
set_option Elab.async false
set_option linter.all false
set_option maxRecDepth 100000
/-! EvCmpS: the compile function is sound. -/
namespace EV
open PySem L2

structure OkX (X : Cx) (G : Gx) (T : XTab) (W : WX) (c : Cc) : Prop where
  sc : X.env.scope = G.sc
  N : X.N = G.N
  nd : X.N.Nodup
  calm : X.calm = true
  un : X.A.units + 65 < cLine
  tk : Takes X W
  po : PassesOwn (model X.prog X.w) X.A X.env X.xe
  fn : ∀ x, match G.hot with
    | none => X.fn x = true
    | some s => X.fn x = (s.names.lookup x == some .cell)
  kd : X.env.scope.kind = .function
  gf : ∀ x f ps, G.tab.lookup x = some (.fn f ps) → ∃ k fa fd, FnOk X.prog X.w X.K X.mg X.base (L2.CX X.prog X.w) k fa fd ps (spF T c.call f) ∧ Room k X.A ∧ X.mg x = some (.ref fa) ∧ PySem.W.keepIn X.K (.ref fa) = true ∧ Binds X.K fd ps [] ∧ (x == ("__debug__" : Str)) = false ∧
    ∀ n ks ord, (f, n, ks, ord) ∈ G.kws → KwOk X fd ps n ks ord
  gc : ∀ x g, G.tab.lookup x = some (.con g) → ∃ u v y, X.mg x = some u ∧ RelV v u ∧ c.glb g = some y ∧ (∀ H as, RepV H as y v) ∧ (x == ("__debug__" : Str)) = false
  gb : ∀ x b, G.tab.lookup x = some (.blt b) → x = b.nm ∧ X.mg x = none
  gm : ∀ x m, G.mts.lookup x = some m → x = mtNm m

theorem optAll_len {α β : Type} {f : α → Option β} : ∀ {xs : List α} {ys : List β}, optAll f xs = some ys → ys.length = xs.length
  | [], ys, h => by cases h; rfl
  | x :: xs, ys, h => by
    obtain ⟨y, zs, h1, h2, rfl⟩ := optAll_consE h
    simp [optAll_len h2]
theorem takesN {X : Cx} : Takes X EV.W0 := fun _ _ ⟨_, _, _, _, _, _, _, _, _, _, _, _, _, _, _, _, w⟩ => w.elim
section
variable {X : Cx} {G : Gx} {T : XTab} {W : WX} {c : Cc} {pos : Pos}
theorem Gx.slotN (O : OkX X G T W c) {x : Str} {i : Nat} (h : G.slot x = some i) : X.N[i]? = some x := by
  rw [O.N]
  unfold Gx.slot at h
  obtain ⟨h1, h2, h3⟩ := List.findIdx?_eq_some_iff_getElem.mp h
  rw [List.getElem?_eq_getElem h1]
  simpa using h2
theorem OkX.gl (O : OkX X G T W c) {x : Str} (h : G.gl x = true) : Gl X x := by
  unfold Gx.gl at h
  show X.env.scope.names.lookup x = _
  rw [O.sc]
  exact of_decide_eq_true h
theorem OkX.okT (O : OkX X G T W c) {x : Str} (h : G.okT x = true) : Loc X.env.scope x ∧ (X.fn x = true ∨ X.env.scope.names.lookup x = some .local) := by
  unfold Gx.okT at h
  have F := O.fn x
  unfold L2.Loc
  rw [O.sc]
  split at h
  · rename_i q; exact ⟨.inl q, .inr q⟩
  · rename_i q
    refine ⟨.inr q, .inl ?_⟩
    cases hh : G.hot with
    | none => rw [hh] at F; exact F
    | some s => rw [hh] at F h; rw [F]; exact h
  · cases h
theorem OkX.blk (O : OkX X G T W c) {s : Shared} {H : Hp} {C : Addr} {cl : List (Str × Addr)} {fp : List Addr} {scope : Scope} (hk : scope.kind = .function) : OkX (X.blk s H scope (compEnvC scope cl C X.env) fp) (G.blk scope) T EV.W0 c where
  sc := by show relS scope X.env.scope = relS scope G.sc; rw [O.sc]
  N := O.N
  nd := O.nd
  calm := O.calm
  un := O.un
  tk := takesN
  po := PassesOwn.never
  fn := fun x => rfl
  kd := hk
  gf := O.gf
  gc := O.gc
  gb := O.gb
  gm := O.gm
theorem OkX.nox (O : OkX X G T W c) : OkX X.nox G T EV.W0 c where
  sc := O.sc
  N := O.N
  nd := O.nd
  calm := O.calm
  un := O.un
  tk := takesN
  po := PassesOwn.never
  fn := O.fn
  kd := O.kd
  gf := O.gf
  gc := O.gc
  gb := O.gb
  gm := O.gm
end
/-- what compiling must keep -/
def Snd (r : Rec) : Prop := ∀ (X : Cx) (G : Gx) (T : XTab) (W : WX) (c : Cc), OkX X G T W c → ∀ e : Expr, PE X e (rdE T W c (r G e)) ∧ PT X e (rdT T W c (r G e))

section
variable {X : Cx} {G : Gx} {T : XTab} {W : WX} {c : Cc} {pos : Pos}
theorem pe_nop {e : Expr} : PE X e (rdE T W c .nop) := ⟨fun pins s σ H Q I ⟨as, r, h, p, g⟩ => by unfold evE at g; exact g.elim⟩
theorem pt_nop {e : Expr} : PT X e (rdT T W c .nop) := ⟨fun pins s σ H Q I ⟨as, r, h, p, g⟩ => by unfold evE at g; exact g.elim⟩
theorem ps_bad {s : Stmt} : PS X s (rdS T W c .bad) := ⟨fun pins s σ H Q I ⟨as, r, h, p, g⟩ => by unfold exS at g; exact g.elim⟩
theorem both_nop {e : Expr} : PE X e (rdE T W c .nop) ∧ PT X e (rdT T W c .nop) := ⟨pe_nop, pt_nop⟩
theorem both_val {e : Expr} {d : E} (h : PE X e (rdE T W c d)) (hi : ∀ whole, isTrue e X.env whole = (do let v ← whole; standAt e.pos; holding [v] (truthy v))) : PE X e (rdE T W c d) ∧ PT X e (rdT T W c d) := ⟨h, s_tstVal h hi⟩
theorem s_iteT {t a b : Expr} {A B D : E} (ht : PT X t (rdT T W c D)) (ha : PT X a (rdT T W c A)) (hb : PT X b (rdT T W c B)) : PT X (.IfExp t a b pos) (rdT T W c (.ite D A B)) := by
  refine ⟨fun pins s σ H Q I ⟨as, r, h, p, g⟩ => ?_⟩
  unfold evE at g
  have e : tst ((tst (evE c D r h)).bnd fun x h => if x = true then evE c A r h else evE c B r h) = (tst (evE c D r h)).bnd fun x h => tst (if x = true then evE c A r h else evE c B r h) := by
    cases tst (evE c D r h) <;> rfl
  rw [e] at g
  show wpAny _ _ (do if ← isTrue t X.env (eval t X.env) then isTrue a X.env (eval a X.env) else isTrue b X.env (eval b X.env)) _ _ _
  refine wpAny_bind (thn (ht.run pins s σ H _ I ⟨as, r, h, p, (g.bnd (repx := rB) p)⟩) fun x s1 ⟨H1, I1, as1, h1, v, e1, p1, ev, _, g1⟩ => ?_)
  cases ev
  cases x with
  | true => exact ha.run pins s1 σ H1 Q I1 ⟨as1, r, h1, p1, g1⟩
  | false => exact hb.run pins s1 σ H1 Q I1 ⟨as1, r, h1, p1, g1⟩
variable {r : Rec} (S : Snd r) (O : OkX X G T W c)
include S O
theorem pa_map {es : List Expr} (h : es.all noStar = true) : PA X es (rdL T W c (es.map (r G))) := by
  induction es with
  | nil => exact s_nil
  | cons e es ih =>
    rw [List.all_cons, Bool.and_eq_true] at h
    exact s_cons (S X G T W c O e).1 (ih h.2) h.1
theorem cName_ok {x : Str} : PE X (.Name x pos) (rdE T W c (cName G x)) := by
  unfold cName
  split
  · rename_i q
    split
    · rename_i g hg
      obtain ⟨u, v, y, h1, h2, h3, h4, h5⟩ := O.gc x g hg
      exact s_glb (pe_glob (O.gl (by unfold Gx.gl; exact decide_eq_true q)) h1 h2 h5) h3 h4
    · exact pe_nop
  · exact pe_nop
  · rename_i k q1 q2 q
    split
    · exact pe_nop
    · rename_i hn
      split
      · rename_i i hi
        simp only [Bool.or_eq_true, not_or, Bool.not_eq_true] at hn
        refine s_var (Gx.slotN O hi) ?_ hn.1 hn.2
        unfold Vis
        rw [O.sc, q]
        cases k with
        | «local» => exact .inl rfl
        | cell => exact .inr (.inl rfl)
        | free => exact .inr (.inr rfl)
        | globalExplicit => exact absurd rfl (q2 · )
        | globalImplicit => exact absurd rfl (q1 · )
      · exact pe_nop
  · exact pe_nop
omit S O in
theorem cConst_ok {k : Const} {j : Nat} : PE X (.Constant k j pos) (rdE T W c (cConst k)) := by
  cases k with
  | none => exact s_cst pe_non fun _ _ => .non
  | bool b => exact s_cst pe_bl fun _ _ => .bl b
  | int i => exact s_cst pe_int fun _ _ => .int i
  | str s => exact s_cst pe_str fun _ _ => .str s
  | _ => exact pe_nop
theorem cBool_ok {op : BoolOp} : ∀ {vs : List Expr}, vs ≠ [] → PE X (.BoolOp op vs pos) (rdE T W c (cBool r G op vs)) ∧ PW X (.BoolOp op vs pos) (rdT T W c (cBool r G op vs))
  | [], h => absurd rfl h
  | [a], _ => by
    obtain ⟨h1, h2⟩ := S X G T W c O a
    refine ⟨s_one h1, ?_⟩
    cases op with
    | And => exact s_oneAnd h2
    | Or => exact s_oneOr h2
  | a :: b :: rest, _ => by
    obtain ⟨h1, h2⟩ := S X G T W c O a
    obtain ⟨h3, h4⟩ := cBool_ok (op := op) (vs := b :: rest) (by simp)
    cases op with
    | And => exact ⟨s_and h1 h3, s_andT h2 h4⟩
    | Or => exact ⟨s_or h1 h3, s_orT h2 h4⟩
theorem cBool_all {op : BoolOp} {vs : List Expr} : PE X (.BoolOp op vs pos) (rdE T W c (cBool r G op vs)) ∧ PT X (.BoolOp op vs pos) (rdT T W c (cBool r G op vs)) := by
  cases vs with
  | nil => exact both_nop
  | cons a vs => exact ⟨(cBool_ok S O (by simp)).1, (cBool_ok S O (by simp)).2.pt⟩
theorem cCmp_ok {a : Expr} {ops : List CmpOp} {bs : List Expr} : PE X (.Compare a ops bs pos) (rdE T W c (cCmp r G a ops bs)) ∧ PT X (.Compare a ops bs pos) (rdT T W c (cCmp r G a ops bs)) := by
  unfold cCmp
  split
  · rename_i p b
    split
    · exact both_nop
    · rename_i hm
      have hm := Bool.eq_false_iff.mpr hm
      split
      · rename_i o ho
        rw [cpOf_py ho] at hm ⊢
        exact ⟨s_cmp o O.un (S X G T W c O a).1 (S X G T W c O b).1 hm, s_cmpT o O.un (S X G T W c O a).1 (S X G T W c O b).1 hm⟩
      · exact both_nop
  · rename_i p q b e
    split
    · exact both_nop
    · rename_i hm
      have hm := Bool.eq_false_iff.mpr hm
      split
      · rename_i o o2 ho ho2
        rw [cpOf_py ho, cpOf_py ho2] at hm ⊢
        exact ⟨s_chn o o2 O.un (S X G T W c O a).1 (S X G T W c O b).1 (S X G T W c O e).1 hm, s_chnT o o2 O.un (S X G T W c O a).1 (S X G T W c O b).1 (S X G T W c O e).1 hm⟩
      · exact both_nop
  · exact both_nop
theorem cPart_ok {lo : Option Expr} {l : E} (h : cPart r G lo = some l) : L2.PO X lo (rdO T W c l) := by
  unfold cPart at h
  cases lo with
  | none => cases h; exact s_noPart
  | some e =>
    simp only at h
    split at h
    · cases h
    · rename_i hn
      cases h
      exact s_part (S X G T W c O e).1 (Bool.eq_false_iff.mpr hn)
theorem cSub_ok {a b : Expr} : PE X (.Subscript a b pos) (rdE T W c (cSub r G a b)) := by
  unfold cSub
  split
  · split
    · rename_i h1 h2
      exact s_slc (S X G T W c O a).1 (cPart_ok S O h1) (cPart_ok S O h2)
    · exact pe_nop
  · exact pe_nop
  · rename_i h1 h2
    refine s_idx O.un (S X G T W c O a).1 (S X G T W c O b).1 (plainIx ?_)
    cases b <;> first | rfl | exact absurd rfl (h2 _ _ _ _)
theorem cPairs_ok : ∀ {ks : List (Option Expr)} {vs : List Expr} {prs : List (E × E)}, cPairs r G ks vs = some prs → PPs X pos ks vs (prs.map fun p => (rdE T W c p.1, rdE T W c p.2)) ∧ ks.all (·.isSome) = true ∧ ks.length = vs.length ∧ prs.length = ks.length
  | [], [], prs, h => by cases h; exact ⟨pps_nil, rfl, rfl, rfl⟩
  | some k :: ks, v :: vs, prs, h => by
    unfold cPairs at h
    obtain ⟨q, hq, rfl⟩ := Option.map_eq_some_iff.mp h
    obtain ⟨h1, h2, h3, h4⟩ := cPairs_ok hq
    exact ⟨pps_cons (S X G T W c O k).1 (S X G T W c O v).1 h1, by rw [List.all_cons, h2]; rfl, by simp [h3], by simp [h4]⟩
  | some k :: ks, [], prs, h => by cases h
  | none :: ks, vs, prs, h => by cases vs <;> cases h
  | [], v :: vs, prs, h => by cases h
theorem cDict_ok {ks : List (Option Expr)} {vs : List Expr} : PE X (.Dict ks vs pos) (rdE T W c (cDict r G ks vs pos)) := by
  unfold cDict
  split
  · cases G.tds.contains pos.line with
    | true => exact s_dnewT
    | false => exact s_dnewK
  · split
    · rename_i h15
      split
      · rename_i prs hp
        obtain ⟨h1, h2, h3, h4⟩ := cPairs_ok S O hp
        split
        · exact s_dctT O.un h1 h2 h3 (by simp) h15 h4
        · exact s_dct h1 h2 h3 (by simp) h15 h4
      · exact pe_nop
    · exact pe_nop
  · exact pe_nop
omit S in
theorem cTg_ok : ∀ {n : Nat} {tg : Expr} {t : Tg}, cTg n G tg = some t → L2.PG X tg (rdGk t) ∧ noStar tg = true := by
  intro n
  induction n with
  | zero => intro tg t h; cases h
  | succ n ih =>
    intro tg t h
    unfold cTg at h
    split at h
    · split at h
      · rename_i x px hx
        obtain ⟨i, hi, rfl⟩ := Option.map_eq_some_iff.mp h
        obtain ⟨h1, h2⟩ := O.okT hx
        exact ⟨g_name O.nd (Gx.slotN O hi) h1 h2, rfl⟩
      · cases h
    · split at h
      · rename_i es k p hs
        obtain ⟨ts, hts, rfl⟩ := Option.map_eq_some_iff.mp h
        have main : ∀ (es : List Expr) (ts : List Tg), es.all noStar = true → optAll (cTg n G) es = some ts → L2.PGs X es (rdGks ts) ∧ es.length = ts.length := by
          intro es
          induction es with
          | nil => intro ts _ h; cases h; exact ⟨g_nil, rfl⟩
          | cons e es ih2 =>
            intro ts hs h
            rw [List.all_cons, Bool.and_eq_true] at hs
            obtain ⟨t, us, h1, h2, rfl⟩ := optAll_consE h
            obtain ⟨q1, q2⟩ := ih2 us hs.2 h2
            exact ⟨g_cons (ih h1).1 q1 hs.1, by simp [q2]⟩
        obtain ⟨q1, q2⟩ := main es ts hs hts
        exact ⟨g_tup O.calm q1 hs q2, rfl⟩
      · cases h
    · cases h
omit S in
theorem bltOf_ok {e : Expr} {b : Bn} {as : List Expr} (h : bltOf G e = some (b, as)) : ∃ p q, e = .Call (.Name b.nm p) as [] q ∧ Gl X b.nm ∧ X.mg b.nm = none := by
  unfold bltOf at h
  split at h
  · split at h
    · rename_i y p as' q hg
      split at h
      · rename_i b' hb
        cases h
        obtain ⟨e, hm⟩ := O.gb y b hb
        have g := O.gl hg
        rw [e] at g hm
        exact ⟨p, q, by rw [e], g, hm⟩
      · cases h
    · cases h
  · cases h
theorem pa1 {e : Expr} (h : noStar e = true) : PA X [e] (rdL T W c [r G e]) := s_cons (S X G T W c O e).1 s_nil h
theorem pa2 {e e2 : Expr} (h : noStar e = true) (h2 : noStar e2 = true) : PA X [e, e2] (rdL T W c [r G e, r G e2]) := s_cons (S X G T W c O e).1 (pa1 S O h2) h
omit S O in
theorem pi_nop {tg it : Expr} : L2.PI X tg it (rdI T W c .nop) := ⟨fun pins s σ H R I ⟨as, r, h, p, g⟩ => by unfold evI at g; exact g.elim⟩
theorem cIt_ok {tg it : Expr} : L2.PI X tg it (rdI T W c (cIt r G tg it)) := by
  unfold cIt
  split
  · rename_i b as hb
    obtain ⟨p, q, rfl, hg, hm⟩ := bltOf_ok O hb
    unfold cItC
    split
    · split
      · rename_i hs; exact i_rng1 hg hm (pa1 S O hs) hs
      · exact pi_nop
    · split
      · rename_i hs; simp only [Bool.and_eq_true] at hs; exact i_rng2 hg hm (pa2 S O hs.1 hs.2) hs.1 hs.2
      · exact pi_nop
    · split
      · rename_i hs
        simp only [Bool.and_eq_true] at hs
        cases tg <;> first | exact i_enm hg hm (pa1 S O hs.1) hs.1 | exact absurd hs.2 Bool.false_ne_true
      · exact pi_nop
    · split
      · rename_i hs
        simp only [Bool.and_eq_true] at hs
        cases tg <;> first | exact i_zip hg hm (pa2 S O hs.1.1 hs.1.2) hs.1.1 hs.1.2 | exact absurd hs.2 Bool.false_ne_true
      · exact pi_nop
    · exact i_val (S X G T W c O _).1
  · exact i_val (S X G T W c O _).1
omit S O in
theorem plainIt_ok {it : Expr} (h : plainIt it = true) {env : PySem.Env} : ∀ x, foldedSetIterable it env x = pure x := by
  intro x
  cases it <;> first | rfl | exact absurd h Bool.false_ne_true
/-- a comprehension's parts -/
theorem cComp_ok {elt : Expr} {gens : List Comprehension} {scope : Scope} {q : Cpr} (h : cComp r G elt gens scope = some q) : ∃ tg it ifs, gens = [⟨tg, it, ifs, 0⟩] ∧ L2.PI X tg it (rdI T W c q.it) ∧ BlkOk X.N X.env.scope scope q.own ∧ (∀ i ∈ tgS q.t, i ∈ q.own.map (·.2)) ∧
    (∀ (s : Shared) (H : Hp) (C : Addr) (cl : List (Str × Addr)) (fp : List Addr), L2.PG (X.blk s H scope (compEnvC scope cl C X.env) fp) tg (rdGk q.t)) ∧ (∀ (s : Shared) (H : Hp) (C : Addr) (cl : List (Str × Addr)) (fp : List Addr), PTs (X.blk s H scope (compEnvC scope cl C X.env) fp) ifs (rdT T EV.W0 c q.cond)) ∧
    (∀ (s : Shared) (H : Hp) (C : Addr) (cl : List (Str × Addr)) (fp : List Addr), PE (X.blk s H scope (compEnvC scope cl C X.env) fp) elt (rdE T EV.W0 c q.elt)) ∧ ∀ x, foldedSetIterable it X.env x = pure x := by
  unfold cComp at h
  split at h
  · rename_i tg it ifs a
    split at h
    · rename_i ha
      subst ha
      split at h
      · rename_i hp
        split at h
        · rename_i hb
          have hb : BlkOk X.N X.env.scope scope (ownOf G scope) := by rw [O.N, O.sc]; exact blkOk_by hb
          have hk := hb.kind
          split at h
          · rename_i t ht
            split at h
            · rename_i ho
              have ho : ∀ i ∈ tgS t, i ∈ (ownOf G scope).map (·.2) := fun i hi => by
                have := List.all_eq_true.mp ho i hi
                simpa using this
              split at h
              · cases h
                exact ⟨tg, it, [], rfl, cIt_ok S O, hb, ho, fun s H C cl fp => (cTg_ok (O.blk hk) ht).1, fun s H C cl fp => c_nil, fun s H C cl fp => (S _ _ T EV.W0 c (O.blk hk) elt).1, plainIt_ok hp⟩
              · rename_i k
                cases h
                exact ⟨tg, it, [k], rfl, cIt_ok S O, hb, ho, fun s H C cl fp => (cTg_ok (O.blk hk) ht).1, fun s H C cl fp => c_one (S _ _ T EV.W0 c (O.blk hk) k).2, fun s H C cl fp => (S _ _ T EV.W0 c (O.blk hk) elt).1, plainIt_ok hp⟩
              · cases h
            · cases h
          · cases h
        · cases h
      · cases h
    · cases h
  · cases h
theorem cLc_ok {elt : Expr} {gens : List Comprehension} {scope : Scope} {q : Cpr} (h : cComp r G elt gens scope = some q) : PE X (.ListComp elt gens scope pos) (rdE T W c (.comp q.elt q.t q.it q.cond (q.own.map (·.2)))) ∧ PE X (.ListComp elt gens scope pos) (rdW T W c (.itc q.elt q.t q.it q.cond (q.own.map (·.2)))) := by
  obtain ⟨tg, it, ifs, rfl, h1, h2, h3, h4, h5, h6, h7⟩ := cComp_ok S O h
  exact ⟨s_lc O.calm O.nd h1 h2 h3 h4 h5 h6 h7, w_lc O.calm O.nd h1 h2 h3 h4 h5 h6 h7⟩
theorem cLcD_ok {elt : Expr} {gens : List Comprehension} {scope : Scope} {q : Cpr} {i : Nat} (h : cLcD r G elt gens scope = some (q, i)) : cComp r G elt gens scope = some q ∧ ∀ tg it ifs, gens = [⟨tg, it, ifs, 0⟩] → PE X it (rdE T W c (.var i)) := by
  unfold cLcD at h
  split at h
  · rename_i q' hq
    split at h
    · split at h
      · rename_i hi
        cases h
        refine ⟨hq, fun tg it ifs e => ?_⟩
        injection e with e1 e2
        injection e1 with z1 z2 z3 z4
        rw [z2] at hi
        have := (S X G T W c O it).1
        rw [hi] at this
        exact this
      · cases h
    · cases h
  · cases h
theorem cW_ok {e : Expr} : PE X e (rdW T W c (cW r G e)) := by
  unfold cW
  split
  · split
    · rename_i hq; exact (cLc_ok S O hq).2
    · exact w_its (S X G T W c O _).1
  · exact w_its (S X G T W c O _).1
theorem cTup_ok {e : Expr} {p : Pos} (hg : Gl X "tuple") (hm : X.mg "tuple" = none) (hs : noStar e = true) : PE X (.Call (.Name "tuple" p) [e] [] pos) (rdE T W c (cTup r G e)) := by
  unfold cTup
  split
  · rename_i a hb
    obtain ⟨p, q, rfl, hg2, hm2⟩ := bltOf_ok O hb
    split
    · rename_i hs2; exact s_tupRg1 hg hm O.calm hg2 hm2 (S X G T W c O a).1 hs2
    · exact pe_nop
  · rename_i a b hb
    obtain ⟨p, q, rfl, hg2, hm2⟩ := bltOf_ok O hb
    split
    · rename_i hs2; simp only [Bool.and_eq_true] at hs2; exact s_tupRg2 hg hm O.calm hg2 hm2 (S X G T W c O a).1 (S X G T W c O b).1 hs2.1 hs2.2
    · exact pe_nop
  · rename_i a b hb
    obtain ⟨p, q, rfl, hg2, hm2⟩ := bltOf_ok O hb
    split
    · rename_i hs2; simp only [Bool.and_eq_true] at hs2; exact s_tupZip O.calm hg hm hg2 hm2 (pa2 S O hs2.1 hs2.2) hs2.1 hs2.2
    · exact pe_nop
  · exact s_tuple hg hm (cW_ok S O) hs
theorem cIsi_ok {e ty : Expr} {p : Pos} (hg : Gl X "isinstance") (hm : X.mg "isinstance" = none) (hs : noStar e = true) : PE X (.Call (.Name "isinstance" p) [e, ty] [] pos) (rdE T W c (cIsi r G e ty)) := by
  unfold cIsi
  split
  · split
    · rename_i y p2 hy
      split
      · rename_i b hb
        obtain ⟨ey, hmy⟩ := O.gb y b hb
        split
        · rename_i t ht
          have gy := O.gl hy
          rw [ey, Bn.ty_nm ht] at gy hmy
          rw [ey, Bn.ty_nm ht]
          exact s_isi t hg hm gy hmy (S X G T W c O e).1 hs
        · exact pe_nop
      · exact pe_nop
    · exact pe_nop
  · exact pe_nop
theorem cBlt_ok {b : Bn} {es : List Expr} {p : Pos} (hg : Gl X b.nm) (hm : X.mg b.nm = none) : PE X (.Call (.Name b.nm p) es [] pos) (rdE T W c (cBlt r G b es)) := by
  unfold cBlt
  split
  · rename_i e
    split
    · rename_i hs
      cases b <;> first
        | exact pe_nop
        | exact s_len hg hm (pa1 S O hs) hs
        | exact s_int hg hm (pa1 S O hs) hs
        | exact cTup_ok S O hg hm hs
        | exact s_list O.calm hg hm (cW_ok S O) hs
        | exact s_all O.calm hg hm (cW_ok S O) hs
        | exact s_any O.calm hg hm (cW_ok S O) hs
        | exact s_sum O.calm hg hm (cW_ok S O) hs
        | exact s_minL O.calm hg hm (cW_ok S O) hs
        | exact s_maxL O.calm hg hm (cW_ok S O) hs
        | exact s_sorted O.calm hg hm (cW_ok S O) hs
    · exact pe_nop
  · rename_i e e2
    split
    · rename_i hs
      simp only [Bool.and_eq_true] at hs
      cases b <;> first
        | exact pe_nop
        | exact s_min O.calm hg hm (pa2 S O hs.1 hs.2) hs.1 hs.2
        | exact s_max O.calm hg hm (pa2 S O hs.1 hs.2) hs.1 hs.2
        | exact cIsi_ok S O hg hm hs.1
    · exact pe_nop
  · exact pe_nop
theorem pk_map : ∀ {kws : List Keyword}, L2.PK X kws (rdL T W c (kws.map fun k => r G (kwVal k)))
  | [] => s_knil
  | ⟨n, e, p⟩ :: kws => s_kcons (S X G T W c O e).1 pk_map
theorem cFn_ok {x : Str} {f : Nat} {ps : List Str} {es : List Expr} {kws : List Keyword} {p : Pos} (hg : Gl X x) (hf : G.tab.lookup x = some (.fn f ps)) : PE X (.Call (.Name x p) es kws pos) (rdE T W c (cFn r G f es kws)) := by
  obtain ⟨k, fa, fd, F, hr, hm, hk, hb, hd, hkw⟩ := O.gf x f ps hf
  unfold cFn
  split
  · rename_i hs
    split
    · exact s_call F hr O.tk hg hm hk hb (pa_map S O hs) hs (by simp) hd
    · split
      · rename_i ks hks
        split
        · rename_i q hq
          have h1 := List.find?_some hq
          have h2 := List.mem_of_find?_eq_some hq
          obtain ⟨q1, q2, q3, q4⟩ := q
          simp only [Bool.and_eq_true, beq_iff_eq] at h1
          obtain ⟨rfl, rfl, rfl⟩ := h1
          refine s_callK F hr O.tk hg hm hk (by rw [List.length_map]; exact hkw _ _ _ h2) (pa_map S O hs) (pk_map S O) hks hs (by simp) ?_ hd
          rw [List.length_map]
          exact (optAll_len hks).symm
        · exact pe_nop
      · exact pe_nop
  · exact pe_nop
theorem cMt_ok {o : Expr} {m : Mt} {es : List Expr} {apos : Pos} (hb : plainBase o = true) (hl : (apos.endLine == pos.line) = true) : PE X (.Call (.Attribute o (mtNm m) apos) es [] pos) (rdE T W c (cMt r G o m es)) := by
  unfold cMt
  split
  · split
    · rename_i hs; exact s_append hb hl (S X G T W c O o).1 (pa1 S O hs) hs
    · exact pe_nop
  · split
    · rename_i hs; exact s_index O.un hb hl (S X G T W c O o).1 (pa1 S O hs) hs
    · exact pe_nop
  · split
    · rename_i e hs; exact s_get1 O.un hb hl (S X G T W c O o).1 (S X G T W c O e).1 hs
    · exact pe_nop
  · split
    · rename_i e d hs; simp only [Bool.and_eq_true] at hs; exact s_get2 O.un hb hl (S X G T W c O o).1 (S X G T W c O e).1 (S X G T W c O d).1 hs.1 hs.2
    · exact pe_nop
  · exact pe_nop
theorem cCall_ok {f : Expr} {es : List Expr} {kws : List Keyword} : PE X (.Call f es kws pos) (rdE T W c (cCall r G f es kws pos)) := by
  unfold cCall
  split
  · rename_i x p
    split
    · rename_i hg
      split
      · rename_i f ps hf; exact cFn_ok S O (O.gl hg) hf
      · rename_i b hb
        split
        · obtain ⟨e, hm⟩ := O.gb x b hb
          have g := O.gl hg
          rw [e] at g hm ⊢
          exact cBlt_ok S O g hm
        · exact pe_nop
      · exact pe_nop
    · exact pe_nop
  · rename_i o m apos
    split
    · split
      · rename_i hb
        simp only [Bool.and_eq_true] at hb
        split
        · rename_i k hk
          rw [O.gm m k hk]
          exact cMt_ok S O hb.1 hb.2
        · exact pe_nop
      · exact pe_nop
    · exact pe_nop
  · exact pe_nop
end
theorem cStep_ok {r : Rec} (S : Snd r) : Snd (cStep r) := by
  intro X G T W c O e
  cases e with
  | Name x p => exact both_val (cName_ok S O) fun _ => rfl
  | Constant k j p => exact both_val cConst_ok fun _ => rfl
  | Tuple es k p =>
    refine both_val ?_ fun _ => rfl
    show PE X _ (rdE T W c (if es.all noStar then _ else _))
    split
    · rename_i hs; exact s_tup (pa_map S O hs)
    · exact pe_nop
  | List es p =>
    refine both_val ?_ fun _ => rfl
    show PE X _ (rdE T W c (if es.all noStar then _ else _))
    split
    · rename_i hs; exact s_lst (pa_map S O hs)
    · exact pe_nop
  | BinOp a o b p =>
    refine both_val ?_ fun _ => rfl
    show PE X _ (rdE T W c (match opOf o with | some o => _ | none => _))
    split
    · rename_i o' ho; rw [opOf_py ho]; exact s_bin o' (S X G T W c O a).1 (S X G T W c O b).1
    · exact pe_nop
  | UnaryOp op a p =>
    cases op with
    | USub => exact both_val (s_neg (S X G T W c O a).1) fun _ => rfl
    | Not => exact ⟨s_not (S X G T W c O a).1, s_notT (S X G T W c O a).2⟩
    | _ => exact both_nop
  | BoolOp op vs p => exact cBool_all S O
  | Compare a ops bs p => exact cCmp_ok S O
  | IfExp t a b p => exact ⟨s_ite (S X G T W c O t).2 (S X G T W c O a).1 (S X G T W c O b).1, s_iteT (S X G T W c O t).2 (S X G T W c O a).2 (S X G T W c O b).2⟩
  | Subscript a b p => exact both_val (cSub_ok S O) fun _ => rfl
  | Dict ks vs p => exact both_val (cDict_ok S O) fun _ => rfl
  | Call f es kws p => exact both_val (cCall_ok S O) fun _ => rfl
  | ListComp elt gens scope p =>
    refine both_val ?_ fun _ => rfl
    show PE X _ (rdE T W c (if G.tds.contains (p.line + 1000000) then match cLcD r G elt gens scope with | some (q, i) => .compD q.elt q.t i q.cond (q.own.map (·.2)) | none => .nop else match cComp r G elt gens scope with | some q => .comp q.elt q.t q.it q.cond (q.own.map (·.2)) | none => .nop))
    split
    · split
      · rename_i hq
        obtain ⟨h1, h2⟩ := cLcD_ok S O hq
        obtain ⟨tg, it, ifs, rfl, q1, q2, q3, q4, q5, q6, q7⟩ := cComp_ok S O h1
        exact s_lcD O.calm O.nd (h2 _ _ _ rfl) q2 q3 q4 q5 q6 q7
      · exact pe_nop
    · split
      · rename_i hq; exact (cLc_ok S O hq).1
      · exact pe_nop
  | _ => exact both_nop
theorem cE_ok : ∀ n : Nat, Snd (cE n)
  | 0 => fun X G T W c O e => both_nop
  | n + 1 => cStep_ok (cE_ok n)
end EV
end
section
set_option Elab.async false
set_option linter.all false
set_option maxRecDepth 100000
/-! EvCmpB: statements. -/
namespace EV
open PySem L2

theorem swapped_dec {sc : Scope} {env : PySem.Env} {ts vs : List Expr} {k1 k2 : Nat} {p1 p2 : Pos} {o : Option (List Str)} (hs : env.scope = sc) (hk : env.scope.kind = .function) (h : swDec sc ts vs = some o) :
    swappedStores [.Tuple ts k1 p1] (.Tuple vs k2 p2) env = pure o := by
  subst hs
  have hb : env.blockKind = .function := by unfold Env.blockKind; rw [hk]; rfl
  unfold swDec at h
  unfold swappedStores
  simp only [hb, Env.kindOf, bne_self_eq_false, Bool.or_false]
  simp only at h
  split at h
  · rename_i q; cases h; exact if_pos q
  · rename_i q
    refine (if_neg q).trans ?_
    split at h
    · rename_i q; cases h; exact if_pos q
    · rename_i q
      refine (if_neg q).trans ?_
      split at h
      · rename_i q; cases h; exact if_pos q
      · rename_i q
        refine (if_neg q).trans ?_
        split at h
        · rename_i q; cases h; exact if_pos q
        · rename_i q
          refine (if_neg q).trans ?_
          split at h
          · cases h
          · rename_i q
            cases h
            exact if_neg q
theorem swaps_lc {elt : Expr} {gens : List Comprehension} {scope : Scope} {lpos px : Pos} {x : Str} {l : Nat} {env : PySem.Env} (hk : env.scope.kind = .function) :
    swapsWith (.ListComp elt gens scope lpos) (some (.Name x px)) l env = pure (env.scope.names.lookup x == some .local && (px.line == lpos.line) && !(scope.names.any fun (n, k) => n == x && (k == .local || k == .cell))) := by
  have hb : env.blockKind = .function := by unfold Env.blockKind; rw [hk]; rfl
  unfold swapsWith
  simp only [hb, Env.kindOf, Expr.pos]
  rfl
section
variable {X : Cx} {G : Gx} {T : XTab} {W : WX} {c : Cc} {pos : Pos}
theorem st_nameG {i : Nat} {x : Str} {e : Expr} {d : E} {px : Pos} (hN : X.N.Nodup) (hi : X.N[i]? = some x) (hx : L2.Loc X.env.scope x) (hf : X.fn x = true ∨ X.env.scope.names.lookup x = some .local) (he : PE X e (rdE T W c d)) (hs : swapsWith e (some (.Name x px)) pos.line X.env = pure false) : PS X (.Assign [.Name x px] e pos) (rdS T W c (.asg (.nm i) d)) := by
  refine PS.imp (ps_set hN hi hx he hs hf) fun D σ H q => ?_
  obtain ⟨as, r, h, p, g⟩ := q
  unfold exS at g
  refine ⟨as, r, h, p, (g.st (repx := rV) p).mono ?_⟩
  rintro u H1 ⟨as1, h1, x, e1, p1, rx, _, g1⟩
  unfold bindT at g1
  exact g1 as1 H1 _ Ext.refl (p1.store i rx)
variable {r : Rec} (S : Snd r) (O : OkX X G T W c)
include S O
theorem cAsgN_ok {x : Str} {px : Pos} {e : Expr} : PS X (.Assign [.Name x px] e pos) (rdS T W c (cAsgN r G x px e)) := by
  unfold cAsgN
  split
  · rename_i hx
    obtain ⟨h1, h2⟩ := O.okT hx
    split
    · rename_i i hi
      have hi := Gx.slotN O hi
      split
      · rename_i elt gens scope lpos
        split
        · split
          · rename_i q j hq
            obtain ⟨g1, g2⟩ := cLcD_ok S O hq
            have hw := swaps_lc (elt := elt) (gens := gens) (scope := scope) (lpos := lpos) (px := px) (x := x) (l := pos.line) O.kd
            obtain ⟨tg, it, ifs, rfl, q1, q2, q3, q4, q5, q6, q7⟩ := cComp_ok S O g1
            cases hb : (X.env.scope.names.lookup x == some .local && (px.line == lpos.line) && !(scope.names.any fun (n, k) => n == x && (k == .local || k == .cell))) with
            | false => rw [hb] at hw; exact st_nameG O.nd hi h1 h2 (s_lcD O.calm O.nd (g2 _ _ _ rfl) q2 q3 q4 q5 q6 q7) hw
            | true =>
              rw [hb] at hw
              have hl : X.env.scope.names.lookup x = some .local := by
                simp only [Bool.and_eq_true, beq_iff_eq] at hb
                exact hb.1.1
              exact st_lcD O.calm O.nd hi hl hw (g2 _ _ _ rfl) q2 q3 q4 q5 q6 q7
          · exact ps_bad
        split
        · rename_i q hq
          have hw := swaps_lc (elt := elt) (gens := gens) (scope := scope) (lpos := lpos) (px := px) (x := x) (l := pos.line) O.kd
          cases hb : (X.env.scope.names.lookup x == some .local && (px.line == lpos.line) && !(scope.names.any fun (n, k) => n == x && (k == .local || k == .cell))) with
          | false => rw [hb] at hw; exact st_nameG O.nd hi h1 h2 (cLc_ok S O hq).1 hw
          | true =>
            rw [hb] at hw
            have hl : X.env.scope.names.lookup x = some .local := by
              simp only [Bool.and_eq_true, beq_iff_eq] at hb
              exact hb.1.1
            obtain ⟨tg, it, ifs, rfl, q1, q2, q3, q4, q5, q6, q7⟩ := cComp_ok S O hq
            exact st_lc O.calm O.nd hi hl hw q1 q2 q3 q4 q5 q6 q7
        · exact ps_bad
      · split
        · rename_i hn; exact st_name O.nd hi h1 h2 (S X G T W c O e).1 hn
        · exact ps_bad
    · exact ps_bad
  · exact ps_bad
theorem cPar_ok {ts vs : List Expr} {k1 k2 : Nat} {p1 p2 : Pos} (hw : swappedStores [.Tuple ts k1 p1] (.Tuple vs k2 p2) X.env = pure (some (parNm ts))) : PS X (.Assign [.Tuple ts k1 p1] (.Tuple vs k2 p2) pos) (rdS T W c (cPar r G ts vs)) := by
  unfold cPar
  split
  · split
    · rename_i hi hj
      split
      · rename_i hc
        obtain ⟨c1, c2, c3, c4, c5⟩ := hc
        exact st_par O.calm O.nd (Gx.slotN O hi) (Gx.slotN O hj) c3 (by rw [O.sc]; exact c1) (by rw [O.sc]; exact c2) (pa2 S O c4 c5) hw
      · exact ps_bad
    · exact ps_bad
  · split
    · rename_i hi hj hl
      split
      · rename_i hc
        obtain ⟨c1, c2, c3, ⟨c4, c5, c6⟩, c7, c8, c9⟩ := hc
        exact st_par3 O.calm O.nd (Gx.slotN O hi) (Gx.slotN O hj) (Gx.slotN O hl) c4 c5 c6 (by rw [O.sc]; exact c1) (by rw [O.sc]; exact c2) (by rw [O.sc]; exact c3) (s_cons (S X G T W c O _).1 (pa2 S O c8 c9) c7) hw
      · exact ps_bad
    · exact ps_bad
  · exact ps_bad
theorem cAsgT_ok {ts : List Expr} {k1 : Nat} {p1 : Pos} {e : Expr} : PS X (.Assign [.Tuple ts k1 p1] e pos) (rdS T W c (cAsgT r G (.Tuple ts k1 p1) ts e)) := by
  unfold cAsgT
  split
  · rename_i vs k2 p2
    split
    · rename_i hd
      split
      · rename_i t ht
        obtain ⟨h1, h2⟩ := cTg_ok O ht
        exact st_tgtT (g_of h1) (S X G T W c O _).1 rfl (swapped_dec O.sc O.kd hd) h2
      · exact ps_bad
    · rename_i ns hd
      split
      · rename_i hn
        rw [hn] at hd
        exact cPar_ok S O (swapped_dec O.sc O.kd hd)
      · exact ps_bad
    · exact ps_bad
  · rename_i hne
    split
    · rename_i hn
      split
      · rename_i t ht
        obtain ⟨h1, h2⟩ := cTg_ok O ht
        refine st_tgt (g_of h1) (S X G T W c O _).1 hn ?_ h2
        cases e <;> first | rfl | exact absurd rfl (hne _ _ _)
      · exact ps_bad
    · exact ps_bad
theorem cAsg_ok {tg e : Expr} : PS X (.Assign [tg] e pos) (rdS T W c (cAsg r G tg e)) := by
  unfold cAsg
  split
  · exact cAsgN_ok S O
  · split
    · rename_i hs
      simp only [Bool.and_eq_true] at hs
      exact st_set O.un (S X G T W c O _).1 (S X G T W c O _).1 (S X G T W c O e).1 hs.1 hs.2
    · exact ps_bad
  · exact cAsgT_ok S O
  · exact ps_bad
theorem cAug_ok {tg e : Expr} {p : Operator} : PS X (.AugAssign tg p e pos) (rdS T W c (cAug r G tg p e)) := by
  unfold cAug
  split
  · split
    · rename_i hx
      obtain ⟨h1, h2⟩ := O.okT hx
      split
      · rename_i i hi ho
        rw [opOf_py ho]
        exact st_aug O.nd (Gx.slotN O hi) h1 h2 (.inl rfl) (S X G T W c O e).1
      · rename_i i hi ho
        rw [opOf_py ho]
        exact st_aug O.nd (Gx.slotN O hi) h1 h2 (.inr rfl) (S X G T W c O e).1
      · exact ps_bad
    · exact ps_bad
  · exact ps_bad
omit S O in
theorem st_tryN {b : List Stmt} {h0 : ExceptHandler} {hs : List ExceptHandler} {B : List EV.S} (hb : PSs X.nox b (rdB T EV.W0 c B)) : PS X (.Try b (h0 :: hs) [] [] pos) (rdS T W c (.tryN B)) := by
  refine PS.imp (ps_try_thru0 hb) fun D σ H ⟨as, r, h, p, g⟩ => ?_
  unfold exS at g
  refine ⟨as, r, h, p, ?_⟩
  cases q : exB c B r h with
  | ex k vs r' h' => rw [q] at g; exact g.elim
  | nx r' h' => rw [q] at g; exact g
  | rt v h' => rw [q] at g; exact g
  | bk r' h' => rw [q] at g; exact g
  | ct r' h' => rw [q] at g; exact g
  | no => rw [q] at g; exact g
end
section
variable {r : Rec} (S : Snd r)
include S
mutual
theorem cS_ok : ∀ (s : Stmt) {X : Cx} {G : Gx} {T : XTab} {W : WX} {c : Cc}, OkX X G T W c → PS X s (rdS T W c (cS r G s))
  | .Pass _, X, G, T, W, c, O => by unfold cS; exact st_pass
  | .Expr e _, X, G, T, W, c, O => by
    unfold cS
    split
    · rename_i hn; exact st_expr (S X G T W c O e).1 hn
    · exact ps_bad
  | .Return none _, X, G, T, W, c, O => by unfold cS; exact st_retN
  | .Return (some e) _, X, G, T, W, c, O => by unfold cS; exact st_ret (S X G T W c O e).1
  | .Break _, X, G, T, W, c, O => by unfold cS; exact st_brk
  | .Continue _, X, G, T, W, c, O => by unfold cS; exact st_cnt
  | .Assign [tg] e _, X, G, T, W, c, O => by unfold cS; exact cAsg_ok S O
  | .Assign [] e _, X, G, T, W, c, O => by unfold cS; exact ps_bad
  | .Assign (_ :: _ :: _) e _, X, G, T, W, c, O => by unfold cS; exact ps_bad
  | .AugAssign tg p e _, X, G, T, W, c, O => by unfold cS; exact cAug_ok S O
  | .If t a b _, X, G, T, W, c, O => by unfold cS; exact st_ite (S X G T W c O t).2 (cB_ok a O) (cB_ok b O)
  | .While t b [] _, X, G, T, W, c, O => by unfold cS; exact st_whl O.po (S X G T W c O t).2 (cB_ok b O)
  | .While t b (_ :: _) _, X, G, T, W, c, O => by unfold cS; exact ps_bad
  | .For tg it b [] _, X, G, T, W, c, O => by
    unfold cS
    split
    · rename_i hp
      split
      · rename_i t ht
        exact st_for O.po O.calm (cIt_ok S O) (g_of (cTg_ok O ht).1) (cB_ok b O) (plainIt_ok hp)
      · exact ps_bad
    · exact ps_bad
  | .For tg it b (_ :: _) _, X, G, T, W, c, O => by unfold cS; exact ps_bad
  | .Try b (_ :: _) [] [] _, X, G, T, W, c, O => by unfold cS; exact st_tryN (cB_ok b O.nox)
  | .Try b [] _ _ _, X, G, T, W, c, O => by unfold cS; exact ps_bad
  | .Try b (_ :: _) (_ :: _) _ _, X, G, T, W, c, O => by unfold cS; exact ps_bad
  | .Try b (_ :: _) [] (_ :: _) _, X, G, T, W, c, O => by unfold cS; exact ps_bad
  | .FunctionDef .., X, G, T, W, c, O => by unfold cS; exact ps_bad
  | .AsyncFunctionDef .., X, G, T, W, c, O => by unfold cS; exact ps_bad
  | .ClassDef .., X, G, T, W, c, O => by unfold cS; exact ps_bad
  | .Delete .., X, G, T, W, c, O => by unfold cS; exact ps_bad
  | .TypeAlias .., X, G, T, W, c, O => by unfold cS; exact ps_bad
  | .AnnAssign .., X, G, T, W, c, O => by unfold cS; exact ps_bad
  | .AsyncFor .., X, G, T, W, c, O => by unfold cS; exact ps_bad
  | .With .., X, G, T, W, c, O => by unfold cS; exact ps_bad
  | .AsyncWith .., X, G, T, W, c, O => by unfold cS; exact ps_bad
  | .Match .., X, G, T, W, c, O => by unfold cS; exact ps_bad
  | .Raise .., X, G, T, W, c, O => by unfold cS; exact ps_bad
  | .TryStar .., X, G, T, W, c, O => by unfold cS; exact ps_bad
  | .Assert .., X, G, T, W, c, O => by unfold cS; exact ps_bad
  | .Import .., X, G, T, W, c, O => by unfold cS; exact ps_bad
  | .ImportFrom .., X, G, T, W, c, O => by unfold cS; exact ps_bad
  | .Global .., X, G, T, W, c, O => by unfold cS; exact ps_bad
  | .Nonlocal .., X, G, T, W, c, O => by unfold cS; exact ps_bad
theorem cB_ok : ∀ (ss : List Stmt) {X : Cx} {G : Gx} {T : XTab} {W : WX} {c : Cc}, OkX X G T W c → PSs X ss (rdB T W c (cB r G ss))
  | [], X, G, T, W, c, O => by unfold cB; exact bs_nil
  | s :: ss, X, G, T, W, c, O => by unfold cB; exact bs_cons (cS_ok s O) (cB_ok ss O)
end
end
theorem test_red (r : Rec) (G : Gx) (p : Pos) : cS r G (.If (.Name "x" p) [.Pass p] [] p) = .ite (r G (.Name "x" p)) [.pass] [] := by with_unfolding_all rfl
end EV
end
section
set_option Elab.async false
set_option linter.all false
set_option maxRecDepth 100000
/-! EvFn: defs; what the interpreter says of a call is what the call does. -/
namespace EV
open PySem L2

/-! ### what a call leaves -/
section
variable {H H' : Hp} {as : List Addr}
mutual
theorem RepV.cut {n : Nat} : ∀ {x : PV} {v : V}, x.old n = true → RepV H as x v → RepV H (as.take n) x v
  | _, _, _, .non => .non
  | _, _, _, .bl b => .bl b
  | _, _, _, .int i => .int i
  | _, _, _, .str s => .str s
  | _, _, h, .tup q l => .tup q (RepL.cut (by unfold PV.old at h; exact h) l)
  | .obj m, .ref a, h, .obj q => .obj (n := m) (a := a) (by
      unfold PV.old at h
      rw [List.getElem?_take_of_lt (of_decide_eq_true h)]; exact q)
theorem RepL.cut {n : Nat} : ∀ {x : List PV} {v : List V}, oldL n x = true → RepL H as x v → RepL H (as.take n) x v
  | _, _, _, .nil => .nil
  | _, _, h, .cons a b => by
    unfold oldL at h
    rw [Bool.and_eq_true] at h
    exact .cons (RepV.cut h.1 a) (RepL.cut h.2 b)
end
theorem RepKV.cut {κ : Type} {n : Nat} : ∀ {x : List (κ × PV)} {v : List (κ × V)}, oldL n (x.map (·.2)) = true → RepKV H as x v → RepKV H (as.take n) x v
  | _, _, _, .nil => .nil
  | _, _, h, .cons a b => by
    rw [List.map_cons] at h
    unfold oldL at h
    rw [Bool.and_eq_true] at h
    exact .cons ⟨a.1, a.2.cut h.1⟩ (RepKV.cut h.2 b)
theorem RepO.cut {n : Nat} {o : PO} {ho : HO} (h : o.old n = true) (r : RepO H as o ho) : RepO H (as.take n) o ho := by
  cases o with
  | lst fz xs => obtain ⟨vs, l, z, c⟩ := r; exact ⟨vs, l.cut h, z, c⟩
  | dK kvs => obtain ⟨ks, c, l⟩ := r; exact ⟨ks, c, l.cut h⟩
  | dT kvs => obtain ⟨ks, c, l⟩ := r; exact ⟨ks, c, l.cut h⟩
  | lkd kvs => obtain ⟨ks, o, c, l⟩ := r; exact ⟨ks, o, c, l.cut h⟩
theorem RepH.cut {n : Nat} {h : PH} (r : RepH H as h) (ho : (h.take n).all (·.old n) = true) : RepH H (as.take n) (h.take n) := by
  refine ⟨by rw [List.length_take, List.length_take, r.len], List.Sublist.nodup (List.take_sublist n as) r.nd, fun m o a q qa => ?_⟩
  have hm : m < n := by
    have := (List.getElem?_eq_some_iff.mp q).1
    rw [List.length_take] at this
    omega
  have hold := List.all_eq_true.mp ho o (List.mem_of_getElem? q)
  rw [List.getElem?_take_of_lt hm] at q qa
  obtain ⟨u, e, ro⟩ := r.at_ m o a q qa
  exact ⟨u, e, ro.cut hold⟩
theorem Ext.cut {as' : List Addr} {n : Nat} (e : Ext H as H' as') (hn : n = as.length) : Ext H as H' (as'.take n) := by
  obtain ⟨⟨nw, x, f⟩, k, t, z⟩ := e
  refine ⟨⟨[], ?_, fun a ha => absurd ha (by simp)⟩, k, t, z⟩
  rw [x, hn, List.take_left', List.append_nil]
  rfl
/-- the end of a call -/
theorem gc_snd {as' : List Addr} {h h' : PH} {v : PV} {u : V} (e : Ext H as H' as') (rh0 : RepH H as h) (rh : RepH H' as' h') (rv : RepV H' as' v u) :
    ∃ as2, Ext H as H' as2 ∧ RepH H' as2 (gc h.length v h') ∧ RepV H' as2 v u := by
  unfold gc
  split
  · rename_i ho
    rw [Bool.and_eq_true] at ho
    exact ⟨as'.take h.length, e.cut rh0.len.symm, rh.cut ho.2, rv.cut ho.1⟩
  · exact ⟨as', e, rh, rv⟩
theorem gcL_snd {T : XTab} {as' : List Addr} {h h' : PH} {k : Nat} {vs : List PV} {cls : Value} {d : Option Addr} (e : Ext H as H' as') (rh0 : RepH H as h) (rh : RepH H' as' h') (rx : ExRep T H' as' k vs cls d) :
    ∃ as2, Ext H as H' as2 ∧ RepH H' as2 (gcL h.length vs h') ∧ ExRep T H' as2 k vs cls d := by
  unfold gcL
  split
  · rename_i ho
    rw [Bool.and_eq_true] at ho
    refine ⟨as'.take h.length, e.cut rh0.len.symm, rh.cut ho.2, ?_⟩
    obtain ⟨C, fs, h1, h2, h3⟩ := rx
    refine ⟨C, fs, h1, h2, ?_⟩
    rcases h3 with h3 | ⟨dd, us, e1, e2, e3, e4⟩
    · exact .inl h3
    · exact .inr ⟨dd, us, e1, e2, e3.cut ho.1, e4⟩
  · exact ⟨as', e, rh, rx⟩
end

/-! ### defs -/
structure Dn where
  x : Str
  qual : Str
  params : Arguments
  body : List Stmt
  scope : Scope
  N : List Str
  ps : List Str
structure Law where
  tab : List (Str × GK)
  mts : List (Str × Mt)
  kws : List (Nat × Nat × List Str × List Nat)
  tds : List Nat
  fuel : Nat
  dn : Nat → Option Dn
def Law.G (L : Law) (d : Dn) : Gx := ⟨d.scope, d.N, L.tab, L.mts, none, L.kws, L.tds⟩
def KwOkK (K : PySem.W.Frag) (fd : FuncData) (ps : List Str) (n : Nat) (ks : List Str) (ord : List Nat) : Prop :=
  ∀ (s : Shared) (us ws zs : List Value), us.length = n → ws.length = ks.length → K.In s.heap → pickA ord (us ++ ws) = some zs → BindsTo s fd ⟨us, ks.zip ws⟩ (ps.zip zs)
/-- what is known of a def -/
structure DefOk (L : Law) (P : Prog) (K : PySem.W.Frag) (mg : Str → Option Value) (x : Str) (f : Nat) (ps : List Str) (fa : Addr) (fd : FuncData) (d : Dn) : Prop where
  dn : L.dn f = some d
  pse : d.ps = ps
  fun_ : FunD K d.x d.qual d.params d.body d.scope [] [] fa fd
  sc : FnScope d.N d.ps d.scope
  mg : mg x = some (.ref fa)
  bind : Binds K fd ps []
  ndb : (x == ("__debug__" : Str)) = false
  kw : ∀ n ks ord, (f, n, ks, ord) ∈ L.kws → KwOkK K fd ps n ks ord
  own : P.defs f = some ⟨d.ps.length, d.N.length, cB (cE L.fuel) (L.G d) d.body⟩
structure LawOk (L : Law) (P : Prog) (K : PySem.W.Frag) (mg : Str → Option Value) : Prop where
  fn : ∀ x f ps, L.tab.lookup x = some (.fn f ps) → ∃ d fa fd, DefOk L P K mg x f ps fa fd d
  con : ∀ x g, L.tab.lookup x = some (.con g) → ∃ u v y, mg x = some u ∧ RelV v u ∧ P.glb g = some y ∧ (∀ H as, RepV H as y v) ∧ (x == ("__debug__" : Str)) = false
  blt : ∀ x b, L.tab.lookup x = some (.blt b) → x = b.nm ∧ mg x = none
  mts : ∀ x m, L.mts.lookup x = some m → x = mtNm m
section
variable {L : Law} {P : Prog} {prog : Program} {w : World} {K : PySem.W.Frag} {mg : Str → Option Value} {base : Heap} {T : XTab}
theorem rp_start {H : Hp} {as : List Addr} {h : PH} {xs : List PV} {vs : List V} {N : List Str} (rh : RepH H as h) (rl : RepL H as xs vs) : Rp H as (xs.map some ++ List.replicate (N.length - xs.length) none) (L2.start N vs) h := by
  refine ⟨?_, fun i v e => ?_, rh⟩
  · unfold L2.start; simp [rl.length]
  · by_cases hi : i < xs.length
    · rw [List.getElem?_append_left (by simpa using hi), List.getElem?_map] at e
      obtain ⟨y, hy, e⟩ := Option.map_eq_some_iff.mp e
      cases e
      obtain ⟨u, hu, ru⟩ := rl.get hy
      refine ⟨u, ?_, ru⟩
      unfold L2.start
      rw [List.getElem?_append_left (by rw [List.length_map, ← rl.length]; exact hi), List.getElem?_map, hu]; rfl
    · rw [List.getElem?_append_right (by simpa using Nat.le_of_not_lt hi), List.getElem?_replicate] at e
      split at e <;> cases e
theorem fn_ok (LO : LawOk L P K mg) : ∀ (k : Nat) (x : Str) (f : Nat) (ps : List Str) (fa : Addr) (fd : FuncData) (d : Dn), DefOk L P K mg x f ps fa fd d → FnOk prog w K mg base (L2.CX prog w) (k + 1) fa fd ps (spF T (callF P k) f) := by
  intro k
  induction k with
  | zero =>
    intro x f ps fa fd d D
    rw [← D.pse]
    refine D.fun_.ok D.sc (fun vs H Q E ⟨as, xs, h, rl, rh, g⟩ => ?_) (fun cdv A outer s H vs Q E hr ⟨as, xs, h, rl, rh, g⟩ => ?_)
    · unfold callF at g; exact g.elim
    · unfold callF at g; exact g.elim
  | succ k ih =>
    intro x f ps fa fd d D
    rw [← D.pse]
    refine D.fun_.ok D.sc (fun vs H Q E ⟨as, xs, h, rl, rh, g⟩ => ?_) (fun cdv A outer s H vs Q E hr ⟨as, xs, h, rl, rh, g⟩ => ?_)
    · unfold callF at g
      rw [D.own] at g
      simp only at g
      split at g
      · rename_i hl
        rw [← rl.length]
        by_cases hz : xs.length = d.ps.length
        · exact hz
        · rw [if_neg hz] at hl; cases hl
      · rename_i hl
        rw [← rl.length]
        by_cases hz : xs.length = d.ps.length
        · exact hz
        · rw [if_neg hz] at hl; cases hl
      · exact g.elim
    · refine ⟨rdB T (fun cls d _ H => E cls d H) (P.cc k) (cB (cE L.fuel) (L.G d) d.body), cB_ok (cE_ok L.fuel) d.body (G := L.G d) (c := P.cc k) ?_, ?_⟩
      · refine { sc := rfl, N := rfl, nd := D.sc.nd, calm := rfl, un := ?_, tk := takes_of rfl rfl rfl rfl, po := passes_of rfl, fn := fun x => rfl, kd := D.sc.kind, gf := ?_, gc := LO.con, gb := LO.blt, gm := LO.mts }
        · have := hr.un
          show (A.deeper _).units + 65 < cLine
          omega
        · intro x' f' ps' hx
          obtain ⟨d', fa', fd', D'⟩ := LO.fn x' f' ps' hx
          exact ⟨k + 1, fa', fd', ih x' f' ps' fa' fd' d' D', hr, D'.mg, D'.fun_.kp, D'.bind, D'.ndb, D'.kw⟩
      · refine ⟨as, _, h, rp_start rh rl, ?_⟩
        unfold callF at g
        rw [D.own] at g
        simp only at g
        by_cases hz : xs.length = d.ps.length
        · rw [if_pos hz] at g
          have g2 : match outOf h.length (exB (P.cc k) (cB (cE L.fuel) (L.G d) d.body) (xs.map some ++ List.replicate (d.N.length - d.ps.length) none) h) with
            | .ok v h' => ∀ as' H' u, Ext H as H' as' → RepH H' as' h' → RepV H' as' v u → Q u H'
            | .ex k ws h' => ∀ as' H' cls d, Ext H as H' as' → RepH H' as' h' → ExRep T H' as' k ws cls d → E cls d H'
            | .no => False := g
          rw [hz]
          generalize exB (P.cc k) (cB (cE L.fuel) (L.G d) d.body) (xs.map some ++ List.replicate (d.N.length - d.ps.length) none) h = z at g2
          cases z with
          | nx r' h' =>
            intro as' H' σ' e p'
            obtain ⟨as2, e2, rh2, rv2⟩ := gc_snd e rh p'.hp (.non (H := H') (as := as'))
            exact g2 as2 H' .non e2 rh2 rv2
          | rt v h' =>
            intro as' H' u e rh' rv
            obtain ⟨as2, e2, rh2, rv2⟩ := gc_snd e rh rh' rv
            exact g2 as2 H' u e2 rh2 rv2
          | ex c vs r' h' =>
            intro as' H' σ' cls dd e p' rx
            obtain ⟨as2, e2, rh2, rx2⟩ := gcL_snd e rh p'.hp rx
            exact g2 as2 H' cls dd e2 rh2 rx2
          | bk r' h' => exact g2.elim
          | ct r' h' => exact g2.elim
          | no => exact g2.elim
        · rw [if_neg hz] at g; exact g.elim
end
end EV
end
section
set_option Elab.async false
set_option linter.all false
set_option maxRecDepth 100000
/-! EvHead: from a table of defs to the law's end. -/
namespace EV
open PySem PySem.Spec PyProof.Rows L2

structure Tb where
  D : List Dn
  cons : List (Str × Int)
  blts : List Bn
  mts : List Mt
  kws : List (Nat × Nat × List Str × List Nat)
  tds : List Nat
  fuel : Nat
  loop : Nat
def Dn.d (d : Dn) : He.DefD := ⟨(d.x, none), d.x, d.qual, d.params, d.body, d.scope, [], []⟩
def tabFn : Nat → List Dn → List (Str × GK)
  | _, [] => []
  | i, d :: r => (d.x, .fn i d.ps) :: tabFn (i + 1) r
def tabCon : Nat → List (Str × Int) → List (Str × GK)
  | _, [] => []
  | i, q :: r => (q.1, .con i) :: tabCon (i + 1) r
def Tb.law (S : Tb) : Law := ⟨tabFn 0 S.D ++ (tabCon 0 S.cons ++ S.blts.map fun b => (b.nm, .blt b)), S.mts.map fun m => (mtNm m, m), S.kws, S.tds, S.fuel, fun f => S.D[f]?⟩
def Tb.own (S : Tb) (d : Dn) : FD := ⟨d.ps.length, d.N.length, cB (cE S.fuel) (S.law.G d) d.body⟩
def Tb.prog (S : Tb) : Prog := ⟨fun f => (S.D[f]?).map S.own, fun g => (S.cons[g]?).map fun q => .int q.2, S.loop⟩
def Tb.fa (S : Tb) : List He.Fa := (S.D.map fun d => .glo d.x) ++ ((S.cons.map fun q => .int q.1 q.2) ++ S.blts.map fun b => .free b.nm)
def Tb.fn (S : Tb) : List He.DefD := S.D.map Dn.d

structure DefFix (d : Dn) : Prop where
  sc : FnScope d.N d.ps d.scope
  bind : ∀ (K : PySem.W.Frag) (fa : Addr) (fd : FuncData), FunD K d.x d.qual d.params d.body d.scope [] [] fa fd → Binds K fd d.ps []
  ndb : (d.x == ("__debug__" : Str)) = false
def KwFix (d : Dn) (q : Nat × Nat × List Str × List Nat) : Prop := ∀ (K : PySem.W.Frag) (fa : Addr) (fd : FuncData), FunD K d.x d.qual d.params d.body d.scope [] [] fa fd → KwOkK K fd d.ps q.2.1 q.2.2.1 q.2.2.2
def AllL {α : Type} (p : α → Prop) : List α → Prop
  | [] => True
  | x :: r => p x ∧ AllL p r
theorem AllL.of {α : Type} {p : α → Prop} : ∀ {l : List α}, AllL p l → ∀ x ∈ l, p x
  | _ :: _, h, x, hx => by
    rcases List.mem_cons.mp hx with e | hx
    · rw [e]; exact h.1
    · exact AllL.of h.2 x hx
theorem tabFn_mem : ∀ {D : List Dn} {i : Nat} {x : Str} {g : GK}, (x, g) ∈ tabFn i D → ∃ j d, D[j]? = some d ∧ x = d.x ∧ g = .fn (i + j) d.ps
  | d :: r, i, x, g, h => by
    unfold tabFn at h
    rcases List.mem_cons.mp h with e | h
    · cases e; exact ⟨0, d, rfl, rfl, rfl⟩
    · obtain ⟨j, d', h1, h2, h3⟩ := tabFn_mem h
      exact ⟨j + 1, d', by simpa using h1, h2, by rw [h3]; congr 1; omega⟩
  | [], i, x, g, h => absurd h (by simp [tabFn])
theorem tabCon_mem : ∀ {D : List (Str × Int)} {i : Nat} {x : Str} {g : GK}, (x, g) ∈ tabCon i D → ∃ j d, D[j]? = some d ∧ x = d.1 ∧ g = .con (i + j)
  | d :: r, i, x, g, h => by
    unfold tabCon at h
    rcases List.mem_cons.mp h with e | h
    · cases e; exact ⟨0, d, rfl, rfl, rfl⟩
    · obtain ⟨j, d', h1, h2, h3⟩ := tabCon_mem h
      exact ⟨j + 1, d', by simpa using h1, h2, by rw [h3]; congr 1; omega⟩
  | [], i, x, g, h => absurd h (by simp [tabCon])
theorem says_fact {fa : List He.Fa} {fn : List He.DefD} {K : PySem.W.Frag} (c : He.SaysD fa fn K) {f : He.Fa} (h : f ∈ fa) : f.ok K = true := by
  obtain ⟨i, hi⟩ := List.getElem?_of_mem h
  exact c.fact i hi
theorem says_def {fa : List He.Fa} {fn : List He.DefD} {K : PySem.W.Frag} (c : He.SaysD fa fn K) {d : He.DefD} (h : d ∈ fn) : ∃ fd, FunD K d.name d.qual d.params d.body d.scope (d.dvs K) (d.kws K) (He.fAd K d.at_) fd := by
  obtain ⟨i, hi⟩ := List.getElem?_of_mem h
  exact c.def_ i hi
section
variable {S : Tb} {K : PySem.W.Frag} {h : Heap} {mg : Str → Option Value}
theorem Tb.defOk (c : He.SaysD S.fa S.fn K) (X : K.In h) (G : h.Ns mainGlobals mg) (fx : AllL DefFix S.D) (kx : AllL (fun q => ∃ d, S.D[q.1]? = some d ∧ KwFix d q) S.kws) {f : Nat} {d : Dn} (hd : S.D[f]? = some d) :
    ∃ fd, DefOk S.law S.prog K mg d.x f d.ps (He.ga K d.x) fd d := by
  have hm := List.mem_of_getElem? hd
  have F := fx.of d hm
  obtain ⟨fd, Fd⟩ := says_def c (d := d.d) (List.mem_map.mpr ⟨d, hm, rfl⟩)
  have Fd : FunD K d.x d.qual d.params d.body d.scope [] [] (He.ga K d.x) fd := Fd
  refine ⟨fd, { dn := hd, pse := rfl, fun_ := Fd, sc := F.sc, mg := He.glo_ok X G (says_fact c (List.mem_append_left _ (List.mem_map.mpr ⟨d, hm, rfl⟩))), bind := F.bind K _ fd Fd, ndb := F.ndb, kw := fun n ks ord hq => ?_, own := ?_ }⟩
  · obtain ⟨d', h1, h2⟩ := kx.of _ hq
    have e : d' = d := by
      have h1 : S.D[f]? = some d' := h1
      rw [hd] at h1
      exact (Option.some.inj h1).symm
    subst e
    exact h2 K _ fd Fd
  · show (S.D[f]?).map S.own = _
    rw [hd]; rfl
theorem Tb.ok (c : He.SaysD S.fa S.fn K) (X : K.In h) (G : h.Ns mainGlobals mg) (fx : AllL DefFix S.D) (kx : AllL (fun q => ∃ d, S.D[q.1]? = some d ∧ KwFix d q) S.kws) (cx : S.cons.all (fun q => !(q.1 == ("__debug__" : Str))) = true) : LawOk S.law S.prog K mg where
  fn := fun x f ps hx => by
    rcases List.mem_append.mp (PySem.mem_of_lookup hx) with m | m
    · obtain ⟨j, d, h1, rfl, e⟩ := tabFn_mem m
      rw [Nat.zero_add] at e
      cases e
      obtain ⟨fd, D⟩ := Tb.defOk c X G fx kx h1
      exact ⟨d, _, fd, D⟩
    · rcases List.mem_append.mp m with m | m
      · obtain ⟨j, d, h1, _, e⟩ := tabCon_mem m
        cases e
      · obtain ⟨b, _, e⟩ := List.mem_map.mp m
        cases e
  con := fun x g hx => by
    rcases List.mem_append.mp (PySem.mem_of_lookup hx) with m | m
    · obtain ⟨j, d, h1, _, e⟩ := tabFn_mem m
      cases e
    · rcases List.mem_append.mp m with m | m
      · obtain ⟨j, q, h1, rfl, e⟩ := tabCon_mem m
        rw [Nat.zero_add] at e
        cases e
        have hm := List.mem_of_getElem? h1
        obtain ⟨t, ht⟩ := He.int_ok X G (says_fact c (List.mem_append_right _ (List.mem_append_left _ (List.mem_map.mpr ⟨q, hm, rfl⟩))))
        refine ⟨_, .int q.2, .int q.2, ht, ⟨t, rfl⟩, ?_, fun _ _ => .int _, ?_⟩
        · show (S.cons[g]?).map _ = _
          rw [h1]; rfl
        · have := List.all_eq_true.mp cx q hm
          simpa using this
      · obtain ⟨b, _, e⟩ := List.mem_map.mp m
        cases e
  blt := fun x b hx => by
    rcases List.mem_append.mp (PySem.mem_of_lookup hx) with m | m
    · obtain ⟨j, d, h1, _, e⟩ := tabFn_mem m
      cases e
    · rcases List.mem_append.mp m with m | m
      · obtain ⟨j, q, h1, _, e⟩ := tabCon_mem m
        cases e
      · obtain ⟨b', hb, e⟩ := List.mem_map.mp m
        cases e
        exact ⟨rfl, He.free_ok X G (says_fact c (List.mem_append_right _ (List.mem_append_right _ (List.mem_map.mpr ⟨b, hb, rfl⟩))))⟩
  mts := fun x m hx => by
    obtain ⟨m', _, e⟩ := List.mem_map.mp (PySem.mem_of_lookup hx)
    cases e
    rfl
end

/-! ### the hook: no list among what is known -/
def noList (K : PySem.W.Frag) : Bool := K.all fun p => decide (p.2.cls ≠ .type "list")
def obsL (n : Nat) (fa : List He.Fa) (fn : List He.DefD) (g : Addr → Option Obj) : Bool × He.AlD :=
  let K := He.frG g (He.asD g n)
  (noList K, He.obsD fa fn K)
def hookL (n : Nat) (fa : List He.Fa) (fn : List He.DefD) : PySem.W.Hook where
  α := Bool × He.AlD
  obs := fun s => obsL n fa fn s.heap.get?
  val := fun _ => (true, He.valD fn)
  says := fun _ h => ∃ K : PySem.W.Frag, K.In h ∧ He.SaysD fa fn K ∧ noList K = true
  of := fun _ _ e => ⟨_, He.frG_in, congrArg Prod.snd e, congrArg Prod.fst e⟩
  keeps := fun _ _ _ ⟨K, hK, c⟩ k => ⟨K, PySem.W.Frag.In.keeps hK k, c⟩
theorem obsL_eq {n : Nat} {fa : List He.Fa} {fn : List He.DefD} {g : Addr → Option Obj} {s : Shared} (h : ∀ a, g a = s.heap.get? a) : obsL n fa fn g = (hookL n fa fn).obs s := by
  have e : g = s.heap.get? := funext h
  rw [e] <;> rfl
theorem lookup_mem {α β : Type} [BEq α] [LawfulBEq α] : ∀ {l : List (α × β)} {a : α} {b : β}, l.lookup a = some b → (a, b) ∈ l
  | (k, v) :: r, a, b, h => by
    rw [List.lookup_cons] at h
    cases hb : a == k with
    | true =>
      rw [hb] at h
      cases h
      rw [eq_of_beq hb]
      exact List.mem_cons_self
    | false =>
      rw [hb] at h
      exact List.mem_cons_of_mem _ (lookup_mem h)
theorem no_list {K : PySem.W.Frag} (h : noList K = true) {H : Hp} {a : Addr} {xs : List V} (s : SqL K H a xs) : Rd H a (.lst xs) := by
  rcases s with s | ⟨o, its, n, e, hc, _⟩
  · exact s
  · have := List.all_eq_true.mp h (a, o) (lookup_mem e)
    exact absurd hc (of_decide_eq_true this)
/-- the law's wish -/
theorem sp_law {T : XTab} {P : Prog} {k f : Nat} {K : PySem.W.Frag} (hk : noList K = true) {H : Hp} {a : Addr} {ns : List Int} (hO : Only H) (hS : SqL K H a (ns.map V.int)) (hl : ns.length ≤ sizeLine)
    (hm : ∃ h', callF P k f [.obj 0] [.lst true (ns.map .int)] = .ok (.bl true) h') : spF T (callF P k) f [.ref a] H (fun v _ => v = .bl true) fun _ _ _ => False := by
  obtain ⟨h', hm⟩ := hm
  refine ⟨[a], [.obj 0], [.lst true (ns.map .int)], .cons (.obj rfl) .nil, ⟨rfl, by simp, fun n o b q qa => ?_⟩, ?_⟩
  · cases n with
    | zero =>
      cases q
      cases qa
      have frz : ∃ o, H a = some (.frz o (.lst (ns.map V.int))) := by
        rcases no_list hk hS with e | ⟨o, e⟩
        · rcases hO a with z | ⟨o, xs, z⟩
          · rw [e] at z; cases z
          · rw [e] at z; cases z
        · exact ⟨o, e⟩
      obtain ⟨o, e⟩ := frz
      exact ⟨_, e, ns.map V.int, .ofInts ns, by rw [List.length_map]; exact hl, ⟨o, rfl⟩⟩
    | succ n => cases q
  · rw [hm]
    exact fun as' H' u e rh rv => rv.blE
def CXn (P : Program) : CXT := fun outer H s E e s' => ∃ w, L2.CX P w outer H s E e s'
theorem cx_never {P : Program} {w : World} {outer : List PySem.Env} {H : Hp} {s s' : Shared} {e : Value} (z : L2.CX P w outer H s (fun _ _ _ => False) e s') : False := by
  obtain ⟨_, _, _, _, _, _, _, _, _, _, _, _, w⟩ := z
  exact w
theorem fn_wide {P : Program} {w : World} {K : PySem.W.Frag} {mg : Str → Option Value} {base : Heap} {k : Nat} {f : Addr} {fd : FuncData} {ps : List Str} {sp : Sp} (F : FnOk P w K mg base (L2.CX P w) k f fd ps sp) : FnOk P w K mg base (CXn P) k f fd ps sp :=
  ⟨F.len, fun A outer s H args us vs Q E hr he hb hv hs => codeAny_mono (F.run A outer s H args us vs Q E hr he hb hv hs) fun r s' hq => by
    cases r with
    | error e => exact ⟨w, hq⟩
    | ok fl => cases fl <;> exact hq⟩
theorem law_end {l : PySem.W.OpenLaw} {n k f m : Nat} {q : Program} {loose : List Str} {XP : (Str → Option Value) → Heap → Prop} {d : DefRec} {x : Str} {S : Tb} {dl : Dn} {dep : Nat}
    (hn : l.most = some n) (hn2 : n ≤ sizeLine) (hdf : d.params.defaults = []) (hr : Room (k + 1) callerA)
    (fx : AllL DefFix S.D) (kx : AllL (fun q => ∃ d, S.D[q.1]? = some d ∧ KwFix d q) S.kws) (cx : S.cons.all (fun q => !(q.1 == ("__debug__" : Str))) = true) (hd : S.D[f]? = some dl) (hx : dl.x = d.name) (hps : dl.ps = [x])
    (hb : ∀ (K : PySem.W.Frag) (fa : Addr) (fd : FuncData), FunD K dl.x dl.qual dl.params dl.body dl.scope [] [] fa fd → ∀ (s : Shared) (u : Value), BindsTo s fd ⟨[u], []⟩ [(x, u)])
    (hm : ∀ ns : List Int, ns.length ≤ n → ∃ h', callF S.prog k f [.obj 0] [.lst true (ns.map .int)] = .ok (.bl true) h') :
    PySem.W.WalkO q loose XP (hookL dep S.fa S.fn).says l.row.toRowW d [] (fun f vs => PySem.call f vs) := by
  refine L2.walk_ofE (l := l) (k := k + 1) (x := x) (CX := CXn l.prog) hn hn2 hdf hr ?F ?cx
  case cx =>
    intro H s e s' ⟨w, z⟩
    exact cx_never z
  case F =>
    intro w mg fa h ⟨K, KX, c, nl⟩ G hmg
    obtain ⟨fd, D⟩ := Tb.defOk c KX G fx kx hd
    have e : He.ga K dl.x = fa := by
      have := D.mg
      rw [hx, hmg] at this
      rw [hx]
      injection this with z
      injection z with z
      exact z.symm
    rw [e] at D
    refine ⟨K, fd, spF (fun _ => none) (callF S.prog k) f, KX, hb K _ fd D.fun_, fun H a ns hl hO hS => sp_law nl hO hS (Nat.le_trans hl hn2) (hm ns hl), fun base _ _ => ?_⟩
    rw [← hps]
    exact fn_wide (fn_ok (Tb.ok c KX G fx kx cx) k dl.x f dl.ps fa fd dl D)
end EV
end
section
set_option Elab.async false
set_option linter.all false
set_option maxRecDepth 100000
set_option maxHeartbeats 0
namespace Lw
open PySem PySem.Spec PyProof.Rows L2
def top (i : Nat) : Stmt := PySem.Challenge.pw_whatelse_k80_waits_and_first_times.main.body.getD i (.Pass ⟨0, 0, 0, 0⟩)
def dn (x : Str) (i : Nat) (N ps : List Str) : EV.Dn := ⟨x, x, defArgs (top i), defBody (top i), defScope (top i), N, ps⟩
def d0 : EV.Dn := dn "is_integer" 14 ["value"] ["value"]
def d1 : EV.Dn := dn "is_within" 15 ["value", "least", "most"] ["value", "least", "most"]
def d2 : EV.Dn := dn "is_step" 16 ["value", "answers", "states"] ["value", "answers", "states"]
def d3 : EV.Dn := dn "need_row" 17 ["box", "state", "row", "value", "step"] ["box", "state"]
def d4 : EV.Dn := dn "need_box" 18 ["box", "state"] ["box"]
def d5 : EV.Dn := dn "need_state" 19 ["box", "state"] ["box", "state"]
def d6 : EV.Dn := dn "need_word_of" 20 ["inputs", "word", "place", "value"] ["inputs", "word"]
def d7 : EV.Dn := dn "way_of" 21 ["table", "state", "word", "found", "here", "value", "answer"] ["table", "state", "word"]
def d8 : EV.Dn := dn "need_asked" 22 ["box", "state", "word"] ["box", "state", "word"]
def d9 : EV.Dn := dn "answers_of" 23 ["box", "word"] ["box", "word"]
def d10 : EV.Dn := dn "answers_from" 24 ["box", "state", "word"] ["box", "state", "word"]
def d11 : EV.Dn := dn "end_behind" 25 ["box", "word", "turns", "ends", "here", "tail"] ["box", "word", "turns"]
def d12 : EV.Dn := dn "outer_fault" 35 ["value"] ["value"]
def d13 : EV.Dn := dn "steps_fault" 36 ["value", "state", "row", "place", "step"] ["value", "state"]
def d14 : EV.Dn := dn "is_out" 37 ["value", "states"] ["value", "states"]
def d15 : EV.Dn := dn "clock_fault" 38 ["value", "fault", "state", "row"] ["value"]
def d16 : EV.Dn := dn "need_clock" 39 ["clock", "fault"] ["clock"]
def d17 : EV.Dn := dn "need_clock_state" 40 ["clock", "state"] ["clock", "state"]
def d18 : EV.Dn := dn "need_clock_input" 41 ["clock", "value"] ["clock", "value"]
def d19 : EV.Dn := dn "need_timed" 42 ["clock", "timed", "place", "pair"] ["clock", "timed"]
def d20 : EV.Dn := dn "stay_of" 43 ["clock", "state", "out"] ["clock", "state"]
def d21 : EV.Dn := dn "course_of" 44 ["clock", "state", "found", "here", "moment", "pair"] ["clock", "state"]
def d22 : EV.Dn := dn "round_of" 45 ["clock", "course", "begin", "last"] ["clock", "course", "begin"]
def d23 : EV.Dn := dn "stand_after" 46 ["clock", "state", "wait", "course", "begin", "moment", "here", "pair"] ["clock", "state", "wait"]
def d24 : EV.Dn := dn "clock_stands" 47 ["clock", "state", "wait"] ["clock", "state", "wait"]
def d25 : EV.Dn := dn "answers_timed" 48 ["clock", "timed", "found", "here", "wait", "value", "answer"] ["clock", "timed"]
def d26 : EV.Dn := dn "clock_answers" 49 ["clock", "timed"] ["clock", "timed"]
def d27 : EV.Dn := dn "tick_of" 50 ["clock", "place", "stay"] ["clock", "place"]
def d28 : EV.Dn := dn "ticked_rows" 51 ["clock", "found", "waiting", "at", "rows", "place", "steps", "answer", "there"] ["clock"]
def d29 : EV.Dn := dn "ticked_box" 52 ["clock"] ["clock"]
def d30 : EV.Dn := dn "first_wait" 53 ["clock", "state", "value", "answer", "moments", "here", "moment"] ["clock", "state", "value", "answer"]
def d31 : EV.Dn := dn "_law_mixed" 55 ["cell", "n", "blend"] ["cell", "n"]
def d32 : EV.Dn := dn "_law_begin" 56 ["script", "found", "n", "cell"] ["script"]
def d33 : EV.Dn := dn "_law_draw" 57 ["m", "limit", "n", "here", "cell"] ["m", "limit"]
def d34 : EV.Dn := dn "_law_of" 58 ["m", "some"] ["m", "some"]
def d35 : EV.Dn := dn "_law_like" 59 ["got", "due", "is_kind", "one", "other"] ["got", "due"]
def d36 : EV.Dn := dn "_law_clock" 60 ["m", "states", "asks", "marks", "most", "rows_so", "state", "out", "value"] ["m", "states", "asks", "marks", "most"]
def d37 : EV.Dn := dn "_law_tick" 61 ["clock", "place", "out"] ["clock", "place"]
def d38 : EV.Dn := dn "_law_ticks" 62 ["clock", "state", "many", "found", "step"] ["clock", "state", "many"]
def d39 : EV.Dn := dn "_law_stands" 63 ["clock", "state", "wait", "here", "rest", "ahead"] ["clock", "state", "wait"]
def d40 : EV.Dn := dn "_law_timed_answers" 64 ["clock", "timed_so", "found", "here", "wait", "value", "answer"] ["clock", "timed_so"]
def d41 : EV.Dn := dn "_law_first_right" 65 ["clock", "state", "begin", "here", "at", "value", "answer", "some", "got", "one"] ["clock", "state"]
def d42 : EV.Dn := dn "_law_small_right" 66 ["m", "clock", "state", "due", "timed_so", "found", "here", "wait", "value", "answer", "step"] ["m"]
def d43 : EV.Dn := dn "_law_ticked_right" 67 ["m", "clock", "timed_so", "due", "places", "rows_so", "here", "age", "steps_so", "answer", "place", "box", "tick", "word_so", "wait", "value", "told", "got", "there"] ["m", "clock", "timed_so", "due"]
def d44 : EV.Dn := dn "_law_great_right" 68 ["m", "size", "clock", "rows_so", "turn", "state", "wait", "there", "age", "waits_so", "got", "timed_so", "one", "step"] ["m"]
def d45 : EV.Dn := dn "law" 69 ["script", "m", "turn"] ["script"]
def D0_ : List EV.Dn := [d0, d1, d2, d3, d4, d5, d6, d7, d8, d9, d10, d11, d12, d13, d14, d15, d16, d17, d18, d19, d20, d21, d22, d23, d24, d25, d26, d27, d28, d29]
def D1_ : List EV.Dn := [d30, d31, d32, d33, d34, d35, d36, d37, d38, d39, d40, d41, d42, d43, d44, d45]
def D : List EV.Dn := D0_ ++ D1_
def cons0_ : List (Str × Int) := [("MOST_INPUTS", 4), ("MOST_ANSWERS", 9), ("MOST_STATES", 60), ("MOST_WORD", 200000), ("MOST_TURNS", 1000000000000000000), ("MOST_CLOCK", 20), ("MOST_TICKS", 1000000000000000000), ("MOST_WAIT", 10000000000000000000000000000000000000000), ("MOST_TIMED", 200)]
def cons : List (Str × Int) := cons0_
def blts : List EV.Bn := [.len, .int, .min, .max, .isinstance, .tuple, .list, .range, .enumerate, .zip, .bool, .str]
def mts : List EV.Mt := [.append, .index, .get1]
def kws : List (Nat × Nat × List Str × List Nat) := [(30, 0, ["answer", "value", "state", "clock"], [3, 2, 1, 0]), (24, 0, ["wait", "state", "clock"], [2, 1, 0]), (16, 0, ["clock"], [0]), (26, 0, ["timed", "clock"], [1, 0])]
def S : EV.Tb := ⟨D, cons, blts, mts, kws, [1000326], 40, 1000000000⟩
theorem f0 : EV.DefFix d0 := ⟨⟨rfl, rfl, rfl, by decide +kernel, rfl, by decide +kernel, by decide +kernel⟩, fun K fa fd F => F.bindsN fun _ _ _ _ _ _ us hl => match us, hl with | [_], _ => rfl, by decide +kernel⟩
theorem f1 : EV.DefFix d1 := ⟨⟨rfl, rfl, rfl, by decide +kernel, rfl, by decide +kernel, by decide +kernel⟩, fun K fa fd F => F.bindsN fun _ _ _ _ _ _ us hl => match us, hl with | [_, _, _], _ => rfl, by decide +kernel⟩
theorem f2 : EV.DefFix d2 := ⟨⟨rfl, rfl, rfl, by decide +kernel, rfl, by decide +kernel, by decide +kernel⟩, fun K fa fd F => F.bindsN fun _ _ _ _ _ _ us hl => match us, hl with | [_, _, _], _ => rfl, by decide +kernel⟩
theorem f3 : EV.DefFix d3 := ⟨⟨rfl, rfl, rfl, by decide +kernel, rfl, by decide +kernel, by decide +kernel⟩, fun K fa fd F => F.bindsN fun _ _ _ _ _ _ us hl => match us, hl with | [_, _], _ => rfl, by decide +kernel⟩
theorem f4 : EV.DefFix d4 := ⟨⟨rfl, rfl, rfl, by decide +kernel, rfl, by decide +kernel, by decide +kernel⟩, fun K fa fd F => F.bindsN fun _ _ _ _ _ _ us hl => match us, hl with | [_], _ => rfl, by decide +kernel⟩
theorem f5 : EV.DefFix d5 := ⟨⟨rfl, rfl, rfl, by decide +kernel, rfl, by decide +kernel, by decide +kernel⟩, fun K fa fd F => F.bindsN fun _ _ _ _ _ _ us hl => match us, hl with | [_, _], _ => rfl, by decide +kernel⟩
theorem f6 : EV.DefFix d6 := ⟨⟨rfl, rfl, rfl, by decide +kernel, rfl, by decide +kernel, by decide +kernel⟩, fun K fa fd F => F.bindsN fun _ _ _ _ _ _ us hl => match us, hl with | [_, _], _ => rfl, by decide +kernel⟩
theorem f7 : EV.DefFix d7 := ⟨⟨rfl, rfl, rfl, by decide +kernel, rfl, by decide +kernel, by decide +kernel⟩, fun K fa fd F => F.bindsN fun _ _ _ _ _ _ us hl => match us, hl with | [_, _, _], _ => rfl, by decide +kernel⟩
theorem f8 : EV.DefFix d8 := ⟨⟨rfl, rfl, rfl, by decide +kernel, rfl, by decide +kernel, by decide +kernel⟩, fun K fa fd F => F.bindsN fun _ _ _ _ _ _ us hl => match us, hl with | [_, _, _], _ => rfl, by decide +kernel⟩
theorem f9 : EV.DefFix d9 := ⟨⟨rfl, rfl, rfl, by decide +kernel, rfl, by decide +kernel, by decide +kernel⟩, fun K fa fd F => F.bindsN fun _ _ _ _ _ _ us hl => match us, hl with | [_, _], _ => rfl, by decide +kernel⟩
theorem f10 : EV.DefFix d10 := ⟨⟨rfl, rfl, rfl, by decide +kernel, rfl, by decide +kernel, by decide +kernel⟩, fun K fa fd F => F.bindsN fun _ _ _ _ _ _ us hl => match us, hl with | [_, _, _], _ => rfl, by decide +kernel⟩
theorem f11 : EV.DefFix d11 := ⟨⟨rfl, rfl, rfl, by decide +kernel, rfl, by decide +kernel, by decide +kernel⟩, fun K fa fd F => F.bindsN fun _ _ _ _ _ _ us hl => match us, hl with | [_, _, _], _ => rfl, by decide +kernel⟩
theorem f12 : EV.DefFix d12 := ⟨⟨rfl, rfl, rfl, by decide +kernel, rfl, by decide +kernel, by decide +kernel⟩, fun K fa fd F => F.bindsN fun _ _ _ _ _ _ us hl => match us, hl with | [_], _ => rfl, by decide +kernel⟩
theorem f13 : EV.DefFix d13 := ⟨⟨rfl, rfl, rfl, by decide +kernel, rfl, by decide +kernel, by decide +kernel⟩, fun K fa fd F => F.bindsN fun _ _ _ _ _ _ us hl => match us, hl with | [_, _], _ => rfl, by decide +kernel⟩
theorem f14 : EV.DefFix d14 := ⟨⟨rfl, rfl, rfl, by decide +kernel, rfl, by decide +kernel, by decide +kernel⟩, fun K fa fd F => F.bindsN fun _ _ _ _ _ _ us hl => match us, hl with | [_, _], _ => rfl, by decide +kernel⟩
theorem f15 : EV.DefFix d15 := ⟨⟨rfl, rfl, rfl, by decide +kernel, rfl, by decide +kernel, by decide +kernel⟩, fun K fa fd F => F.bindsN fun _ _ _ _ _ _ us hl => match us, hl with | [_], _ => rfl, by decide +kernel⟩
theorem f16 : EV.DefFix d16 := ⟨⟨rfl, rfl, rfl, by decide +kernel, rfl, by decide +kernel, by decide +kernel⟩, fun K fa fd F => F.bindsN fun _ _ _ _ _ _ us hl => match us, hl with | [_], _ => rfl, by decide +kernel⟩
theorem f17 : EV.DefFix d17 := ⟨⟨rfl, rfl, rfl, by decide +kernel, rfl, by decide +kernel, by decide +kernel⟩, fun K fa fd F => F.bindsN fun _ _ _ _ _ _ us hl => match us, hl with | [_, _], _ => rfl, by decide +kernel⟩
theorem f18 : EV.DefFix d18 := ⟨⟨rfl, rfl, rfl, by decide +kernel, rfl, by decide +kernel, by decide +kernel⟩, fun K fa fd F => F.bindsN fun _ _ _ _ _ _ us hl => match us, hl with | [_, _], _ => rfl, by decide +kernel⟩
theorem f19 : EV.DefFix d19 := ⟨⟨rfl, rfl, rfl, by decide +kernel, rfl, by decide +kernel, by decide +kernel⟩, fun K fa fd F => F.bindsN fun _ _ _ _ _ _ us hl => match us, hl with | [_, _], _ => rfl, by decide +kernel⟩
theorem f20 : EV.DefFix d20 := ⟨⟨rfl, rfl, rfl, by decide +kernel, rfl, by decide +kernel, by decide +kernel⟩, fun K fa fd F => F.bindsN fun _ _ _ _ _ _ us hl => match us, hl with | [_, _], _ => rfl, by decide +kernel⟩
theorem f21 : EV.DefFix d21 := ⟨⟨rfl, rfl, rfl, by decide +kernel, rfl, by decide +kernel, by decide +kernel⟩, fun K fa fd F => F.bindsN fun _ _ _ _ _ _ us hl => match us, hl with | [_, _], _ => rfl, by decide +kernel⟩
theorem f22 : EV.DefFix d22 := ⟨⟨rfl, rfl, rfl, by decide +kernel, rfl, by decide +kernel, by decide +kernel⟩, fun K fa fd F => F.bindsN fun _ _ _ _ _ _ us hl => match us, hl with | [_, _, _], _ => rfl, by decide +kernel⟩
theorem f23 : EV.DefFix d23 := ⟨⟨rfl, rfl, rfl, by decide +kernel, rfl, by decide +kernel, by decide +kernel⟩, fun K fa fd F => F.bindsN fun _ _ _ _ _ _ us hl => match us, hl with | [_, _, _], _ => rfl, by decide +kernel⟩
theorem f24 : EV.DefFix d24 := ⟨⟨rfl, rfl, rfl, by decide +kernel, rfl, by decide +kernel, by decide +kernel⟩, fun K fa fd F => F.bindsN fun _ _ _ _ _ _ us hl => match us, hl with | [_, _, _], _ => rfl, by decide +kernel⟩
theorem f25 : EV.DefFix d25 := ⟨⟨rfl, rfl, rfl, by decide +kernel, rfl, by decide +kernel, by decide +kernel⟩, fun K fa fd F => F.bindsN fun _ _ _ _ _ _ us hl => match us, hl with | [_, _], _ => rfl, by decide +kernel⟩
theorem f26 : EV.DefFix d26 := ⟨⟨rfl, rfl, rfl, by decide +kernel, rfl, by decide +kernel, by decide +kernel⟩, fun K fa fd F => F.bindsN fun _ _ _ _ _ _ us hl => match us, hl with | [_, _], _ => rfl, by decide +kernel⟩
theorem f27 : EV.DefFix d27 := ⟨⟨rfl, rfl, rfl, by decide +kernel, rfl, by decide +kernel, by decide +kernel⟩, fun K fa fd F => F.bindsN fun _ _ _ _ _ _ us hl => match us, hl with | [_, _], _ => rfl, by decide +kernel⟩
theorem f28 : EV.DefFix d28 := ⟨⟨rfl, rfl, rfl, by decide +kernel, rfl, by decide +kernel, by decide +kernel⟩, fun K fa fd F => F.bindsN fun _ _ _ _ _ _ us hl => match us, hl with | [_], _ => rfl, by decide +kernel⟩
theorem f29 : EV.DefFix d29 := ⟨⟨rfl, rfl, rfl, by decide +kernel, rfl, by decide +kernel, by decide +kernel⟩, fun K fa fd F => F.bindsN fun _ _ _ _ _ _ us hl => match us, hl with | [_], _ => rfl, by decide +kernel⟩
theorem f30 : EV.DefFix d30 := ⟨⟨rfl, rfl, rfl, by decide +kernel, rfl, by decide +kernel, by decide +kernel⟩, fun K fa fd F => F.bindsN fun _ _ _ _ _ _ us hl => match us, hl with | [_, _, _, _], _ => rfl, by decide +kernel⟩
theorem f31 : EV.DefFix d31 := ⟨⟨rfl, rfl, rfl, by decide +kernel, rfl, by decide +kernel, by decide +kernel⟩, fun K fa fd F => F.bindsN fun _ _ _ _ _ _ us hl => match us, hl with | [_, _], _ => rfl, by decide +kernel⟩
theorem f32 : EV.DefFix d32 := ⟨⟨rfl, rfl, rfl, by decide +kernel, rfl, by decide +kernel, by decide +kernel⟩, fun K fa fd F => F.bindsN fun _ _ _ _ _ _ us hl => match us, hl with | [_], _ => rfl, by decide +kernel⟩
theorem f33 : EV.DefFix d33 := ⟨⟨rfl, rfl, rfl, by decide +kernel, rfl, by decide +kernel, by decide +kernel⟩, fun K fa fd F => F.bindsN fun _ _ _ _ _ _ us hl => match us, hl with | [_, _], _ => rfl, by decide +kernel⟩
theorem f34 : EV.DefFix d34 := ⟨⟨rfl, rfl, rfl, by decide +kernel, rfl, by decide +kernel, by decide +kernel⟩, fun K fa fd F => F.bindsN fun _ _ _ _ _ _ us hl => match us, hl with | [_, _], _ => rfl, by decide +kernel⟩
theorem f35 : EV.DefFix d35 := ⟨⟨rfl, rfl, rfl, by decide +kernel, rfl, by decide +kernel, by decide +kernel⟩, fun K fa fd F => F.bindsN fun _ _ _ _ _ _ us hl => match us, hl with | [_, _], _ => rfl, by decide +kernel⟩
theorem f36 : EV.DefFix d36 := ⟨⟨rfl, rfl, rfl, by decide +kernel, rfl, by decide +kernel, by decide +kernel⟩, fun K fa fd F => F.bindsN fun _ _ _ _ _ _ us hl => match us, hl with | [_, _, _, _, _], _ => rfl, by decide +kernel⟩
theorem f37 : EV.DefFix d37 := ⟨⟨rfl, rfl, rfl, by decide +kernel, rfl, by decide +kernel, by decide +kernel⟩, fun K fa fd F => F.bindsN fun _ _ _ _ _ _ us hl => match us, hl with | [_, _], _ => rfl, by decide +kernel⟩
theorem f38 : EV.DefFix d38 := ⟨⟨rfl, rfl, rfl, by decide +kernel, rfl, by decide +kernel, by decide +kernel⟩, fun K fa fd F => F.bindsN fun _ _ _ _ _ _ us hl => match us, hl with | [_, _, _], _ => rfl, by decide +kernel⟩
theorem f39 : EV.DefFix d39 := ⟨⟨rfl, rfl, rfl, by decide +kernel, rfl, by decide +kernel, by decide +kernel⟩, fun K fa fd F => F.bindsN fun _ _ _ _ _ _ us hl => match us, hl with | [_, _, _], _ => rfl, by decide +kernel⟩
theorem f40 : EV.DefFix d40 := ⟨⟨rfl, rfl, rfl, by decide +kernel, rfl, by decide +kernel, by decide +kernel⟩, fun K fa fd F => F.bindsN fun _ _ _ _ _ _ us hl => match us, hl with | [_, _], _ => rfl, by decide +kernel⟩
theorem f41 : EV.DefFix d41 := ⟨⟨rfl, rfl, rfl, by decide +kernel, rfl, by decide +kernel, by decide +kernel⟩, fun K fa fd F => F.bindsN fun _ _ _ _ _ _ us hl => match us, hl with | [_, _], _ => rfl, by decide +kernel⟩
theorem f42 : EV.DefFix d42 := ⟨⟨rfl, rfl, rfl, by decide +kernel, rfl, by decide +kernel, by decide +kernel⟩, fun K fa fd F => F.bindsN fun _ _ _ _ _ _ us hl => match us, hl with | [_], _ => rfl, by decide +kernel⟩
theorem f43 : EV.DefFix d43 := ⟨⟨rfl, rfl, rfl, by decide +kernel, rfl, by decide +kernel, by decide +kernel⟩, fun K fa fd F => F.bindsN fun _ _ _ _ _ _ us hl => match us, hl with | [_, _, _, _], _ => rfl, by decide +kernel⟩
theorem f44 : EV.DefFix d44 := ⟨⟨rfl, rfl, rfl, by decide +kernel, rfl, by decide +kernel, by decide +kernel⟩, fun K fa fd F => F.bindsN fun _ _ _ _ _ _ us hl => match us, hl with | [_], _ => rfl, by decide +kernel⟩
theorem f45 : EV.DefFix d45 := ⟨⟨rfl, rfl, rfl, by decide +kernel, rfl, by decide +kernel, by decide +kernel⟩, fun K fa fd F => F.bindsN fun _ _ _ _ _ _ us hl => match us, hl with | [_], _ => rfl, by decide +kernel⟩
theorem fx : EV.AllL EV.DefFix D := ⟨f0, f1, f2, f3, f4, f5, f6, f7, f8, f9, f10, f11, f12, f13, f14, f15, f16, f17, f18, f19, f20, f21, f22, f23, f24, f25, f26, f27, f28, f29, f30, f31, f32, f33, f34, f35, f36, f37, f38, f39, f40, f41, f42, f43, f44, f45, trivial⟩
theorem kw0 : EV.KwFix d30 (30, 0, ["answer", "value", "state", "clock"], [3, 2, 1, 0]) := fun K fa fd F s us ws zs hu hw hK hp => by
  obtain ⟨oc, od, dV, kV, doc, pm, an, cdv, ct, osl, rfl, lk, hcd, hD, hK2⟩ := F.ex
  rcases hD with ⟨_, rfl⟩ | ⟨e, _⟩
  · match us, ws, hu, hw with
    | [], [w0, w1, w2, w3], _, _ => cases hp; exact .of_eq rfl
  · exact absurd rfl e
theorem kw1 : EV.KwFix d24 (24, 0, ["wait", "state", "clock"], [2, 1, 0]) := fun K fa fd F s us ws zs hu hw hK hp => by
  obtain ⟨oc, od, dV, kV, doc, pm, an, cdv, ct, osl, rfl, lk, hcd, hD, hK2⟩ := F.ex
  rcases hD with ⟨_, rfl⟩ | ⟨e, _⟩
  · match us, ws, hu, hw with
    | [], [w0, w1, w2], _, _ => cases hp; exact .of_eq rfl
  · exact absurd rfl e
theorem kw2 : EV.KwFix d16 (16, 0, ["clock"], [0]) := fun K fa fd F s us ws zs hu hw hK hp => by
  obtain ⟨oc, od, dV, kV, doc, pm, an, cdv, ct, osl, rfl, lk, hcd, hD, hK2⟩ := F.ex
  rcases hD with ⟨_, rfl⟩ | ⟨e, _⟩
  · match us, ws, hu, hw with
    | [], [w0], _, _ => cases hp; exact .of_eq rfl
  · exact absurd rfl e
theorem kw3 : EV.KwFix d26 (26, 0, ["timed", "clock"], [1, 0]) := fun K fa fd F s us ws zs hu hw hK hp => by
  obtain ⟨oc, od, dV, kV, doc, pm, an, cdv, ct, osl, rfl, lk, hcd, hD, hK2⟩ := F.ex
  rcases hD with ⟨_, rfl⟩ | ⟨e, _⟩
  · match us, ws, hu, hw with
    | [], [w0, w1], _, _ => cases hp; exact .of_eq rfl
  · exact absurd rfl e
theorem kx : EV.AllL (fun q => ∃ d, S.D[q.1]? = some d ∧ EV.KwFix d q) S.kws := ⟨⟨d30, rfl, kw0⟩, ⟨d24, rfl, kw1⟩, ⟨d16, rfl, kw2⟩, ⟨d26, rfl, kw3⟩, trivial⟩
end Lw
end
section
set_option Elab.async false
set_option linter.all false
set_option maxRecDepth 100000
set_option maxHeartbeats 0
namespace Lw
open PySem EV
/-- is_integer -/
def b0 : List EV.S := [.ret (.and (.bf (.isinst .int) [.var 0]) (.not (.bf (.isinst .bool) [.var 0])))]
theorem b0_eq : S.own d0 = ⟨1, 1, b0⟩ := by kernel_rfl
theorem p0 : S.prog.defs 0 = some ⟨1, 1, b0⟩ := congrArg some b0_eq
/-- is_within -/
def b1 : List EV.S := [.ret (.and (.call 0 [.var 0]) (.chn .le .le (.var 1) (.var 0) (.var 2)))]
theorem b1_eq : S.own d1 = ⟨3, 3, b1⟩ := by kernel_rfl
theorem p1 : S.prog.defs 1 = some ⟨3, 3, b1⟩ := congrArg some b1_eq
/-- is_step -/
def b2 : List EV.S := [.ite (.or (.not (.bf (.isinst .tuple) [.var 0])) (.cmp .ne (.bf .len [.var 0]) (.cst (.int 2)))) [.ret (.cst (.bl false))] [], .ret (.and (.call 1 [.idx (.var 0) (.cst (.int 0)), .cst (.int 0), .bin .sub (.var 1) (.cst (.int 1))]) (.call 1 [.idx (.var 0) (.cst (.int 1)), .cst (.int 0), .bin .sub (.var 2) (.cst (.int 1))]))]
theorem b2_eq : S.own d2 = ⟨3, 3, b2⟩ := by kernel_rfl
theorem p2 : S.prog.defs 2 = some ⟨3, 3, b2⟩ := congrArg some b2_eq
/-- need_row -/
def b3 : List EV.S := [.asg (.nm 2) (.idx (.idx (.var 0) (.cst (.int 2))) (.var 1)), .ite (.or (.not (.bf (.isinst .tuple) [.var 2])) (.cmp .ne (.bf .len [.var 2]) (.idx (.var 0) (.cst (.int 0))))) [.bad] [], .forS (.tup [.nm 3, .nm 4]) (.enm (.var 2)) [.ite (.not (.call 2 [.var 4, .idx (.var 0) (.cst (.int 1)), .bf .len [.idx (.var 0) (.cst (.int 2))]])) [.bad] []]]
theorem b3_eq : S.own d3 = ⟨2, 5, b3⟩ := by kernel_rfl
theorem p3 : S.prog.defs 3 = some ⟨2, 5, b3⟩ := congrArg some b3_eq
/-- need_box -/
def b4 : List EV.S := [.ite (.or (.not (.bf (.isinst .tuple) [.var 0])) (.cmp .ne (.bf .len [.var 0]) (.cst (.int 3)))) [.bad] [], .ite (.not (.call 1 [.idx (.var 0) (.cst (.int 0)), .cst (.int 1), .glb 0])) [.bad] [], .ite (.not (.call 1 [.idx (.var 0) (.cst (.int 1)), .cst (.int 1), .glb 1])) [.bad] [], .ite (.or (.not (.bf (.isinst .tuple) [.idx (.var 0) (.cst (.int 2))])) (.not (.chn .le .le (.cst (.int 1)) (.bf .len [.idx (.var 0) (.cst (.int 2))]) (.glb 2)))) [.bad] [], .forS (.nm 1) (.rng (.cst (.int 0)) (.bf .len [.idx (.var 0) (.cst (.int 2))])) [.expr (.call 3 [.var 0, .var 1])], .ret (.var 0)]
theorem b4_eq : S.own d4 = ⟨1, 2, b4⟩ := by kernel_rfl
theorem p4 : S.prog.defs 4 = some ⟨1, 2, b4⟩ := congrArg some b4_eq
/-- need_state -/
def b5 : List EV.S := [.ite (.not (.call 1 [.var 1, .cst (.int 0), .bin .sub (.bf .len [.idx (.var 0) (.cst (.int 2))]) (.cst (.int 1))])) [.bad] []]
theorem b5_eq : S.own d5 = ⟨2, 2, b5⟩ := by kernel_rfl
theorem p5 : S.prog.defs 5 = some ⟨2, 2, b5⟩ := congrArg some b5_eq
/-- need_word_of -/
def b6 : List EV.S := [.ite (.or (.not (.bf (.isinst .tuple) [.var 1])) (.cmp .gt (.bf .len [.var 1]) (.glb 3))) [.bad] [], .forS (.tup [.nm 2, .nm 3]) (.enm (.var 1)) [.ite (.not (.call 1 [.var 3, .cst (.int 0), .bin .sub (.var 0) (.cst (.int 1))])) [.bad] []]]
theorem b6_eq : S.own d6 = ⟨2, 4, b6⟩ := by kernel_rfl
theorem p6 : S.prog.defs 6 = some ⟨2, 4, b6⟩ := congrArg some b6_eq
/-- way_of -/
def b7 : List EV.S := [.asg (.tup [.nm 3, .nm 4]) (.tup [.lst [], .var 1]), .forS (.nm 5) (.itv (.var 2)) [.asg (.tup [.nm 6, .nm 4]) (.idx (.idx (.var 0) (.var 4)) (.var 5)), .expr (.mt .append (.var 3) [.var 6])], .ret (.tup [.con .tuple (.its (.var 3)), .var 4])]
theorem b7_eq : S.own d7 = ⟨3, 7, b7⟩ := by kernel_rfl
theorem p7 : S.prog.defs 7 = some ⟨3, 7, b7⟩ := congrArg some b7_eq
/-- need_asked -/
def b8 : List EV.S := [.expr (.call 4 [.var 0]), .expr (.call 5 [.var 0, .var 1]), .expr (.call 6 [.idx (.var 0) (.cst (.int 0)), .var 2])]
theorem b8_eq : S.own d8 = ⟨3, 3, b8⟩ := by kernel_rfl
theorem p8 : S.prog.defs 8 = some ⟨3, 3, b8⟩ := congrArg some b8_eq
/-- answers_of -/
def b9 : List EV.S := [.expr (.call 4 [.var 0]), .expr (.call 6 [.idx (.var 0) (.cst (.int 0)), .var 1]), .ret (.idx (.call 7 [.idx (.var 0) (.cst (.int 2)), .cst (.int 0), .var 1]) (.cst (.int 0)))]
theorem b9_eq : S.own d9 = ⟨2, 2, b9⟩ := by kernel_rfl
theorem p9 : S.prog.defs 9 = some ⟨2, 2, b9⟩ := congrArg some b9_eq
/-- answers_from -/
def b10 : List EV.S := [.expr (.call 8 [.var 0, .var 1, .var 2]), .ret (.idx (.call 7 [.idx (.var 0) (.cst (.int 2)), .var 1, .var 2]) (.cst (.int 0)))]
theorem b10_eq : S.own d10 = ⟨3, 3, b10⟩ := by kernel_rfl
theorem p10 : S.prog.defs 10 = some ⟨3, 3, b10⟩ := congrArg some b10_eq
/-- end_behind -/
def b11 : List EV.S := [.expr (.call 4 [.var 0]), .expr (.call 6 [.idx (.var 0) (.cst (.int 0)), .var 1]), .ite (.not (.call 1 [.var 2, .cst (.int 0), .glb 4])) [.bad] [], .asg (.tup [.nm 3, .nm 4]) (.tup [.lst [.cst (.int 0)], .idx (.call 7 [.idx (.var 0) (.cst (.int 2)), .cst (.int 0), .var 1]) (.cst (.int 1))]), .whl (.cmp .notin (.var 4) (.var 3)) [.expr (.mt .append (.var 3) [.var 4]), .asg (.nm 4) (.idx (.call 7 [.idx (.var 0) (.cst (.int 2)), .var 4, .var 1]) (.cst (.int 1)))], .ite (.cmp .lt (.var 2) (.bf .len [.var 3])) [.ret (.idx (.var 3) (.var 2))] [], .asg (.nm 5) (.mt .index (.var 3) [.var 4]), .ret (.idx (.var 3) (.bin .add (.var 5) (.bin .mod (.bin .sub (.var 2) (.var 5)) (.bin .sub (.bf .len [.var 3]) (.var 5)))))]
theorem b11_eq : S.own d11 = ⟨3, 6, b11⟩ := by kernel_rfl
theorem p11 : S.prog.defs 11 = some ⟨3, 6, b11⟩ := congrArg some b11_eq
/-- outer_fault -/
def b12 : List EV.S := [.ite (.or (.not (.bf (.isinst .tuple) [.var 0])) (.cmp .ne (.bf .len [.var 0]) (.cst (.int 3)))) [.ret (.tup [])] [], .ite (.not (.call 1 [.idx (.var 0) (.cst (.int 0)), .cst (.int 1), .glb 0])) [.ret (.tup [.cst (.int 0)])] [], .ite (.not (.call 1 [.idx (.var 0) (.cst (.int 1)), .cst (.int 1), .glb 1])) [.ret (.tup [.cst (.int 1)])] [], .ite (.or (.not (.bf (.isinst .tuple) [.idx (.var 0) (.cst (.int 2))])) (.not (.chn .le .le (.cst (.int 1)) (.bf .len [.idx (.var 0) (.cst (.int 2))]) (.glb 5)))) [.ret (.tup [.cst (.int 2)])] [], .ret (.cst .non)]
theorem b12_eq : S.own d12 = ⟨1, 1, b12⟩ := by kernel_rfl
theorem p12 : S.prog.defs 12 = some ⟨1, 1, b12⟩ := congrArg some b12_eq
/-- steps_fault -/
def b13 : List EV.S := [.asg (.nm 2) (.idx (.idx (.idx (.var 0) (.cst (.int 2))) (.var 1)) (.cst (.int 1))), .ite (.or (.not (.bf (.isinst .tuple) [.var 2])) (.cmp .ne (.bf .len [.var 2]) (.idx (.var 0) (.cst (.int 0))))) [.ret (.tup [.cst (.int 2), .var 1, .cst (.int 1)])] [], .forS (.tup [.nm 3, .nm 4]) (.enm (.var 2)) [.ite (.not (.call 2 [.var 4, .idx (.var 0) (.cst (.int 1)), .bf .len [.idx (.var 0) (.cst (.int 2))]])) [.ret (.tup [.cst (.int 2), .var 1, .cst (.int 1), .var 3])] []], .ret (.cst .non)]
theorem b13_eq : S.own d13 = ⟨2, 5, b13⟩ := by kernel_rfl
theorem p13 : S.prog.defs 13 = some ⟨2, 5, b13⟩ := congrArg some b13_eq
/-- is_out -/
def b14 : List EV.S := [.ite (.cmp .is (.var 0) (.cst .non)) [.ret (.cst (.bl true))] [], .ite (.or (.not (.bf (.isinst .tuple) [.var 0])) (.cmp .ne (.bf .len [.var 0]) (.cst (.int 2)))) [.ret (.cst (.bl false))] [], .ret (.and (.call 1 [.idx (.var 0) (.cst (.int 0)), .cst (.int 1), .glb 6]) (.call 1 [.idx (.var 0) (.cst (.int 1)), .cst (.int 0), .bin .sub (.var 1) (.cst (.int 1))]))]
theorem b14_eq : S.own d14 = ⟨2, 2, b14⟩ := by kernel_rfl
theorem p14 : S.prog.defs 14 = some ⟨2, 2, b14⟩ := congrArg some b14_eq
/-- clock_fault -/
def b15 : List EV.S := [.asg (.nm 1) (.call 12 [.var 0]), .ite (.cmp .isnot (.var 1) (.cst .non)) [.ret (.var 1)] [], .forS (.tup [.nm 2, .nm 3]) (.enm (.idx (.var 0) (.cst (.int 2)))) [.ite (.or (.not (.bf (.isinst .tuple) [.var 3])) (.cmp .ne (.bf .len [.var 3]) (.cst (.int 2)))) [.ret (.tup [.cst (.int 2), .var 2])] [], .ite (.not (.call 14 [.idx (.var 3) (.cst (.int 0)), .bf .len [.idx (.var 0) (.cst (.int 2))]])) [.ret (.tup [.cst (.int 2), .var 2, .cst (.int 0)])] [], .asg (.nm 1) (.call 13 [.var 0, .var 2]), .ite (.cmp .isnot (.var 1) (.cst .non)) [.ret (.var 1)] []], .ret (.cst .non)]
theorem b15_eq : S.own d15 = ⟨1, 4, b15⟩ := by kernel_rfl
theorem p15 : S.prog.defs 15 = some ⟨1, 4, b15⟩ := congrArg some b15_eq
/-- need_clock -/
def b16 : List EV.S := [.asg (.nm 1) (.call 15 [.var 0]), .ite (.cmp .isnot (.var 1) (.cst .non)) [.bad] [], .ret (.var 0)]
theorem b16_eq : S.own d16 = ⟨1, 2, b16⟩ := by kernel_rfl
theorem p16 : S.prog.defs 16 = some ⟨1, 2, b16⟩ := congrArg some b16_eq
/-- need_clock_state -/
def b17 : List EV.S := [.ite (.not (.call 1 [.var 1, .cst (.int 0), .bin .sub (.bf .len [.idx (.var 0) (.cst (.int 2))]) (.cst (.int 1))])) [.bad] []]
theorem b17_eq : S.own d17 = ⟨2, 2, b17⟩ := by kernel_rfl
theorem p17 : S.prog.defs 17 = some ⟨2, 2, b17⟩ := congrArg some b17_eq
/-- need_clock_input -/
def b18 : List EV.S := [.ite (.not (.call 1 [.var 1, .cst (.int 0), .bin .sub (.idx (.var 0) (.cst (.int 0))) (.cst (.int 1))])) [.bad] []]
theorem b18_eq : S.own d18 = ⟨2, 2, b18⟩ := by kernel_rfl
theorem p18 : S.prog.defs 18 = some ⟨2, 2, b18⟩ := congrArg some b18_eq
/-- need_timed -/
def b19 : List EV.S := [.ite (.or (.not (.bf (.isinst .tuple) [.var 1])) (.cmp .gt (.bf .len [.var 1]) (.glb 8))) [.bad] [], .forS (.tup [.nm 2, .nm 3]) (.enm (.var 1)) [.ite (.or (.not (.bf (.isinst .tuple) [.var 3])) (.or (.cmp .ne (.bf .len [.var 3]) (.cst (.int 2))) (.not (.call 1 [.idx (.var 3) (.cst (.int 0)), .cst (.int 0), .glb 7])))) [.bad] [], .ite (.not (.call 1 [.idx (.var 3) (.cst (.int 1)), .cst (.int 0), .bin .sub (.idx (.var 0) (.cst (.int 0))) (.cst (.int 1))])) [.bad] []]]
theorem b19_eq : S.own d19 = ⟨2, 4, b19⟩ := by kernel_rfl
theorem p19 : S.prog.defs 19 = some ⟨2, 4, b19⟩ := congrArg some b19_eq
/-- stay_of -/
def b20 : List EV.S := [.asg (.nm 2) (.idx (.idx (.idx (.var 0) (.cst (.int 2))) (.var 1)) (.cst (.int 0))), .ret (.ite (.cmp .is (.var 2) (.cst .non)) (.cst .non) (.idx (.var 2) (.cst (.int 0))))]
theorem b20_eq : S.own d20 = ⟨2, 3, b20⟩ := by kernel_rfl
theorem p20 : S.prog.defs 20 = some ⟨2, 3, b20⟩ := congrArg some b20_eq
/-- course_of -/
def b21 : List EV.S := [.asg (.tup [.nm 2, .nm 3, .nm 4]) (.tup [.lst [], .var 1, .cst (.int 0)]), .whl (.cmp .notin (.var 3) (.comp (.idx (.var 5) (.cst (.int 0))) (.nm 5) (.itv (.var 2)) (.cst (.bl true)) [5])) [.expr (.mt .append (.var 2) [.tup [.var 3, .var 4]]), .ite (.cmp .is (.idx (.idx (.idx (.var 0) (.cst (.int 2))) (.var 3)) (.cst (.int 0))) (.cst .non)) [.ret (.tup [.var 2, .cst .non])] [], .asg (.tup [.nm 4, .nm 3]) (.tup [.bin .add (.var 4) (.idx (.idx (.idx (.idx (.var 0) (.cst (.int 2))) (.var 3)) (.cst (.int 0))) (.cst (.int 0))), .idx (.idx (.idx (.idx (.var 0) (.cst (.int 2))) (.var 3)) (.cst (.int 0))) (.cst (.int 1))])], .ret (.tup [.var 2, .mt .index (.comp (.idx (.var 5) (.cst (.int 0))) (.nm 5) (.itv (.var 2)) (.cst (.bl true)) [5]) [.var 3]])]
theorem b21_eq : S.own d21 = ⟨2, 6, b21⟩ := by kernel_rfl
theorem p21 : S.prog.defs 21 = some ⟨2, 6, b21⟩ := congrArg some b21_eq
/-- round_of -/
def b22 : List EV.S := [.asg (.nm 3) (.idx (.var 1) (.neg (.cst (.int 1)))), .ret (.bin .sub (.bin .add (.idx (.var 3) (.cst (.int 1))) (.call 20 [.var 0, .idx (.var 3) (.cst (.int 0))])) (.idx (.idx (.var 1) (.var 2)) (.cst (.int 1))))]
theorem b22_eq : S.own d22 = ⟨3, 4, b22⟩ := by kernel_rfl
theorem p22 : S.prog.defs 22 = some ⟨3, 4, b22⟩ := congrArg some b22_eq
/-- stand_after -/
def b23 : List EV.S := [.asg (.tup [.nm 3, .nm 4]) (.call 21 [.var 0, .var 1]), .asg (.nm 5) (.var 2), .ite (.and (.cmp .isnot (.var 4) (.cst .non)) (.cmp .ge (.var 2) (.idx (.idx (.var 3) (.var 4)) (.cst (.int 1))))) [.asg (.nm 5) (.bin .add (.idx (.idx (.var 3) (.var 4)) (.cst (.int 1))) (.bin .mod (.bin .sub (.var 2) (.idx (.idx (.var 3) (.var 4)) (.cst (.int 1)))) (.call 22 [.var 0, .var 3, .var 4])))] [], .asg (.nm 6) (.idx (.comp (.var 7) (.nm 7) (.itv (.var 3)) (.cmp .le (.idx (.var 7) (.cst (.int 1))) (.var 5)) [7]) (.neg (.cst (.int 1)))), .ret (.tup [.idx (.var 6) (.cst (.int 0)), .bin .sub (.var 5) (.idx (.var 6) (.cst (.int 1)))])]
theorem b23_eq : S.own d23 = ⟨3, 8, b23⟩ := by kernel_rfl
theorem p23 : S.prog.defs 23 = some ⟨3, 8, b23⟩ := congrArg some b23_eq
/-- clock_stands -/
def b24 : List EV.S := [.expr (.call 16 [.var 0]), .expr (.call 17 [.var 0, .var 1]), .ite (.not (.call 1 [.var 2, .cst (.int 0), .glb 7])) [.bad] [], .ret (.call 23 [.var 0, .var 1, .var 2])]
theorem b24_eq : S.own d24 = ⟨3, 3, b24⟩ := by kernel_rfl
theorem p24 : S.prog.defs 24 = some ⟨3, 3, b24⟩ := congrArg some b24_eq
/-- answers_timed -/
def b25 : List EV.S := [.asg (.tup [.nm 2, .nm 3]) (.tup [.lst [], .cst (.int 0)]), .forS (.tup [.nm 4, .nm 5]) (.itv (.var 1)) [.asg (.tup [.nm 6, .nm 3]) (.idx (.idx (.idx (.idx (.var 0) (.cst (.int 2))) (.idx (.call 23 [.var 0, .var 3, .var 4]) (.cst (.int 0)))) (.cst (.int 1))) (.var 5)), .expr (.mt .append (.var 2) [.var 6])], .ret (.con .tuple (.its (.var 2)))]
theorem b25_eq : S.own d25 = ⟨2, 7, b25⟩ := by kernel_rfl
theorem p25 : S.prog.defs 25 = some ⟨2, 7, b25⟩ := congrArg some b25_eq
/-- clock_answers -/
def b26 : List EV.S := [.expr (.call 16 [.var 0]), .expr (.call 19 [.var 0, .var 1]), .ret (.call 25 [.var 0, .var 1])]
theorem b26_eq : S.own d26 = ⟨2, 2, b26⟩ := by kernel_rfl
theorem p26 : S.prog.defs 26 = some ⟨2, 2, b26⟩ := congrArg some b26_eq
/-- tick_of -/
def b27 : List EV.S := [.asg (.nm 2) (.call 20 [.var 0, .idx (.var 1) (.cst (.int 0))]), .ite (.cmp .is (.var 2) (.cst .non)) [.ret (.var 1)] [], .ret (.ite (.cmp .lt (.bin .add (.idx (.var 1) (.cst (.int 1))) (.cst (.int 1))) (.var 2)) (.tup [.idx (.var 1) (.cst (.int 0)), .bin .add (.idx (.var 1) (.cst (.int 1))) (.cst (.int 1))]) (.tup [.idx (.idx (.idx (.idx (.var 0) (.cst (.int 2))) (.idx (.var 1) (.cst (.int 0)))) (.cst (.int 0))) (.cst (.int 1)), .cst (.int 0)]))]
theorem b27_eq : S.own d27 = ⟨2, 3, b27⟩ := by kernel_rfl
theorem p27 : S.prog.defs 27 = some ⟨2, 3, b27⟩ := congrArg some b27_eq
/-- ticked_rows -/
def b28 : List EV.S := [.asg (.tup [.nm 1, .nm 2, .nm 3, .nm 4]) (.tup [.dctT [.tup [.cst (.int 0), .cst (.int 0)], .cst (.int 0)], .lst [.tup [.cst (.int 0), .cst (.int 0)]], .cst (.int 0), .lst []]), .whl (.cmp .lt (.var 3) (.bf .len [.var 2])) [.asg (.tup [.nm 5, .nm 3]) (.tup [.idx (.var 2) (.var 3), .bin .add (.var 3) (.cst (.int 1))]), .asg (.nm 6) (.bin .add (.comp (.tup [.var 7, .tup [.var 8, .cst (.int 0)]]) (.tup [.nm 7, .nm 8]) (.itv (.idx (.idx (.idx (.var 0) (.cst (.int 2))) (.idx (.var 5) (.cst (.int 0)))) (.cst (.int 1)))) (.cst (.bl true)) [7, 8]) (.lst [.tup [.cst (.int 0), .call 27 [.var 0, .var 5]]])), .forS (.tup [.nm 7, .nm 8]) (.itv (.var 6)) [.ite (.cmp .notin (.var 8) (.var 1)) [.set (.var 1) (.var 8) (.bf .len [.var 1]), .expr (.mt .append (.var 2) [.var 8])] []], .ite (.cmp .gt (.bf .len [.var 1]) (.glb 2)) [.bad] [], .expr (.mt .append (.var 4) [.con .tuple (.itc (.tup [.var 7, .idx (.var 1) (.var 8)]) (.tup [.nm 7, .nm 8]) (.itv (.var 6)) (.cst (.bl true)) [7, 8])])], .ret (.con .tuple (.its (.var 4)))]
theorem b28_eq : S.own d28 = ⟨1, 9, b28⟩ := by kernel_rfl
theorem p28 : S.prog.defs 28 = some ⟨1, 9, b28⟩ := congrArg some b28_eq
/-- ticked_box -/
def b29 : List EV.S := [.expr (.call 16 [.var 0]), .ite (.cmp .eq (.idx (.var 0) (.cst (.int 0))) (.glb 0)) [.bad] [], .ret (.tup [.bin .add (.idx (.var 0) (.cst (.int 0))) (.cst (.int 1)), .idx (.var 0) (.cst (.int 1)), .call 28 [.var 0]])]
theorem b29_eq : S.own d29 = ⟨1, 1, b29⟩ := by kernel_rfl
theorem p29 : S.prog.defs 29 = some ⟨1, 1, b29⟩ := congrArg some b29_eq
/-- first_wait -/
def b30 : List EV.S := [.expr (.call 16 [.var 0]), .expr (.call 17 [.var 0, .var 1]), .expr (.call 18 [.var 0, .var 2]), .ite (.not (.call 1 [.var 3, .cst (.int 0), .bin .sub (.idx (.var 0) (.cst (.int 1))) (.cst (.int 1))])) [.bad] [], .asg (.nm 4) (.comp (.var 6) (.tup [.nm 5, .nm 6]) (.itv (.idx (.call 21 [.var 0, .var 1]) (.cst (.int 0)))) (.cmp .eq (.idx (.idx (.idx (.idx (.idx (.var 0) (.cst (.int 2))) (.var 5)) (.cst (.int 1))) (.var 2)) (.cst (.int 0))) (.var 3)) [5, 6]), .ret (.ite (.var 4) (.idx (.var 4) (.cst (.int 0))) (.cst .non))]
theorem b30_eq : S.own d30 = ⟨4, 7, b30⟩ := by kernel_rfl
theorem p30 : S.prog.defs 30 = some ⟨4, 7, b30⟩ := congrArg some b30_eq
/-- _law_mixed -/
def b31 : List EV.S := [.asg (.nm 2) (.bin .add (.bin .add (.bin .mod (.bf .int [.bin .mul (.bin .mul (.var 0) (.bin .add (.cst (.int 1)) (.bin .mul (.cst (.int 2)) (.var 1)))) (.cst (.int 48271))]) (.cst (.int 2147483647))) (.bin .mul (.bin .mul (.cst (.int 7919)) (.var 1)) (.var 1))) (.bin .mul (.cst (.int 104729)) (.var 1))), .ret (.bin .fdiv (.bin .mod (.bf .int [.bin .mul (.var 2) (.cst (.int 69621))]) (.cst (.int 2147483629))) (.cst (.int 7)))]
theorem b31_eq : S.own d31 = ⟨2, 3, b31⟩ := by kernel_rfl
theorem p31 : S.prog.defs 31 = some ⟨2, 3, b31⟩ := congrArg some b31_eq
/-- _law_begin -/
def b32 : List EV.S := [.asg (.nm 1) (.comp (.bin .add (.cst (.int 31)) (.var 2)) (.nm 2) (.rng (.cst (.int 0)) (.cst (.int 64))) (.cst (.bl true)) [2]), .forS (.tup [.nm 2, .nm 3]) (.enm (.var 0)) [.set (.var 1) (.bin .mod (.bf .int [.var 2]) (.cst (.int 64))) (.bin .mod (.bf .int [.bin .add (.bin .mul (.idx (.var 1) (.bin .mod (.bf .int [.var 2]) (.cst (.int 64)))) (.cst (.int 48271))) (.var 3)]) (.cst (.int 2147483647)))], .forS (.nm 2) (.rng (.cst (.int 1)) (.cst (.int 64))) [.set (.var 1) (.var 2) (.bin .mod (.bf .int [.bin .add (.idx (.var 1) (.var 2)) (.bin .mul (.idx (.var 1) (.bin .sub (.var 2) (.cst (.int 1)))) (.cst (.int 16807)))]) (.cst (.int 2147483647)))], .ret (.dct [.cst (.str "small"), .var 1, .cst (.str "great"), .comp (.ite (.cmp .ge (.var 3) (.bin .pow (.cst (.int 10)) (.cst (.int 18)))) (.var 3) (.cst (.int 0))) (.nm 3) (.itv (.var 0)) (.cst (.bl true)) [3], .cst (.str "spot"), .cst (.int 0)])]
theorem b32_eq : S.own d32 = ⟨1, 4, b32⟩ := by kernel_rfl
theorem p32 : S.prog.defs 32 = some ⟨1, 4, b32⟩ := congrArg some b32_eq
/-- _law_draw -/
def b33 : List EV.S := [.asg (.nm 2) (.idx (.var 0) (.cst (.str "spot"))), .set (.var 0) (.cst (.str "spot")) (.bin .add (.var 2) (.cst (.int 1))), .ite (.cmp .ne (.idx (.var 0) (.cst (.str "great"))) (.lst [])) [.asg (.nm 3) (.bin .mod (.bf .int [.var 2]) (.bf .len [.idx (.var 0) (.cst (.str "great"))])), .asg (.nm 4) (.idx (.idx (.var 0) (.cst (.str "great"))) (.var 3)), .ite (.cmp .gt (.var 4) (.cst (.int 0))) [.set (.idx (.var 0) (.cst (.str "great"))) (.var 3) (.bin .fdiv (.var 4) (.var 1)), .ret (.bin .mod (.bf .int [.var 4]) (.var 1))] []] [], .ret (.bin .mod (.bf .int [.call 31 [.call 31 [.bin .add (.idx (.idx (.var 0) (.cst (.str "small"))) (.bin .mod (.bf .int [.var 2]) (.cst (.int 64)))) (.bin .mul (.cst (.int 31)) (.bin .fdiv (.var 2) (.cst (.int 64)))), .var 2], .bin .add (.var 2) (.cst (.int 7))]]) (.var 1))]
theorem b33_eq : S.own d33 = ⟨2, 5, b33⟩ := by kernel_rfl
theorem p33 : S.prog.defs 33 = some ⟨2, 5, b33⟩ := congrArg some b33_eq
/-- _law_of -/
def b34 : List EV.S := [.ret (.idx (.var 1) (.call 33 [.var 0, .bf .len [.var 1]]))]
theorem b34_eq : S.own d34 = ⟨2, 2, b34⟩ := by kernel_rfl
theorem p34 : S.prog.defs 34 = some ⟨2, 2, b34⟩ := congrArg some b34_eq
/-- _law_like -/
def b35 : List EV.S := [.ite (.or (.bf (.isinst .tuple) [.var 1]) (.bf (.isinst .list) [.var 1])) [.asg (.nm 2) (.ite (.bf (.isinst .tuple) [.var 1]) (.bf (.isinst .tuple) [.var 0]) (.bf (.isinst .list) [.var 0])), .ite (.or (.not (.var 2)) (.cmp .ne (.bf .len [.var 0]) (.bf .len [.var 1]))) [.ret (.cst (.bl false))] [], .ret (.cmp .eq (.comp (.cst (.int 1)) (.tup [.nm 3, .nm 4]) (.zip (.var 0) (.var 1)) (.not (.call 35 [.var 3, .var 4])) [3, 4]) (.lst []))] [], .ite (.or (.cmp .is (.var 1) (.cst .non)) (.or (.cmp .is (.var 1) (.cst (.bl true))) (.cmp .is (.var 1) (.cst (.bl false))))) [.ret (.or (.and (.cmp .is (.var 1) (.cst .non)) (.cmp .is (.var 0) (.cst .non))) (.or (.and (.cmp .is (.var 1) (.cst (.bl true))) (.cmp .is (.var 0) (.cst (.bl true)))) (.and (.cmp .is (.var 1) (.cst (.bl false))) (.cmp .is (.var 0) (.cst (.bl false))))))] [], .ite (.bf (.isinst .str) [.var 1]) [.ret (.and (.bf (.isinst .str) [.var 0]) (.cmp .eq (.var 0) (.var 1)))] [], .ret (.and (.bf (.isinst .int) [.var 0]) (.and (.not (.bf (.isinst .bool) [.var 0])) (.cmp .eq (.var 0) (.var 1))))]
theorem b35_eq : S.own d35 = ⟨2, 5, b35⟩ := by kernel_rfl
theorem p35 : S.prog.defs 35 = some ⟨2, 5, b35⟩ := congrArg some b35_eq
/-- _law_clock -/
def b36 : List EV.S := [.asg (.nm 5) (.lst []), .forS (.nm 6) (.rng (.cst (.int 0)) (.var 1)) [.asg (.nm 7) (.ite (.cmp .gt (.call 33 [.var 0, .cst (.int 4)]) (.cst (.int 0))) (.tup [.bin .add (.cst (.int 1)) (.call 33 [.var 0, .var 4]), .call 33 [.var 0, .var 1]]) (.cst .non)), .expr (.mt .append (.var 5) [.tup [.var 7, .con .tuple (.itc (.tup [.call 33 [.var 0, .var 3], .call 33 [.var 0, .var 1]]) (.nm 8) (.rng (.cst (.int 0)) (.var 2)) (.cst (.bl true)) [8])]])], .ret (.tup [.var 2, .var 3, .con .tuple (.its (.var 5))])]
theorem b36_eq : S.own d36 = ⟨5, 9, b36⟩ := by kernel_rfl
theorem p36 : S.prog.defs 36 = some ⟨5, 9, b36⟩ := congrArg some b36_eq
/-- _law_tick -/
def b37 : List EV.S := [.asg (.nm 2) (.idx (.idx (.idx (.var 0) (.cst (.int 2))) (.idx (.var 1) (.cst (.int 0)))) (.cst (.int 0))), .ite (.cmp .is (.var 2) (.cst .non)) [.ret (.tup [.idx (.var 1) (.cst (.int 0)), .bin .add (.idx (.var 1) (.cst (.int 1))) (.cst (.int 1))])] [], .ret (.ite (.cmp .lt (.bin .add (.idx (.var 1) (.cst (.int 1))) (.cst (.int 1))) (.idx (.var 2) (.cst (.int 0)))) (.tup [.idx (.var 1) (.cst (.int 0)), .bin .add (.idx (.var 1) (.cst (.int 1))) (.cst (.int 1))]) (.tup [.idx (.var 2) (.cst (.int 1)), .cst (.int 0)]))]
theorem b37_eq : S.own d37 = ⟨2, 3, b37⟩ := by kernel_rfl
theorem p37 : S.prog.defs 37 = some ⟨2, 3, b37⟩ := congrArg some b37_eq
/-- _law_ticks -/
def b38 : List EV.S := [.asg (.nm 3) (.lst [.tup [.var 1, .cst (.int 0)]]), .forS (.nm 4) (.rng (.cst (.int 0)) (.var 2)) [.expr (.mt .append (.var 3) [.call 37 [.var 0, .idx (.var 3) (.neg (.cst (.int 1)))]])], .ret (.var 3)]
theorem b38_eq : S.own d38 = ⟨3, 5, b38⟩ := by kernel_rfl
theorem p38 : S.prog.defs 38 = some ⟨3, 5, b38⟩ := congrArg some b38_eq
/-- _law_stands -/
def b39 : List EV.S := [.asg (.tup [.nm 3, .nm 4, .nm 5]) (.tup [.var 1, .var 2, .dnew false]), .whl (.and (.cmp .isnot (.idx (.idx (.idx (.var 0) (.cst (.int 2))) (.var 3)) (.cst (.int 0))) (.cst .non)) (.cmp .ge (.var 4) (.idx (.idx (.idx (.idx (.var 0) (.cst (.int 2))) (.var 3)) (.cst (.int 0))) (.cst (.int 0))))) [.ite (.cmp .isin (.var 3) (.var 5)) [.asg (.tup [.nm 4, .nm 5]) (.tup [.bin .mod (.var 4) (.bin .sub (.idx (.var 5) (.var 3)) (.var 4)), .dnew false]), .ite (.cmp .lt (.var 4) (.idx (.idx (.idx (.idx (.var 0) (.cst (.int 2))) (.var 3)) (.cst (.int 0))) (.cst (.int 0)))) [.ret (.tup [.var 3, .var 4])] []] [], .set (.var 5) (.var 3) (.var 4), .asg (.tup [.nm 4, .nm 3]) (.tup [.bin .sub (.var 4) (.idx (.idx (.idx (.idx (.var 0) (.cst (.int 2))) (.var 3)) (.cst (.int 0))) (.cst (.int 0))), .idx (.idx (.idx (.idx (.var 0) (.cst (.int 2))) (.var 3)) (.cst (.int 0))) (.cst (.int 1))])], .ret (.tup [.var 3, .var 4])]
theorem b39_eq : S.own d39 = ⟨3, 6, b39⟩ := by kernel_rfl
theorem p39 : S.prog.defs 39 = some ⟨3, 6, b39⟩ := congrArg some b39_eq
/-- _law_timed_answers -/
def b40 : List EV.S := [.asg (.tup [.nm 2, .nm 3]) (.tup [.lst [], .cst (.int 0)]), .forS (.tup [.nm 4, .nm 5]) (.itv (.var 1)) [.asg (.tup [.nm 6, .nm 3]) (.idx (.idx (.idx (.idx (.var 0) (.cst (.int 2))) (.idx (.call 39 [.var 0, .var 3, .var 4]) (.cst (.int 0)))) (.cst (.int 1))) (.var 5)), .expr (.mt .append (.var 2) [.var 6])], .ret (.con .tuple (.its (.var 2)))]
theorem b40_eq : S.own d40 = ⟨2, 7, b40⟩ := by kernel_rfl
theorem p40 : S.prog.defs 40 = some ⟨2, 7, b40⟩ := congrArg some b40_eq
/-- _law_first_right -/
def b41 : List EV.S := [.asg (.tup [.nm 2, .nm 3, .nm 4]) (.tup [.dnew false, .var 1, .cst (.int 0)]), .whl (.cmp .notin (.var 3) (.var 2)) [.set (.var 2) (.var 3) (.var 4), .ite (.cmp .is (.idx (.idx (.idx (.var 0) (.cst (.int 2))) (.var 3)) (.cst (.int 0))) (.cst .non)) [.brk] [], .asg (.tup [.nm 4, .nm 3]) (.tup [.bin .add (.var 4) (.idx (.idx (.idx (.idx (.var 0) (.cst (.int 2))) (.var 3)) (.cst (.int 0))) (.cst (.int 0))), .idx (.idx (.idx (.idx (.var 0) (.cst (.int 2))) (.var 3)) (.cst (.int 0))) (.cst (.int 1))])], .forS (.nm 5) (.rng (.cst (.int 0)) (.idx (.var 0) (.cst (.int 0)))) [.forS (.nm 6) (.rng (.cst (.int 0)) (.idx (.var 0) (.cst (.int 1)))) [.asg (.nm 7) (.compD (.idx (.var 2) (.var 9)) (.nm 9) 2 (.cmp .eq (.idx (.idx (.idx (.idx (.idx (.var 0) (.cst (.int 2))) (.var 9)) (.cst (.int 1))) (.var 5)) (.cst (.int 0))) (.var 6)) [9]), .asg (.nm 8) (.callK 30 [] [.var 6, .var 5, .var 1, .var 0] [3, 2, 1, 0]), .ite (.not (.call 35 [.var 8, .ite (.cmp .ne (.var 7) (.lst [])) (.con .min (.its (.var 7))) (.cst .non)])) [.ret (.cst (.bl false))] []]], .ret (.cst (.bl true))]
theorem b41_eq : S.own d41 = ⟨2, 10, b41⟩ := by kernel_rfl
theorem p41 : S.prog.defs 41 = some ⟨2, 10, b41⟩ := congrArg some b41_eq
/-- _law_small_right -/
def b42 : List EV.S := [.asg (.nm 1) (.call 36 [.var 0, .bin .add (.cst (.int 1)) (.call 33 [.var 0, .cst (.int 5)]), .bin .add (.cst (.int 1)) (.call 33 [.var 0, .cst (.int 3)]), .bin .add (.cst (.int 1)) (.call 33 [.var 0, .cst (.int 3)]), .call 34 [.var 0, .lst [.cst (.int 1), .cst (.int 3), .cst (.int 6)]]]), .asg (.nm 2) (.call 33 [.var 0, .bf .len [.idx (.var 1) (.cst (.int 2))]]), .asg (.nm 3) (.call 38 [.var 1, .var 2, .cst (.int 40)]), .ite (.or (.not (.call 35 [.comp (.call 24 [.var 1, .var 2, .var 7]) (.nm 7) (.rng (.cst (.int 0)) (.cst (.int 41))) (.cst (.bl true)) [7], .var 3])) (.not (.call 35 [.callK 16 [] [.var 1] [0], .var 1]))) [.ret (.cst (.bl false))] [], .asg (.nm 4) (.con .tuple (.itc (.tup [.call 33 [.var 0, .cst (.int 12)], .call 33 [.var 0, .idx (.var 1) (.cst (.int 0))]]) (.nm 10) (.rng (.cst (.int 0)) (.call 33 [.var 0, .cst (.int 7)])) (.cst (.bl true)) [10])), .asg (.tup [.nm 5, .nm 6]) (.tup [.lst [], .cst (.int 0)]), .forS (.tup [.nm 7, .nm 8]) (.itv (.var 4)) [.asg (.tup [.nm 9, .nm 6]) (.idx (.idx (.idx (.idx (.var 1) (.cst (.int 2))) (.idx (.idx (.call 38 [.var 1, .var 6, .var 7]) (.neg (.cst (.int 1)))) (.cst (.int 0)))) (.cst (.int 1))) (.var 8)), .expr (.mt .append (.var 5) [.var 9])], .ite (.or (.not (.call 35 [.callK 26 [] [.var 4, .var 1] [1, 0], .con .tuple (.its (.var 5))])) (.not (.call 41 [.var 1, .var 2]))) [.ret (.cst (.bl false))] [], .ret (.call 43 [.var 0, .var 1, .var 4, .con .tuple (.its (.var 5))])]
theorem b42_eq : S.own d42 = ⟨1, 11, b42⟩ := by kernel_rfl
theorem p42 : S.prog.defs 42 = some ⟨1, 11, b42⟩ := congrArg some b42_eq
/-- _law_ticked_right -/
def b43 : List EV.S := [.asg (.tup [.nm 4, .nm 5]) (.tup [.lst [.tup [.cst (.int 0), .cst (.int 0)]], .lst []]), .whl (.cmp .lt (.bf .len [.var 5]) (.bf .len [.var 4])) [.asg (.tup [.nm 6, .nm 7]) (.idx (.var 4) (.bf .len [.var 5])), .asg (.nm 8) (.comp (.tup [.var 9, .tup [.var 18, .cst (.int 0)]]) (.tup [.nm 9, .nm 18]) (.itv (.idx (.idx (.idx (.var 1) (.cst (.int 2))) (.var 6)) (.cst (.int 1)))) (.cst (.bl true)) [9, 18]), .expr (.mt .append (.var 8) [.tup [.cst (.int 0), .ite (.cmp .isnot (.idx (.idx (.idx (.var 1) (.cst (.int 2))) (.var 6)) (.cst (.int 0))) (.cst .non)) (.call 37 [.var 1, .tup [.var 6, .var 7]]) (.tup [.var 6, .cst (.int 0)])]]), .forS (.tup [.nm 9, .nm 10]) (.itv (.var 8)) [.ite (.cmp .notin (.var 10) (.var 4)) [.expr (.mt .append (.var 4) [.var 10])] []], .expr (.mt .append (.var 5) [.con .tuple (.itc (.tup [.var 9, .mt .index (.var 4) [.var 10]]) (.tup [.nm 9, .nm 10]) (.itv (.var 8)) (.cst (.bl true)) [9, 10])])], .asg (.tup [.nm 11, .nm 12, .nm 13]) (.tup [.call 29 [.var 1], .idx (.var 1) (.cst (.int 0)), .tup []]), .ite (.not (.call 35 [.var 11, .tup [.bin .add (.idx (.var 1) (.cst (.int 0))) (.cst (.int 1)), .idx (.var 1) (.cst (.int 1)), .con .tuple (.its (.var 5))]])) [.ret (.cst (.bl false))] [], .forS (.tup [.nm 14, .nm 15]) (.itv (.var 2)) [.asg (.nm 13) (.bin .add (.bin .add (.var 13) (.bin .mul (.tup [.var 12]) (.var 14))) (.tup [.var 15]))], .asg (.nm 16) (.call 9 [.var 11, .var 13]), .ite (.not (.call 35 [.con .tuple (.itc (.var 9) (.tup [.nm 9, .nm 15]) (.zip (.var 16) (.var 13)) (.cmp .ne (.var 15) (.var 12)) [9, 15]), .var 3])) [.ret (.cst (.bl false))] [], .ite (.cmp .ne (.comp (.cst (.int 1)) (.tup [.nm 9, .nm 15]) (.zip (.var 16) (.var 13)) (.and (.cmp .eq (.var 15) (.var 12)) (.cmp .ne (.var 9) (.cst (.int 0)))) [9, 15]) (.lst [])) [.ret (.cst (.bl false))] [], .asg (.tup [.nm 14, .nm 15]) (.tup [.call 34 [.var 0, .lst [.call 33 [.var 0, .cst (.int 30)], .call 33 [.var 0, .bin .pow (.cst (.int 10)) (.cst (.int 18))], .bin .pow (.cst (.int 10)) (.cst (.int 18))]], .call 33 [.var 0, .idx (.var 1) (.cst (.int 0))]]), .asg (.nm 17) (.call 10 [.var 11, .call 11 [.var 11, .tup [.var 12], .var 14], .tup [.var 15]]), .ret (.call 35 [.lst [.var 17, .call 26 [.var 1, .tup [.tup [.var 14, .var 15]]]], .bin .mul (.lst [.call 40 [.var 1, .tup [.tup [.var 14, .var 15]]]]) (.cst (.int 2))])]
theorem b43_eq : S.own d43 = ⟨4, 19, b43⟩ := by kernel_rfl
theorem p43 : S.prog.defs 43 = some ⟨4, 19, b43⟩ := congrArg some b43_eq
/-- _law_great_right -/
def b44 : List EV.S := [.asg (.nm 1) (.call 34 [.var 0, .lst [.cst (.int 2), .cst (.int 3), .cst (.int 5), .cst (.int 20)]]), .asg (.nm 2) (.call 36 [.var 0, .var 1, .bin .add (.cst (.int 1)) (.call 33 [.var 0, .cst (.int 4)]), .bin .add (.cst (.int 2)) (.call 33 [.var 0, .cst (.int 8)]), .call 34 [.var 0, .lst [.bin .pow (.cst (.int 10)) (.cst (.int 6)), .bin .pow (.cst (.int 10)) (.cst (.int 18))]]]), .ite (.cmp .eq (.call 33 [.var 0, .cst (.int 2)]) (.cst (.int 0))) [.asg (.nm 3) (.comp (.tup [.tup [.bin .add (.cst (.int 1)) (.call 33 [.var 0, .bin .pow (.cst (.int 10)) (.cst (.int 18))]), .bin .mod (.bf .int [.bin .add (.var 5) (.cst (.int 1))]) (.var 1)], .idx (.idx (.idx (.var 2) (.cst (.int 2))) (.var 5)) (.cst (.int 1))]) (.nm 5) (.rng (.cst (.int 0)) (.var 1)) (.cst (.bl true)) [5]), .asg (.nm 2) (.tup [.idx (.var 2) (.cst (.int 0)), .idx (.var 2) (.cst (.int 1)), .con .tuple (.its (.var 3))])] [], .forS (.nm 4) (.rng (.cst (.int 0)) (.cst (.int 4))) [.asg (.tup [.nm 5, .nm 6]) (.tup [.call 33 [.var 0, .var 1], .call 34 [.var 0, .lst [.call 33 [.var 0, .bin .pow (.cst (.int 10)) (.cst (.int 18))], .bin .pow (.cst (.int 10)) (.cst (.int 40)), .call 33 [.var 0, .bin .pow (.cst (.int 10)) (.cst (.int 39))], .bin .pow (.cst (.int 10)) (.cst (.int 18))]]]), .asg (.tup [.nm 7, .nm 8]) (.call 39 [.var 2, .var 5, .var 6]), .asg (.nm 9) (.lst [.var 6, .bf .max [.cst (.int 0), .bin .sub (.var 6) (.var 8)], .bf .max [.cst (.int 0), .bin .sub (.bin .sub (.var 6) (.var 8)) (.cst (.int 1))]]), .asg (.nm 10) (.comp (.callK 24 [] [.var 12, .var 5, .var 2] [2, 1, 0]) (.nm 12) (.itv (.var 9)) (.cst (.bl true)) [12]), .ite (.not (.call 35 [.var 10, .comp (.call 39 [.var 2, .var 5, .var 12]) (.nm 12) (.itv (.var 9)) (.cst (.bl true)) [12]])) [.ret (.cst (.bl false))] [], .ite (.and (.cmp .ge (.var 6) (.var 8)) (.cmp .ne (.idx (.var 10) (.cst (.int 1))) (.tup [.var 7, .cst (.int 0)]))) [.ret (.cst (.bl false))] []], .asg (.nm 11) (.con .tuple (.itc (.tup [.call 33 [.var 0, .bin .pow (.cst (.int 10)) (.cst (.int 39))], .call 33 [.var 0, .idx (.var 2) (.cst (.int 0))]]) (.nm 13) (.rng (.cst (.int 0)) (.call 34 [.var 0, .lst [.cst (.int 3), .cst (.int 200)]])) (.cst (.bl true)) [13])), .ret (.and (.call 35 [.call 26 [.var 2, .var 11], .call 40 [.var 2, .var 11]]) (.call 41 [.var 2, .cst (.int 0)]))]
theorem b44_eq : S.own d44 = ⟨1, 14, b44⟩ := by kernel_rfl
theorem p44 : S.prog.defs 44 = some ⟨1, 14, b44⟩ := congrArg some b44_eq
/-- law -/
def b45 : List EV.S := [.asg (.nm 1) (.call 32 [.var 0]), .forS (.nm 2) (.rng (.cst (.int 0)) (.cst (.int 2))) [.ite (.not (.call 42 [.var 1])) [.ret (.cst (.bl false))] []], .ret (.call 44 [.var 1])]
theorem b45_eq : S.own d45 = ⟨1, 3, b45⟩ := by kernel_rfl
theorem p45 : S.prog.defs 45 = some ⟨1, 3, b45⟩ := congrArg some b45_eq
end Lw
end
section
set_option Elab.async false
set_option linter.all false
set_option maxRecDepth 100000
/-! EvCalc: reckoning with the interpreter. -/
namespace EV
open PySem

theorem callF_def {P : Prog} {k f : Nat} {vs : List PV} {h : PH} {d : FD} (hd : P.defs f = some d) (hl : vs.length = d.np) : callF P (k + 1) f vs h = outOf h.length (exB (P.cc k) d.body (vs.map some ++ List.replicate (d.ns - d.np) none) h) := by
  conv => lhs; unfold callF
  simp only [hd, hl, if_true]
  rfl
def Cal (P : Prog) (K f : Nat) (vs : List PV) (h : PH) (r : Rs PV) : Prop := ∀ k, K ≤ k → callF P k f vs h = r
theorem Cal.at {P : Prog} {K f : Nat} {vs : List PV} {h : PH} {r : Rs PV} (c : Cal P K f vs h r) {k : Nat} (hk : K ≤ k) : (P.cc k).call f vs h = r := c k hk
theorem Cal.mk {P : Prog} {K f : Nat} {vs : List PV} {h : PH} {r : Rs PV} {d : FD} (hd : P.defs f = some d) (hl : vs.length = d.np)
    (q : ∀ k, K ≤ k → outOf h.length (exB (P.cc k) d.body (vs.map some ++ List.replicate (d.ns - d.np) none) h) = r) : Cal P (K + 1) f vs h r := fun k hk => by
  obtain ⟨j, rfl⟩ : ∃ j, k = j + 1 := ⟨k - 1, by omega⟩
  rw [callF_def hd hl]
  exact q j (by omega)
theorem Cal.mono {P : Prog} {K K' f : Nat} {vs : List PV} {h : PH} {r : Rs PV} (c : Cal P K f vs h r) (hk : K ≤ K') : Cal P K' f vs h r := fun k h => c k (Nat.le_trans hk h)
/-! ### the end of a call -/
theorem gc_len {v : PV} {h : PH} : gc h.length v h = h := by
  unfold gc
  split
  · rw [List.take_length]
  · rfl
mutual
theorem PV.old_mono {n m : Nat} (hn : n ≤ m) : ∀ v : PV, v.old n = true → v.old m = true
  | .obj a, h => by unfold PV.old at h ⊢; exact decide_eq_true (Nat.lt_of_lt_of_le (of_decide_eq_true h) hn)
  | .tup xs, h => by unfold PV.old at h ⊢; exact oldL_mono hn xs h
  | .non, _ => rfl
  | .bl _, _ => rfl
  | .int _, _ => rfl
  | .str _, _ => rfl
theorem oldL_mono {n m : Nat} (hn : n ≤ m) : ∀ xs : List PV, oldL n xs = true → oldL m xs = true
  | [], _ => rfl
  | x :: xs, h => by
    unfold oldL at h ⊢
    rw [Bool.and_eq_true] at h ⊢
    exact ⟨PV.old_mono hn x h.1, oldL_mono hn xs h.2⟩
end
theorem PO.old_mono {n m : Nat} (hn : n ≤ m) {o : PO} (h : o.old n = true) : o.old m = true := by
  cases o with
  | lst fz xs => exact oldL_mono hn xs h
  | dK kvs => exact oldL_mono hn _ h
  | dT kvs => exact oldL_mono hn _ h
  | lkd kvs => exact oldL_mono hn _ h
/-- whatever stands refers to what stands -/
def Cl (h : PH) : Prop := h.all (·.old h.length) = true
theorem gc_app {v : PV} {h g : PH} (c : Cl h) (hv : v.old h.length = true) : gc h.length v (h ++ g) = h := by
  unfold gc
  rw [List.take_left, if_pos]
  rw [hv]
  exact c
theorem Cl.app {h g : PH} (c : Cl h) (hg : g.all (·.old h.length) = true) : Cl (h ++ g) := by
  unfold Cl at *
  rw [List.all_append, Bool.and_eq_true]
  constructor
  · rw [List.all_eq_true] at c ⊢
    exact fun o ho => PO.old_mono (by simp) (c o ho)
  · rw [List.all_eq_true] at hg ⊢
    exact fun o ho => PO.old_mono (by simp) (hg o ho)
theorem oldL_ints {n : Nat} : ∀ ns : List Int, oldL n (ns.map PV.int) = true
  | [] => rfl
  | i :: ns => by show (true && oldL n _) = true; rw [oldL_ints ns]; rfl
theorem oldL_all {n : Nat} : ∀ {xs : List PV}, (∀ x ∈ xs, x.old n = true) → oldL n xs = true
  | [], _ => rfl
  | x :: xs, h => by
    unfold oldL
    rw [h x List.mem_cons_self, oldL_all fun y hy => h y (List.mem_cons_of_mem _ hy)]; rfl
/-! ### loops -/
/-- a loop that goes on to its end, or leaves with r -/
theorem loopIt_ind {σ ρ : Type} {it : It} {step : PV → σ → PH → Lp σ ρ} {done : σ → PH → ρ} {bad : ρ} {N : Nat} {I : Nat → σ → PH → Prop} {Post : ρ → Prop}
    (hend : ∀ s h, I N s h → itAt it N h = some none ∧ Post (done s h))
    (hstep : ∀ i s h, i < N → I i s h → ∃ x, itAt it i h = some (some x) ∧ ((∃ s' h', step x s h = .go s' h' ∧ I (i + 1) s' h') ∨ ∃ r, step x s h = .out r ∧ Post r)) :
    ∀ (m n i : Nat) (s : σ) (h : PH), N - i = m → i ≤ N → N - i < n → I i s h → Post (loopIt it step done bad n i s h) := by
  intro m
  induction m with
  | zero =>
    intro n i s h hm hi hn hI
    obtain ⟨n, rfl⟩ : ∃ k, n = k + 1 := ⟨n - 1, by omega⟩
    have : i = N := by omega
    subst this
    obtain ⟨h1, h2⟩ := hend s h hI
    unfold loopIt
    rw [h1]
    exact h2
  | succ m ih =>
    intro n i s h hm hi hn hI
    obtain ⟨n, rfl⟩ : ∃ k, n = k + 1 := ⟨n - 1, by omega⟩
    obtain ⟨x, hx, hs⟩ := hstep i s h (by omega) hI
    unfold loopIt
    rw [hx]
    simp only
    rcases hs with ⟨s', h', e, I'⟩ | ⟨r, e, p⟩
    · rw [e]
      exact ih n (i + 1) s' h' (by omega) (by omega) (by omega) I'
    · rw [e]; exact p
theorem loopIt_run {σ ρ : Type} {it : It} {step : PV → σ → PH → Lp σ ρ} {done : σ → PH → ρ} {bad : ρ} {N n : Nat} {I : Nat → σ → PH → Prop} {Post : ρ → Prop} {s : σ} {h : PH} (hn : N < n) (h0 : I 0 s h)
    (hend : ∀ s h, I N s h → itAt it N h = some none ∧ Post (done s h))
    (hstep : ∀ i s h, i < N → I i s h → ∃ x, itAt it i h = some (some x) ∧ ((∃ s' h', step x s h = .go s' h' ∧ I (i + 1) s' h') ∨ ∃ r, step x s h = .out r ∧ Post r)) : Post (loopIt it step done bad n 0 s h) :=
  loopIt_ind hend hstep (N - 0) n 0 s h rfl (Nat.zero_le _) (by omega) h0
/-- while -/
theorem loopW_run {σ ρ : Type} {step : σ → PH → Lp σ ρ} {bad : ρ} {I : Nat → σ → PH → Prop} {Post : ρ → Prop}
    (hstep : ∀ m s h, I m s h → (∃ s' h' m', step s h = .go s' h' ∧ m' < m ∧ I m' s' h') ∨ ∃ r, step s h = .out r ∧ Post r) : ∀ (n m : Nat) (s : σ) (h : PH), m < n → I m s h → Post (loopW step bad n s h) := by
  intro n
  induction n with
  | zero => intro m s h hm; omega
  | succ n ih =>
    intro m s h hm hI
    unfold loopW
    rcases hstep m s h hI with ⟨s', h', m', e, hlt, I'⟩ | ⟨r, e, p⟩
    · rw [e]; exact ih m' s' h' (by omega) I'
    · rw [e]; exact p
theorem atI_nat {α : Type} {xs : List α} {n : Nat} {x : α} (h : xs[n]? = some x) : L2.atI xs (n : Int) = some x := by
  have hl := (List.getElem?_eq_some_iff.mp h).1
  unfold L2.atI L2.ixN
  rw [if_pos (by omega), if_pos (by omega)]
  simpa using h
/-! ### values -/
@[simp] theorem evL_nil {c : Cc} {r : Env} {h : PH} : evL c [] r h = .ok [] h := by unfold evL; rfl
@[simp] theorem evL_cons {c : Cc} {r : Env} {h : PH} {e : E} {es : List E} : evL c (e :: es) r h = (evE c e r h).bnd fun v h => (evL c es r h).bnd fun vs h => .ok (v :: vs) h := by (conv => lhs; unfold evL) <;> rfl
@[simp] theorem bnd_ok {α β : Type} {a : α} {h : PH} {f : α → PH → Rs β} : (Rs.ok a h).bnd f = f a h := rfl
@[simp] theorem st_ok {α : Type} {a : α} {h : PH} {r : Env} {f : α → PH → Rt} : (Rs.ok a h).st r f = f a h := rfl
@[simp] theorem tst_ok {b : Bool} {h : PH} : tst (.ok (.bl b) h) = .ok b h := rfl
@[simp] theorem tstB_ok {b : Bool} {h : PH} : tstB (.ok (.bl b) h) = .ok b h := rfl
@[simp] theorem ofOpt_some {v : PV} {h : PH} : ofOpt h (some v) = .ok v h := rfl
@[simp] theorem ofOptB_some {v : Bool} {h : PH} : ofOptB h (some v) = .ok (.bl v) h := rfl
@[simp] theorem ofOptI_some {v : It} {h : PH} : ofOptI h (some v) = .ok v h := rfl
section
variable {c : Cc} {r : Env} {h : PH}
@[simp] theorem ev_cst {v : PV} : evE c (.cst v) r h = .ok v h := by unfold evE; rfl
theorem ev_var {i : Nat} : evE c (.var i) r h = match r[i]? with | some (some v) => .ok v h | _ => .no := by unfold evE; rfl
@[simp] theorem ev_varE {i : Nat} {v : PV} (e : r[i]? = some (some v)) : evE c (.var i) r h = .ok v h := by rw [ev_var, e]
@[simp] theorem ev_tup {es : List E} : evE c (.tup es) r h = (evL c es r h).bnd fun vs h => if vs.length ≤ sizeLine then .ok (.tup vs) h else .no := by (conv => lhs; unfold evE) <;> rfl
@[simp] theorem ev_lst {es : List E} : evE c (.lst es) r h = (evL c es r h).bnd fun vs h => if vs.length ≤ sizeLine then .ok (.obj h.length) (h ++ [.lst false vs]) else .no := by (conv => lhs; unfold evE) <;> rfl
@[simp] theorem ev_bin {o : Op} {a b : E} : evE c (.bin o a b) r h = (evE c a r h).bnd fun x h => (evE c b r h).bnd fun y h => binop o x y h := by (conv => lhs; unfold evE) <;> rfl
@[simp] theorem ev_not {a : E} : evE c (.not a) r h = (tst (evE c a r h)).bnd fun x h => .ok (.bl (!x)) h := by (conv => lhs; unfold evE) <;> rfl
@[simp] theorem ev_and {a b : E} : evE c (.and a b) r h = (tstB (evE c a r h)).bnd fun x h => if x = true then (tstB (evE c b r h)).bnd fun y h => .ok (.bl y) h else .ok (.bl false) h := by (conv => lhs; unfold evE) <;> rfl
@[simp] theorem ev_or {a b : E} : evE c (.or a b) r h = (tstB (evE c a r h)).bnd fun x h => if x = true then .ok (.bl true) h else (tstB (evE c b r h)).bnd fun y h => .ok (.bl y) h := by (conv => lhs; unfold evE) <;> rfl
@[simp] theorem ev_cmp {o : Cp} {a b : E} : evE c (.cmp o a b) r h = (evE c a r h).bnd fun x h => (evE c b r h).bnd fun y h => ofOptB h (cmpop o x y h) := by (conv => lhs; unfold evE) <;> rfl
@[simp] theorem ev_chn {o p : Cp} {a b e : E} : evE c (.chn o p a b e) r h = (evE c a r h).bnd fun x h => (evE c b r h).bnd fun y h => match cmpop o x y h with
    | some true => (evE c e r h).bnd fun z h => ofOptB h (cmpop p y z h)
    | some false => .ok (.bl false) h
    | none => .no := by (conv => lhs; unfold evE) <;> rfl
@[simp] theorem ev_ite {t a b : E} : evE c (.ite t a b) r h = (tst (evE c t r h)).bnd fun x h => if x = true then evE c a r h else evE c b r h := by (conv => lhs; unfold evE) <;> rfl
@[simp] theorem ev_idx {a b : E} : evE c (.idx a b) r h = (evE c a r h).bnd fun x h => (evE c b r h).bnd fun y h => ofOpt h (idxop x y h) := by (conv => lhs; unfold evE) <;> rfl
@[simp] theorem ev_call {f : Nat} {es : List E} : evE c (.call f es) r h = (evL c es r h).bnd fun vs h => c.call f vs h := by (conv => lhs; unfold evE) <;> rfl
@[simp] theorem ev_callK {f : Nat} {es ks : List E} {ord : List Nat} : evE c (.callK f es ks ord) r h = (evL c es r h).bnd fun vs h => (evL c ks r h).bnd fun us h => match pick (vs ++ us) ord with
    | some ws => c.call f ws h
    | none => .no := by (conv => lhs; unfold evE) <;> rfl
@[simp] theorem ev_bf {b : Bf} {es : List E} : evE c (.bf b es) r h = (evL c es r h).bnd fun vs h => ofOpt h (bfop b vs h) := by (conv => lhs; unfold evE) <;> rfl
@[simp] theorem ev_mt {m : Mt} {o : E} {es : List E} : evE c (.mt m o es) r h = (evE c o r h).bnd fun x h => if mtTy m x h = true then (evL c es r h).bnd fun vs h => mtop m x vs h else .no := by (conv => lhs; unfold evE) <;> rfl
@[simp] theorem ev_slc {a lo hi : E} : evE c (.slc a lo hi) r h = (evE c a r h).bnd fun x h =>
    (if lo.isNop then .ok none h else optInt (evE c lo r h)).bnd fun l h =>
    (if hi.isNop then .ok none h else optInt (evE c hi r h)).bnd fun u h => slcop x l u h := by (conv => lhs; unfold evE) <;> rfl
@[simp] theorem ev_dct {es : List E} : evE c (.dct es) r h = (evL c es r h).bnd fun vs h => match pairsK vs [] with
    | some kvs => if vs.length ≤ 30 then .ok (.obj h.length) (h ++ [.dK kvs]) else .no
    | none => .no := by (conv => lhs; unfold evE) <;> rfl
@[simp] theorem ev_con {f : Fo} {it : E} : evE c (.con f it) r h = (evI c it r h).bnd fun w h => conW f w h := by (conv => lhs; unfold evE) <;> rfl
@[simp] theorem ev_glb {g : Nat} : evE c (.glb g) r h = ofOpt h (c.glb g) := by unfold evE; rfl
@[simp] theorem evi_itv {e : E} : evI c (.itv e) r h = (evE c e r h).bnd fun x h => ofOptI h (toIt x h) := by (conv => lhs; unfold evI) <;> rfl
@[simp] theorem evi_its {e : E} : evI c (.its e) r h = (evE c e r h).bnd fun x h => ofOptI h (toItC x h) := by (conv => lhs; unfold evI) <;> rfl
@[simp] theorem evi_rng {a b : E} : evI c (.rng a b) r h = (evE c a r h).bnd fun x h => (evE c b r h).bnd fun y h => rngOf x y h := by (conv => lhs; unfold evI) <;> rfl
@[simp] theorem evi_enm {e : E} : evI c (.enm e) r h = (evE c e r h).bnd fun x h => ofOptI h ((toIt x h).map .enm) := by (conv => lhs; unfold evI) <;> rfl
@[simp] theorem evi_zip {a b : E} : evI c (.zip a b) r h = (evE c a r h).bnd fun x h => (evE c b r h).bnd fun y h => ofOptI h (zipIt x y h) := by (conv => lhs; unfold evI) <;> rfl
@[simp] theorem ex_nil : exB c [] r h = .nx r h := by unfold exB; rfl
theorem ex_cons {s : S} {ss : List S} : exB c (s :: ss) r h = match exS c s r h with | .nx r' h' => exB c ss r' h' | z => z := by (conv => lhs; unfold exB) <;> rfl
theorem ex_cons_nx {s : S} {ss : List S} {r' : Env} {h' : PH} (e : exS c s r h = .nx r' h') : exB c (s :: ss) r h = exB c ss r' h' := by rw [ex_cons, e]
theorem ex_cons_rt {s : S} {ss : List S} {v : PV} {h' : PH} (e : exS c s r h = .rt v h') : exB c (s :: ss) r h = .rt v h' := by rw [ex_cons, e]
@[simp] theorem ex_ret {e : E} : exS c (.ret e) r h = (evE c e r h).st r fun v h => .rt v h := by (conv => lhs; unfold exS) <;> rfl
@[simp] theorem ex_expr {e : E} : exS c (.expr e) r h = (evE c e r h).st r fun _ h => .nx r h := by (conv => lhs; unfold exS) <;> rfl
@[simp] theorem ex_asg {t : Tg} {e : E} : exS c (.asg t e) r h = (evE c e r h).st r fun v h => match bindT t v r with
    | some r' => .nx r' h
    | none => .no := by (conv => lhs; unfold exS) <;> rfl
@[simp] theorem ex_ite {t : E} {a b : List S} : exS c (.ite t a b) r h = (tst (evE c t r h)).st r fun x h => if x = true then exB c a r h else exB c b r h := by (conv => lhs; unfold exS) <;> rfl
@[simp] theorem ex_set {o i e : E} : exS c (.set o i e) r h = (evE c e r h).st r fun v h => (evE c o r h).st r fun x h => (evE c i r h).st r fun y h => match setop x y v h with
    | some h => .nx r h
    | none => .no := by (conv => lhs; unfold exS) <;> rfl
theorem ex_for {t : Tg} {it : E} {b : List S} : exS c (.forS t it b) r h = (evI c it r h).st r fun w h => loopIt w (fun x r h => match bindT t x r with
      | none => .out .no
      | some r1 => match exB c b r1 h with
        | .nx r' h' => .go r' h'
        | .ct r' h' => .go r' h'
        | .bk r' h' => .out (.nx r' h')
        | z => .out z) (fun r h => .nx r h) .no c.fuel 0 r h := by (conv => lhs; unfold exS) <;> rfl
@[simp] theorem ex_tryN {b : List S} : exS c (.tryN b) r h = match exB c b r h with
    | .ex .. => .no
    | z => z := by (conv => lhs; unfold exS) <;> rfl
@[simp] theorem out_rt {n : Nat} {v : PV} : outOf n (.rt v h) = .ok v (gc n v h) := rfl
@[simp] theorem out_nx {n : Nat} : outOf n (.nx r h) = .ok .non (gc n .non h) := rfl
end
/-! ### loops, as statements and as comprehensions -/
theorem for_run {c : Cc} {r : Env} {h h1 : PH} {t : Tg} {it : E} {b : List S} {w : It} {N : Nat} {I : Nat → Env → PH → Prop} {Post : Rt → Prop} (hw : evI c it r h = .ok w h1) (hN : N < c.fuel) (h0 : I 0 r h1)
    (hend : ∀ r h, I N r h → itAt w N h = some none ∧ Post (.nx r h))
    (hstep : ∀ i r h, i < N → I i r h → ∃ x r1, itAt w i h = some (some x) ∧ bindT t x r = some r1 ∧ ((∃ r' h', exB c b r1 h = .nx r' h' ∧ I (i + 1) r' h') ∨ ∃ v h', exB c b r1 h = .rt v h' ∧ Post (.rt v h'))) : Post (exS c (.forS t it b) r h) := by
  rw [ex_for, hw, st_ok]
  refine loopIt_run (N := N) (I := I) (Post := Post) hN h0 hend fun i r h hi hI => ?_
  obtain ⟨x, r1, hx, hb, q⟩ := hstep i r h hi hI
  refine ⟨x, hx, ?_⟩
  simp only [hb]
  rcases q with ⟨r', h', e, I'⟩ | ⟨v, h', e, p⟩
  · exact .inl ⟨r', h', by rw [e], I'⟩
  · exact .inr ⟨.rt v h', by rw [e], p⟩
theorem whl_run {c : Cc} {r : Env} {h : PH} {t : E} {b : List S} {I : Nat → Env → PH → Prop} {Post : Rt → Prop} {m : Nat} (hm : m < c.fuel) (h0 : I m r h)
    (hstep : ∀ m r h, I m r h → (∃ h1 r' h' m', evE c t r h = .ok (.bl true) h1 ∧ exB c b r h1 = .nx r' h' ∧ m' < m ∧ I m' r' h') ∨ ∃ h1, evE c t r h = .ok (.bl false) h1 ∧ Post (.nx r h1)) : Post (exS c (.whl t b) r h) := by
  unfold exS
  refine loopW_run (I := I) (Post := Post) (fun m r h hI => ?_) c.fuel m r h hm h0
  rcases hstep m r h hI with ⟨h1, r', h', m', e1, e2, hlt, I'⟩ | ⟨h1, e, p⟩
  · exact .inl ⟨r', h', m', by simp only [e1, tst_ok, e2], hlt, I'⟩
  · exact .inr ⟨.nx r h1, by simp only [e, tst_ok], p⟩
theorem comp_run {c : Cc} {r : Env} {h : PH} {t : Tg} {own : List Nat} {cond elt : E} {w : It} {N : Nat} {I : Nat → List PV → PH → Prop} (hN : N < c.fuel) (h0 : I 0 [] h)
    (hend : ∀ acc h, I N acc h → itAt w N h = some none)
    (hstep : ∀ i acc h, i < N → I i acc h → ∃ x r1 b h1, itAt w i h = some (some x) ∧ bindT t x (wipeP r own) = some r1 ∧ evE c cond r1 h = .ok (.bl b) h1 ∧ (if b = true then ∃ y h2, evE c elt r1 h1 = .ok y h2 ∧ acc.length < sizeLine ∧ I (i + 1) (acc ++ [y]) h2 else I (i + 1) acc h1)) :
    ∃ acc h', loopIt w (compStep t own r (fun r h => evE c cond r h) (fun r h => evE c elt r h)) (fun acc h => Rs.ok acc h) .no c.fuel 0 [] h = .ok acc h' ∧ I N acc h' := by
  refine loopIt_run (N := N) (I := I) (Post := fun x => ∃ acc h', x = Rs.ok acc h' ∧ I N acc h') hN h0 (fun acc h hI => ⟨hend acc h hI, acc, h, rfl, hI⟩) fun i acc h hi hI => ?_
  obtain ⟨x, r1, b, h1, hx, hb, hc, q⟩ := hstep i acc h hi hI
  refine ⟨x, hx, .inl ?_⟩
  unfold compStep
  simp only [hb, hc, tst_ok]
  cases b with
  | true =>
    rw [if_pos rfl] at q
    obtain ⟨y, h2, e, hz, I'⟩ := q
    exact ⟨acc ++ [y], h2, by simp only [e, hz, if_true], I'⟩
  | false =>
    rw [if_neg Bool.false_ne_true] at q
    exact ⟨acc, h1, rfl, q⟩
/-- nothing changes but the list grows -/
theorem comp_list {c : Cc} {r : Env} {h : PH} {t : Tg} {own : List Nat} {elt : E} {w : It} (ys : List PV) (hN : ys.length < c.fuel) (hz : ys.length ≤ sizeLine) (hend : itAt w ys.length h = some none)
    (hstep : ∀ (i : Nat) (y : PV), ys[i]? = some y → ∃ x r1, itAt w i h = some (some x) ∧ bindT t x (wipeP r own) = some r1 ∧ evE c elt r1 h = .ok y h) :
    loopIt w (compStep t own r (fun r h => evE c (.cst (.bl true)) r h) (fun r h => evE c elt r h)) (fun acc h => Rs.ok acc h) .no c.fuel 0 [] h = .ok ys h := by
  obtain ⟨acc, h', e, ha, hh⟩ := comp_run (c := c) (r := r) (t := t) (own := own) (cond := .cst (.bl true)) (elt := elt) (w := w) (h := h) (N := ys.length) (I := fun i acc h' => acc = ys.take i ∧ h' = h) hN ⟨by simp, rfl⟩ (fun acc h' ⟨_, e⟩ => by rw [e]; exact hend) (fun i acc h' hi ⟨ha, hh⟩ => by
    subst hh
    obtain ⟨x, r1, h1, h2, h3⟩ := hstep i ys[i] (List.getElem?_eq_getElem hi)
    refine ⟨x, r1, true, h', h1, h2, ev_cst, ?_⟩
    rw [if_pos rfl]
    refine ⟨_, h', h3, by rw [ha, List.length_take]; omega, ?_, rfl⟩
    rw [ha, List.take_succ, List.getElem?_eq_getElem hi]; rfl)
  rw [e, ha, hh, List.take_length]
theorem evi_itc {c : Cc} {r : Env} {h : PH} {elt it cond : E} {t : Tg} {own : List Nat} : evI c (.itc elt t it cond own) r h = (evI c it r h).bnd fun w h =>
    valsIt (loopIt w (compStep t own r (fun r h => evE c cond r h) (fun r h => evE c elt r h)) (fun acc h => .ok acc h) .no c.fuel 0 [] h) := by (conv => lhs; unfold evI) <;> rfl
theorem ev_comp {c : Cc} {r : Env} {h : PH} {elt it cond : E} {t : Tg} {own : List Nat} : evE c (.comp elt t it cond own) r h = (evI c it r h).bnd fun w h =>
    newList (loopIt w (compStep t own r (fun r h => evE c cond r h) (fun r h => evE c elt r h)) (fun acc h => .ok acc h) .no c.fuel 0 [] h) := by (conv => lhs; unfold evE) <;> rfl
@[simp] theorem itAt_vals {xs : List PV} {i : Nat} {h : PH} : itAt (.vals xs) i h = some xs[i]? := by unfold itAt; rfl
theorem itAt_rng {lo : Int} {n i : Nat} {h : PH} : itAt (.rng lo n) i h = some (if i < n then some (.int (lo + i)) else none) := by unfold itAt; rfl
theorem itAt_live {n i : Nat} {h : PH} {fz : Bool} {xs : List PV} (e : h[n]? = some (.lst fz xs)) : itAt (.live n) i h = some xs[i]? := by unfold itAt; rw [e]
theorem itAt_enm {xs : List PV} {i : Nat} {h : PH} : itAt (.enm (.vals xs)) i h = some (xs[i]?.map fun x => .tup [.int i, x]) := by
  unfold itAt
  rw [itAt_vals]
  cases xs[i]? <;> rfl
theorem itAt_zip {xs ys : List PV} {i : Nat} {h : PH} {x y : PV} (hx : xs[i]? = some x) (hy : ys[i]? = some y) : itAt (.zip (.vals xs) (.vals ys)) i h = some (some (.tup [x, y])) := by
  unfold itAt
  rw [itAt_vals, itAt_vals, hx, hy]
theorem itAt_zipE {xs ys : List PV} {i : Nat} {h : PH} (hx : xs[i]? = none) : itAt (.zip (.vals xs) (.vals ys)) i h = some none := by
  unfold itAt
  rw [itAt_vals, itAt_vals, hx]
end EV
end
section
set_option Elab.async false
set_option linter.all false
set_option maxRecDepth 100000
/-! EvWp: what holds behind the interpreter's word, step by step. -/
namespace EV
open PySem
def Wr {α : Type} (x : Rs α) (K : α → PH → Prop) : Prop := match x with
  | .ok a h => K a h
  | _ => False
theorem Wr_ok {α : Type} {a : α} {h : PH} {K : α → PH → Prop} : Wr (.ok a h) K = K a h := rfl
theorem Wr_bnd {α β : Type} {x : Rs α} {f : α → PH → Rs β} {K : β → PH → Prop} : Wr (x.bnd f) K = Wr x (fun a h => Wr (f a h) K) := by cases x <;> rfl
theorem Wr_if {α : Type} {p : Prop} [Decidable p] {x : Rs α} {K : α → PH → Prop} (hp : p) : Wr (if p then x else .no) K = Wr x K := by rw [if_pos hp]
abbrev KV := PV → PH → Prop
def We (c : Cc) (e : E) (r : Env) (h : PH) (K : KV) : Prop := Wr (evE c e r h) K
def Wl (c : Cc) (es : List E) (r : Env) (h : PH) (K : List PV → PH → Prop) : Prop := Wr (evL c es r h) K
def Wi (c : Cc) (e : E) (r : Env) (h : PH) (K : It → PH → Prop) : Prop := Wr (evI c e r h) K
def Wt (c : Cc) (e : E) (r : Env) (h : PH) (K : Bool → PH → Prop) : Prop := Wr (tst (evE c e r h)) K
def Ws (c : Cc) (e : E) (r : Env) (h : PH) (K : Bool → PH → Prop) : Prop := Wr (tstB (evE c e r h)) K
def Wc (c : Cc) (f : Nat) (vs : List PV) (h : PH) (K : KV) : Prop := Wr (c.call f vs h) K
/-- what a statement comes to, if it comes to an end -/
def Wz (Q : Rt → Prop) (z : Rt) : Prop := match z with
  | .no => False
  | .ex .. => False
  | z => Q z
def Wb (c : Cc) (ss : List S) (r : Env) (h : PH) (Q : Rt → Prop) : Prop := Wz Q (exB c ss r h)
/-- by a value that may be missing -/
def Wo (o : Option PV) (h : PH) (K : KV) : Prop := match o with | some v => K v h | none => False
def Wv (o : Option (Option PV)) (h : PH) (K : KV) : Prop := match o with | some (some v) => K v h | _ => False
def Wob (o : Option Bool) (h : PH) (K : KV) : Prop := match o with | some v => K (.bl v) h | none => False
def Wtr (o : Option Bool) (h : PH) (K : Bool → PH → Prop) : Prop := match o with | some v => K v h | none => False
def Woi (o : Option It) (h : PH) (K : It → PH → Prop) : Prop := match o with | some v => K v h | none => False
theorem Wo_some {v : PV} {h : PH} {K : KV} : Wo (some v) h K = K v h := rfl
theorem Wv_some {v : PV} {h : PH} {K : KV} : Wv (some (some v)) h K = K v h := rfl
theorem Wob_some {v : Bool} {h : PH} {K : KV} : Wob (some v) h K = K (.bl v) h := rfl
theorem Wtr_some {v : Bool} {h : PH} {K : Bool → PH → Prop} : Wtr (some v) h K = K v h := rfl
theorem Woi_some {v : It} {h : PH} {K : It → PH → Prop} : Woi (some v) h K = K v h := rfl
theorem Wr_opt {o : Option PV} {h : PH} {K : KV} : Wr (ofOpt h o) K = Wo o h K := by cases o <;> rfl
theorem Wr_optB {o : Option Bool} {h : PH} {K : KV} : Wr (ofOptB h o) K = Wob o h K := by cases o <;> rfl
theorem Wr_optI {o : Option It} {h : PH} {K : It → PH → Prop} : Wr (ofOptI h o) K = Woi o h K := by cases o <;> rfl

/-! ### what follows -/
section
variable (c : Cc) (r : Env) (K : KV)
def Ktup (vs : List PV) (h : PH) : Prop := vs.length ≤ sizeLine ∧ K (.tup vs) h
def Klst (vs : List PV) (h : PH) : Prop := vs.length ≤ sizeLine ∧ K (.obj h.length) (h ++ [.lst false vs])
def Kdct (vs : List PV) (h : PH) : Prop := match pairsK vs [] with | some kvs => vs.length ≤ 30 ∧ K (.obj h.length) (h ++ [.dK kvs]) | none => False
def KdctT (vs : List PV) (h : PH) : Prop := match pairsT vs [] with | some kvs => vs.length ≤ 30 ∧ K (.obj h.length) (h ++ [.dT kvs]) | none => False
def Kbin2 (o : Op) (x : PV) (y : PV) (h : PH) : Prop := Wr (binop o x y h) K
def Kbin (o : Op) (b : E) (x : PV) (h : PH) : Prop := We c b r h (Kbin2 K o x)
def Kneg (x : PV) (h : PH) : Prop := match x with | .int i => K (.int (-i)) h | _ => False
def Kbl (b : Bool) (h : PH) : Prop := K (.bl b) h
def Knot (b : Bool) (h : PH) : Prop := K (.bl (!b)) h
def Kand (e : E) (b : Bool) (h : PH) : Prop := if b = true then Ws c e r h (Kbl K) else K (.bl false) h
def Kor (e : E) (b : Bool) (h : PH) : Prop := if b = true then K (.bl true) h else Ws c e r h (Kbl K)
def Kcmp2 (o : Cp) (x : PV) (y : PV) (h : PH) : Prop := Wob (cmpop o x y h) h K
def Kcmp (o : Cp) (b : E) (x : PV) (h : PH) : Prop := We c b r h (Kcmp2 K o x)
def Wch (p : Cp) (e : E) (y : PV) (h : PH) (o : Option Bool) : Prop := match o with | some true => We c e r h (Kcmp2 K p y) | some false => K (.bl false) h | none => False
def Kchn2 (o p : Cp) (e : E) (x : PV) (y : PV) (h : PH) : Prop := Wch c r K p e y h (cmpop o x y h)
def Kchn (o p : Cp) (b e : E) (x : PV) (h : PH) : Prop := We c b r h (Kchn2 c r K o p e x)
def Kife (a b : E) (x : Bool) (h : PH) : Prop := if x = true then We c a r h K else We c b r h K
def Kidx2 (x : PV) (y : PV) (h : PH) : Prop := Wo (idxop x y h) h K
def Kidx (b : E) (x : PV) (h : PH) : Prop := We c b r h (Kidx2 K x)
def Kslc (lo hi : E) (x : PV) (h : PH) : Prop := Wr (if lo.isNop then Rs.ok none h else optInt (evE c lo r h)) fun l h => Wr (if hi.isNop then Rs.ok none h else optInt (evE c hi r h)) fun u h => Wr (slcop x l u h) K
def Kcall (f : Nat) (vs : List PV) (h : PH) : Prop := Wc c f vs h K
def Wpk (f : Nat) (h : PH) (o : Option (List PV)) : Prop := match o with | some ws => Wc c f ws h K | none => False
def KcallK2 (f : Nat) (ord : List Nat) (vs us : List PV) (h : PH) : Prop := Wpk c K f h (pick (vs ++ us) ord)
def KcallK (f : Nat) (ks : List E) (ord : List Nat) (vs : List PV) (h : PH) : Prop := Wl c ks r h (KcallK2 c K f ord vs)
def Kbf (b : Bf) (vs : List PV) (h : PH) : Prop := Wo (bfop b vs h) h K
def Kmt2 (m : Mt) (x : PV) (vs : List PV) (h : PH) : Prop := Wr (mtop m x vs h) K
def Kmt (m : Mt) (es : List E) (x : PV) (h : PH) : Prop := mtTy m x h = true ∧ Wl c es r h (Kmt2 K m x)
def Kcon (f : Fo) (w : It) (h : PH) : Prop := Wr (conW f w h) K
def Kc2 (K : List PV → PH → Prop) (v : PV) (vs : List PV) (h : PH) : Prop := K (v :: vs) h
def Kc1 (es : List E) (K : List PV → PH → Prop) (v : PV) (h : PH) : Prop := Wl c es r h (Kc2 K v)
def Ktst (K : Bool → PH → Prop) (v : PV) (h : PH) : Prop := Wtr (truth v h) h K
def KtstB (K : Bool → PH → Prop) (v : PV) (h : PH) : Prop := match v with | .bl b => K b h | _ => False
/-- a comprehension's loop -/
def Klp (elt : E) (t : Tg) (cond : E) (own : List Nat) (K : List PV → PH → Prop) (w : It) (h : PH) : Prop :=
  Wr (loopIt w (compStep t own r (fun r h => evE c cond r h) (fun r h => evE c elt r h)) (fun acc h => .ok acc h) .no c.fuel 0 [] h) K
def Knl (acc : List PV) (h : PH) : Prop := K (.obj h.length) (h ++ [.lst false acc])
def Kvl (K : It → PH → Prop) (acc : List PV) (h : PH) : Prop := K (.vals acc) h
def Kitv (K : It → PH → Prop) (x : PV) (h : PH) : Prop := Woi (toIt x h) h K
def Kits (K : It → PH → Prop) (x : PV) (h : PH) : Prop := Woi (toItC x h) h K
def Kenm (K : It → PH → Prop) (x : PV) (h : PH) : Prop := Woi ((toIt x h).map .enm) h K
def Kzip2 (K : It → PH → Prop) (x y : PV) (h : PH) : Prop := Woi (zipIt x y h) h K
def Kzip (b : E) (K : It → PH → Prop) (x : PV) (h : PH) : Prop := We c b r h (Kzip2 K x)
def Krng2 (K : It → PH → Prop) (x y : PV) (h : PH) : Prop := Wr (rngOf x y h) K
def Krng (b : E) (K : It → PH → Prop) (x : PV) (h : PH) : Prop := We c b r h (Krng2 K x)
end
section
variable {c : Cc} {r : Env} {h : PH} {K : KV}
theorem Wt_e {e : E} {K : Bool → PH → Prop} : Wt c e r h K = We c e r h (Ktst K) := by
  unfold Wt We
  cases evE c e r h with
  | ok v h1 => unfold tst; show Wr (match truth v h1 with | some b => Rs.ok b h1 | none => Rs.no) K = Wtr (truth v h1) h1 K; cases truth v h1 <;> rfl
  | ex k v h => rfl
  | no => rfl
theorem Ws_e {e : E} {K : Bool → PH → Prop} : Ws c e r h K = We c e r h (KtstB K) := by
  unfold Ws We
  cases evE c e r h with
  | ok v h1 => cases v <;> rfl
  | ex k v h => rfl
  | no => rfl
theorem We_cst {v : PV} : We c (.cst v) r h K = K v h := by unfold We; rw [ev_cst]; rfl
theorem We_var {i : Nat} : We c (.var i) r h K = Wv r[i]? h K := by
  unfold We
  rw [ev_var]
  cases q : r[i]? with
  | none => rfl
  | some o => cases o <;> rfl
theorem We_glb {g : Nat} : We c (.glb g) r h K = Wo (c.glb g) h K := by unfold We; rw [ev_glb, Wr_opt]
theorem We_tup {es : List E} : We c (.tup es) r h K = Wl c es r h (Ktup K) := by
  unfold We
  rw [ev_tup, Wr_bnd]
  refine congrArg (Wr _) (funext fun vs => funext fun h => ?_)
  by_cases q : vs.length ≤ sizeLine
  · rw [if_pos q]; exact (eq_true_intro_and q).symm
  · rw [if_neg q]; exact (eq_false_intro_and q).symm
where
  eq_true_intro_and {p q : Prop} (hp : p) : (p ∧ q) = q := propext ⟨fun z => z.2, fun z => ⟨hp, z⟩⟩
  eq_false_intro_and {p q : Prop} (hp : ¬ p) : (p ∧ q) = False := propext ⟨fun z => hp z.1, fun z => z.elim⟩
theorem We_lst {es : List E} : We c (.lst es) r h K = Wl c es r h (Klst K) := by
  unfold We
  rw [ev_lst, Wr_bnd]
  refine congrArg (Wr _) (funext fun vs => funext fun h => ?_)
  by_cases q : vs.length ≤ sizeLine
  · rw [if_pos q]; exact (We_tup.eq_true_intro_and q).symm
  · rw [if_neg q]; exact (We_tup.eq_false_intro_and q).symm
theorem We_dnew {t : Bool} : We c (.dnew t) r h K = K (.obj h.length) (h ++ [if t then .dT [] else .dK []]) := by unfold We evE; rfl
theorem We_dct {es : List E} : We c (.dct es) r h K = Wl c es r h (Kdct K) := by
  unfold We
  rw [ev_dct, Wr_bnd]
  refine congrArg (Wr _) (funext fun vs => funext fun h => ?_)
  unfold Kdct
  cases pairsK vs [] with
  | none => rfl
  | some kvs =>
    show Wr (if vs.length ≤ 30 then _ else _) K = (vs.length ≤ 30 ∧ _)
    by_cases q : vs.length ≤ 30
    · rw [if_pos q]; exact (We_tup.eq_true_intro_and q).symm
    · rw [if_neg q]; exact (We_tup.eq_false_intro_and q).symm
theorem We_dctT {es : List E} : We c (.dctT es) r h K = Wl c es r h (KdctT K) := by
  unfold We evE
  rw [Wr_bnd]
  refine congrArg (Wr _) (funext fun vs => funext fun h => ?_)
  unfold KdctT
  cases pairsT vs [] with
  | none => rfl
  | some kvs =>
    show Wr (if vs.length ≤ 30 then _ else _) K = (vs.length ≤ 30 ∧ _)
    by_cases q : vs.length ≤ 30
    · rw [if_pos q]; exact (We_tup.eq_true_intro_and q).symm
    · rw [if_neg q]; exact (We_tup.eq_false_intro_and q).symm
theorem We_bin {o : Op} {a b : E} : We c (.bin o a b) r h K = We c a r h (Kbin c r K o b) := by unfold We; rw [ev_bin, Wr_bnd]; simp only [Wr_bnd]; rfl
theorem ev_neg {a : E} : evE c (.neg a) r h = (evE c a r h).bnd fun x h => match x with
    | .int i => .ok (.int (-i)) h
    | _ => .no := by (conv => lhs; unfold evE) <;> rfl
theorem We_neg {a : E} : We c (.neg a) r h K = We c a r h (Kneg K) := by
  unfold We
  rw [ev_neg, Wr_bnd]
  refine congrArg (Wr _) (funext fun v => funext fun h => ?_)
  cases v <;> rfl
theorem We_not {a : E} : We c (.not a) r h K = Wt c a r h (Knot K) := by unfold We Wt; rw [ev_not, Wr_bnd]; rfl
theorem We_and {a b : E} : We c (.and a b) r h K = Ws c a r h (Kand c r K b) := by
  unfold We Ws; rw [ev_and, Wr_bnd]
  refine congrArg (Wr _) (funext fun v => funext fun h => ?_)
  unfold Kand
  cases v with
  | true => rw [if_pos rfl, if_pos rfl, Wr_bnd]; rfl
  | false => rw [if_neg Bool.false_ne_true, if_neg Bool.false_ne_true]; rfl
theorem We_or {a b : E} : We c (.or a b) r h K = Ws c a r h (Kor c r K b) := by
  unfold We Ws; rw [ev_or, Wr_bnd]
  refine congrArg (Wr _) (funext fun v => funext fun h => ?_)
  unfold Kor
  cases v with
  | true => rw [if_pos rfl, if_pos rfl]; rfl
  | false => rw [if_neg Bool.false_ne_true, if_neg Bool.false_ne_true, Wr_bnd]; rfl
theorem We_cmp {o : Cp} {a b : E} : We c (.cmp o a b) r h K = We c a r h (Kcmp c r K o b) := by unfold We; rw [ev_cmp, Wr_bnd]; simp only [Wr_bnd, Wr_optB]; rfl
theorem We_chn {o p : Cp} {a b e : E} : We c (.chn o p a b e) r h K = We c a r h (Kchn c r K o p b e) := by
  unfold We; rw [ev_chn, Wr_bnd]
  refine congrArg (Wr _) (funext fun x => funext fun h => ?_)
  unfold Kchn We
  rw [Wr_bnd]
  refine congrArg (Wr _) (funext fun y => funext fun h => ?_)
  unfold Kchn2 Wch
  cases cmpop o x y h with
  | none => rfl
  | some b =>
    cases b with
    | true => simp only [Wr_bnd, Wr_optB]; rfl
    | false => rfl
theorem We_ite {t a b : E} : We c (.ite t a b) r h K = Wt c t r h (Kife c r K a b) := by
  unfold We Wt; rw [ev_ite, Wr_bnd]
  refine congrArg (Wr _) (funext fun v => funext fun h => ?_)
  unfold Kife We
  cases v <;> rfl
theorem We_idx {a b : E} : We c (.idx a b) r h K = We c a r h (Kidx c r K b) := by unfold We; rw [ev_idx, Wr_bnd]; simp only [Wr_bnd, Wr_opt]; rfl
theorem We_slc {a lo hi : E} : We c (.slc a lo hi) r h K = We c a r h (Kslc c r K lo hi) := by unfold We; rw [ev_slc, Wr_bnd]; simp only [Wr_bnd]; rfl
theorem We_call {f : Nat} {es : List E} : We c (.call f es) r h K = Wl c es r h (Kcall c K f) := by unfold We; rw [ev_call, Wr_bnd]; rfl
theorem We_callK {f : Nat} {es ks : List E} {ord : List Nat} : We c (.callK f es ks ord) r h K = Wl c es r h (KcallK c r K f ks ord) := by
  unfold We; rw [ev_callK, Wr_bnd]
  refine congrArg (Wr _) (funext fun vs => funext fun h => ?_)
  unfold KcallK Wl
  rw [Wr_bnd]
  refine congrArg (Wr _) (funext fun us => funext fun h => ?_)
  unfold KcallK2 Wpk
  cases pick (vs ++ us) ord <;> rfl
theorem We_bf {b : Bf} {es : List E} : We c (.bf b es) r h K = Wl c es r h (Kbf K b) := by unfold We; rw [ev_bf, Wr_bnd]; simp only [Wr_opt]; rfl
theorem We_mt {m : Mt} {o : E} {es : List E} : We c (.mt m o es) r h K = We c o r h (Kmt c r K m es) := by
  unfold We; rw [ev_mt, Wr_bnd]
  refine congrArg (Wr _) (funext fun x => funext fun h => ?_)
  unfold Kmt Wl
  by_cases q : mtTy m x h = true
  · rw [if_pos q, Wr_bnd]; exact (We_tup.eq_true_intro_and q).symm
  · rw [if_neg q]; exact (We_tup.eq_false_intro_and q).symm
theorem We_comp {elt it cond : E} {t : Tg} {own : List Nat} : We c (.comp elt t it cond own) r h K = Wi c it r h (Klp c r elt t cond own (Knl K)) := by
  unfold We Wi; rw [ev_comp, Wr_bnd]
  refine congrArg (Wr _) (funext fun w => funext fun h => ?_)
  unfold newList Klp
  rw [Wr_bnd]; rfl
theorem We_con {f : Fo} {it : E} : We c (.con f it) r h K = Wi c it r h (Kcon K f) := by unfold We Wi; rw [ev_con, Wr_bnd]; rfl
theorem Wl_nil {K : List PV → PH → Prop} : Wl c [] r h K = K [] h := by unfold Wl; rw [evL_nil]; rfl
theorem Wl_cons {e : E} {es : List E} {K : List PV → PH → Prop} : Wl c (e :: es) r h K = We c e r h (Kc1 c r es K) := by unfold Wl We; rw [evL_cons, Wr_bnd]; simp only [Wr_bnd]; rfl
theorem Wi_itv {e : E} {K : It → PH → Prop} : Wi c (.itv e) r h K = We c e r h (Kitv K) := by unfold Wi We; rw [evi_itv, Wr_bnd]; simp only [Wr_optI]; rfl
theorem Wi_its {e : E} {K : It → PH → Prop} : Wi c (.its e) r h K = We c e r h (Kits K) := by unfold Wi We; rw [evi_its, Wr_bnd]; simp only [Wr_optI]; rfl
theorem Wi_itc {elt it cond : E} {t : Tg} {own : List Nat} {K : It → PH → Prop} : Wi c (.itc elt t it cond own) r h K = Wi c it r h (Klp c r elt t cond own (Kvl K)) := by
  unfold Wi; rw [evi_itc, Wr_bnd]
  refine congrArg (Wr _) (funext fun w => funext fun h => ?_)
  unfold valsIt Klp
  rw [Wr_bnd]; rfl
theorem Wi_rng {a b : E} {K : It → PH → Prop} : Wi c (.rng a b) r h K = We c a r h (Krng c r b K) := by unfold Wi We; rw [evi_rng, Wr_bnd]; simp only [Wr_bnd]; rfl
theorem Wi_enm {e : E} {K : It → PH → Prop} : Wi c (.enm e) r h K = We c e r h (Kenm K) := by unfold Wi We; rw [evi_enm, Wr_bnd]; simp only [Wr_optI]; rfl
theorem Wi_zip {a b : E} {K : It → PH → Prop} : Wi c (.zip a b) r h K = We c a r h (Kzip c r b K) := by unfold Wi We; rw [evi_zip, Wr_bnd]; simp only [Wr_bnd, Wr_optI]; rfl
/-! the continuations, handed what they wait for -/
theorem Ktup_ap {vs : List PV} (hl : vs.length ≤ 1000) : Ktup K vs h = K (.tup vs) h := We_tup.eq_true_intro_and (by rw [sizeLine_eq]; omega)
theorem Klst_ap {vs : List PV} (hl : vs.length ≤ 1000) : Klst K vs h = K (.obj h.length) (h ++ [.lst false vs]) := We_tup.eq_true_intro_and (by rw [sizeLine_eq]; omega)
theorem Kbin_ap {o : Op} {b : E} {x : PV} : Kbin c r K o b x h = We c b r h (Kbin2 K o x) := rfl
theorem Kbin2_add {i j : Int} : Kbin2 K .add (.int i) (.int j) h = K (.int (i + j)) h := rfl
theorem Kbin2_sub {i j : Int} : Kbin2 K .sub (.int i) (.int j) h = K (.int (i - j)) h := rfl
theorem Kbin2_mul {i j : Int} (hj : (-18446744073709551616 < i ∧ i < 18446744073709551616) ∨ (-18446744073709551616 < j ∧ j < 18446744073709551616)) : Kbin2 K .mul (.int i) (.int j) h = K (.int (i * j)) h := by
  unfold Kbin2
  have : mulOk i j = true := by
    unfold mulOk
    simp only [Bool.or_eq_true, Bool.and_eq_true, decide_eq_true_eq]
    exact hj
  show Wr (if mulOk i j = true then Rs.ok (PV.int (i * j)) h else .no) K = _
  rw [if_pos this]; rfl
theorem Kbin2_mod {i j : Int} (hj : 0 < j) : Kbin2 K .mod (.int i) (.int j) h = K (.int (i % j)) h := by
  unfold Kbin2
  show Wr (if 0 < j then Rs.ok (PV.int (i % j)) h else .no) K = _
  rw [if_pos hj]; rfl
theorem Kbin2_fdiv {i j : Int} (hj : 0 < j) (hl : j < 1000000000000000000000000000000000000000000000000000000000000) : Kbin2 K .fdiv (.int i) (.int j) h = K (.int (i / j)) h := by
  unfold Kbin2
  have : 0 < j ∧ j.natAbs.log2 < 9000 := by
    refine ⟨hj, ?_⟩
    have h1 : j.natAbs < 1000000000000000000000000000000000000000000000000000000000000 := by omega
    have h2 : (1000000000000000000000000000000000000000000000000000000000000 : Nat) < 2 ^ 200 := by decide +kernel
    have := (Nat.log2_lt (by omega)).mpr (Nat.lt_trans h1 h2)
    omega
  show Wr (if 0 < j ∧ j.natAbs.log2 < 9000 then Rs.ok (PV.int (i / j)) h else .no) K = _
  rw [if_pos this]; rfl
theorem Kbin2_catT {xs ys : List PV} (hl : xs.length + ys.length ≤ 16777216) : Kbin2 K .add (.tup xs) (.tup ys) h = K (.tup (xs ++ ys)) h := by
  unfold Kbin2
  show Wr (if xs.length + ys.length ≤ sizeLine then Rs.ok (PV.tup (xs ++ ys)) h else .no) K = _
  rw [if_pos (by rw [sizeLine_eq]; exact hl)]; rfl
theorem Kbin2_repT {xs : List PV} {k : Int} (hl : xs.length ≤ 1000) (h0 : 0 ≤ k) (hk : k ≤ 1000) : Kbin2 K .mul (.tup xs) (.int k) h = K (.tup (List.replicate k.toNat xs).flatten) h := by
  unfold Kbin2
  show Wr (if xs.length ≤ 1000 ∧ -(2 ^ 63) ≤ k ∧ k ≤ 1000 then Rs.ok (PV.tup (List.replicate k.toNat xs).flatten) h else .no) K = _
  rw [if_pos ⟨hl, by omega, hk⟩]; rfl
theorem Kneg_ap {i : Int} : Kneg K (.int i) h = K (.int (-i)) h := rfl
theorem Kbl_ap {b : Bool} : Kbl K b h = K (.bl b) h := rfl
theorem Knot_ap {b : Bool} : Knot K b h = K (.bl (!b)) h := rfl
theorem Kand_t {e : E} : Kand c r K e true h = Ws c e r h (Kbl K) := rfl
theorem Kand_f {e : E} : Kand c r K e false h = K (.bl false) h := rfl
theorem Kor_t {e : E} : Kor c r K e true h = K (.bl true) h := rfl
theorem Kor_f {e : E} : Kor c r K e false h = Ws c e r h (Kbl K) := rfl
theorem Kcmp_ap {o : Cp} {b : E} {x : PV} : Kcmp c r K o b x h = We c b r h (Kcmp2 K o x) := rfl
theorem Kcmp2_lt {i j : Int} : Kcmp2 K .lt (.int i) (.int j) h = K (.bl (decide (i < j))) h := rfl
theorem Kcmp2_le {i j : Int} : Kcmp2 K .le (.int i) (.int j) h = K (.bl (decide (i ≤ j))) h := rfl
theorem Kcmp2_gt {i j : Int} : Kcmp2 K .gt (.int i) (.int j) h = K (.bl (decide (j < i))) h := rfl
theorem Kcmp2_ge {i j : Int} : Kcmp2 K .ge (.int i) (.int j) h = K (.bl (decide (j ≤ i))) h := rfl
theorem eqv_ii {i j : Int} : PyData.eqv (.int i) (.int j) = decide (i = j) := by
  simp [PyData.eqv]
  exact (Bool.beq_eq_decide_eq i j)
theorem Kcmp2_eq {i j : Int} : Kcmp2 K .eq (.int i) (.int j) h = K (.bl (decide (i = j))) h := by
  unfold Kcmp2
  have : cmpop .eq (.int i) (.int j) h = some (decide (i = j)) := by
    show some (PyData.eqv (.int i) (.int j)) = _
    rw [eqv_ii]
  rw [this]; rfl
theorem Kcmp2_ne {i j : Int} : Kcmp2 K .ne (.int i) (.int j) h = K (.bl (!decide (i = j))) h := by
  unfold Kcmp2
  have : cmpop .ne (.int i) (.int j) h = some (!decide (i = j)) := by
    show some (!PyData.eqv (.int i) (.int j)) = _
    rw [eqv_ii]
  rw [this]; rfl
theorem cmp_isN {x : PV} : cmpop .is x .non h = some (isNon x) := by unfold cmpop; cases x <;> rfl
theorem cmp_isnotN {x : PV} : cmpop .isnot x .non h = some (!isNon x) := by unfold cmpop; cases x <;> rfl
theorem Kcmp2_is {x : PV} : Kcmp2 K .is x .non h = K (.bl (isNon x)) h := by unfold Kcmp2; rw [cmp_isN]; rfl
theorem Kcmp2_isnot {x : PV} : Kcmp2 K .isnot x .non h = K (.bl (!isNon x)) h := by unfold Kcmp2; rw [cmp_isnotN]; rfl
theorem cmp_isB {x : PV} {b : Bool} : cmpop .is x (.bl b) h = some (isBl b x) := by unfold cmpop; cases x <;> rfl
theorem Kcmp2_isB {x : PV} {b : Bool} : Kcmp2 K .is x (.bl b) h = K (.bl (isBl b x)) h := by unfold Kcmp2; rw [cmp_isB]; rfl
theorem Kcmp2_in {x y : PV} : Kcmp2 K .isin x y h = Wob (isIn h x y) h K := by unfold Kcmp2 cmpop; cases x <;> cases y <;> rfl
theorem Kcmp2_notin {x y : PV} : Kcmp2 K .notin x y h = Wob ((isIn h x y).map (!·)) h K := by unfold Kcmp2 cmpop; cases x <;> cases y <;> rfl
theorem Kchn_ap {o p : Cp} {b e : E} {x : PV} : Kchn c r K o p b e x h = We c b r h (Kchn2 c r K o p e x) := rfl
theorem Kchn2_le {p : Cp} {e : E} {i j : Int} : Kchn2 c r K .le p e (.int i) (.int j) h = Wch c r K p e (.int j) h (some (decide (i ≤ j))) := rfl
theorem Wch_t {p : Cp} {e : E} {y : PV} : Wch c r K p e y h (some true) = We c e r h (Kcmp2 K p y) := rfl
theorem Wch_f {p : Cp} {e : E} {y : PV} : Wch c r K p e y h (some false) = K (.bl false) h := rfl
theorem Kife_t {a b : E} : Kife c r K a b true h = We c a r h K := rfl
theorem Kife_f {a b : E} : Kife c r K a b false h = We c b r h K := rfl
theorem Kidx_ap {b : E} {x : PV} : Kidx c r K b x h = We c b r h (Kidx2 K x) := rfl
theorem atI_0 {α : Type} {xs : List α} : L2.atI xs 0 = xs[0]? := by
  cases xs with
  | nil => rfl
  | cons a xs => exact atI_nat (n := 0) rfl
theorem atI_n {α : Type} {xs : List α} {n : Nat} : L2.atI xs (n : Int) = xs[n]? := by
  cases q : xs[n]? with
  | some x => exact atI_nat q
  | none =>
    have hl := List.getElem?_eq_none_iff.mp q
    unfold L2.atI L2.ixN
    rw [if_pos (by omega), if_neg (by omega)]
    rfl
theorem atI_1 {α : Type} {xs : List α} : L2.atI xs 1 = xs[1]? := atI_n (n := 1)
theorem atI_2 {α : Type} {xs : List α} : L2.atI xs 2 = xs[2]? := atI_n (n := 2)
theorem Kidx2_T0 {xs : List PV} : Kidx2 K (.tup xs) (.int 0) h = Wo xs[0]? h K := by unfold Kidx2; show Wo (L2.atI xs 0) h K = _; rw [atI_0]
theorem Kidx2_T1 {xs : List PV} : Kidx2 K (.tup xs) (.int 1) h = Wo xs[1]? h K := by unfold Kidx2; show Wo (L2.atI xs 1) h K = _; rw [atI_1]
theorem Kidx2_T2 {xs : List PV} : Kidx2 K (.tup xs) (.int 2) h = Wo xs[2]? h K := by unfold Kidx2; show Wo (L2.atI xs 2) h K = _; rw [atI_2]
theorem Kidx2_Tn {xs : List PV} {n : Nat} : Kidx2 K (.tup xs) (.int (n : Int)) h = Wo xs[n]? h K := by unfold Kidx2; show Wo (L2.atI xs n) h K = _; rw [atI_n]
/-- by what stands in the heap -/
def Wix (K : KV) (y : PV) (h : PH) (o : Option PO) : Prop := match o, y with
  | some (.lst _ xs), .int i => Wo (L2.atI xs i) h K
  | some (.dK kvs), y => Wo ((toKey y).bind fun k => look k kvs) h K
  | some (.dT kvs), y => Wo ((toTK y).bind fun k => look k kvs) h K
  | some (.lkd kvs), y => Wo ((toKey y).bind fun k => look k kvs) h K
  | _, _ => False
theorem Kidx2_O {n : Nat} {y : PV} : Kidx2 K (.obj n) y h = Wix K y h h[n]? := by
  unfold Kidx2 Wix idxop
  cases q : h[n]? with
  | none => simp only [q]; rfl
  | some o => cases o <;> simp only [q] <;> cases y <;> rfl
theorem Wix_lst {fz : Bool} {xs : List PV} {i : Int} : Wix K (.int i) h (some (.lst fz xs)) = Wo (L2.atI xs i) h K := rfl
theorem Wix_dK {kvs : List (L2.Key × PV)} {y : PV} : Wix K y h (some (.dK kvs)) = Wo ((toKey y).bind fun k => look k kvs) h K := by unfold Wix; cases y <;> rfl
theorem Wix_lkd {kvs : List (L2.Key × PV)} {y : PV} : Wix K y h (some (.lkd kvs)) = Wo ((toKey y).bind fun k => look k kvs) h K := by unfold Wix; cases y <;> rfl
theorem Wix_dT {kvs : List (List L2.Key × PV)} {y : PV} : Wix K y h (some (.dT kvs)) = Wo ((toTK y).bind fun k => look k kvs) h K := by unfold Wix; cases y <;> rfl
theorem Kcall_ap {f : Nat} {vs : List PV} : Kcall c K f vs h = Wc c f vs h K := rfl
theorem KcallK_ap {f : Nat} {ks : List E} {ord : List Nat} {vs : List PV} : KcallK c r K f ks ord vs h = Wl c ks r h (KcallK2 c K f ord vs) := rfl
theorem KcallK2_ap {f : Nat} {ord : List Nat} {vs us : List PV} : KcallK2 c K f ord vs us h = Wpk c K f h (pick (vs ++ us) ord) := rfl
theorem Wpk_some {f : Nat} {ws : List PV} : Wpk c K f h (some ws) = Wc c f ws h K := rfl
/-- lengths -/
def Wln (K : KV) (h : PH) (o : Option PO) : Prop := match o with
  | some (.lst _ xs) => K (.int (xs.length : Nat)) h
  | some (.dK kvs) => K (.int (kvs.length : Nat)) h
  | some (.dT kvs) => K (.int (kvs.length : Nat)) h
  | _ => False
theorem Kbf_lenT {xs : List PV} : Kbf K .len [.tup xs] h = K (.int (xs.length : Nat)) h := rfl
theorem Kbf_lenO {n : Nat} : Kbf K .len [.obj n] h = Wln K h h[n]? := by
  unfold Kbf Wln
  show Wo ((lenOf (.obj n) h).map fun (n : Nat) => PV.int (n : Int)) h K = _
  unfold lenOf
  cases q : h[n]? with
  | none => simp only [q]; rfl
  | some o => cases o <;> simp only [q] <;> rfl
theorem Wln_lst {fz : Bool} {xs : List PV} : Wln K h (some (.lst fz xs)) = K (.int (xs.length : Nat)) h := rfl
theorem Wln_dK {xs : List (L2.Key × PV)} : Wln K h (some (.dK xs)) = K (.int (xs.length : Nat)) h := rfl
theorem Wln_dT {xs : List (List L2.Key × PV)} : Wln K h (some (.dT xs)) = K (.int (xs.length : Nat)) h := rfl
theorem Kbf_int {i : Int} : Kbf K .int [.int i] h = K (.int i) h := rfl
theorem Kbf_intB {b : Bool} : Kbf K .int [.bl b] h = K (.int (if b then 1 else 0)) h := rfl
theorem Kbf_min {i j : Int} : Kbf K .min [.int i, .int j] h = K (.int (if j < i then j else i)) h := rfl
theorem Kbf_max {i j : Int} : Kbf K .max [.int i, .int j] h = K (.int (if j > i then j else i)) h := rfl
theorem Kbf_isT {xs : List PV} {t : Ty} : Kbf K (.isinst t) [.tup xs] h = K (.bl (match t with | .tuple => true | _ => false)) h := rfl
theorem Kbf_isI {i : Int} {t : Ty} : Kbf K (.isinst t) [.int i] h = K (.bl (match t with | .int => true | _ => false)) h := rfl
theorem Kbf_isB {i : Bool} {t : Ty} : Kbf K (.isinst t) [.bl i] h = K (.bl (match t with | .int => true | .bool => true | _ => false)) h := rfl
theorem Kbf_isS {i : Str} {t : Ty} : Kbf K (.isinst t) [.str i] h = K (.bl (match t with | .str => true | _ => false)) h := rfl
theorem Kbf_isN {t : Ty} : Kbf K (.isinst t) [.non] h = K (.bl false) h := rfl
def Wity (K : KV) (t : Ty) (h : PH) (o : Option PO) : Prop := match o with
  | some (.lst _ _) => K (.bl (match t with | .list => true | _ => false)) h
  | some (.dK _) => K (.bl (match t with | .dict => true | _ => false)) h
  | some (.dT _) => K (.bl (match t with | .dict => true | _ => false)) h
  | _ => False
theorem Kbf_isO {n : Nat} {t : Ty} : Kbf K (.isinst t) [.obj n] h = Wity K t h h[n]? := by
  unfold Kbf Wity
  show Wo ((isTy t (.obj n) h).map .bl) h K = _
  unfold isTy
  cases q : h[n]? with
  | none => simp only [q]; rfl
  | some o => cases o <;> simp only [q] <;> rfl
theorem Wity_lst {fz : Bool} {xs : List PV} {t : Ty} : Wity K t h (some (.lst fz xs)) = K (.bl (match t with | .list => true | _ => false)) h := rfl
/-- append -/
def Wap (K : KV) (n : Nat) (v : PV) (h : PH) (o : Option PO) : Prop := match o with
  | some (.lst false xs) => xs.length < sizeLine ∧ K .non (h.set n (.lst false (xs ++ [v])))
  | _ => False
def isLs (o : Option PO) : Prop := match o with | some (.lst _ _) => True | _ => False
def Kap (K : KV) (x : PV) (vs : List PV) (h : PH) : Prop := match x, vs with
  | .obj n, [v] => Wap K n v h h[n]?
  | _, _ => False
theorem Kmt_app {es : List E} {n : Nat} : Kmt c r K .append es (.obj n) h = (isLs h[n]? ∧ Wl c es r h (Kap K (.obj n))) := by
  unfold Kmt
  have e1 : (mtTy .append (.obj n) h = true) = isLs h[n]? := by
    unfold mtTy isLs
    cases q : h[n]? with
    | none => simp only [q]; exact propext ⟨fun z => (by cases z), fun z => z.elim⟩
    | some o => cases o <;> simp only [q] <;> exact propext ⟨fun z => (by first | trivial | cases z), fun z => (by first | rfl | exact z.elim)⟩
  have e2 : Kmt2 K .append (.obj n) = Kap K (.obj n) := by
    funext vs h
    unfold Kmt2 Kap mtop
    rcases vs with _ | ⟨v, _ | ⟨u, vs⟩⟩
    · cases h[n]? <;> rfl
    · simp only
      cases q : h[n]? with
      | none => rfl
      | some o =>
        cases o with
        | lst fz xs =>
          cases fz with
          | true => rfl
          | false =>
            show Wr (if xs.length < sizeLine then _ else _) K = (xs.length < sizeLine ∧ _)
            by_cases q : xs.length < sizeLine
            · rw [if_pos q]; exact (We_tup.eq_true_intro_and q).symm
            · rw [if_neg q]; exact (We_tup.eq_false_intro_and q).symm
        | _ => rfl
    · cases h[n]? <;> rfl
  rw [e1, e2]
theorem isLs_ap {fz : Bool} {xs : List PV} : isLs (some (.lst fz xs)) = True := rfl
theorem Kap_ap {n : Nat} {v : PV} : Kap K (.obj n) [v] h = Wap K n v h h[n]? := rfl
theorem Wap_ap {n : Nat} {v : PV} {xs : List PV} (hl : xs.length ≤ 16777215) : Wap K n v h (some (.lst false xs)) = K .non (h.set n (.lst false (xs ++ [v]))) := We_tup.eq_true_intro_and (by rw [sizeLine_eq]; omega)
theorem Kcon_tup {xs : List PV} (hl : xs.length ≤ 16777216) : Kcon K .tuple (.vals xs) h = K (.tup xs) h := by
  unfold Kcon
  show Wr (if xs.length ≤ sizeLine then _ else _) K = _
  rw [if_pos (by rw [sizeLine_eq]; exact hl)]; rfl
theorem Kcon_tupT {xs : List PV} : Kcon K .tuple (.tvs xs) h = K (.tup xs) h := rfl
theorem Kcon_lst {xs : List PV} (hl : xs.length ≤ 16777216) : Kcon K .list (.vals xs) h = K (.obj h.length) (h ++ [.lst false xs]) := by
  unfold Kcon
  show Wr (if xs.length ≤ sizeLine then _ else _) K = _
  rw [if_pos (by rw [sizeLine_eq]; exact hl)]; rfl
/-- a list of the heap, all of it -/
def Wls (o : Option PO) (K : List PV → Prop) : Prop := match o with | some (.lst _ xs) => K xs | _ => False
theorem Wls_ap {fz : Bool} {xs : List PV} {K : List PV → Prop} : Wls (some (.lst fz xs)) K = K xs := rfl
theorem Kcon_live {f : Fo} {n : Nat} : Kcon K f (.live n) h = Wls h[n]? fun xs => Wr (conop f xs h) K := by
  unfold Kcon Wls
  show Wr (match itList (.live n) h with | some xs => conop f xs h | none => .no) K = _
  unfold itList
  cases q : h[n]? with
  | none => simp only [q]; rfl
  | some o => cases o <;> simp only [q] <;> rfl
theorem Wr_ctup {xs : List PV} (hl : xs.length ≤ 16777216) : Wr (conop .tuple xs h) K = K (.tup xs) h := by
  show Wr (if xs.length ≤ sizeLine then _ else _) K = _
  rw [if_pos (by rw [sizeLine_eq]; exact hl)]; rfl
theorem Wr_clst {xs : List PV} (hl : xs.length ≤ 16777216) : Wr (conop .list xs h) K = K (.obj h.length) (h ++ [.lst false xs]) := by
  show Wr (if xs.length ≤ sizeLine then _ else _) K = _
  rw [if_pos (by rw [sizeLine_eq]; exact hl)]; rfl
theorem Kc1_ap {es : List E} {K : List PV → PH → Prop} {v : PV} : Kc1 c r es K v h = Wl c es r h (Kc2 K v) := rfl
theorem Kc2_ap {K : List PV → PH → Prop} {v : PV} {vs : List PV} : Kc2 K v vs h = K (v :: vs) h := rfl
theorem Ktst_bl {K : Bool → PH → Prop} {b : Bool} : Ktst K (.bl b) h = K b h := rfl
theorem Ktst_tup {K : Bool → PH → Prop} {b : List PV} : Ktst K (.tup b) h = K (!b.isEmpty) h := rfl
def Wtl (K : Bool → PH → Prop) (h : PH) (o : Option PO) : Prop := match o with
  | some (.lst _ xs) => K (!xs.isEmpty) h
  | some (.dK xs) => K (!xs.isEmpty) h
  | _ => False
theorem Ktst_obj {K : Bool → PH → Prop} {n : Nat} : Ktst K (.obj n) h = Wtl K h h[n]? := by
  unfold Ktst truth Wtl
  cases q : h[n]? with
  | none => simp only [q]; rfl
  | some o => cases o <;> simp only [q] <;> rfl
theorem Wtl_lst {K : Bool → PH → Prop} {fz : Bool} {xs : List PV} : Wtl K h (some (.lst fz xs)) = K (!xs.isEmpty) h := rfl
theorem KtstB_ap {K : Bool → PH → Prop} {b : Bool} : KtstB K (.bl b) h = K b h := rfl
theorem Knl_ap {acc : List PV} : Knl K acc h = K (.obj h.length) (h ++ [.lst false acc]) := rfl
theorem Kvl_ap {K : It → PH → Prop} {acc : List PV} : Kvl K acc h = K (.vals acc) h := rfl
theorem Kitv_tup {K : It → PH → Prop} {xs : List PV} : Kitv K (.tup xs) h = K (.vals xs) h := rfl
def Wlv (K : It → PH → Prop) (n : Nat) (h : PH) (o : Option PO) : Prop := match o with | some (.lst _ _) => K (.live n) h | _ => False
theorem Kitv_obj {K : It → PH → Prop} {n : Nat} : Kitv K (.obj n) h = Wlv K n h h[n]? := by
  unfold Kitv toIt Wlv
  cases q : h[n]? with
  | none => simp only [q]; rfl
  | some o => cases o <;> simp only [q] <;> rfl
theorem Wlv_ap {K : It → PH → Prop} {n : Nat} {fz : Bool} {xs : List PV} : Wlv K n h (some (.lst fz xs)) = K (.live n) h := rfl
theorem Kits_tup {K : It → PH → Prop} {xs : List PV} : Kits K (.tup xs) h = K (.tvs xs) h := rfl
def Wlc (K : It → PH → Prop) (n : Nat) (h : PH) (o : Option PO) : Prop := match o with | some (.lst _ _) => K (.live n) h | some (.dK kvs) => K (.keys (kvs.map (·.1))) h | _ => False
theorem Kits_obj {K : It → PH → Prop} {n : Nat} : Kits K (.obj n) h = Wlc K n h h[n]? := by
  unfold Kits toItC Wlc
  cases q : h[n]? with
  | none => simp only [q]; rfl
  | some o => cases o <;> simp only [q] <;> rfl
theorem Wlc_ap {K : It → PH → Prop} {n : Nat} {fz : Bool} {xs : List PV} : Wlc K n h (some (.lst fz xs)) = K (.live n) h := rfl
theorem Kenm_tup {K : It → PH → Prop} {xs : List PV} : Kenm K (.tup xs) h = K (.enm (.vals xs)) h := rfl
theorem Kenm_obj {K : It → PH → Prop} {n : Nat} : Kenm K (.obj n) h = Wlv (fun w h => K (.enm w) h) n h h[n]? := by
  unfold Kenm toIt Wlv
  cases q : h[n]? with
  | none => simp only [q]; rfl
  | some o => cases o <;> simp only [q] <;> rfl
theorem Kzip_ap {b : E} {K : It → PH → Prop} {x : PV} : Kzip c r b K x h = We c b r h (Kzip2 K x) := rfl
theorem Kzip2_tup {K : It → PH → Prop} {xs ys : List PV} : Kzip2 K (.tup xs) (.tup ys) h = K (.zip (.vals xs) (.vals ys)) h := rfl
theorem Krng_ap {b : E} {K : It → PH → Prop} {x : PV} : Krng c r b K x h = We c b r h (Krng2 K x) := rfl
theorem Krng2_ap {K : It → PH → Prop} {i j : Int} (h1 : -(2 ^ 62) ≤ i) (h2 : i < 2 ^ 62) (h3 : -(2 ^ 62) ≤ j) (h4 : j < 2 ^ 62) : Krng2 K (.int i) (.int j) h = K (.rng i (j - i).toNat) h := by
  unfold Krng2 rngOf
  show Wr (if -(2 ^ 62) ≤ i ∧ i < 2 ^ 62 ∧ -(2 ^ 62) ≤ j ∧ j < 2 ^ 62 then Rs.ok (It.rng i (j - i).toNat) h else .no) K = _
  rw [if_pos ⟨h1, h2, h3, h4⟩]; rfl
theorem Krng2_0n {K : It → PH → Prop} {n : Nat} (h1 : n < 1000000000000) : Krng2 K (.int 0) (.int (n : Int)) h = K (.rng 0 n) h := by
  rw [Krng2_ap (by omega) (by omega) (by omega) (by omega)]
  congr 2
theorem Krng2_nn {K : It → PH → Prop} {a n : Nat} (h0 : a < 1000000000000) (h1 : n < 1000000000000) : Krng2 K (.int (a : Int)) (.int (n : Int)) h = K (.rng a (n - a)) h := by
  rw [Krng2_ap (by omega) (by omega) (by omega) (by omega)]
  congr 2
  omega
theorem Krng2_lit {K : It → PH → Prop} {i j : Int} (h1 : -1000000000000 ≤ i) (h2 : i ≤ 1000000000000) (h3 : -1000000000000 ≤ j) (h4 : j ≤ 1000000000000) : Krng2 K (.int i) (.int j) h = K (.rng i (j - i).toNat) h := by
  rw [Krng2_ap (by omega) (by omega) (by omega) (by omega)]

end

/-! ### statements -/
section
variable (c : Cc) (ss : List S) (r : Env) (Q : Rt → Prop)
def Wbd (t : Tg) (x : PV) (r : Env) (K : Env → Prop) : Prop := match bindT t x r with | some r' => K r' | none => False
def Kasg (t : Tg) (v : PV) (h : PH) : Prop := Wbd t v r fun r' => Wb c ss r' h Q
def Kexp (_ : PV) (h : PH) : Prop := Wb c ss r h Q
def Kret (v : PV) (h : PH) : Prop := Q (.rt v h)
def Kseq (z : Rt) : Prop := match z with | .nx r' h' => Wb c ss r' h' Q | z => Q z
def Kif (a b : List S) (x : Bool) (h : PH) : Prop := if x = true then Wb c a r h (Kseq c ss Q) else Wb c b r h (Kseq c ss Q)
def Kset3 (v x : PV) (y : PV) (h : PH) : Prop := match setop x y v h with | some h' => Wb c ss r h' Q | none => False
def Kset2 (i : E) (v : PV) (x : PV) (h : PH) : Prop := We c i r h (Kset3 c ss r Q v x)
def Kset (o i : E) (v : PV) (h : PH) : Prop := We c o r h (Kset2 c ss r Q i v)
def Kaug (i : Nat) (o : Op) (k : Int) (y : PV) (h : PH) : Prop := match augop o k y with | some z => Wb c ss (r.set i (some z)) h Q | none => False
def Kfor (J : Env → PH → Prop) (z : Rt) : Prop := match z with
  | .nx r' h' => J r' h'
  | .ct r' h' => J r' h'
  | .bk r' h' => Wb c ss r' h' Q
  | .rt v h' => Q (.rt v h')
  | _ => False
def Kfors (t : Tg) (b : List S) (w : It) (h : PH) : Prop := Wz (Kseq c ss Q) (loopIt w (fun x r h => match bindT t x r with
      | none => .out .no
      | some r1 => match exB c b r1 h with
        | .nx r' h' => .go r' h'
        | .ct r' h' => .go r' h'
        | .bk r' h' => .out (.nx r' h')
        | z => .out z) (fun r h => .nx r h) .no c.fuel 0 r h)
def Kwhl (b : List S) (J : Env → PH → Prop) (x : Bool) (h : PH) : Prop := if x = true then Wb c b r h (Kfor c ss Q J) else Wb c ss r h Q
def Kout (n : Nat) (K : KV) (z : Rt) : Prop := match z with
  | .nx _ h => K .non (gc n .non h)
  | .rt v h => K v (gc n v h)
  | _ => False
end
section
variable {c : Cc} {ss : List S} {r : Env} {h : PH} {Q : Rt → Prop}
theorem Wb_nil : Wb c [] r h Q = Q (.nx r h) := by unfold Wb; rw [ex_nil]; rfl
theorem Wb_cons {s : S} : Wb c (s :: ss) r h Q = Wz (Kseq c ss Q) (exS c s r h) := by
  unfold Wb
  rw [ex_cons]
  cases exS c s r h <;> rfl
theorem st_W {α : Type} {x : Rs α} {f : α → PH → Rt} {Q : Rt → Prop} : Wz Q (x.st r f) = Wr x fun a h => Wz Q (f a h) := by cases x <;> rfl
theorem Wb_pass : Wb c (.pass :: ss) r h Q = Wb c ss r h Q := by rw [Wb_cons]; unfold exS; rfl
theorem Wb_asg {t : Tg} {e : E} : Wb c (.asg t e :: ss) r h Q = We c e r h (Kasg c ss r Q t) := by
  rw [Wb_cons, ex_asg, st_W]
  refine congrArg (Wr _) (funext fun v => funext fun h => ?_)
  unfold Kasg Wbd
  cases bindT t v r <;> rfl
theorem Wb_expr {e : E} : Wb c (.expr e :: ss) r h Q = We c e r h (Kexp c ss r Q) := by rw [Wb_cons, ex_expr, st_W]; rfl
theorem Wb_ret {e : E} : Wb c (.ret e :: ss) r h Q = We c e r h (Kret Q) := by rw [Wb_cons, ex_ret, st_W]; rfl
theorem Wb_retN : Wb c (.retN :: ss) r h Q = Q (.rt .non h) := by rw [Wb_cons]; unfold exS; rfl
theorem Wb_brk : Wb c (.brk :: ss) r h Q = Q (.bk r h) := by rw [Wb_cons]; unfold exS; rfl
theorem Wb_cnt : Wb c (.cnt :: ss) r h Q = Q (.ct r h) := by rw [Wb_cons]; unfold exS; rfl
theorem Wb_ite {t : E} {a b : List S} : Wb c (.ite t a b :: ss) r h Q = Wt c t r h (Kif c ss r Q a b) := by
  rw [Wb_cons, ex_ite, st_W]
  refine congrArg (Wr _) (funext fun v => funext fun h => ?_)
  cases v <;> rfl
theorem Wb_set {o i e : E} : Wb c (.set o i e :: ss) r h Q = We c e r h (Kset c ss r Q o i) := by
  rw [Wb_cons, ex_set, st_W]
  refine congrArg (Wr _) (funext fun v => funext fun h => ?_)
  rw [st_W]
  refine congrArg (Wr _) (funext fun x => funext fun h => ?_)
  rw [st_W]
  refine congrArg (Wr _) (funext fun y => funext fun h => ?_)
  unfold Kset3
  cases setop x y v h <;> rfl
theorem Wb_for {t : Tg} {it : E} {b : List S} : Wb c (.forS t it b :: ss) r h Q = Wi c it r h (Kfors c ss r Q t b) := by rw [Wb_cons, ex_for, st_W]; rfl
theorem Wb_tryN {b : List S} : Wb c (.tryN b :: ss) r h Q = Wb c b r h (Kseq c ss Q) := by
  rw [Wb_cons, ex_tryN]
  unfold Wb
  cases exB c b r h <;> rfl
theorem Wb_whl {t : E} {b : List S} {I : Nat → Env → PH → Prop} {m : Nat} (hm : m < c.fuel) (h0 : I m r h)
    (hstep : ∀ m r h, I m r h → Wt c t r h (Kwhl c ss r Q b fun r' h' => ∃ m', m' < m ∧ I m' r' h')) : Wb c (.whl t b :: ss) r h Q := by
  rw [Wb_cons]
  unfold exS
  refine loopW_run (I := I) (Post := Wz (Kseq c ss Q)) (fun m r h hI => ?_) c.fuel m r h hm h0
  have q := hstep m r h hI
  unfold Wt at q
  revert q
  cases tst (evE c t r h) with
  | ok x h1 =>
    intro q
    have q : Kwhl c ss r Q b (fun r' h' => ∃ m', m' < m ∧ I m' r' h') x h1 := q
    unfold Kwhl at q
    cases x with
    | true =>
      rw [if_pos rfl] at q
      unfold Wb at q
      revert q
      show Wz (Kfor c ss Q _) (exB c b r h1) → (∃ s' h' m', (match exB c b r h1 with | .nx r' h' => Lp.go r' h' | .ct r' h' => Lp.go r' h' | .bk r' h' => Lp.out (.nx r' h') | z => Lp.out z) = Lp.go s' h' ∧ _) ∨ (∃ r0, (match exB c b r h1 with | .nx r' h' => Lp.go r' h' | .ct r' h' => Lp.go r' h' | .bk r' h' => Lp.out (.nx r' h') | z => Lp.out z) = Lp.out r0 ∧ _)
      cases exB c b r h1 with
      | nx r' h' => rintro ⟨m', hm, i⟩; exact .inl ⟨r', h', m', rfl, hm, i⟩
      | ct r' h' => rintro ⟨m', hm, i⟩; exact .inl ⟨r', h', m', rfl, hm, i⟩
      | bk r' h' => intro z; exact .inr ⟨_, rfl, z⟩
      | rt v h' => intro z; exact .inr ⟨_, rfl, z⟩
      | ex k vs r h => intro z; exact z.elim
      | no => intro z; exact z.elim
    | false =>
      rw [if_neg Bool.false_ne_true] at q
      exact .inr ⟨_, rfl, q⟩
  | ex k v h => exact fun z => z.elim
  | no => exact fun z => z.elim
theorem Kfors_run {t : Tg} {b : List S} {w : It} {N : Nat} (I : Nat → Env → PH → Prop) (hN : N < c.fuel) (h0 : I 0 r h)
    (hstep : ∀ i r h, i < N → I i r h → ∃ x, itAt w i h = some (some x) ∧ Wbd t x r fun r1 => Wb c b r1 h (Kfor c ss Q (I (i + 1))))
    (hend : ∀ r h, I N r h → itAt w N h = some none ∧ Wb c ss r h Q) : Kfors c ss r Q t b w h := by
  refine loopIt_run (N := N) (I := I) (Post := Wz (Kseq c ss Q)) hN h0 hend fun i r h hi hI => ?_
  obtain ⟨x, hx, q⟩ := hstep i r h hi hI
  refine ⟨x, hx, ?_⟩
  unfold Wbd at q
  revert q
  cases bindT t x r with
  | none => exact fun z => z.elim
  | some r1 =>
    intro q
    have q : Wz (Kfor c ss Q (I (i + 1))) (exB c b r1 h) := q
    revert q
    show _ → (∃ s' h', (match exB c b r1 h with | .nx r' h' => Lp.go r' h' | .ct r' h' => Lp.go r' h' | .bk r' h' => Lp.out (.nx r' h') | z => Lp.out z) = Lp.go s' h' ∧ _) ∨ (∃ r0, (match exB c b r1 h with | .nx r' h' => Lp.go r' h' | .ct r' h' => Lp.go r' h' | .bk r' h' => Lp.out (.nx r' h') | z => Lp.out z) = Lp.out r0 ∧ _)
    cases exB c b r1 h with
    | nx r' h' => intro i; exact .inl ⟨r', h', rfl, i⟩
    | ct r' h' => intro i; exact .inl ⟨r', h', rfl, i⟩
    | bk r' h' => intro z; exact .inr ⟨_, rfl, z⟩
    | rt v h' => intro z; exact .inr ⟨_, rfl, z⟩
    | ex k vs r h => intro z; exact z.elim
    | no => intro z; exact z.elim
theorem Kfors_rng {t : Tg} {b : List S} {lo : Int} {n : Nat} (I : Nat → Env → PH → Prop) (hN : n < c.fuel) (h0 : I 0 r h)
    (hstep : ∀ i r h, i < n → I i r h → Wbd t (.int (lo + i)) r fun r1 => Wb c b r1 h (Kfor c ss Q (I (i + 1)))) (hend : ∀ r h, I n r h → Wb c ss r h Q) : Kfors c ss r Q t b (.rng lo n) h :=
  Kfors_run I hN h0 (fun i r h hi hI => ⟨_, by rw [itAt_rng, if_pos hi], hstep i r h hi hI⟩) fun r h hI => ⟨by rw [itAt_rng, if_neg (Nat.lt_irrefl _)], hend r h hI⟩
theorem Kfors_rng0 {t : Tg} {b : List S} {n : Nat} (I : Nat → Env → PH → Prop) (hN : n < c.fuel) (h0 : I 0 r h)
    (hstep : ∀ (i : Nat) r h, i < n → I i r h → Wbd t (.int (i : Int)) r fun r1 => Wb c b r1 h (Kfor c ss Q (I (i + 1)))) (hend : ∀ r h, I n r h → Wb c ss r h Q) : Kfors c ss r Q t b (.rng 0 n) h :=
  Kfors_rng I hN h0 (fun i r h hi hI => by have := hstep i r h hi hI; rwa [Int.zero_add]) hend
theorem Kfors_vals {t : Tg} {b : List S} {xs : List PV} (I : Nat → Env → PH → Prop) (hN : xs.length < c.fuel) (h0 : I 0 r h)
    (hstep : ∀ i x r h, xs[i]? = some x → I i r h → Wbd t x r fun r1 => Wb c b r1 h (Kfor c ss Q (I (i + 1)))) (hend : ∀ r h, I xs.length r h → Wb c ss r h Q) : Kfors c ss r Q t b (.vals xs) h :=
  Kfors_run I hN h0 (fun i r h hi hI => ⟨xs[i], by rw [itAt_vals, List.getElem?_eq_getElem hi], hstep i _ r h (List.getElem?_eq_getElem hi) hI⟩) fun r h hI => ⟨by rw [itAt_vals]; simp, hend r h hI⟩
theorem Kfors_map {α : Type} {t : Tg} {b : List S} {l : List α} {f : α → PV} (I : List α → Env → PH → Prop) (hN : l.length < c.fuel) (h0 : I [] r h)
    (hstep : ∀ pre a post r h, l = pre ++ a :: post → I pre r h → Wbd t (f a) r fun r1 => Wb c b r1 h (Kfor c ss Q (I (pre ++ [a])))) (hend : ∀ r h, I l r h → Wb c ss r h Q) : Kfors c ss r Q t b (.vals (l.map f)) h := by
  refine Kfors_vals (fun i => I (l.take i)) (by rw [List.length_map]; exact hN) (by rw [List.take_zero]; exact h0) (fun i x r h hx hI => ?_) fun r h hI => hend r h (by rw [List.length_map, List.take_length] at hI; exact hI)
  rw [List.getElem?_map] at hx
  obtain ⟨a, ha, rfl⟩ := Option.map_eq_some_iff.mp hx
  have hl := (List.getElem?_eq_some_iff.mp ha).1
  have e : l.take (i + 1) = l.take i ++ [a] := by rw [List.take_succ, ha]; rfl
  have e2 : l = l.take i ++ a :: l.drop (i + 1) := by
    have := List.take_append_drop i l
    rw [List.drop_eq_getElem_cons hl] at this
    have ea : l[i] = a := by have := List.getElem?_eq_getElem hl; rw [ha] at this; exact (Option.some.inj this).symm
    rw [ea] at this
    exact this.symm
  have := hstep (l.take i) a _ r h e2 hI
  rw [← e] at this
  exact this
theorem Kfors_enm {t : Tg} {b : List S} {xs : List PV} (I : Nat → Env → PH → Prop) (hN : xs.length < c.fuel) (h0 : I 0 r h)
    (hstep : ∀ i x r h, xs[i]? = some x → I i r h → Wbd t (.tup [.int i, x]) r fun r1 => Wb c b r1 h (Kfor c ss Q (I (i + 1)))) (hend : ∀ r h, I xs.length r h → Wb c ss r h Q) : Kfors c ss r Q t b (.enm (.vals xs)) h :=
  Kfors_run I hN h0 (fun i r h hi hI => ⟨_, by rw [itAt_enm, List.getElem?_eq_getElem hi]; rfl, hstep i _ r h (List.getElem?_eq_getElem hi) hI⟩) fun r h hI => ⟨by rw [itAt_enm]; simp, hend r h hI⟩
/-! comprehensions -/
theorem Klp_run {elt : E} {t : Tg} {cond : E} {own : List Nat} {K : List PV → PH → Prop} {w : It} {N : Nat} (I : Nat → List PV → PH → Prop) (hN : N < c.fuel) (h0 : I 0 [] h)
    (hstep : ∀ i acc h, i < N → I i acc h → acc.length < 16777216 ∧ ∃ x, itAt w i h = some (some x) ∧ Wbd t x (wipeP r own) fun r1 => Wt c cond r1 h fun b h1 => if b = true then We c elt r1 h1 fun v h2 => I (i + 1) (acc ++ [v]) h2 else I (i + 1) acc h1)
    (hend : ∀ acc h, I N acc h → itAt w N h = some none ∧ K acc h) : Klp c r elt t cond own K w h := by
  unfold Klp
  refine loopIt_run (N := N) (I := I) (Post := fun x => Wr x K) hN h0 hend fun i acc h hi hI => ?_
  obtain ⟨hl, x, hx, q⟩ := hstep i acc h hi hI
  refine ⟨x, hx, .inl ?_⟩
  unfold compStep
  unfold Wbd at q
  revert q
  cases bindT t x (wipeP r own) with
  | none => exact fun z => z.elim
  | some r1 =>
    simp only
    unfold Wt
    cases tst (evE c cond r1 h) with
    | ex k v h => exact fun z => z.elim
    | no => exact fun z => z.elim
    | ok b h1 =>
      intro q
      cases b with
      | false => exact ⟨acc, h1, rfl, q⟩
      | true =>
        have q : We c elt r1 h1 fun v h2 => I (i + 1) (acc ++ [v]) h2 := q
        unfold We at q
        revert q
        simp only
        cases evE c elt r1 h1 with
        | ex k v h => exact fun z => z.elim
        | no => exact fun z => z.elim
        | ok v h2 =>
          intro q
          have hz : acc.length < sizeLine := by rw [sizeLine_eq]; exact hl
          exact ⟨acc ++ [v], h2, by simp only [hz, if_true], q⟩
/-- one for each, nothing else changed -/
theorem Klp_map {α : Type} {elt : E} {t : Tg} {own : List Nat} {K : List PV → PH → Prop} {w : It} {l : List α} {f g : α → PV} (hN : l.length < c.fuel) (hl : l.length ≤ 16777216)
    (hw : ∀ i : Nat, itAt w i h = some ((l[i]?).map f)) (hstep : ∀ a ∈ l, Wbd t (f a) (wipeP r own) fun r1 => We c elt r1 h fun v h2 => v = g a ∧ h2 = h)
    (hend : K (l.map g) h) : Klp c r elt t (.cst (.bl true)) own K w h := by
  refine Klp_run (N := l.length) (I := fun i acc h' => acc = (l.take i).map g ∧ h' = h) hN ⟨by simp, rfl⟩ (fun i acc h' hi ⟨ha, hh⟩ => ?_) fun acc h' ⟨ha, hh⟩ => ?_
  · subst ha hh
    refine ⟨by rw [List.length_map, List.length_take]; omega, f l[i], by rw [hw, List.getElem?_eq_getElem hi]; rfl, ?_⟩
    have q := hstep l[i] (List.getElem_mem hi)
    unfold Wbd at q ⊢
    revert q
    cases bindT t (f l[i]) (wipeP r own) with
    | none => exact id
    | some r1 =>
      intro q
      have q : We c elt r1 h' fun v h2 => v = g l[i] ∧ h2 = h' := q
      show Wt c (.cst (.bl true)) r1 h' _
      rw [Wt_e, We_cst, Ktst_bl, if_pos rfl]
      unfold We at q ⊢
      revert q
      cases evE c elt r1 h' with
      | ex k v h => exact fun z => z.elim
      | no => exact fun z => z.elim
      | ok v h2 =>
        rintro ⟨rfl, rfl⟩
        refine ⟨?_, rfl⟩
        rw [List.take_succ, List.getElem?_eq_getElem hi, List.map_append]; rfl
  · subst ha hh
    rw [List.take_length]
    exact ⟨by rw [hw, List.getElem?_eq_none (Nat.le_refl _)]; rfl, hend⟩
/-- those that keep a test, one for each, nothing else changed -/
theorem Klp_filter {α : Type} {elt cond : E} {t : Tg} {own : List Nat} {K : List PV → PH → Prop} {w : It} {l : List α} {f g : α → PV} {p : α → Bool} (hN : l.length < c.fuel) (hl : l.length ≤ 16777216)
    (hw : ∀ i : Nat, itAt w i h = some ((l[i]?).map f)) (hstep : ∀ a ∈ l, Wbd t (f a) (wipeP r own) fun r1 => Wt c cond r1 h fun b h1 => b = p a ∧ h1 = h ∧ (p a = true → We c elt r1 h fun v h2 => v = g a ∧ h2 = h))
    (hend : K ((l.filter p).map g) h) : Klp c r elt t cond own K w h := by
  refine Klp_run (N := l.length) (I := fun i acc h' => acc = ((l.take i).filter p).map g ∧ h' = h) hN ⟨by simp, rfl⟩ (fun i acc h' hi ⟨ha, hh⟩ => ?_) fun acc h' ⟨ha, hh⟩ => ?_
  · subst ha hh
    refine ⟨by rw [List.length_map]; have := List.length_filter_le p (l.take i); rw [List.length_take] at this; omega, f l[i], by rw [hw, List.getElem?_eq_getElem hi]; rfl, ?_⟩
    have q := hstep l[i] (List.getElem_mem hi)
    have et : l.take (i + 1) = l.take i ++ [l[i]] := by rw [List.take_succ, List.getElem?_eq_getElem hi]; rfl
    unfold Wbd at q ⊢
    revert q
    cases bindT t (f l[i]) (wipeP r own) with
    | none => exact id
    | some r1 =>
      intro q
      have q : Wt c cond r1 h' fun b h1 => b = p l[i] ∧ h1 = h' ∧ (p l[i] = true → We c elt r1 h' fun v h2 => v = g l[i] ∧ h2 = h') := q
      show Wt c cond r1 h' _
      unfold Wt at q ⊢
      revert q
      cases tst (evE c cond r1 h') with
      | ex k v h => exact fun z => z.elim
      | no => exact fun z => z.elim
      | ok b h1 =>
        rintro ⟨rfl, rfl, q⟩
        show if p l[i] = true then _ else _
        cases hp : p l[i] with
        | false =>
          rw [if_neg Bool.false_ne_true]
          refine ⟨?_, rfl⟩
          rw [et, List.filter_append, List.filter_cons, hp, List.filter_nil]; simp
        | true =>
          rw [if_pos rfl]
          have q := q hp
          unfold We at q ⊢
          revert q
          cases evE c elt r1 h1 with
          | ex k v h => exact fun z => z.elim
          | no => exact fun z => z.elim
          | ok v h2 =>
            rintro ⟨rfl, rfl⟩
            refine ⟨?_, rfl⟩
            rw [et, List.filter_append, List.filter_cons, hp, List.filter_nil]; simp
  · subst ha hh
    rw [List.take_length]
    exact ⟨by rw [hw, List.getElem?_eq_none (Nat.le_refl _)]; rfl, hend⟩
theorem iw_vals {α : Type} {l : List α} {f : α → PV} (i : Nat) : itAt (.vals (l.map f)) i h = some ((l[i]?).map f) := by rw [itAt_vals, List.getElem?_map]
theorem iw_live {α : Type} {l : List α} {f : α → PV} {n : Nat} {fz : Bool} (e : h[n]? = some (.lst fz (l.map f))) (i : Nat) : itAt (.live n) i h = some ((l[i]?).map f) := by rw [itAt_live e, List.getElem?_map]
theorem iw_rng {lo : Int} {n : Nat} (i : Nat) : itAt (.rng lo n) i h = some (((List.range n)[i]?).map fun j : Nat => PV.int (lo + j)) := by
  rw [itAt_rng]
  by_cases q : i < n
  · rw [if_pos q, List.getElem?_range q]; rfl
  · rw [if_neg q, List.getElem?_eq_none (by rw [List.length_range]; omega)]; rfl
theorem iw_zip {α β : Type} {l : List α} {m : List β} {f : α → PV} {g : β → PV} (i : Nat) : itAt (.zip (.vals (l.map f)) (.vals (m.map g))) i h = some (((l.zip m)[i]?).map fun p => PV.tup [f p.1, g p.2]) := by
  unfold itAt
  rw [itAt_vals, itAt_vals, List.getElem?_map, List.getElem?_map, List.zip_eq_zipWith, List.getElem?_zipWith]
  cases l[i]? with
  | none => cases m[i]? <;> rfl
  | some a => cases m[i]? <;> rfl
/-! the statements' continuations -/
theorem Kasg_ap {t : Tg} {v : PV} : Kasg c ss r Q t v h = Wbd t v r fun r' => Wb c ss r' h Q := rfl
theorem Wbd_nm {i : Nat} {v : PV} {K : Env → Prop} : Wbd (.nm i) v r K = K (r.set i (some v)) := by unfold Wbd bindT; rfl
theorem bts_nil {r : Env} : bindTs [] [] r = some r := by unfold bindTs; rfl
theorem bts_cons {t : Tg} {ts : List Tg} {x : PV} {xs : List PV} {r : Env} : bindTs (t :: ts) (x :: xs) r = match bindT t x r with | some r' => bindTs ts xs r' | none => none := by (conv => lhs; unfold bindTs) <;> rfl
theorem bt_tup {ts : List Tg} {xs : List PV} {r : Env} : bindT (.tup ts) (.tup xs) r = bindTs ts xs r := by unfold bindT; rfl
def Wbds (ts : List Tg) (xs : List PV) (r : Env) (K : Env → Prop) : Prop := match bindTs ts xs r with | some r' => K r' | none => False
theorem Wbd_tup {ts : List Tg} {xs : List PV} {K : Env → Prop} : Wbd (.tup ts) (.tup xs) r K = Wbds ts xs r K := by unfold Wbd Wbds; rw [bt_tup]
theorem Wbds_nil {K : Env → Prop} : Wbds [] [] r K = K r := by unfold Wbds; rw [bts_nil]
theorem Wbds_cons {t : Tg} {ts : List Tg} {x : PV} {xs : List PV} {K : Env → Prop} : Wbds (t :: ts) (x :: xs) r K = Wbd t x r fun r => Wbds ts xs r K := by
  unfold Wbds Wbd
  rw [bts_cons]
  cases bindT t x r <;> rfl
theorem Kexp_ap {v : PV} : Kexp c ss r Q v h = Wb c ss r h Q := rfl
theorem Kret_ap {v : PV} : Kret Q v h = Q (.rt v h) := rfl
theorem Kseq_nx : Kseq c ss Q (.nx r h) = Wb c ss r h Q := rfl
theorem Kseq_rt {v : PV} : Kseq c ss Q (.rt v h) = Q (.rt v h) := rfl
theorem Kseq_bk : Kseq c ss Q (.bk r h) = Q (.bk r h) := rfl
theorem Kseq_ct : Kseq c ss Q (.ct r h) = Q (.ct r h) := rfl
theorem Kif_t {a b : List S} : Kif c ss r Q a b true h = Wb c a r h (Kseq c ss Q) := rfl
theorem Kif_f {a b : List S} : Kif c ss r Q a b false h = Wb c b r h (Kseq c ss Q) := rfl
theorem Kset_ap {o i : E} {v : PV} : Kset c ss r Q o i v h = We c o r h (Kset2 c ss r Q i v) := rfl
theorem Kset2_ap {i : E} {v x : PV} : Kset2 c ss r Q i v x h = We c i r h (Kset3 c ss r Q v x) := rfl
theorem Kset3_of {v x y : PV} {h' : PH} (e : setop x y v h = some h') : Kset3 c ss r Q v x y h = Wb c ss r h' Q := by unfold Kset3; rw [e]
theorem Kwhl_t {b : List S} {J : Env → PH → Prop} : Kwhl c ss r Q b J true h = Wb c b r h (Kfor c ss Q J) := rfl
theorem Kwhl_f {b : List S} {J : Env → PH → Prop} : Kwhl c ss r Q b J false h = Wb c ss r h Q := rfl
theorem Kfor_nx {J : Env → PH → Prop} : Kfor c ss Q J (.nx r h) = J r h := rfl
theorem Kfor_ct {J : Env → PH → Prop} : Kfor c ss Q J (.ct r h) = J r h := rfl
theorem Kfor_bk {J : Env → PH → Prop} : Kfor c ss Q J (.bk r h) = Wb c ss r h Q := rfl
theorem Kfor_rt {J : Env → PH → Prop} {v : PV} : Kfor c ss Q J (.rt v h) = Q (.rt v h) := rfl
theorem Kout_rt {n : Nat} {K : KV} {v : PV} : Kout n K (.rt v h) = K v (gc n v h) := rfl
theorem Kout_nx {n : Nat} {K : KV} : Kout n K (.nx r h) = K .non (gc n .non h) := rfl
end
/-! ### calls -/
theorem Wc_def {P : Prog} {k f : Nat} {vs : List PV} {h : PH} {K : KV} {d : FD} (hd : P.defs f = some d) (hl : vs.length = d.np) (hk : 1 ≤ k)
    (q : Wb (P.cc (k - 1)) d.body (vs.map some ++ List.replicate (d.ns - d.np) none) h (Kout h.length K)) : Wc (P.cc k) f vs h K := by
  obtain ⟨j, rfl⟩ : ∃ j, k = j + 1 := ⟨k - 1, by omega⟩
  unfold Wc
  show Wr (callF P (j + 1) f vs h) K
  rw [callF_def hd hl]
  unfold Wb at q
  revert q
  show Wz (Kout h.length K) (exB (P.cc j) d.body _ h) → _
  cases exB (P.cc j) d.body (vs.map some ++ List.replicate (d.ns - d.np) none) h <;> exact id
/-- a call's word, one and the same -/
theorem Wc_eq {c : Cc} {f : Nat} {vs : List PV} {h h0 : PH} {v : PV} (q : Wc c f vs h fun v' h' => v' = v ∧ h' = h0) (K : KV) : Wc c f vs h K = K v h0 := by
  unfold Wc at q ⊢
  revert q
  cases c.call f vs h with
  | ok a h1 => rintro ⟨rfl, rfl⟩; rfl
  | ex k v h => exact fun z => z.elim
  | no => exact fun z => z.elim
theorem Wc_mono {c : Cc} {f : Nat} {vs : List PV} {h : PH} {K K' : KV} (q : Wc c f vs h K) (m : ∀ v h', K v h' → K' v h') : Wc c f vs h K' := by
  unfold Wc at q ⊢
  revert q
  cases c.call f vs h with
  | ok a h1 => exact m a h1
  | ex k v h => exact id
  | no => exact id
theorem We_mono {c : Cc} {e : E} {r : Env} {h : PH} {K K' : KV} (q : We c e r h K) (m : ∀ v h', K v h' → K' v h') : We c e r h K' := by
  unfold We at q ⊢
  revert q
  cases evE c e r h with
  | ok a h1 => exact m a h1
  | ex k v h => exact id
  | no => exact id
/-! ### the heap -/
theorem hp_get {h g : PH} {i : Nat} : (h ++ g)[h.length + i]? = g[i]? := by rw [List.getElem?_append_right (by omega)]; congr 1; omega
theorem hp_get0 {h g : PH} : (h ++ g)[h.length]? = g[0]? := hp_get (i := 0)
theorem hp_set {h g : PH} {i : Nat} {o : PO} : (h ++ g).set (h.length + i) o = h ++ g.set i o := by rw [List.set_append_right _ _ (by omega)]; congr 2; omega
theorem hp_set0 {h g : PH} {o : PO} : (h ++ g).set h.length o = h ++ g.set 0 o := hp_set (i := 0)
/-! no object in it -/
mutual
def PV.flat : PV → Bool
  | .obj _ => false
  | .tup xs => flatL xs
  | _ => true
def flatL : List PV → Bool
  | [] => true
  | x :: xs => x.flat && flatL xs
end
mutual
theorem PV.flat_old {n : Nat} : ∀ v : PV, v.flat = true → v.old n = true
  | .obj a, h => by unfold PV.flat at h; cases h
  | .tup xs, h => by unfold PV.flat at h; unfold PV.old; exact flatL_old xs h
  | .non, _ => rfl
  | .bl _, _ => rfl
  | .int _, _ => rfl
  | .str _, _ => rfl
theorem flatL_old {n : Nat} : ∀ xs : List PV, flatL xs = true → oldL n xs = true
  | [], _ => rfl
  | x :: xs, h => by
    unfold flatL at h
    unfold oldL
    rw [Bool.and_eq_true] at h ⊢
    exact ⟨PV.flat_old x h.1, flatL_old xs h.2⟩
end
theorem flatL_map {α : Type} {l : List α} {f : α → PV} (hf : ∀ a ∈ l, (f a).flat = true) : flatL (l.map f) = true := by
  induction l with
  | nil => rfl
  | cons a l ih =>
    show ((f a).flat && flatL (l.map f)) = true
    rw [hf a List.mem_cons_self, ih fun b hb => hf b (List.mem_cons_of_mem _ hb)]; rfl
theorem gc_flat {v : PV} {h g : PH} (c : Cl h) (hv : v.flat = true) : gc h.length v (h ++ g) = h := gc_app c (PV.flat_old v hv)
theorem Cl.lst {h : PH} {xs : List PV} {fz : Bool} (c : Cl h) (hx : flatL xs = true) : Cl (h ++ [.lst fz xs]) := c.app (by
  rw [List.all_cons, List.all_nil, Bool.and_true]
  exact flatL_old xs hx)
end EV
end
section
set_option Elab.async false
set_option linter.all false
set_option maxRecDepth 100000
/-! EvMem: in and index over lists of data. -/
namespace EV
open PySem
theorem optAll_map {α β γ : Type} {f : α → β} {t : β → Option γ} {d : α → γ} (hd : ∀ a, t (f a) = some (d a)) : ∀ l : List α, optAll t (l.map f) = some (l.map d)
  | [] => rfl
  | a :: l => by
    simp only [List.map_cons, optAll, hd a, optAll_map hd l]
/-- values that stand for things by data -/
structure Dat {α : Type} [DecidableEq α] (f : α → PV) (d : α → PyData) (n : Nat) : Prop where
  toD : ∀ (h : PH) (m : Nat) (a : α), n ≤ m → EV.toD h m (f a) = some (d a)
  eqv : ∀ a b : α, PyData.eqv (d a) (d b) = decide (a = b)
section
variable {α : Type} [DecidableEq α] {f : α → PV} {d : α → PyData} {N n : Nat} {h : PH} {fz : Bool} {l : List α} {x : α}
theorem toD_lst (D : Dat f d N) (hN : N ≤ 59) (e : h[n]? = some (.lst fz (l.map f))) : toD h 60 (.obj n) = some (.list (l.map d)) := by
  show (match h[n]? with | some (.lst _ xs) => (match optAll (toD h 59) xs with | none => none | some ds => some (PyData.list ds)) | _ => none) = _
  rw [e]
  simp only [optAll_map (fun a => D.toD h 59 a hN)]
theorem isIn_lst (D : Dat f d N) (hN : N ≤ 59) (e : h[n]? = some (.lst fz (l.map f))) : isIn h (f x) (.obj n) = some (decide (x ∈ l)) := by
  unfold isIn
  simp only [e, toD_lst D hN e, D.toD h 60 x (by omega)]
  congr 1
  rw [List.any_map, Bool.eq_iff_iff, List.any_eq_true, decide_eq_true_iff]
  constructor
  · rintro ⟨a, ha, e⟩
    have e : PyData.eqv (d a) (d x) = true := e
    rw [D.eqv] at e
    rw [← of_decide_eq_true e]; exact ha
  · intro hx
    exact ⟨x, hx, by show PyData.eqv (d x) (d x) = true; rw [D.eqv]; exact decide_eq_true rfl⟩
theorem index_lst (D : Dat f d N) (hN : N ≤ 59) (e : h[n]? = some (.lst fz (l.map f))) (hx : x ∈ l) : ∃ i : Nat, l[i]? = some x ∧ mtop .index (.obj n) [f x] h = .ok (.int (i : Int)) h := by
  have hf : ∃ i, (l.map d).findIdx? (fun z => PyData.eqv z (d x)) = some i ∧ l[i]? = some x := by
    cases q : (l.map d).findIdx? (fun z => PyData.eqv z (d x)) with
    | none =>
      have := List.findIdx?_eq_none_iff.mp q (d x) (List.mem_map.mpr ⟨x, hx, rfl⟩)
      rw [D.eqv] at this
      simp at this
    | some i =>
      obtain ⟨hi, h1, _⟩ := List.findIdx?_eq_some_iff_getElem.mp q
      refine ⟨i, rfl, ?_⟩
      rw [List.getElem_map, D.eqv] at h1
      rw [List.length_map] at hi
      rw [List.getElem?_eq_getElem hi, of_decide_eq_true h1]
  obtain ⟨i, h1, h2⟩ := hf
  refine ⟨i, h2, ?_⟩
  unfold mtop
  simp only [e, toD_lst D hN e, D.toD h 60 x (by omega), h1]
end
theorem dat_nat : Dat (fun n : Nat => PV.int (n : Int)) (fun n => .int n) 0 := ⟨fun h m a _ => by cases m <;> rfl, fun a b => by
  rw [eqv_ii]
  by_cases q : a = b <;> simp [q]
  omega⟩
theorem eqv_pair {a b c d : Int} : PyData.eqv (.tuple [.int a, .int b]) (.tuple [.int c, .int d]) = (decide (a = c) && decide (b = d)) := by
  show (PyData.eqv (.int a) (.int c) && (PyData.eqv (.int b) (.int d) && true)) = _
  rw [eqv_ii, eqv_ii, Bool.and_true]
theorem dat_pair : Dat (fun p : Nat × Nat => PV.tup [.int (p.1 : Int), .int (p.2 : Int)]) (fun p => .tuple [.int p.1, .int p.2]) 1 := ⟨fun h m a hm => by
  obtain ⟨j, rfl⟩ : ∃ j, m = j + 1 := ⟨m - 1, by omega⟩
  have e : ∀ i : Int, toD h j (.int i) = some (.int i) := fun i => by cases j <;> rfl
  simp only [toD, optAll, e], fun a b => by
  rw [eqv_pair]
  by_cases q : a = b
  · subst q; simp
  · have : ¬ (a.1 = b.1 ∧ a.2 = b.2) := fun z => q (Prod.ext z.1 z.2)
    rw [decide_eq_false q]
    by_cases q1 : a.1 = b.1
    · have q2 : ¬ (a.2 : Int) = b.2 := fun z => this ⟨q1, by omega⟩
      rw [decide_eq_false q2, Bool.and_false]
    · have q2 : ¬ (a.1 : Int) = b.1 := fun z => q1 (by omega)
      rw [decide_eq_false q2, Bool.false_and]⟩
/-- a method's call where the object is what it should be -/
theorem Kmt_idx {c : Cc} {r : Env} {h : PH} {K : KV} {es : List E} {n : Nat} {fz : Bool} {xs : List PV} (e : h[n]? = some (.lst fz xs)) : Kmt c r K .index es (.obj n) h = Wl c es r h (Kmt2 K .index (.obj n)) := by
  unfold Kmt mtTy
  simp only [e, true_and]
theorem Kmt2_of {m : Mt} {x : PV} {vs : List PV} {h h' : PH} {K : KV} {v : PV} (e : mtop m x vs h = .ok v h') : Kmt2 K m x vs h = K v h' := by
  unfold Kmt2
  rw [e]; rfl
/-! repetition -/
def itf (f : Nat → Nat) : Nat → Nat → Nat
  | 0, s => s
  | i + 1, s => f (itf f i s)
theorem itf_add (f : Nat → Nat) (i j s : Nat) : itf f (i + j) s = itf f i (itf f j s) := by
  induction i with
  | zero => simp [itf]
  | succ i ih => rw [Nat.succ_add]; show f _ = f _; rw [ih]
theorem itf_lt {f : Nat → Nat} {M : Nat} (hf : ∀ s, s < M → f s < M) : ∀ i s, s < M → itf f i s < M
  | 0, s, h => h
  | i + 1, s, h => hf _ (itf_lt hf i s h)
theorem itf_mod {f : Nat → Nat} {s t p : Nat} (hp : 0 < p) (e : itf f (t + p) s = itf f t s) : ∀ n, itf f (t + n) s = itf f (t + n % p) s := by
  intro n
  induction n using Nat.strongRecOn with
  | _ n ih =>
    by_cases h : n < p
    · rw [Nat.mod_eq_of_lt h]
    · have hn : n = (n - p) + p := by omega
      have e1 : itf f (t + n) s = itf f (t + (n - p)) s := by
        have : t + n = (n - p) + (t + p) := by omega
        rw [this, itf_add, e, ← itf_add]
        congr 1; omega
      rw [e1, ih (n - p) (by omega)]
      congr 2
      conv => rhs; rw [hn, Nat.add_mod_right]
theorem pigeon : ∀ (M : Nat) (l : List Nat), l.Nodup → (∀ x ∈ l, x < M) → l.length ≤ M
  | 0, l, _, h => by
    cases l with
    | nil => exact Nat.le_refl _
    | cons x l => exact absurd (h x List.mem_cons_self) (Nat.not_lt_zero _)
  | M + 1, l, nd, h => by
    by_cases hm : M ∈ l
    · have := pigeon M (l.erase M) (nd.erase M) fun x hx => by
        rw [List.Nodup.mem_erase_iff nd] at hx
        have := h x hx.2
        omega
      rw [List.length_erase_of_mem hm] at this
      omega
    · have := pigeon M l nd fun x hx => by
        have := h x hx
        have hne : x ≠ M := fun e => hm (by rw [← e]; exact hx)
        omega
      omega
def orb (f : Nat → Nat) (j : Nat) : List Nat := (List.range j).map fun i => itf f i 0
theorem orb_get {f : Nat → Nat} {j i : Nat} (h : i < j) : (orb f j)[i]? = some (itf f i 0) := by unfold orb; rw [List.getElem?_map, List.getElem?_range h]; rfl
theorem orb_succ {f : Nat → Nat} {j : Nat} : orb f (j + 1) = orb f j ++ [itf f j 0] := by unfold orb; rw [List.range_succ, List.map_append]; rfl
theorem orb_len {f : Nat → Nat} {j : Nat} : (orb f j).length = j := by unfold orb; rw [List.length_map, List.length_range]
end EV
end
section
set_option Elab.async false
set_option linter.all false
set_option maxRecDepth 100000
/-! EvKey: dicts by their keys. -/
namespace EV
open PySem
section
variable {α κ : Type} [DecidableEq κ] {key : α → κ} {val : α → PV} {l : List α} {x : α} {k : κ} {v : PV}
theorem look_on (hx : x ∈ l) (inj : ∀ a ∈ l, key a = key x → val a = val x) : look (key x) (l.map fun a => (key a, val a)) = some (val x) := by
  induction l with
  | nil => cases hx
  | cons a l ih =>
    simp only [List.map_cons, look]
    by_cases q : key a = key x
    · rw [if_pos q, inj a List.mem_cons_self q]
    · rw [if_neg q]
      refine ih ?_ fun b hb => inj b (List.mem_cons_of_mem _ hb)
      rcases List.mem_cons.mp hx with e | e
      · exact absurd (by rw [e]) q
      · exact e
theorem look_no (h : ∀ a ∈ l, key a ≠ k) : look k (l.map fun a => (key a, val a)) = none := by
  induction l with
  | nil => rfl
  | cons a l ih =>
    simp only [List.map_cons, look]
    rw [if_neg (h a List.mem_cons_self)]
    exact ih fun b hb => h b (List.mem_cons_of_mem _ hb)
theorem put_no (h : ∀ a ∈ l, key a ≠ k) : put k v (l.map fun a => (key a, val a)) = (l.map fun a => (key a, val a)) ++ [(k, v)] := by
  unfold put
  rw [if_neg]
  intro z
  rw [List.any_map, List.any_eq_true] at z
  obtain ⟨a, ha, e⟩ := z
  exact h a ha (of_decide_eq_true e)
end
theorem isIn_dK {h : PH} {n : Nat} {kvs : List (L2.Key × PV)} {x : PV} {k : L2.Key} (e : h[n]? = some (.dK kvs)) (hk : toKey x = some k) : isIn h x (.obj n) = some (look k kvs).isSome := by unfold isIn; simp only [e, hk]; rfl
theorem isIn_dT {h : PH} {n : Nat} {kvs : List (List L2.Key × PV)} {x : PV} {k : List L2.Key} (e : h[n]? = some (.dT kvs)) (hk : toTK x = some k) : isIn h x (.obj n) = some (look k kvs).isSome := by unfold isIn; simp only [e, hk]; rfl
theorem setop_dK {h : PH} {n : Nat} {kvs : List (L2.Key × PV)} {x v : PV} {k : L2.Key} (e : h[n]? = some (.dK kvs)) (hk : toKey x = some k) (hl : kvs.length < 16777216) : setop (.obj n) x v h = some (h.set n (.dK (put k v kvs))) := by
  unfold setop
  have hz : kvs.length < sizeLine := by rw [sizeLine_eq]; exact hl
  cases x with
  | int i => simp only [e, hk, Option.bind_some, if_pos hz]
  | _ => first | (simp only [e, hk, Option.bind_some, if_pos hz]; done) | cases hk
theorem setop_dT {h : PH} {n : Nat} {kvs : List (List L2.Key × PV)} {x v : PV} {k : List L2.Key} (e : h[n]? = some (.dT kvs)) (hk : toTK x = some k) (hl : kvs.length < 16777216) : setop (.obj n) x v h = some (h.set n (.dT (put k v kvs))) := by
  unfold setop
  have hz : kvs.length < sizeLine := by rw [sizeLine_eq]; exact hl
  cases x with
  | tup i => simp only [e, hk, Option.bind_some, if_pos hz]
  | _ => cases hk
def keyN (n : Nat) : L2.Key := .inl (n : Int)
def keyP (p : Nat × Nat) : List L2.Key := [.inl (p.1 : Int), .inl (p.2 : Int)]
theorem toKey_n {n : Nat} : toKey (.int (n : Int)) = some (keyN n) := rfl
theorem toTK_p {p : Nat × Nat} : toTK (.tup [.int (p.1 : Int), .int (p.2 : Int)]) = some (keyP p) := rfl
theorem keyN_inj {m n : Nat} (e : keyN m = keyN n) : m = n := by have := Sum.inl.inj e; omega
theorem keyP_inj {p q : Nat × Nat} (e : keyP p = keyP q) : p = q := by
  unfold keyP at e
  rw [List.cons.injEq, List.cons.injEq] at e
  have h1 := Sum.inl.inj e.1
  have h2 := Sum.inl.inj e.2.1
  exact Prod.ext (by omega) (by omega)
theorem We_compD {c : Cc} {r : Env} {h : PH} {K : KV} {elt cond : E} {t : Tg} {i n : Nat} {own : List Nat} {kvs : List (L2.Key × PV)} (hr : r[i]? = some (some (.obj n))) (hh : h[n]? = some (.dK kvs))
    (q : Klp c r elt t cond own (fun acc h2 => ∃ h3, unlockD n h2 = some h3 ∧ Knl K acc h3) (.keys (kvs.map (·.1))) (h.set n (.lkd kvs))) : We c (.compD elt t i cond own) r h K := by
  unfold We evE
  simp only [hr, lockD, hh]
  unfold newListD
  rw [Wr_bnd]
  unfold Klp at q
  revert q
  generalize loopIt _ _ _ _ _ _ _ _ = z
  cases z with
  | ex k v h => exact fun q => q.elim
  | no => exact fun q => q.elim
  | ok ys h2 =>
    rintro ⟨h3, e, q⟩
    show Wr (match unlockD n h2 with | some h => _ | none => _) K
    rw [e]
    exact q
theorem intsOf_nat : ∀ l : List Nat, intsOf (l.map fun n : Nat => PV.int (n : Int)) = some (l.map fun n : Nat => (n : Int))
  | [] => rfl
  | n :: l => by simp only [List.map_cons, intsOf, intsOf_nat l]; rfl
theorem conop_min {h : PH} {a : Nat} {l : List Nat} (hl : ∀ b ∈ l, a ≤ b) : conop .min ((a :: l).map fun n : Nat => PV.int (n : Int)) h = .ok (.int a) h := by
  unfold conop
  rw [intsOf_nat]
  simp only [List.map_cons]
  have : ∀ l : List Nat, (∀ b ∈ l, a ≤ b) → (l.map fun n : Nat => (n : Int)).foldl min (a : Int) = a := by
    intro l
    induction l with
    | nil => intro _; rfl
    | cons b l ih =>
      intro h
      have h1 := h b List.mem_cons_self
      simp only [List.map_cons, List.foldl_cons]
      rw [show min (a : Int) (b : Int) = a by omega]
      exact ih fun c hc => h c (List.mem_cons_of_mem _ hc)
  rw [this l hl]
theorem iw_keys {h : PH} {α : Type} {l : List α} {f : α → L2.Key} (i : Nat) : itAt (.keys (l.map f)) i h = some ((l[i]?).map fun a => ofKey (f a)) := by
  unfold itAt
  rw [List.getElem?_map]
  cases l[i]? <;> rfl
theorem Kfors_live {c : Cc} {ss : List S} {r : Env} {h : PH} {Q : Rt → Prop} {α : Type} {t : Tg} {b : List S} {l : List α} {f : α → PV} {n : Nat} (I : List α → Env → PH → Prop) (hN : l.length < c.fuel) (h0 : I [] r h)
    (hlive : ∀ pre r h, I pre r h → ∃ fz, h[n]? = some (.lst fz (l.map f)))
    (hstep : ∀ pre a post r h, l = pre ++ a :: post → I pre r h → Wbd t (f a) r fun r1 => Wb c b r1 h (Kfor c ss Q (I (pre ++ [a])))) (hend : ∀ r h, I l r h → Wb c ss r h Q) : Kfors c ss r Q t b (.live n) h := by
  refine Kfors_run (N := l.length) (fun i => I (l.take i)) hN (by rw [List.take_zero]; exact h0) (fun i r h hi hI => ?_) fun r h hI => ?_
  · obtain ⟨fz, e⟩ := hlive _ r h hI
    refine ⟨f l[i], by rw [iw_live e, List.getElem?_eq_getElem hi]; rfl, ?_⟩
    have e2 : l = l.take i ++ l[i] :: l.drop (i + 1) := by rw [List.getElem_cons_drop, List.take_append_drop]
    have := hstep (l.take i) l[i] _ r h e2 hI
    rw [List.take_append_getElem] at this
    exact this
  · obtain ⟨fz, e⟩ := hlive _ r h hI
    exact ⟨by rw [iw_live e]; simp, hend r h (by rw [List.take_length] at hI; exact hI)⟩
theorem Kbin2_catO {h : PH} {K : KV} {a b : Nat} {xs ys : List PV} (ha : h[a]? = some (.lst false xs)) (hb : h[b]? = some (.lst false ys)) (hl : xs.length + ys.length ≤ 16777216) : Kbin2 K .add (.obj a) (.obj b) h = K (.obj h.length) (h ++ [.lst false (xs ++ ys)]) := by
  unfold Kbin2 binop
  simp only [ha, hb]
  rw [if_pos (by rw [sizeLine_eq]; exact hl)]; rfl
theorem Kset3_dT {c : Cc} {ss : List S} {r : Env} {h : PH} {Q : Rt → Prop} {n : Nat} {kvs : List (List L2.Key × PV)} {x v : PV} {k : List L2.Key} (e : h[n]? = some (.dT kvs)) (hk : toTK x = some k) (hl : kvs.length < 16777216) : Kset3 c ss r Q v (.obj n) x h = Wb c ss r (h.set n (.dT (put k v kvs))) Q := Kset3_of (setop_dT e hk hl)
theorem Kset3_dK {c : Cc} {ss : List S} {r : Env} {h : PH} {Q : Rt → Prop} {n : Nat} {kvs : List (L2.Key × PV)} {x v : PV} {k : L2.Key} (e : h[n]? = some (.dK kvs)) (hk : toKey x = some k) (hl : kvs.length < 16777216) : Kset3 c ss r Q v (.obj n) x h = Wb c ss r (h.set n (.dK (put k v kvs))) Q := Kset3_of (setop_dK e hk hl)
def Wcat (K : KV) (h : PH) (o o2 : Option PO) : Prop := match o, o2 with
  | some (.lst false xs), some (.lst false ys) => xs.length + ys.length ≤ 16777216 ∧ K (.obj h.length) (h ++ [.lst false (xs ++ ys)])
  | _, _ => False
theorem Kbin2_catW {h : PH} {K : KV} {a b : Nat} : Kbin2 K .add (.obj a) (.obj b) h = Wcat K h h[a]? h[b]? := by
  unfold Kbin2 binop Wcat
  simp only
  generalize h[a]? = x
  generalize h[b]? = y
  rcases x with _ | (⟨fz, xs⟩ | kvs | kvs | kvs) <;> try rfl
  cases fz <;> try rfl
  rcases y with _ | (⟨fz, ys⟩ | kvs | kvs | kvs) <;> try rfl
  cases fz <;> try rfl
  simp only
  rw [sizeLine_eq]
  by_cases q : xs.length + ys.length ≤ 16777216
  · rw [if_pos q]; exact propext ⟨fun z => ⟨q, z⟩, fun z => z.2⟩
  · rw [if_neg q]; exact propext ⟨fun z => z.elim, fun z => q z.1⟩
theorem Wcat_ap {h : PH} {K : KV} {xs ys : List PV} (hl : xs.length + ys.length ≤ 16777216) : Wcat K h (some (.lst false xs)) (some (.lst false ys)) = K (.obj h.length) (h ++ [.lst false (xs ++ ys)]) := by
  unfold Wcat
  simp only [hl, true_and]
theorem Kset3_lst {c : Cc} {ss : List S} {r : Env} {h : PH} {Q : Rt → Prop} {n : Nat} {xs : List PV} {i : Nat} {v : PV} (e : h[n]? = some (.lst false xs)) (hi : i < xs.length) : Kset3 c ss r Q v (.obj n) (.int (i : Int)) h = Wb c ss r (h.set n (.lst false (xs.set i v))) Q := by
  refine Kset3_of ?_
  unfold setop
  simp only [e]
  have : L2.ixN xs.length (i : Int) = some i := by
    unfold L2.ixN
    rw [if_pos (by omega), if_pos (by omega)]
    rfl
  rw [this]; rfl
theorem eqv_nil {l : List PyData} : PyData.eqv (.list l) (.list []) = l.isEmpty := by cases l <;> rfl
theorem Kne_nil {α : Type} [DecidableEq α] {f : α → PV} {d : α → PyData} {N a b : Nat} {h : PH} {fz fz2 : Bool} {l : List α} {K : KV} (D : Dat f d N) (hN : N ≤ 59) (e : h[a]? = some (.lst fz (l.map f))) (e2 : h[b]? = some (.lst fz2 [])) : Kcmp2 K .ne (.obj a) (.obj b) h = K (.bl (!l.isEmpty)) h := by
  unfold Kcmp2
  have : cmpop .ne (.obj a) (.obj b) h = some (!l.isEmpty) := by
    show (pyEq h (.obj a) (.obj b)).map (!·) = _
    unfold pyEq
    have h2 : toD h 60 (.obj b) = some (.list []) := by
      show (match h[b]? with | some (.lst _ xs) => (match optAll (toD h 59) xs with | none => none | some ds => some (PyData.list ds)) | _ => none) = _
      rw [e2]; rfl
    rw [toD_lst D hN e, h2]
    simp only [eqv_nil]
    cases l <;> rfl
  rw [this]; rfl
theorem Keq_nil {α : Type} [DecidableEq α] {f : α → PV} {d : α → PyData} {N a b : Nat} {h : PH} {fz fz2 : Bool} {l : List α} {K : KV} (D : Dat f d N) (hN : N ≤ 59) (e : h[a]? = some (.lst fz (l.map f))) (e2 : h[b]? = some (.lst fz2 [])) : Kcmp2 K .eq (.obj a) (.obj b) h = K (.bl l.isEmpty) h := by
  unfold Kcmp2
  have : cmpop .eq (.obj a) (.obj b) h = some l.isEmpty := by
    show pyEq h (.obj a) (.obj b) = _
    unfold pyEq
    have h2 : toD h 60 (.obj b) = some (.list []) := by
      show (match h[b]? with | some (.lst _ xs) => (match optAll (toD h 59) xs with | none => none | some ds => some (PyData.list ds)) | _ => none) = _
      rw [e2]; rfl
    rw [toD_lst D hN e, h2]
    simp only [eqv_nil]
    cases l <;> rfl
  rw [this]; rfl
end EV
end
section
set_option Elab.async false
set_option linter.all false
set_option maxRecDepth 100000
namespace Lw
open PySem EV
abbrev P := S.prog
theorem fuelE {k : Nat} : (P.cc k).fuel = 1000000000 := rfl
theorem g0 {k : Nat} : (P.cc k).glb 0 = some (.int 4) := rfl
theorem g1 {k : Nat} : (P.cc k).glb 1 = some (.int 9) := rfl
theorem g2 {k : Nat} : (P.cc k).glb 2 = some (.int 60) := rfl
theorem g3 {k : Nat} : (P.cc k).glb 3 = some (.int 200000) := rfl
theorem g4 {k : Nat} : (P.cc k).glb 4 = some (.int 1000000000000000000) := rfl
theorem g5 {k : Nat} : (P.cc k).glb 5 = some (.int 20) := rfl
theorem g6 {k : Nat} : (P.cc k).glb 6 = some (.int 1000000000000000000) := rfl
theorem g7 {k : Nat} : (P.cc k).glb 7 = some (.int 10000000000000000000000000000000000000000) := rfl
theorem g8 {k : Nat} : (P.cc k).glb 8 = some (.int 200) := rfl
/-- is_integer -/
theorem w0 {a0 : PV} {h : PH} {K : KV} {k : Nat} (hk : 1 ≤ k) (q : Wb (P.cc (k - 1)) b0 [some a0] h (Kout h.length K)) : Wc (P.cc k) 0 [a0] h K := Wc_def p0 rfl hk q
/-- is_within -/
theorem w1 {a0 a1 a2 : PV} {h : PH} {K : KV} {k : Nat} (hk : 1 ≤ k) (q : Wb (P.cc (k - 1)) b1 [some a0, some a1, some a2] h (Kout h.length K)) : Wc (P.cc k) 1 [a0, a1, a2] h K := Wc_def p1 rfl hk q
/-- is_step -/
theorem w2 {a0 a1 a2 : PV} {h : PH} {K : KV} {k : Nat} (hk : 1 ≤ k) (q : Wb (P.cc (k - 1)) b2 [some a0, some a1, some a2] h (Kout h.length K)) : Wc (P.cc k) 2 [a0, a1, a2] h K := Wc_def p2 rfl hk q
/-- need_row -/
theorem w3 {a0 a1 : PV} {h : PH} {K : KV} {k : Nat} (hk : 1 ≤ k) (q : Wb (P.cc (k - 1)) b3 [some a0, some a1, none, none, none] h (Kout h.length K)) : Wc (P.cc k) 3 [a0, a1] h K := Wc_def p3 rfl hk q
/-- need_box -/
theorem w4 {a0 : PV} {h : PH} {K : KV} {k : Nat} (hk : 1 ≤ k) (q : Wb (P.cc (k - 1)) b4 [some a0, none] h (Kout h.length K)) : Wc (P.cc k) 4 [a0] h K := Wc_def p4 rfl hk q
/-- need_state -/
theorem w5 {a0 a1 : PV} {h : PH} {K : KV} {k : Nat} (hk : 1 ≤ k) (q : Wb (P.cc (k - 1)) b5 [some a0, some a1] h (Kout h.length K)) : Wc (P.cc k) 5 [a0, a1] h K := Wc_def p5 rfl hk q
/-- need_word_of -/
theorem w6 {a0 a1 : PV} {h : PH} {K : KV} {k : Nat} (hk : 1 ≤ k) (q : Wb (P.cc (k - 1)) b6 [some a0, some a1, none, none] h (Kout h.length K)) : Wc (P.cc k) 6 [a0, a1] h K := Wc_def p6 rfl hk q
/-- way_of -/
theorem w7 {a0 a1 a2 : PV} {h : PH} {K : KV} {k : Nat} (hk : 1 ≤ k) (q : Wb (P.cc (k - 1)) b7 [some a0, some a1, some a2, none, none, none, none] h (Kout h.length K)) : Wc (P.cc k) 7 [a0, a1, a2] h K := Wc_def p7 rfl hk q
/-- need_asked -/
theorem w8 {a0 a1 a2 : PV} {h : PH} {K : KV} {k : Nat} (hk : 1 ≤ k) (q : Wb (P.cc (k - 1)) b8 [some a0, some a1, some a2] h (Kout h.length K)) : Wc (P.cc k) 8 [a0, a1, a2] h K := Wc_def p8 rfl hk q
/-- answers_of -/
theorem w9 {a0 a1 : PV} {h : PH} {K : KV} {k : Nat} (hk : 1 ≤ k) (q : Wb (P.cc (k - 1)) b9 [some a0, some a1] h (Kout h.length K)) : Wc (P.cc k) 9 [a0, a1] h K := Wc_def p9 rfl hk q
/-- answers_from -/
theorem w10 {a0 a1 a2 : PV} {h : PH} {K : KV} {k : Nat} (hk : 1 ≤ k) (q : Wb (P.cc (k - 1)) b10 [some a0, some a1, some a2] h (Kout h.length K)) : Wc (P.cc k) 10 [a0, a1, a2] h K := Wc_def p10 rfl hk q
/-- end_behind -/
theorem w11 {a0 a1 a2 : PV} {h : PH} {K : KV} {k : Nat} (hk : 1 ≤ k) (q : Wb (P.cc (k - 1)) b11 [some a0, some a1, some a2, none, none, none] h (Kout h.length K)) : Wc (P.cc k) 11 [a0, a1, a2] h K := Wc_def p11 rfl hk q
/-- outer_fault -/
theorem w12 {a0 : PV} {h : PH} {K : KV} {k : Nat} (hk : 1 ≤ k) (q : Wb (P.cc (k - 1)) b12 [some a0] h (Kout h.length K)) : Wc (P.cc k) 12 [a0] h K := Wc_def p12 rfl hk q
/-- steps_fault -/
theorem w13 {a0 a1 : PV} {h : PH} {K : KV} {k : Nat} (hk : 1 ≤ k) (q : Wb (P.cc (k - 1)) b13 [some a0, some a1, none, none, none] h (Kout h.length K)) : Wc (P.cc k) 13 [a0, a1] h K := Wc_def p13 rfl hk q
/-- is_out -/
theorem w14 {a0 a1 : PV} {h : PH} {K : KV} {k : Nat} (hk : 1 ≤ k) (q : Wb (P.cc (k - 1)) b14 [some a0, some a1] h (Kout h.length K)) : Wc (P.cc k) 14 [a0, a1] h K := Wc_def p14 rfl hk q
/-- clock_fault -/
theorem w15 {a0 : PV} {h : PH} {K : KV} {k : Nat} (hk : 1 ≤ k) (q : Wb (P.cc (k - 1)) b15 [some a0, none, none, none] h (Kout h.length K)) : Wc (P.cc k) 15 [a0] h K := Wc_def p15 rfl hk q
/-- need_clock -/
theorem w16 {a0 : PV} {h : PH} {K : KV} {k : Nat} (hk : 1 ≤ k) (q : Wb (P.cc (k - 1)) b16 [some a0, none] h (Kout h.length K)) : Wc (P.cc k) 16 [a0] h K := Wc_def p16 rfl hk q
/-- need_clock_state -/
theorem w17 {a0 a1 : PV} {h : PH} {K : KV} {k : Nat} (hk : 1 ≤ k) (q : Wb (P.cc (k - 1)) b17 [some a0, some a1] h (Kout h.length K)) : Wc (P.cc k) 17 [a0, a1] h K := Wc_def p17 rfl hk q
/-- need_clock_input -/
theorem w18 {a0 a1 : PV} {h : PH} {K : KV} {k : Nat} (hk : 1 ≤ k) (q : Wb (P.cc (k - 1)) b18 [some a0, some a1] h (Kout h.length K)) : Wc (P.cc k) 18 [a0, a1] h K := Wc_def p18 rfl hk q
/-- need_timed -/
theorem w19 {a0 a1 : PV} {h : PH} {K : KV} {k : Nat} (hk : 1 ≤ k) (q : Wb (P.cc (k - 1)) b19 [some a0, some a1, none, none] h (Kout h.length K)) : Wc (P.cc k) 19 [a0, a1] h K := Wc_def p19 rfl hk q
/-- stay_of -/
theorem w20 {a0 a1 : PV} {h : PH} {K : KV} {k : Nat} (hk : 1 ≤ k) (q : Wb (P.cc (k - 1)) b20 [some a0, some a1, none] h (Kout h.length K)) : Wc (P.cc k) 20 [a0, a1] h K := Wc_def p20 rfl hk q
/-- course_of -/
theorem w21 {a0 a1 : PV} {h : PH} {K : KV} {k : Nat} (hk : 1 ≤ k) (q : Wb (P.cc (k - 1)) b21 [some a0, some a1, none, none, none, none] h (Kout h.length K)) : Wc (P.cc k) 21 [a0, a1] h K := Wc_def p21 rfl hk q
/-- round_of -/
theorem w22 {a0 a1 a2 : PV} {h : PH} {K : KV} {k : Nat} (hk : 1 ≤ k) (q : Wb (P.cc (k - 1)) b22 [some a0, some a1, some a2, none] h (Kout h.length K)) : Wc (P.cc k) 22 [a0, a1, a2] h K := Wc_def p22 rfl hk q
/-- stand_after -/
theorem w23 {a0 a1 a2 : PV} {h : PH} {K : KV} {k : Nat} (hk : 1 ≤ k) (q : Wb (P.cc (k - 1)) b23 [some a0, some a1, some a2, none, none, none, none, none] h (Kout h.length K)) : Wc (P.cc k) 23 [a0, a1, a2] h K := Wc_def p23 rfl hk q
/-- clock_stands -/
theorem w24 {a0 a1 a2 : PV} {h : PH} {K : KV} {k : Nat} (hk : 1 ≤ k) (q : Wb (P.cc (k - 1)) b24 [some a0, some a1, some a2] h (Kout h.length K)) : Wc (P.cc k) 24 [a0, a1, a2] h K := Wc_def p24 rfl hk q
/-- answers_timed -/
theorem w25 {a0 a1 : PV} {h : PH} {K : KV} {k : Nat} (hk : 1 ≤ k) (q : Wb (P.cc (k - 1)) b25 [some a0, some a1, none, none, none, none, none] h (Kout h.length K)) : Wc (P.cc k) 25 [a0, a1] h K := Wc_def p25 rfl hk q
/-- clock_answers -/
theorem w26 {a0 a1 : PV} {h : PH} {K : KV} {k : Nat} (hk : 1 ≤ k) (q : Wb (P.cc (k - 1)) b26 [some a0, some a1] h (Kout h.length K)) : Wc (P.cc k) 26 [a0, a1] h K := Wc_def p26 rfl hk q
/-- tick_of -/
theorem w27 {a0 a1 : PV} {h : PH} {K : KV} {k : Nat} (hk : 1 ≤ k) (q : Wb (P.cc (k - 1)) b27 [some a0, some a1, none] h (Kout h.length K)) : Wc (P.cc k) 27 [a0, a1] h K := Wc_def p27 rfl hk q
/-- ticked_rows -/
theorem w28 {a0 : PV} {h : PH} {K : KV} {k : Nat} (hk : 1 ≤ k) (q : Wb (P.cc (k - 1)) b28 [some a0, none, none, none, none, none, none, none, none] h (Kout h.length K)) : Wc (P.cc k) 28 [a0] h K := Wc_def p28 rfl hk q
/-- ticked_box -/
theorem w29 {a0 : PV} {h : PH} {K : KV} {k : Nat} (hk : 1 ≤ k) (q : Wb (P.cc (k - 1)) b29 [some a0] h (Kout h.length K)) : Wc (P.cc k) 29 [a0] h K := Wc_def p29 rfl hk q
/-- first_wait -/
theorem w30 {a0 a1 a2 a3 : PV} {h : PH} {K : KV} {k : Nat} (hk : 1 ≤ k) (q : Wb (P.cc (k - 1)) b30 [some a0, some a1, some a2, some a3, none, none, none] h (Kout h.length K)) : Wc (P.cc k) 30 [a0, a1, a2, a3] h K := Wc_def p30 rfl hk q
/-- _law_mixed -/
theorem w31 {a0 a1 : PV} {h : PH} {K : KV} {k : Nat} (hk : 1 ≤ k) (q : Wb (P.cc (k - 1)) b31 [some a0, some a1, none] h (Kout h.length K)) : Wc (P.cc k) 31 [a0, a1] h K := Wc_def p31 rfl hk q
/-- _law_begin -/
theorem w32 {a0 : PV} {h : PH} {K : KV} {k : Nat} (hk : 1 ≤ k) (q : Wb (P.cc (k - 1)) b32 [some a0, none, none, none] h (Kout h.length K)) : Wc (P.cc k) 32 [a0] h K := Wc_def p32 rfl hk q
/-- _law_draw -/
theorem w33 {a0 a1 : PV} {h : PH} {K : KV} {k : Nat} (hk : 1 ≤ k) (q : Wb (P.cc (k - 1)) b33 [some a0, some a1, none, none, none] h (Kout h.length K)) : Wc (P.cc k) 33 [a0, a1] h K := Wc_def p33 rfl hk q
/-- _law_of -/
theorem w34 {a0 a1 : PV} {h : PH} {K : KV} {k : Nat} (hk : 1 ≤ k) (q : Wb (P.cc (k - 1)) b34 [some a0, some a1] h (Kout h.length K)) : Wc (P.cc k) 34 [a0, a1] h K := Wc_def p34 rfl hk q
/-- _law_like -/
theorem w35 {a0 a1 : PV} {h : PH} {K : KV} {k : Nat} (hk : 1 ≤ k) (q : Wb (P.cc (k - 1)) b35 [some a0, some a1, none, none, none] h (Kout h.length K)) : Wc (P.cc k) 35 [a0, a1] h K := Wc_def p35 rfl hk q
/-- _law_clock -/
theorem w36 {a0 a1 a2 a3 a4 : PV} {h : PH} {K : KV} {k : Nat} (hk : 1 ≤ k) (q : Wb (P.cc (k - 1)) b36 [some a0, some a1, some a2, some a3, some a4, none, none, none, none] h (Kout h.length K)) : Wc (P.cc k) 36 [a0, a1, a2, a3, a4] h K := Wc_def p36 rfl hk q
/-- _law_tick -/
theorem w37 {a0 a1 : PV} {h : PH} {K : KV} {k : Nat} (hk : 1 ≤ k) (q : Wb (P.cc (k - 1)) b37 [some a0, some a1, none] h (Kout h.length K)) : Wc (P.cc k) 37 [a0, a1] h K := Wc_def p37 rfl hk q
/-- _law_ticks -/
theorem w38 {a0 a1 a2 : PV} {h : PH} {K : KV} {k : Nat} (hk : 1 ≤ k) (q : Wb (P.cc (k - 1)) b38 [some a0, some a1, some a2, none, none] h (Kout h.length K)) : Wc (P.cc k) 38 [a0, a1, a2] h K := Wc_def p38 rfl hk q
/-- _law_stands -/
theorem w39 {a0 a1 a2 : PV} {h : PH} {K : KV} {k : Nat} (hk : 1 ≤ k) (q : Wb (P.cc (k - 1)) b39 [some a0, some a1, some a2, none, none, none] h (Kout h.length K)) : Wc (P.cc k) 39 [a0, a1, a2] h K := Wc_def p39 rfl hk q
/-- _law_timed_answers -/
theorem w40 {a0 a1 : PV} {h : PH} {K : KV} {k : Nat} (hk : 1 ≤ k) (q : Wb (P.cc (k - 1)) b40 [some a0, some a1, none, none, none, none, none] h (Kout h.length K)) : Wc (P.cc k) 40 [a0, a1] h K := Wc_def p40 rfl hk q
/-- _law_first_right -/
theorem w41 {a0 a1 : PV} {h : PH} {K : KV} {k : Nat} (hk : 1 ≤ k) (q : Wb (P.cc (k - 1)) b41 [some a0, some a1, none, none, none, none, none, none, none, none] h (Kout h.length K)) : Wc (P.cc k) 41 [a0, a1] h K := Wc_def p41 rfl hk q
/-- _law_small_right -/
theorem w42 {a0 : PV} {h : PH} {K : KV} {k : Nat} (hk : 1 ≤ k) (q : Wb (P.cc (k - 1)) b42 [some a0, none, none, none, none, none, none, none, none, none, none] h (Kout h.length K)) : Wc (P.cc k) 42 [a0] h K := Wc_def p42 rfl hk q
/-- _law_ticked_right -/
theorem w43 {a0 a1 a2 a3 : PV} {h : PH} {K : KV} {k : Nat} (hk : 1 ≤ k) (q : Wb (P.cc (k - 1)) b43 [some a0, some a1, some a2, some a3, none, none, none, none, none, none, none, none, none, none, none, none, none, none, none] h (Kout h.length K)) : Wc (P.cc k) 43 [a0, a1, a2, a3] h K := Wc_def p43 rfl hk q
/-- _law_great_right -/
theorem w44 {a0 : PV} {h : PH} {K : KV} {k : Nat} (hk : 1 ≤ k) (q : Wb (P.cc (k - 1)) b44 [some a0, none, none, none, none, none, none, none, none, none, none, none, none, none] h (Kout h.length K)) : Wc (P.cc k) 44 [a0] h K := Wc_def p44 rfl hk q
/-- law -/
theorem w45 {a0 : PV} {h : PH} {K : KV} {k : Nat} (hk : 1 ≤ k) (q : Wb (P.cc (k - 1)) b45 [some a0, none, none] h (Kout h.length K)) : Wc (P.cc k) 45 [a0] h K := Wc_def p45 rfl hk q
end Lw
end
section
set_option Elab.async false
set_option linter.all false
set_option maxRecDepth 100000
namespace Lw
open PySem EV
local macro_rules | `(tactic| walk_at "w") => `(tactic| simp -implicitDefEqProofs (disch := first | omega | (simp only [List.length_cons, List.length_nil, List.length_map, List.length_append] <;> omega)) only [EV.Wb_nil, EV.Wb_pass, EV.Wb_asg, EV.Wb_expr, EV.Wb_ret, EV.Wb_retN, EV.Wb_brk, EV.Wb_cnt, EV.Wb_ite, EV.Wb_set, EV.Wb_for, EV.Wb_tryN, EV.We_cst, EV.We_var, EV.We_glb, EV.We_tup, EV.We_lst, EV.We_dnew, EV.We_bin, EV.We_neg, EV.We_not, EV.We_and, EV.We_or, EV.We_cmp, EV.We_chn, EV.We_ite, EV.We_idx, EV.We_call, EV.We_callK, EV.We_bf, EV.We_mt, EV.We_comp, EV.We_con, EV.Wl_nil, EV.Wl_cons, EV.Wi_itv, EV.Wi_its, EV.Wi_itc, EV.Wi_rng, EV.Wi_enm, EV.Wi_zip, EV.Wt_e, EV.Ws_e, EV.Wo_some, EV.Wv_some, EV.Wob_some, EV.Wtr_some, EV.Woi_some, EV.Ktup_ap, EV.Klst_ap, EV.Kbin_ap, EV.Kbin2_add, EV.Kbin2_sub, EV.Kbin2_mul, EV.Kbin2_mod, EV.Kbin2_fdiv, EV.Kneg_ap, EV.Kbl_ap, EV.Knot_ap, EV.Kand_t, EV.Kand_f, EV.Kor_t, EV.Kor_f, EV.Kcmp_ap, EV.Kcmp2_lt, EV.Kcmp2_le, EV.Kcmp2_gt, EV.Kcmp2_ge, EV.Kcmp2_eq, EV.Kcmp2_ne, EV.Kcmp2_is, EV.Kcmp2_isnot, EV.Kcmp2_isB, EV.Kchn_ap, EV.Kchn2_le, EV.Wch_t, EV.Wch_f, EV.Kife_t, EV.Kife_f, EV.Kidx_ap, EV.Kidx2_T0, EV.Kidx2_T1, EV.Kidx2_T2, EV.Kidx2_Tn, EV.Kidx2_O, EV.Wix_lst, EV.Wix_dK, EV.Wix_lkd, EV.Wix_dT, EV.atI_0, EV.atI_1, EV.atI_2, EV.atI_n, EV.Kcall_ap, EV.KcallK_ap, EV.KcallK2_ap, EV.Wpk_some, EV.Kbf_lenT, EV.Kbf_lenO, EV.Wln_lst, EV.Wln_dK, EV.Wln_dT, EV.Kbf_int, EV.Kbf_intB, EV.Kbf_min, EV.Kbf_max, EV.Kbf_isT, EV.Kbf_isI, EV.Kbf_isB, EV.Kbf_isS, EV.Kbf_isN, EV.Kbf_isO, EV.Wity_lst, EV.Kmt_app, EV.isLs_ap, EV.Kap_ap, EV.Wap_ap, EV.Kcon_tup, EV.Kcon_tupT, EV.Kcon_lst, EV.Kcon_live, EV.Wls_ap, EV.Wr_ctup, EV.Wr_clst, EV.Kc1_ap, EV.Kc2_ap, EV.Ktst_bl, EV.Ktst_tup, EV.Ktst_obj, EV.Wtl_lst, EV.KtstB_ap, EV.Knl_ap, EV.Kvl_ap, EV.Kitv_tup, EV.Kitv_obj, EV.Wlv_ap, EV.Kits_tup, EV.Kits_obj, EV.Wlc_ap, EV.Kenm_tup, EV.Kenm_obj, EV.Kzip_ap, EV.Kzip2_tup, EV.Krng_ap, EV.Krng2_0n, EV.Kasg_ap, EV.Wbd_nm, EV.Wbd_tup, EV.Wbds_nil, EV.Wbds_cons, EV.Kexp_ap, EV.Kret_ap, EV.Kseq_nx, EV.Kseq_rt, EV.Kseq_bk, EV.Kseq_ct, EV.Kif_t, EV.Kif_f, EV.Kset_ap, EV.Kset2_ap, EV.Kwhl_t, EV.Kwhl_f, EV.Kfor_nx, EV.Kfor_ct, EV.Kfor_bk, EV.Kfor_rt, EV.Kout_rt, EV.Kout_nx, EV.hp_get, EV.hp_get0, EV.hp_set, EV.hp_set0, List.getElem?_cons_zero, List.getElem?_cons_succ, List.set_cons_zero, List.set_cons_succ, List.length_cons, List.length_nil, List.length_map, List.getElem?_map, Option.map_some, Option.map_none, List.append_assoc, List.cons_append, List.nil_append, true_and, and_true, false_and, and_false, decide_true, decide_false, Bool.not_true, Bool.not_false, if_true, if_false, EV.isNon, and_self, Nat.zero_add, Bool.true_or, Bool.or_true, Bool.false_or, Bool.or_false, EV.gc_len, reduceIte, eq_self, Nat.reduceAdd, Int.reduceLT, Int.reduceLE, Int.reduceEq, Int.reduceNe, Int.reduceSub, Int.reduceAdd, Int.reduceMul, Int.reduceNeg, Int.reduceToNat, Int.cast_ofNat_Int, *])
local macro_rules | `(tactic| walk_at "v") => `(tactic| simp -implicitDefEqProofs (disch := first | omega | (simp only [List.length_cons, List.length_nil, List.length_map, List.length_append] <;> omega)) only [EV.Wb_nil, EV.Wb_pass, EV.Wb_asg, EV.Wb_expr, EV.Wb_ret, EV.Wb_retN, EV.Wb_brk, EV.Wb_cnt, EV.Wb_ite, EV.Wb_set, EV.Wb_for, EV.Wb_tryN, EV.We_cst, EV.We_var, EV.We_glb, EV.We_tup, EV.We_lst, EV.We_dnew, EV.We_bin, EV.We_neg, EV.We_not, EV.We_and, EV.We_or, EV.We_cmp, EV.We_chn, EV.We_ite, EV.We_idx, EV.We_call, EV.We_callK, EV.We_bf, EV.We_mt, EV.We_comp, EV.We_con, EV.Wl_nil, EV.Wl_cons, EV.Wi_itv, EV.Wi_its, EV.Wi_itc, EV.Wi_rng, EV.Wi_enm, EV.Wi_zip, EV.Wt_e, EV.Ws_e, EV.Wo_some, EV.Wv_some, EV.Wob_some, EV.Wtr_some, EV.Woi_some, EV.Ktup_ap, EV.Klst_ap, EV.Kbin_ap, EV.Kbin2_add, EV.Kbin2_sub, EV.Kbin2_mul, EV.Kbin2_mod, EV.Kbin2_fdiv, EV.Kneg_ap, EV.Kbl_ap, EV.Knot_ap, EV.Kand_t, EV.Kand_f, EV.Kor_t, EV.Kor_f, EV.Kcmp_ap, EV.Kcmp2_lt, EV.Kcmp2_le, EV.Kcmp2_gt, EV.Kcmp2_ge, EV.Kcmp2_eq, EV.Kcmp2_ne, EV.Kcmp2_is, EV.Kcmp2_isnot, EV.Kcmp2_isB, EV.Kchn_ap, EV.Kchn2_le, EV.Wch_t, EV.Wch_f, EV.Kife_t, EV.Kife_f, EV.Kidx_ap, EV.Kidx2_T0, EV.Kidx2_T1, EV.Kidx2_T2, EV.Kidx2_Tn, EV.Kidx2_O, EV.Wix_lst, EV.Wix_dK, EV.Wix_lkd, EV.Wix_dT, EV.atI_0, EV.atI_1, EV.atI_2, EV.atI_n, EV.Kcall_ap, EV.KcallK_ap, EV.KcallK2_ap, EV.Wpk_some, EV.Kbf_lenT, EV.Kbf_lenO, EV.Wln_lst, EV.Wln_dK, EV.Wln_dT, EV.Kbf_int, EV.Kbf_intB, EV.Kbf_min, EV.Kbf_max, EV.Kbf_isT, EV.Kbf_isI, EV.Kbf_isB, EV.Kbf_isS, EV.Kbf_isN, EV.Kbf_isO, EV.Wity_lst, EV.Kmt_app, EV.isLs_ap, EV.Kap_ap, EV.Wap_ap, EV.Kcon_tup, EV.Kcon_tupT, EV.Kcon_lst, EV.Kcon_live, EV.Wls_ap, EV.Wr_ctup, EV.Wr_clst, EV.Kc1_ap, EV.Kc2_ap, EV.Ktst_bl, EV.Ktst_tup, EV.Ktst_obj, EV.Wtl_lst, EV.KtstB_ap, EV.Knl_ap, EV.Kvl_ap, EV.Kitv_tup, EV.Kitv_obj, EV.Wlv_ap, EV.Kits_tup, EV.Kits_obj, EV.Wlc_ap, EV.Kenm_tup, EV.Kenm_obj, EV.Kzip_ap, EV.Kzip2_tup, EV.Krng_ap, EV.Krng2_0n, EV.Kasg_ap, EV.Wbd_nm, EV.Wbd_tup, EV.Wbds_nil, EV.Wbds_cons, EV.Kexp_ap, EV.Kret_ap, EV.Kseq_nx, EV.Kseq_rt, EV.Kseq_bk, EV.Kseq_ct, EV.Kif_t, EV.Kif_f, EV.Kset_ap, EV.Kset2_ap, EV.Kwhl_t, EV.Kwhl_f, EV.Kfor_nx, EV.Kfor_ct, EV.Kfor_bk, EV.Kfor_rt, EV.Kout_rt, EV.Kout_nx, EV.hp_get, EV.hp_get0, EV.hp_set, EV.hp_set0, List.getElem?_cons_zero, List.getElem?_cons_succ, List.set_cons_zero, List.set_cons_succ, List.length_cons, List.length_nil, List.length_map, List.getElem?_map, Option.map_some, Option.map_none, List.append_assoc, List.cons_append, List.nil_append, true_and, and_true, false_and, and_false, decide_true, decide_false, Bool.not_true, Bool.not_false, if_true, if_false, EV.isNon, and_self, Nat.zero_add, Bool.true_or, Bool.or_true, Bool.false_or, Bool.or_false, EV.gc_len, reduceIte, eq_self, Nat.reduceAdd, Int.reduceLT, Int.reduceLE, Int.reduceEq, Int.reduceNe, Int.reduceSub, Int.reduceAdd, Int.reduceMul, Int.reduceNeg, Int.reduceToNat, Int.cast_ofNat_Int])
/-! ### data -/
abbrev nI (n : Nat) : PV := .int (n : Int)
abbrev pv2 (p : Nat × Nat) : PV := .tup [nI p.1, nI p.2]
abbrev rowP (r : List (Nat × Nat)) : PV := .tup (r.map pv2)
abbrev tabP (t : List (List (Nat × Nat))) : PV := .tup (t.map rowP)
structure Box where
  n : Nat
  A : Nat
  t : List (List (Nat × Nat))
abbrev Box.pv (b : Box) : PV := .tup [nI b.n, nI b.A, tabP b.t]
structure Box.Ok (b : Box) : Prop where
  n1 : 1 ≤ b.n
  n4 : b.n ≤ 4
  a1 : 1 ≤ b.A
  a9 : b.A ≤ 9
  t1 : 1 ≤ b.t.length
  t60 : b.t.length ≤ 60
  row : ∀ r ∈ b.t, r.length = b.n ∧ ∀ p ∈ r, p.1 < b.A ∧ p.2 < b.t.length
abbrev wrdP (w : List Nat) : PV := .tup (w.map nI)
theorem flat_nI {l : List Nat} : flatL (l.map nI) = true := flatL_map fun _ _ => rfl
theorem flat_pv2 {p : Nat × Nat} : (pv2 p).flat = true := rfl
theorem flat_pairs {l : List (Nat × Nat)} : flatL (l.map pv2) = true := flatL_map fun _ _ => rfl
theorem flat_rows {l : List (List (Nat × Nat))} : flatL (l.map rowP) = true := flatL_map fun r _ => flat_pairs
theorem c0 {i : Int} {h : PH} {K : KV} {k : Nat} (hk : 1 ≤ k) : Wc (P.cc k) 0 [.int i] h K = K (.bl true) h := by
  refine Wc_eq (w0 hk ?_) K
  unfold b0
  walk_at "w"
theorem c1 {i lo hi : Int} {h : PH} {K : KV} {k : Nat} (hk : 2 ≤ k) : Wc (P.cc k) 1 [.int i, .int lo, .int hi] h K = K (.bl (decide (lo ≤ i ∧ i ≤ hi))) h := by
  refine Wc_eq (w1 (by omega) ?_) K
  unfold b1
  by_cases q : lo ≤ i
  · (have zz0 := @c0; walk_at "w")
  · (have zz0 := @c0; walk_at "w")
theorem c1t {i lo hi : Int} {h : PH} {K : KV} {k : Nat} (hk : 2 ≤ k) (h1 : lo ≤ i) (h2 : i ≤ hi) : Wc (P.cc k) 1 [.int i, .int lo, .int hi] h K = K (.bl true) h := by
  rw [c1 hk, decide_eq_true ⟨h1, h2⟩]
theorem c2 {p : Nat × Nat} {A M : Nat} {h : PH} {K : KV} {k : Nat} (hk : 3 ≤ k) (h1 : p.1 < A) (h2 : p.2 < M) : Wc (P.cc k) 2 [pv2 p, nI A, nI M] h K = K (.bl true) h := by
  refine Wc_eq (w2 (by omega) ?_) K
  unfold b2
  (have zz0 := @c1t; walk_at "w")
theorem row_get {b : Box} (o : b.Ok) {i : Nat} (hi : i < b.t.length) : ∃ r, b.t[i]? = some r ∧ r.length = b.n ∧ ∀ p ∈ r, p.1 < b.A ∧ p.2 < b.t.length :=
  ⟨b.t[i], List.getElem?_eq_getElem hi, o.row _ (List.getElem_mem hi)⟩
theorem c3 {b : Box} (o : b.Ok) {i : Nat} (hi : i < b.t.length) {h : PH} {K : KV} {k : Nat} (hk : 4 ≤ k) : Wc (P.cc k) 3 [b.pv, nI i] h K = K .non h := by
  refine Wc_eq (w3 (by omega) ?_) K
  obtain ⟨r, e, hl, hr⟩ := row_get o hi
  unfold b3
  walk_at "w"
  refine Kfors_enm (fun _ r1 h1 => h1 = h ∧ ∃ x y, r1 = [some b.pv, some (nI i), some (rowP r), x, y]) (by rw [fuelE, List.length_map]; have := o.n4; omega) ⟨rfl, _, _, rfl⟩ (fun j x r1 h1 hx ⟨e1, y, z, e2⟩ => ?_) fun r1 h1 ⟨e1, y, z, e2⟩ => ?_
  · subst e1 e2
    rw [List.getElem?_map] at hx
    obtain ⟨p, hp, rfl⟩ := Option.map_eq_some_iff.mp hx
    obtain ⟨q1, q2⟩ := hr p (List.mem_of_getElem? hp)
    (have zz0 := @c2; walk_at "w")
    exact ⟨_, _, rfl⟩
  · subst e1 e2
    walk_at "w"
theorem c4 {b : Box} (o : b.Ok) {h : PH} {K : KV} {k : Nat} (hk : 5 ≤ k) : Wc (P.cc k) 4 [b.pv] h K = K b.pv h := by
  refine Wc_eq (w4 (by omega) ?_) K
  have n1 := o.n1; have n4 := o.n4; have a1 := o.a1; have a9 := o.a9; have t1 := o.t1; have t60 := o.t60
  have q1 : (1 : Int) ≤ (b.t.length : Int) := by omega
  have q2 : (b.t.length : Int) ≤ 60 := by omega
  unfold b4
  (have zz0 := @c1t; have zz1 := @g0; have zz2 := @g1; have zz3 := @g2; walk_at "w")
  refine Kfors_rng0 (fun _ r1 h1 => h1 = h ∧ ∃ x, r1 = [some b.pv, x]) (by rw [fuelE]; omega) ⟨rfl, _, rfl⟩ (fun j r1 h1 hj ⟨e1, y, e2⟩ => ?_) fun r1 h1 ⟨e1, y, e2⟩ => ?_
  · subst e1 e2
    have hj2 : j < b.t.length := hj
    have e3 : ∀ K, Wc (P.cc (k - 1)) 3 [b.pv, nI j] h1 K = K .non h1 := fun K => c3 o hj2 (by omega)
    walk_at "w"
    exact ⟨_, rfl⟩
  · subst e1 e2
    walk_at "w"
theorem c5 {b : Box} {s : Nat} (hs : s < b.t.length) {h : PH} {K : KV} {k : Nat} (hk : 3 ≤ k) : Wc (P.cc k) 5 [b.pv, nI s] h K = K .non h := by
  refine Wc_eq (w5 (by omega) ?_) K
  unfold b5
  (have zz0 := @c1t; walk_at "w")
/-- a word for n inputs -/
def WOk (n : Nat) (w : List Nat) : Prop := w.length ≤ 200000 ∧ ∀ x ∈ w, x < n
theorem c6 {n : Nat} {w : List Nat} (o : WOk n w) {h : PH} {K : KV} {k : Nat} (hk : 3 ≤ k) : Wc (P.cc k) 6 [nI n, wrdP w] h K = K .non h := by
  refine Wc_eq (w6 (by omega) ?_) K
  have o1 := o.1
  have q : ¬ (200000 : Int) < (w.length : Int) := by omega
  unfold b6
  (have zz0 := @g3; walk_at "w")
  refine Kfors_enm (fun _ r1 h1 => h1 = h ∧ ∃ x y, r1 = [some (nI n), some (wrdP w), x, y]) (by rw [fuelE, List.length_map]; omega) ⟨rfl, _, _, rfl⟩ (fun j x r1 h1 hx ⟨e1, y, z, e2⟩ => ?_) fun r1 h1 ⟨e1, y, z, e2⟩ => ?_
  · subst e1 e2
    rw [List.getElem?_map] at hx
    obtain ⟨p, hp, rfl⟩ := Option.map_eq_some_iff.mp hx
    have hlt := o.2 p (List.mem_of_getElem? hp)
    (have zz0 := @c1t; walk_at "w")
    exact ⟨_, _, rfl⟩
  · subst e1 e2
    walk_at "w"
/-! ### runs -/
def stp (t : List (List (Nat × Nat))) (s x : Nat) : Nat × Nat := ((t[s]?.getD [])[x]?).getD (0, 0)
def stepR (t : List (List (Nat × Nat))) (q : List Nat × Nat) (x : Nat) : List Nat × Nat := (q.1 ++ [(stp t q.2 x).1], (stp t q.2 x).2)
def runR (t : List (List (Nat × Nat))) (s : Nat) (w : List Nat) : List Nat × Nat := w.foldl (stepR t) ([], s)
theorem runR_snoc {t : List (List (Nat × Nat))} {s : Nat} {w : List Nat} {x : Nat} : runR t s (w ++ [x]) = stepR t (runR t s w) x := by unfold runR; rw [List.foldl_append]; rfl
theorem stp_ok {b : Box} (o : b.Ok) {s x : Nat} (hs : s < b.t.length) (hx : x < b.n) : ∃ r, b.t[s]? = some r ∧ r[x]? = some (stp b.t s x) ∧ (stp b.t s x).1 < b.A ∧ (stp b.t s x).2 < b.t.length := by
  obtain ⟨r, e, hl, hr⟩ := row_get o hs
  have hx' : x < r.length := by omega
  refine ⟨r, e, ?_, ?_⟩
  · unfold stp
    rw [e]
    simp [hx']
  · have : stp b.t s x = r[x] := by unfold stp; rw [e]; simp [hx']
    rw [this]
    exact hr _ (List.getElem_mem hx')
theorem runR_ok {b : Box} (o : b.Ok) {s : Nat} (hs : s < b.t.length) : ∀ (w : List Nat) (acc : List Nat), (∀ x ∈ w, x < b.n) → (∀ a ∈ acc, a < b.A) → (w.foldl (stepR b.t) (acc, s)).2 < b.t.length ∧ (∀ a ∈ (w.foldl (stepR b.t) (acc, s)).1, a < b.A) ∧ (w.foldl (stepR b.t) (acc, s)).1.length = acc.length + w.length := by
  intro w
  induction w generalizing s with
  | nil => intro acc _ ha; exact ⟨hs, ha, rfl⟩
  | cons x w ih =>
    intro acc hw ha
    obtain ⟨r, _, _, h1, h2⟩ := stp_ok o hs (hw x List.mem_cons_self)
    obtain ⟨q1, q2, q3⟩ := ih h2 (acc ++ [(stp b.t s x).1]) (fun y hy => hw y (List.mem_cons_of_mem _ hy)) fun a hm => by
      rcases List.mem_append.mp hm with m | m
      · exact ha a m
      · rw [List.mem_singleton.mp m]; exact h1
    exact ⟨q1, q2, by rw [List.foldl_cons]; show (w.foldl (stepR b.t) (acc ++ [_], _)).1.length = _; rw [q3]; simp; omega⟩
theorem run_len {b : Box} (o : b.Ok) {s : Nat} (hs : s < b.t.length) {w : List Nat} (hw : ∀ x ∈ w, x < b.n) : (runR b.t s w).1.length = w.length := by
  have := (runR_ok o hs w [] hw (by simp)).2.2
  simpa [runR] using this
theorem run_end {b : Box} (o : b.Ok) {s : Nat} (hs : s < b.t.length) {w : List Nat} (hw : ∀ x ∈ w, x < b.n) : (runR b.t s w).2 < b.t.length := (runR_ok o hs w [] hw (by simp)).1
theorem run_ans {b : Box} (o : b.Ok) {s : Nat} (hs : s < b.t.length) {w : List Nat} (hw : ∀ x ∈ w, x < b.n) : ∀ a ∈ (runR b.t s w).1, a < b.A := (runR_ok o hs w [] hw (by simp)).2.1
theorem c7 {b : Box} (o : b.Ok) {s : Nat} (hs : s < b.t.length) {w : List Nat} (hw : WOk b.n w) {h : PH} (cl : Cl h) {K : KV} {k : Nat} (hk : 1 ≤ k) : Wc (P.cc k) 7 [tabP b.t, nI s, wrdP w] h K = K (.tup [wrdP (runR b.t s w).1, nI (runR b.t s w).2]) h := by
  refine Wc_eq (w7 (by omega) ?_) K
  have hwl := hw.1
  unfold b7
  walk_at "w"
  refine Kfors_map (fun u r1 h1 => h1 = h ++ [.lst false ((runR b.t s u).1.map nI)] ∧ ∃ x y, r1 = [some (tabP b.t), some (nI s), some (wrdP w), some (.obj h.length), some (nI (runR b.t s u).2), x, y]) (by rw [fuelE]; omega) ⟨rfl, _, _, rfl⟩ (fun pre a post r1 h1 hx ⟨e1, y, z, e2⟩ => ?_) fun r1 h1 ⟨e1, y, z, e2⟩ => ?_
  · subst e1 e2
    have hpre : ∀ x ∈ pre, x < b.n := fun x m => hw.2 x (by rw [hx]; exact List.mem_append_left _ m)
    have ha : a < b.n := hw.2 a (by rw [hx]; exact List.mem_append_right _ List.mem_cons_self)
    have hst := run_end o hs hpre
    have hrl := run_len o hs hpre
    have hpl : pre.length ≤ w.length := by rw [hx, List.length_append]; omega
    obtain ⟨row, q1, q2, q3, q4⟩ := stp_ok o hst ha
    have hz : ((runR b.t s pre).1.map nI).length ≤ 16777215 := by rw [List.length_map, hrl]; omega
    walk_at "w"
    rw [runR_snoc]
    exact ⟨by simp [stepR], _, _, rfl⟩
  · subst e1 e2
    have hrl := run_len o hs hw.2
    have hz : ((runR b.t s w).1.map nI).length ≤ 16777216 := by rw [List.length_map, hrl]; omega
    walk_at "w"
    exact gc_flat cl (by show (flatL _ && _) = true; rw [flat_nI]; rfl)
end Lw
end
section
set_option Elab.async false
set_option linter.all false
set_option maxRecDepth 100000
namespace Lw
open PySem EV
local macro_rules | `(tactic| walk_at "w") => `(tactic| simp -implicitDefEqProofs (disch := first | omega | (simp only [List.length_cons, List.length_nil, List.length_map, List.length_append] <;> omega)) only [EV.Wb_nil, EV.Wb_pass, EV.Wb_asg, EV.Wb_expr, EV.Wb_ret, EV.Wb_retN, EV.Wb_brk, EV.Wb_cnt, EV.Wb_ite, EV.Wb_set, EV.Wb_for, EV.Wb_tryN, EV.We_cst, EV.We_var, EV.We_glb, EV.We_tup, EV.We_lst, EV.We_dnew, EV.We_bin, EV.We_neg, EV.We_not, EV.We_and, EV.We_or, EV.We_cmp, EV.We_chn, EV.We_ite, EV.We_idx, EV.We_call, EV.We_callK, EV.We_bf, EV.We_mt, EV.We_comp, EV.We_con, EV.Wl_nil, EV.Wl_cons, EV.Wi_itv, EV.Wi_its, EV.Wi_itc, EV.Wi_rng, EV.Wi_enm, EV.Wi_zip, EV.Wt_e, EV.Ws_e, EV.Wo_some, EV.Wv_some, EV.Wob_some, EV.Wtr_some, EV.Woi_some, EV.Ktup_ap, EV.Klst_ap, EV.Kbin_ap, EV.Kbin2_add, EV.Kbin2_sub, EV.Kbin2_mul, EV.Kbin2_mod, EV.Kbin2_fdiv, EV.Kneg_ap, EV.Kbl_ap, EV.Knot_ap, EV.Kand_t, EV.Kand_f, EV.Kor_t, EV.Kor_f, EV.Kcmp_ap, EV.Kcmp2_lt, EV.Kcmp2_le, EV.Kcmp2_gt, EV.Kcmp2_ge, EV.Kcmp2_eq, EV.Kcmp2_ne, EV.Kcmp2_is, EV.Kcmp2_isnot, EV.Kcmp2_isB, EV.Kchn_ap, EV.Kchn2_le, EV.Wch_t, EV.Wch_f, EV.Kife_t, EV.Kife_f, EV.Kidx_ap, EV.Kidx2_T0, EV.Kidx2_T1, EV.Kidx2_T2, EV.Kidx2_Tn, EV.Kidx2_O, EV.Wix_lst, EV.Wix_dK, EV.Wix_lkd, EV.Wix_dT, EV.atI_0, EV.atI_1, EV.atI_2, EV.atI_n, EV.Kcall_ap, EV.KcallK_ap, EV.KcallK2_ap, EV.Wpk_some, EV.Kbf_lenT, EV.Kbf_lenO, EV.Wln_lst, EV.Wln_dK, EV.Wln_dT, EV.Kbf_int, EV.Kbf_intB, EV.Kbf_min, EV.Kbf_max, EV.Kbf_isT, EV.Kbf_isI, EV.Kbf_isB, EV.Kbf_isS, EV.Kbf_isN, EV.Kbf_isO, EV.Wity_lst, EV.Kmt_app, EV.isLs_ap, EV.Kap_ap, EV.Wap_ap, EV.Kcon_tup, EV.Kcon_tupT, EV.Kcon_lst, EV.Kcon_live, EV.Wls_ap, EV.Wr_ctup, EV.Wr_clst, EV.Kc1_ap, EV.Kc2_ap, EV.Ktst_bl, EV.Ktst_tup, EV.Ktst_obj, EV.Wtl_lst, EV.KtstB_ap, EV.Knl_ap, EV.Kvl_ap, EV.Kitv_tup, EV.Kitv_obj, EV.Wlv_ap, EV.Kits_tup, EV.Kits_obj, EV.Wlc_ap, EV.Kenm_tup, EV.Kenm_obj, EV.Kzip_ap, EV.Kzip2_tup, EV.Krng_ap, EV.Krng2_0n, EV.Kasg_ap, EV.Wbd_nm, EV.Wbd_tup, EV.Wbds_nil, EV.Wbds_cons, EV.Kexp_ap, EV.Kret_ap, EV.Kseq_nx, EV.Kseq_rt, EV.Kseq_bk, EV.Kseq_ct, EV.Kif_t, EV.Kif_f, EV.Kset_ap, EV.Kset2_ap, EV.Kwhl_t, EV.Kwhl_f, EV.Kfor_nx, EV.Kfor_ct, EV.Kfor_bk, EV.Kfor_rt, EV.Kout_rt, EV.Kout_nx, EV.hp_get, EV.hp_get0, EV.hp_set, EV.hp_set0, List.getElem?_cons_zero, List.getElem?_cons_succ, List.set_cons_zero, List.set_cons_succ, List.length_cons, List.length_nil, List.length_map, List.getElem?_map, Option.map_some, Option.map_none, List.append_assoc, List.cons_append, List.nil_append, true_and, and_true, false_and, and_false, decide_true, decide_false, Bool.not_true, Bool.not_false, if_true, if_false, EV.isNon, and_self, Nat.zero_add, Bool.true_or, Bool.or_true, Bool.false_or, Bool.or_false, EV.gc_len, reduceIte, eq_self, Nat.reduceAdd, Int.reduceLT, Int.reduceLE, Int.reduceEq, Int.reduceNe, Int.reduceSub, Int.reduceAdd, Int.reduceMul, Int.reduceNeg, Int.reduceToNat, Int.cast_ofNat_Int, *])
local macro_rules | `(tactic| walk_at "v") => `(tactic| simp -implicitDefEqProofs (disch := first | omega | (simp only [List.length_cons, List.length_nil, List.length_map, List.length_append] <;> omega)) only [EV.Wb_nil, EV.Wb_pass, EV.Wb_asg, EV.Wb_expr, EV.Wb_ret, EV.Wb_retN, EV.Wb_brk, EV.Wb_cnt, EV.Wb_ite, EV.Wb_set, EV.Wb_for, EV.Wb_tryN, EV.We_cst, EV.We_var, EV.We_glb, EV.We_tup, EV.We_lst, EV.We_dnew, EV.We_bin, EV.We_neg, EV.We_not, EV.We_and, EV.We_or, EV.We_cmp, EV.We_chn, EV.We_ite, EV.We_idx, EV.We_call, EV.We_callK, EV.We_bf, EV.We_mt, EV.We_comp, EV.We_con, EV.Wl_nil, EV.Wl_cons, EV.Wi_itv, EV.Wi_its, EV.Wi_itc, EV.Wi_rng, EV.Wi_enm, EV.Wi_zip, EV.Wt_e, EV.Ws_e, EV.Wo_some, EV.Wv_some, EV.Wob_some, EV.Wtr_some, EV.Woi_some, EV.Ktup_ap, EV.Klst_ap, EV.Kbin_ap, EV.Kbin2_add, EV.Kbin2_sub, EV.Kbin2_mul, EV.Kbin2_mod, EV.Kbin2_fdiv, EV.Kneg_ap, EV.Kbl_ap, EV.Knot_ap, EV.Kand_t, EV.Kand_f, EV.Kor_t, EV.Kor_f, EV.Kcmp_ap, EV.Kcmp2_lt, EV.Kcmp2_le, EV.Kcmp2_gt, EV.Kcmp2_ge, EV.Kcmp2_eq, EV.Kcmp2_ne, EV.Kcmp2_is, EV.Kcmp2_isnot, EV.Kcmp2_isB, EV.Kchn_ap, EV.Kchn2_le, EV.Wch_t, EV.Wch_f, EV.Kife_t, EV.Kife_f, EV.Kidx_ap, EV.Kidx2_T0, EV.Kidx2_T1, EV.Kidx2_T2, EV.Kidx2_Tn, EV.Kidx2_O, EV.Wix_lst, EV.Wix_dK, EV.Wix_lkd, EV.Wix_dT, EV.atI_0, EV.atI_1, EV.atI_2, EV.atI_n, EV.Kcall_ap, EV.KcallK_ap, EV.KcallK2_ap, EV.Wpk_some, EV.Kbf_lenT, EV.Kbf_lenO, EV.Wln_lst, EV.Wln_dK, EV.Wln_dT, EV.Kbf_int, EV.Kbf_intB, EV.Kbf_min, EV.Kbf_max, EV.Kbf_isT, EV.Kbf_isI, EV.Kbf_isB, EV.Kbf_isS, EV.Kbf_isN, EV.Kbf_isO, EV.Wity_lst, EV.Kmt_app, EV.isLs_ap, EV.Kap_ap, EV.Wap_ap, EV.Kcon_tup, EV.Kcon_tupT, EV.Kcon_lst, EV.Kcon_live, EV.Wls_ap, EV.Wr_ctup, EV.Wr_clst, EV.Kc1_ap, EV.Kc2_ap, EV.Ktst_bl, EV.Ktst_tup, EV.Ktst_obj, EV.Wtl_lst, EV.KtstB_ap, EV.Knl_ap, EV.Kvl_ap, EV.Kitv_tup, EV.Kitv_obj, EV.Wlv_ap, EV.Kits_tup, EV.Kits_obj, EV.Wlc_ap, EV.Kenm_tup, EV.Kenm_obj, EV.Kzip_ap, EV.Kzip2_tup, EV.Krng_ap, EV.Krng2_0n, EV.Kasg_ap, EV.Wbd_nm, EV.Wbd_tup, EV.Wbds_nil, EV.Wbds_cons, EV.Kexp_ap, EV.Kret_ap, EV.Kseq_nx, EV.Kseq_rt, EV.Kseq_bk, EV.Kseq_ct, EV.Kif_t, EV.Kif_f, EV.Kset_ap, EV.Kset2_ap, EV.Kwhl_t, EV.Kwhl_f, EV.Kfor_nx, EV.Kfor_ct, EV.Kfor_bk, EV.Kfor_rt, EV.Kout_rt, EV.Kout_nx, EV.hp_get, EV.hp_get0, EV.hp_set, EV.hp_set0, List.getElem?_cons_zero, List.getElem?_cons_succ, List.set_cons_zero, List.set_cons_succ, List.length_cons, List.length_nil, List.length_map, List.getElem?_map, Option.map_some, Option.map_none, List.append_assoc, List.cons_append, List.nil_append, true_and, and_true, false_and, and_false, decide_true, decide_false, Bool.not_true, Bool.not_false, if_true, if_false, EV.isNon, and_self, Nat.zero_add, Bool.true_or, Bool.or_true, Bool.false_or, Bool.or_false, EV.gc_len, reduceIte, eq_self, Nat.reduceAdd, Int.reduceLT, Int.reduceLE, Int.reduceEq, Int.reduceNe, Int.reduceSub, Int.reduceAdd, Int.reduceMul, Int.reduceNeg, Int.reduceToNat, Int.cast_ofNat_Int])
theorem cl_nats {h : PH} (cl : Cl h) (l : List Nat) : Cl (h ++ [.lst false (l.map nI)]) := cl.lst flat_nI
def eff (t : List (List (Nat × Nat))) (w : List Nat) (s : Nat) : Nat := (runR t s w).2
theorem eff_lt {b : Box} (o : b.Ok) {w : List Nat} (hw : ∀ x ∈ w, x < b.n) : ∀ s, s < b.t.length → eff b.t w s < b.t.length := fun s hs => run_end o hs hw
section
variable {b : Box} (o : b.Ok) {s : Nat} (hs : s < b.t.length) {w : List Nat} (hw : WOk b.n w) {h : PH} (cl : Cl h) {K : KV} {k : Nat}
include o hw cl
theorem c9 (hk : 6 ≤ k) : Wc (P.cc k) 9 [b.pv, wrdP w] h K = K (wrdP (runR b.t 0 w).1) h := by
  refine Wc_eq (w9 (by omega) ?_) K
  have e1 : ∀ K, Wc (P.cc (k - 1)) 4 [b.pv] h K = K b.pv h := fun K => c4 o (by omega)
  have e2 : ∀ K, Wc (P.cc (k - 1)) 6 [nI b.n, wrdP w] h K = K .non h := fun K => c6 hw (by omega)
  have e3 : ∀ K, Wc (P.cc (k - 1)) 7 [tabP b.t, .int 0, wrdP w] h K = _ := fun K => c7 o (s := 0) (by have := o.t1; omega) hw cl (by omega)
  unfold b9
  walk_at "w"
include hs
omit cl in
theorem c8 (hk : 6 ≤ k) : Wc (P.cc k) 8 [b.pv, nI s, wrdP w] h K = K .non h := by
  refine Wc_eq (w8 (by omega) ?_) K
  have e1 : ∀ K, Wc (P.cc (k - 1)) 4 [b.pv] h K = K b.pv h := fun K => c4 o (by omega)
  have e2 : ∀ K, Wc (P.cc (k - 1)) 6 [nI b.n, wrdP w] h K = K .non h := fun K => c6 hw (by omega)
  have e3 : ∀ K, Wc (P.cc (k - 1)) 5 [b.pv, nI s] h K = K .non h := fun K => c5 hs (by omega)
  unfold b8
  walk_at "w"
theorem c10 (hk : 7 ≤ k) : Wc (P.cc k) 10 [b.pv, nI s, wrdP w] h K = K (wrdP (runR b.t s w).1) h := by
  refine Wc_eq (w10 (by omega) ?_) K
  have e1 : ∀ K, Wc (P.cc (k - 1)) 8 [b.pv, nI s, wrdP w] h K = K .non h := fun K => c8 o hs hw (by omega)
  have e3 : ∀ K, Wc (P.cc (k - 1)) 7 [tabP b.t, nI s, wrdP w] h K = _ := fun K => c7 o hs hw cl (by omega)
  unfold b10
  walk_at "w"
end
theorem c11 {b : Box} (o : b.Ok) {w : List Nat} (hw : WOk b.n w) {turns : Nat} (ht : turns ≤ 1000000000000000000) {h : PH} (cl : Cl h) {K : KV} {k : Nat} (hk : 6 ≤ k) : Wc (P.cc k) 11 [b.pv, wrdP w, nI turns] h K = K (nI (itf (eff b.t w) turns 0)) h := by
  refine Wc_eq (w11 (by omega) ?_) K
  have hM := o.t60
  have h0 : 0 < b.t.length := o.t1
  have hf := eff_lt o hw.2
  have e1 : ∀ K, Wc (P.cc (k - 1)) 4 [b.pv] h K = K b.pv h := fun K => c4 o (by omega)
  have e2 : ∀ K, Wc (P.cc (k - 1)) 6 [nI b.n, wrdP w] h K = K .non h := fun K => c6 hw (by omega)
  have e4 : ∀ (s : Nat) (l : List Nat) K, s < b.t.length → Wc (P.cc (k - 1)) 7 [tabP b.t, nI s, wrdP w] (h ++ [.lst false (l.map nI)]) K = K (.tup [wrdP (runR b.t s w).1, nI (eff b.t w s)]) (h ++ [.lst false (l.map nI)]) := fun s l K hs => c7 o hs hw (cl_nats cl l) (by omega)
  have e5 : ∀ K, Wc (P.cc (k - 1)) 7 [tabP b.t, .int 0, wrdP w] (h ++ [.lst false [.int 0]]) K = K (.tup [wrdP (runR b.t 0 w).1, nI (eff b.t w 0)]) (h ++ [.lst false [.int 0]]) := fun K => e4 0 [0] K h0
  unfold b11
  (have zz0 := @c1t; have zz1 := @g4; walk_at "w")
  generalize eff b.t w = f at *
  refine Wb_whl (m := b.t.length - 1) (by rw [fuelE]; omega) (I := fun m r1 h1 => ∃ j, 1 ≤ j ∧ j ≤ b.t.length ∧ m = b.t.length - j ∧ (orb f j).Nodup ∧ h1 = h ++ [.lst false ((orb f j).map nI)] ∧ r1 = [some b.pv, some (wrdP w), some (nI turns), some (.obj h.length), some (nI (itf f j 0)), none])
    ⟨1, Nat.le_refl _, h0, rfl, by simp [orb], rfl, rfl⟩ fun m r1 h1 ⟨j, j1, j2, j3, nd, q1, q2⟩ => ?_
  subst q1 q2
  have hin := isIn_lst (h := h ++ [.lst false ((orb f j).map nI)]) (n := h.length) (x := itf f j 0) (l := orb f j) (fz := false) dat_nat (by omega) hp_get0
  have hl : (orb f j).length = j := orb_len
  by_cases hm : itf f j 0 ∈ orb f j
  · rw [decide_eq_true hm] at hin
    (have zz0 := @Kcmp2_notin; walk_at "w")
    obtain ⟨i, hi, hidx⟩ := index_lst (h := h ++ [.lst false ((orb f j).map nI)]) (n := h.length) (x := itf f j 0) (l := orb f j) (fz := false) dat_nat (by omega) hp_get0 hm
    have hij : i < j := by have := (List.getElem?_eq_some_iff.mp hi).1; omega
    have hfi : itf f i 0 = itf f j 0 := by
      rw [orb_get hij] at hi
      exact Option.some.inj hi
    by_cases hlt : turns < j
    · have q1 : (turns : Int) < (j : Int) := by omega
      have q2 := orb_get (f := f) hlt
      walk_at "w"
      exact gc_flat cl rfl
    · have q1 : ¬ (turns : Int) < (j : Int) := by omega
      have hp : 0 < j - i := by omega
      have hmod : itf f turns 0 = itf f (i + (turns - i) % (j - i)) 0 := by
        have := itf_mod (f := f) (s := 0) (t := i) (p := j - i) hp (by rw [show i + (j - i) = j by omega]; exact hfi.symm) (turns - i)
        rw [show i + (turns - i) = turns by omega] at this
        exact this
      have hlt2 : i + (turns - i) % (j - i) < j := by have := Nat.mod_lt (turns - i) hp; omega
      have q2 : (i : Int) + ((turns : Int) - (i : Int)) % ((j : Int) - (i : Int)) = ((i + (turns - i) % (j - i) : Nat) : Int) := by
        rw [show (turns : Int) - (i : Int) = ((turns - i : Nat) : Int) by omega, show (j : Int) - (i : Int) = ((j - i : Nat) : Int) by omega]
        rfl
      have q3 := orb_get (f := f) hlt2
      have q4 : ∀ c r K es, Kmt c r K .index es (.obj h.length) (h ++ [.lst false ((orb f j).map nI)]) = Wl c es r (h ++ [.lst false ((orb f j).map nI)]) (Kmt2 K .index (.obj h.length)) := fun c r K es => Kmt_idx hp_get0
      have q5 : ∀ K, Kmt2 K .index (.obj h.length) [nI (itf f j 0)] (h ++ [.lst false ((orb f j).map nI)]) = K (nI i) (h ++ [.lst false ((orb f j).map nI)]) := fun K => Kmt2_of hidx
      walk_at "w"
      exact gc_flat cl rfl
  · rw [decide_eq_false hm] at hin
    have nd2 : (orb f (j + 1)).Nodup := by
      rw [orb_succ, List.nodup_append]
      exact ⟨nd, by simp, fun a ha c hc => by rw [List.mem_singleton.mp hc]; exact fun e => hm (by rw [← e]; exact ha)⟩
    have hj : j + 1 ≤ b.t.length := by
      have := pigeon b.t.length (orb f (j + 1)) nd2 fun x hx => by
        unfold orb at hx
        obtain ⟨i, _, rfl⟩ := List.mem_map.mp hx
        exact itf_lt hf i 0 h0
      rw [orb_len] at this
      exact this
    have hz : ((orb f j).map nI).length ≤ 16777215 := by rw [List.length_map]; omega
    have e6 := fun K => e4 (itf f j 0) (orb f (j + 1)) K (itf_lt hf j 0 h0)
    simp only [orb_succ, List.map_append, List.map_cons, List.map_nil] at e6
    (have zz0 := @Kcmp2_notin; walk_at "w")
    exact ⟨b.t.length - (j + 1), by omega, j + 1, by omega, hj, rfl, nd2, by rw [orb_succ, List.map_append]; rfl, rfl⟩
end Lw
end
section
set_option Elab.async false
set_option linter.all false
set_option maxRecDepth 100000
namespace Lw
open PySem EV
local macro_rules | `(tactic| walk_at "w") => `(tactic| simp -implicitDefEqProofs (disch := first | omega | (simp only [List.length_cons, List.length_nil, List.length_map, List.length_append] <;> omega)) only [EV.Wb_nil, EV.Wb_pass, EV.Wb_asg, EV.Wb_expr, EV.Wb_ret, EV.Wb_retN, EV.Wb_brk, EV.Wb_cnt, EV.Wb_ite, EV.Wb_set, EV.Wb_for, EV.Wb_tryN, EV.We_cst, EV.We_var, EV.We_glb, EV.We_tup, EV.We_lst, EV.We_dnew, EV.We_bin, EV.We_neg, EV.We_not, EV.We_and, EV.We_or, EV.We_cmp, EV.We_chn, EV.We_ite, EV.We_idx, EV.We_call, EV.We_callK, EV.We_bf, EV.We_mt, EV.We_comp, EV.We_con, EV.Wl_nil, EV.Wl_cons, EV.Wi_itv, EV.Wi_its, EV.Wi_itc, EV.Wi_rng, EV.Wi_enm, EV.Wi_zip, EV.Wt_e, EV.Ws_e, EV.Wo_some, EV.Wv_some, EV.Wob_some, EV.Wtr_some, EV.Woi_some, EV.Ktup_ap, EV.Klst_ap, EV.Kbin_ap, EV.Kbin2_add, EV.Kbin2_sub, EV.Kbin2_mul, EV.Kbin2_mod, EV.Kbin2_fdiv, EV.Kneg_ap, EV.Kbl_ap, EV.Knot_ap, EV.Kand_t, EV.Kand_f, EV.Kor_t, EV.Kor_f, EV.Kcmp_ap, EV.Kcmp2_lt, EV.Kcmp2_le, EV.Kcmp2_gt, EV.Kcmp2_ge, EV.Kcmp2_eq, EV.Kcmp2_ne, EV.Kcmp2_is, EV.Kcmp2_isnot, EV.Kcmp2_isB, EV.Kchn_ap, EV.Kchn2_le, EV.Wch_t, EV.Wch_f, EV.Kife_t, EV.Kife_f, EV.Kidx_ap, EV.Kidx2_T0, EV.Kidx2_T1, EV.Kidx2_T2, EV.Kidx2_Tn, EV.Kidx2_O, EV.Wix_lst, EV.Wix_dK, EV.Wix_lkd, EV.Wix_dT, EV.atI_0, EV.atI_1, EV.atI_2, EV.atI_n, EV.Kcall_ap, EV.KcallK_ap, EV.KcallK2_ap, EV.Wpk_some, EV.Kbf_lenT, EV.Kbf_lenO, EV.Wln_lst, EV.Wln_dK, EV.Wln_dT, EV.Kbf_int, EV.Kbf_intB, EV.Kbf_min, EV.Kbf_max, EV.Kbf_isT, EV.Kbf_isI, EV.Kbf_isB, EV.Kbf_isS, EV.Kbf_isN, EV.Kbf_isO, EV.Wity_lst, EV.Kmt_app, EV.isLs_ap, EV.Kap_ap, EV.Wap_ap, EV.Kcon_tup, EV.Kcon_tupT, EV.Kcon_lst, EV.Kcon_live, EV.Wls_ap, EV.Wr_ctup, EV.Wr_clst, EV.Kc1_ap, EV.Kc2_ap, EV.Ktst_bl, EV.Ktst_tup, EV.Ktst_obj, EV.Wtl_lst, EV.KtstB_ap, EV.Knl_ap, EV.Kvl_ap, EV.Kitv_tup, EV.Kitv_obj, EV.Wlv_ap, EV.Kits_tup, EV.Kits_obj, EV.Wlc_ap, EV.Kenm_tup, EV.Kenm_obj, EV.Kzip_ap, EV.Kzip2_tup, EV.Krng_ap, EV.Krng2_0n, EV.Kasg_ap, EV.Wbd_nm, EV.Wbd_tup, EV.Wbds_nil, EV.Wbds_cons, EV.Kexp_ap, EV.Kret_ap, EV.Kseq_nx, EV.Kseq_rt, EV.Kseq_bk, EV.Kseq_ct, EV.Kif_t, EV.Kif_f, EV.Kset_ap, EV.Kset2_ap, EV.Kwhl_t, EV.Kwhl_f, EV.Kfor_nx, EV.Kfor_ct, EV.Kfor_bk, EV.Kfor_rt, EV.Kout_rt, EV.Kout_nx, EV.hp_get, EV.hp_get0, EV.hp_set, EV.hp_set0, List.getElem?_cons_zero, List.getElem?_cons_succ, List.set_cons_zero, List.set_cons_succ, List.length_cons, List.length_nil, List.length_map, List.getElem?_map, Option.map_some, Option.map_none, List.append_assoc, List.cons_append, List.nil_append, true_and, and_true, false_and, and_false, decide_true, decide_false, Bool.not_true, Bool.not_false, if_true, if_false, EV.isNon, and_self, Nat.zero_add, Bool.true_or, Bool.or_true, Bool.false_or, Bool.or_false, EV.gc_len, reduceIte, eq_self, Nat.reduceAdd, Int.reduceLT, Int.reduceLE, Int.reduceEq, Int.reduceNe, Int.reduceSub, Int.reduceAdd, Int.reduceMul, Int.reduceNeg, Int.reduceToNat, Int.cast_ofNat_Int, *])
local macro_rules | `(tactic| walk_at "v") => `(tactic| simp -implicitDefEqProofs (disch := first | omega | (simp only [List.length_cons, List.length_nil, List.length_map, List.length_append] <;> omega)) only [EV.Wb_nil, EV.Wb_pass, EV.Wb_asg, EV.Wb_expr, EV.Wb_ret, EV.Wb_retN, EV.Wb_brk, EV.Wb_cnt, EV.Wb_ite, EV.Wb_set, EV.Wb_for, EV.Wb_tryN, EV.We_cst, EV.We_var, EV.We_glb, EV.We_tup, EV.We_lst, EV.We_dnew, EV.We_bin, EV.We_neg, EV.We_not, EV.We_and, EV.We_or, EV.We_cmp, EV.We_chn, EV.We_ite, EV.We_idx, EV.We_call, EV.We_callK, EV.We_bf, EV.We_mt, EV.We_comp, EV.We_con, EV.Wl_nil, EV.Wl_cons, EV.Wi_itv, EV.Wi_its, EV.Wi_itc, EV.Wi_rng, EV.Wi_enm, EV.Wi_zip, EV.Wt_e, EV.Ws_e, EV.Wo_some, EV.Wv_some, EV.Wob_some, EV.Wtr_some, EV.Woi_some, EV.Ktup_ap, EV.Klst_ap, EV.Kbin_ap, EV.Kbin2_add, EV.Kbin2_sub, EV.Kbin2_mul, EV.Kbin2_mod, EV.Kbin2_fdiv, EV.Kneg_ap, EV.Kbl_ap, EV.Knot_ap, EV.Kand_t, EV.Kand_f, EV.Kor_t, EV.Kor_f, EV.Kcmp_ap, EV.Kcmp2_lt, EV.Kcmp2_le, EV.Kcmp2_gt, EV.Kcmp2_ge, EV.Kcmp2_eq, EV.Kcmp2_ne, EV.Kcmp2_is, EV.Kcmp2_isnot, EV.Kcmp2_isB, EV.Kchn_ap, EV.Kchn2_le, EV.Wch_t, EV.Wch_f, EV.Kife_t, EV.Kife_f, EV.Kidx_ap, EV.Kidx2_T0, EV.Kidx2_T1, EV.Kidx2_T2, EV.Kidx2_Tn, EV.Kidx2_O, EV.Wix_lst, EV.Wix_dK, EV.Wix_lkd, EV.Wix_dT, EV.atI_0, EV.atI_1, EV.atI_2, EV.atI_n, EV.Kcall_ap, EV.KcallK_ap, EV.KcallK2_ap, EV.Wpk_some, EV.Kbf_lenT, EV.Kbf_lenO, EV.Wln_lst, EV.Wln_dK, EV.Wln_dT, EV.Kbf_int, EV.Kbf_intB, EV.Kbf_min, EV.Kbf_max, EV.Kbf_isT, EV.Kbf_isI, EV.Kbf_isB, EV.Kbf_isS, EV.Kbf_isN, EV.Kbf_isO, EV.Wity_lst, EV.Kmt_app, EV.isLs_ap, EV.Kap_ap, EV.Wap_ap, EV.Kcon_tup, EV.Kcon_tupT, EV.Kcon_lst, EV.Kcon_live, EV.Wls_ap, EV.Wr_ctup, EV.Wr_clst, EV.Kc1_ap, EV.Kc2_ap, EV.Ktst_bl, EV.Ktst_tup, EV.Ktst_obj, EV.Wtl_lst, EV.KtstB_ap, EV.Knl_ap, EV.Kvl_ap, EV.Kitv_tup, EV.Kitv_obj, EV.Wlv_ap, EV.Kits_tup, EV.Kits_obj, EV.Wlc_ap, EV.Kenm_tup, EV.Kenm_obj, EV.Kzip_ap, EV.Kzip2_tup, EV.Krng_ap, EV.Krng2_0n, EV.Kasg_ap, EV.Wbd_nm, EV.Wbd_tup, EV.Wbds_nil, EV.Wbds_cons, EV.Kexp_ap, EV.Kret_ap, EV.Kseq_nx, EV.Kseq_rt, EV.Kseq_bk, EV.Kseq_ct, EV.Kif_t, EV.Kif_f, EV.Kset_ap, EV.Kset2_ap, EV.Kwhl_t, EV.Kwhl_f, EV.Kfor_nx, EV.Kfor_ct, EV.Kfor_bk, EV.Kfor_rt, EV.Kout_rt, EV.Kout_nx, EV.hp_get, EV.hp_get0, EV.hp_set, EV.hp_set0, List.getElem?_cons_zero, List.getElem?_cons_succ, List.set_cons_zero, List.set_cons_succ, List.length_cons, List.length_nil, List.length_map, List.getElem?_map, Option.map_some, Option.map_none, List.append_assoc, List.cons_append, List.nil_append, true_and, and_true, false_and, and_false, decide_true, decide_false, Bool.not_true, Bool.not_false, if_true, if_false, EV.isNon, and_self, Nat.zero_add, Bool.true_or, Bool.or_true, Bool.false_or, Bool.or_false, EV.gc_len, reduceIte, eq_self, Nat.reduceAdd, Int.reduceLT, Int.reduceLE, Int.reduceEq, Int.reduceNe, Int.reduceSub, Int.reduceAdd, Int.reduceMul, Int.reduceNeg, Int.reduceToNat, Int.cast_ofNat_Int])
/-! ### clocks -/
abbrev CRow := Option (Nat × Nat) × List (Nat × Nat)
def outP : Option (Nat × Nat) → PV
  | none => .non
  | some p => pv2 p
abbrev crowP (r : CRow) : PV := .tup [outP r.1, rowP r.2]
structure Clk where
  n : Nat
  A : Nat
  rows : List CRow
abbrev Clk.pv (c : Clk) : PV := .tup [nI c.n, nI c.A, .tup (c.rows.map crowP)]
structure Clk.Ok (c : Clk) : Prop where
  n1 : 1 ≤ c.n
  n4 : c.n ≤ 4
  a1 : 1 ≤ c.A
  a9 : c.A ≤ 9
  t1 : 1 ≤ c.rows.length
  t20 : c.rows.length ≤ 20
  row : ∀ r ∈ c.rows, r.2.length = c.n ∧ (∀ p ∈ r.2, p.1 < c.A ∧ p.2 < c.rows.length) ∧ ∀ o, r.1 = some o → 1 ≤ o.1 ∧ o.1 ≤ 1000000000000000000 ∧ o.2 < c.rows.length
theorem outP_none : outP none = .non := rfl
theorem outP_some {p : Nat × Nat} : outP (some p) = pv2 p := rfl
theorem outP_flat {o : Option (Nat × Nat)} : (outP o).flat = true := by cases o <;> rfl
theorem isNon_out {o : Option (Nat × Nat)} : isNon (outP o) = o.isNone := by cases o <;> rfl
theorem isNon_pv2 {p : Nat × Nat} : isNon (pv2 p) = false := rfl
theorem crow_get {c : Clk} (o : c.Ok) {i : Nat} (hi : i < c.rows.length) : ∃ r, c.rows[i]? = some r ∧ r.2.length = c.n ∧ (∀ p ∈ r.2, p.1 < c.A ∧ p.2 < c.rows.length) ∧ ∀ o, r.1 = some o → 1 ≤ o.1 ∧ o.1 ≤ 1000000000000000000 ∧ o.2 < c.rows.length :=
  ⟨c.rows[i], List.getElem?_eq_getElem hi, o.row _ (List.getElem_mem hi)⟩
theorem c12 {c : Clk} (o : c.Ok) {h : PH} {K : KV} {k : Nat} (hk : 3 ≤ k) : Wc (P.cc k) 12 [c.pv] h K = K .non h := by
  refine Wc_eq (w12 (by omega) ?_) K
  have n1 := o.n1; have n4 := o.n4; have a1 := o.a1; have a9 := o.a9; have t1 := o.t1; have t20 := o.t20
  have q1 : (1 : Int) ≤ (c.rows.length : Int) := by omega
  have q2 : (c.rows.length : Int) ≤ 20 := by omega
  unfold b12
  (have zz0 := @c1t; have zz1 := @g0; have zz2 := @g1; have zz3 := @g5; walk_at "w")
theorem c13 {c : Clk} (o : c.Ok) {s : Nat} (hs : s < c.rows.length) {h : PH} {K : KV} {k : Nat} (hk : 4 ≤ k) : Wc (P.cc k) 13 [c.pv, nI s] h K = K .non h := by
  refine Wc_eq (w13 (by omega) ?_) K
  obtain ⟨r, e, hl, hr, _⟩ := crow_get o hs
  have n4 := o.n4
  unfold b13
  walk_at "w"
  refine Kfors_enm (fun _ r1 h1 => h1 = h ∧ ∃ x y, r1 = [some c.pv, some (nI s), some (rowP r.2), x, y]) (by rw [fuelE, List.length_map]; omega) ⟨rfl, _, _, rfl⟩ (fun j x r1 h1 hx ⟨e1, y, z, e2⟩ => ?_) fun r1 h1 ⟨e1, y, z, e2⟩ => ?_
  · subst e1 e2
    rw [List.getElem?_map] at hx
    obtain ⟨p, hp, rfl⟩ := Option.map_eq_some_iff.mp hx
    obtain ⟨q1, q2⟩ := hr p (List.mem_of_getElem? hp)
    (have zz0 := @c2; walk_at "w")
    exact ⟨_, _, rfl⟩
  · subst e1 e2
    walk_at "w"
theorem c14 {v : Option (Nat × Nat)} {M : Nat} (hv : ∀ o, v = some o → 1 ≤ o.1 ∧ o.1 ≤ 1000000000000000000 ∧ o.2 < M) {h : PH} {K : KV} {k : Nat} (hk : 3 ≤ k) : Wc (P.cc k) 14 [outP v, nI M] h K = K (.bl true) h := by
  refine Wc_eq (w14 (by omega) ?_) K
  unfold b14
  cases v with
  | none => (have zz0 := @outP_none; walk_at "w")
  | some p =>
    obtain ⟨h1, h2, h3⟩ := hv p rfl
    (have zz0 := @outP_some; have zz1 := @isNon_pv2; have zz2 := @c1t; have zz3 := @g6; walk_at "w")
theorem c15 {c : Clk} (o : c.Ok) {h : PH} {K : KV} {k : Nat} (hk : 5 ≤ k) : Wc (P.cc k) 15 [c.pv] h K = K .non h := by
  refine Wc_eq (w15 (by omega) ?_) K
  have t20 := o.t20
  have e1 : ∀ K, Wc (P.cc (k - 1)) 12 [c.pv] h K = K .non h := fun K => c12 o (by omega)
  unfold b15
  walk_at "w"
  refine Kfors_enm (fun _ r1 h1 => h1 = h ∧ ∃ x y z, r1 = [some c.pv, x, y, z]) (by rw [fuelE, List.length_map]; omega) ⟨rfl, _, _, _, rfl⟩ (fun j x r1 h1 hx ⟨e1, y, z, u, e2⟩ => ?_) fun r1 h1 ⟨e1, y, z, u, e2⟩ => ?_
  · subst e1 e2
    rw [List.getElem?_map] at hx
    obtain ⟨r, hr, rfl⟩ := Option.map_eq_some_iff.mp hx
    have hj : j < c.rows.length := (List.getElem?_eq_some_iff.mp hr).1
    obtain ⟨q1, q2, q3⟩ := o.row r (List.mem_of_getElem? hr)
    have e2 : ∀ K, Wc (P.cc (k - 1)) 14 [outP r.1, nI c.rows.length] h1 K = K (.bl true) h1 := fun K => c14 q3 (by omega)
    have e3 : ∀ K, Wc (P.cc (k - 1)) 13 [c.pv, nI j] h1 K = K .non h1 := fun K => c13 o hj (by omega)
    walk_at "w"
    exact ⟨_, _, _, rfl⟩
  · subst e1 e2
    walk_at "w"
theorem c16 {c : Clk} (o : c.Ok) {h : PH} {K : KV} {k : Nat} (hk : 6 ≤ k) : Wc (P.cc k) 16 [c.pv] h K = K c.pv h := by
  refine Wc_eq (w16 (by omega) ?_) K
  have e1 : ∀ K, Wc (P.cc (k - 1)) 15 [c.pv] h K = K .non h := fun K => c15 o (by omega)
  unfold b16
  walk_at "w"
theorem c17 {c : Clk} {s : Nat} (hs : s < c.rows.length) {h : PH} {K : KV} {k : Nat} (hk : 3 ≤ k) : Wc (P.cc k) 17 [c.pv, nI s] h K = K .non h := by
  refine Wc_eq (w17 (by omega) ?_) K
  unfold b17
  (have zz0 := @c1t; walk_at "w")
theorem c18 {c : Clk} {s : Nat} (hs : s < c.n) {h : PH} {K : KV} {k : Nat} (hk : 3 ≤ k) : Wc (P.cc k) 18 [c.pv, nI s] h K = K .non h := by
  refine Wc_eq (w18 (by omega) ?_) K
  unfold b18
  (have zz0 := @c1t; walk_at "w")
/-- a timed word for n inputs -/
def TOk (n : Nat) (w : List (Nat × Nat)) : Prop := w.length ≤ 200 ∧ ∀ p ∈ w, p.1 ≤ 10000000000000000000000000000000000000000 ∧ p.2 < n
theorem c19 {c : Clk} {w : List (Nat × Nat)} (hw : TOk c.n w) {h : PH} {K : KV} {k : Nat} (hk : 3 ≤ k) : Wc (P.cc k) 19 [c.pv, rowP w] h K = K .non h := by
  refine Wc_eq (w19 (by omega) ?_) K
  have o1 := hw.1
  have q : ¬ (200 : Int) < (w.length : Int) := by omega
  unfold b19
  (have zz0 := @g8; walk_at "w")
  refine Kfors_enm (fun _ r1 h1 => h1 = h ∧ ∃ x y, r1 = [some c.pv, some (rowP w), x, y]) (by rw [fuelE, List.length_map]; omega) ⟨rfl, _, _, rfl⟩ (fun j x r1 h1 hx ⟨e1, y, z, e2⟩ => ?_) fun r1 h1 ⟨e1, y, z, e2⟩ => ?_
  · subst e1 e2
    rw [List.getElem?_map] at hx
    obtain ⟨p, hp, rfl⟩ := Option.map_eq_some_iff.mp hx
    obtain ⟨q1, q2⟩ := hw.2 p (List.mem_of_getElem? hp)
    (have zz0 := @c1t; have zz1 := @g7; walk_at "w")
    exact ⟨_, _, rfl⟩
  · subst e1 e2
    walk_at "w"
/-! ### what a clock does -/
def Clk.out (c : Clk) (s : Nat) : Option (Nat × Nat) := match c.rows[s]? with | some r => r.1 | none => none
def Clk.stp (c : Clk) (s x : Nat) : Nat × Nat := match c.rows[s]? with | some r => (r.2[x]?).getD (0, 0) | none => (0, 0)
theorem Clk.get {c : Clk} (o : c.Ok) {s : Nat} (hs : s < c.rows.length) : ∃ r, c.rows[s]? = some r ∧ r.1 = c.out s ∧ (∀ x, x < c.n → r.2[x]? = some (c.stp s x)) ∧ r.2.length = c.n := by
  obtain ⟨r, e, hl, hr, _⟩ := crow_get o hs
  refine ⟨r, e, by unfold Clk.out; rw [e], fun x hx => ?_, hl⟩
  unfold Clk.stp
  rw [e]
  have : x < r.2.length := by omega
  simp [this]
theorem Clk.out_ok {c : Clk} (o : c.Ok) {s : Nat} {p : Nat × Nat} (hs : s < c.rows.length) (e : c.out s = some p) : 1 ≤ p.1 ∧ p.1 ≤ 1000000000000000000 ∧ p.2 < c.rows.length := by
  obtain ⟨r, h1, h2, _⟩ := Clk.get o hs
  exact (o.row r (List.mem_of_getElem? h1)).2.2 p (by rw [h2, e])
theorem Clk.stp_ok {c : Clk} (o : c.Ok) {s x : Nat} (hs : s < c.rows.length) (hx : x < c.n) : (c.stp s x).1 < c.A ∧ (c.stp s x).2 < c.rows.length := by
  obtain ⟨r, h1, h2, h3, _⟩ := Clk.get o hs
  exact (o.row r (List.mem_of_getElem? h1)).2.1 _ (List.mem_of_getElem? (h3 x hx))
def stayP : Option (Nat × Nat) → PV
  | none => .non
  | some p => nI p.1
theorem c20 {c : Clk} (o : c.Ok) {s : Nat} (hs : s < c.rows.length) {h : PH} {K : KV} {k : Nat} (hk : 1 ≤ k) : Wc (P.cc k) 20 [c.pv, nI s] h K = K (stayP (c.out s)) h := by
  refine Wc_eq (w20 (by omega) ?_) K
  obtain ⟨r, e, h2, _⟩ := Clk.get o hs
  unfold b20
  cases q : c.out s with
  | none =>
    rw [q] at h2
    (have zz0 := @outP_none; have zz1 := @isNon; walk_at "w")
    rfl
  | some p =>
    rw [q] at h2
    (have zz0 := @outP_some; have zz1 := @isNon_pv2; walk_at "w")
    rfl
/-- one tick -/
def Clk.tk (c : Clk) (p : Nat × Nat) : Nat × Nat := match c.out p.1 with
  | none => (p.1, p.2 + 1)
  | some o => if p.2 + 1 < o.1 then (p.1, p.2 + 1) else (o.2, 0)
def Clk.tks (c : Clk) : Nat → Nat × Nat → Nat × Nat
  | 0, p => p
  | n + 1, p => c.tk (c.tks n p)
def Clk.st (c : Clk) (s w : Nat) : Nat × Nat := c.tks w (s, 0)
theorem Clk.tks_add (c : Clk) (m n : Nat) (p : Nat × Nat) : c.tks (m + n) p = c.tks m (c.tks n p) := by
  induction m with
  | zero => simp [Clk.tks]
  | succ m ih => rw [Nat.succ_add]; show c.tk _ = c.tk _; rw [ih]
theorem Clk.st_none {c : Clk} {s : Nat} (e : c.out s = none) : ∀ w, c.st s w = (s, w)
  | 0 => rfl
  | w + 1 => by
    have ih := Clk.st_none e w
    unfold Clk.st at ih ⊢
    show c.tk (c.tks w (s, 0)) = _
    rw [ih]
    unfold Clk.tk
    rw [e]
theorem Clk.st_lt {c : Clk} {s : Nat} {p : Nat × Nat} (e : c.out s = some p) : ∀ w, w < p.1 → c.st s w = (s, w)
  | 0, _ => rfl
  | w + 1, hw => by
    have ih := Clk.st_lt e w (by omega)
    unfold Clk.st at ih ⊢
    show c.tk (c.tks w (s, 0)) = _
    rw [ih]
    unfold Clk.tk
    rw [e]
    simp only
    rw [if_pos hw]
theorem Clk.st_at {c : Clk} {s : Nat} {p : Nat × Nat} (e : c.out s = some p) (h1 : 1 ≤ p.1) : c.st s p.1 = (p.2, 0) := by
  obtain ⟨w, hw⟩ : ∃ w, p.1 = w + 1 := ⟨p.1 - 1, by omega⟩
  have ih := Clk.st_lt e w (by omega)
  unfold Clk.st at ih ⊢
  rw [hw]
  show c.tk (c.tks w (s, 0)) = _
  rw [ih]
  unfold Clk.tk
  rw [e]
  simp only
  rw [if_neg (by omega)]
theorem Clk.st_ge {c : Clk} {s : Nat} {p : Nat × Nat} (e : c.out s = some p) (h1 : 1 ≤ p.1) {w : Nat} (hw : p.1 ≤ w) : c.st s w = c.st p.2 (w - p.1) := by
  have := Clk.tks_add c (w - p.1) p.1 (s, 0)
  rw [show w - p.1 + p.1 = w by omega] at this
  unfold Clk.st
  rw [this]
  have e2 := Clk.st_at e h1
  unfold Clk.st at e2
  rw [e2]
theorem Clk.tk_ok {c : Clk} (o : c.Ok) {p : Nat × Nat} (hp : p.1 < c.rows.length) : (c.tk p).1 < c.rows.length := by
  unfold Clk.tk
  cases q : c.out p.1 with
  | none => exact hp
  | some u =>
    simp only
    split
    · exact hp
    · exact (Clk.out_ok o hp q).2.2
theorem Clk.st_ok {c : Clk} (o : c.Ok) {s : Nat} (hs : s < c.rows.length) : ∀ w, (c.st s w).1 < c.rows.length
  | 0 => hs
  | w + 1 => Clk.tk_ok o (Clk.st_ok o hs w)
end Lw
end
section
set_option Elab.async false
set_option linter.all false
set_option maxRecDepth 100000
namespace Lw
open PySem EV
local macro_rules | `(tactic| walk_at "w") => `(tactic| simp -implicitDefEqProofs (disch := first | omega | (simp only [List.length_cons, List.length_nil, List.length_map, List.length_append] <;> omega)) only [EV.Wb_nil, EV.Wb_pass, EV.Wb_asg, EV.Wb_expr, EV.Wb_ret, EV.Wb_retN, EV.Wb_brk, EV.Wb_cnt, EV.Wb_ite, EV.Wb_set, EV.Wb_for, EV.Wb_tryN, EV.We_cst, EV.We_var, EV.We_glb, EV.We_tup, EV.We_lst, EV.We_dnew, EV.We_bin, EV.We_neg, EV.We_not, EV.We_and, EV.We_or, EV.We_cmp, EV.We_chn, EV.We_ite, EV.We_idx, EV.We_call, EV.We_callK, EV.We_bf, EV.We_mt, EV.We_comp, EV.We_con, EV.Wl_nil, EV.Wl_cons, EV.Wi_itv, EV.Wi_its, EV.Wi_itc, EV.Wi_rng, EV.Wi_enm, EV.Wi_zip, EV.Wt_e, EV.Ws_e, EV.Wo_some, EV.Wv_some, EV.Wob_some, EV.Wtr_some, EV.Woi_some, EV.Ktup_ap, EV.Klst_ap, EV.Kbin_ap, EV.Kbin2_add, EV.Kbin2_sub, EV.Kbin2_mul, EV.Kbin2_mod, EV.Kbin2_fdiv, EV.Kneg_ap, EV.Kbl_ap, EV.Knot_ap, EV.Kand_t, EV.Kand_f, EV.Kor_t, EV.Kor_f, EV.Kcmp_ap, EV.Kcmp2_lt, EV.Kcmp2_le, EV.Kcmp2_gt, EV.Kcmp2_ge, EV.Kcmp2_eq, EV.Kcmp2_ne, EV.Kcmp2_is, EV.Kcmp2_isnot, EV.Kcmp2_isB, EV.Kchn_ap, EV.Kchn2_le, EV.Wch_t, EV.Wch_f, EV.Kife_t, EV.Kife_f, EV.Kidx_ap, EV.Kidx2_T0, EV.Kidx2_T1, EV.Kidx2_T2, EV.Kidx2_Tn, EV.Kidx2_O, EV.Wix_lst, EV.Wix_dK, EV.Wix_lkd, EV.Wix_dT, EV.atI_0, EV.atI_1, EV.atI_2, EV.atI_n, EV.Kcall_ap, EV.KcallK_ap, EV.KcallK2_ap, EV.Wpk_some, EV.Kbf_lenT, EV.Kbf_lenO, EV.Wln_lst, EV.Wln_dK, EV.Wln_dT, EV.Kbf_int, EV.Kbf_intB, EV.Kbf_min, EV.Kbf_max, EV.Kbf_isT, EV.Kbf_isI, EV.Kbf_isB, EV.Kbf_isS, EV.Kbf_isN, EV.Kbf_isO, EV.Wity_lst, EV.Kmt_app, EV.isLs_ap, EV.Kap_ap, EV.Wap_ap, EV.Kcon_tup, EV.Kcon_tupT, EV.Kcon_lst, EV.Kcon_live, EV.Wls_ap, EV.Wr_ctup, EV.Wr_clst, EV.Kc1_ap, EV.Kc2_ap, EV.Ktst_bl, EV.Ktst_tup, EV.Ktst_obj, EV.Wtl_lst, EV.KtstB_ap, EV.Knl_ap, EV.Kvl_ap, EV.Kitv_tup, EV.Kitv_obj, EV.Wlv_ap, EV.Kits_tup, EV.Kits_obj, EV.Wlc_ap, EV.Kenm_tup, EV.Kenm_obj, EV.Kzip_ap, EV.Kzip2_tup, EV.Krng_ap, EV.Krng2_0n, EV.Kasg_ap, EV.Wbd_nm, EV.Wbd_tup, EV.Wbds_nil, EV.Wbds_cons, EV.Kexp_ap, EV.Kret_ap, EV.Kseq_nx, EV.Kseq_rt, EV.Kseq_bk, EV.Kseq_ct, EV.Kif_t, EV.Kif_f, EV.Kset_ap, EV.Kset2_ap, EV.Kwhl_t, EV.Kwhl_f, EV.Kfor_nx, EV.Kfor_ct, EV.Kfor_bk, EV.Kfor_rt, EV.Kout_rt, EV.Kout_nx, EV.hp_get, EV.hp_get0, EV.hp_set, EV.hp_set0, List.getElem?_cons_zero, List.getElem?_cons_succ, List.set_cons_zero, List.set_cons_succ, List.length_cons, List.length_nil, List.length_map, List.getElem?_map, Option.map_some, Option.map_none, List.append_assoc, List.cons_append, List.nil_append, true_and, and_true, false_and, and_false, decide_true, decide_false, Bool.not_true, Bool.not_false, if_true, if_false, EV.isNon, and_self, Nat.zero_add, Bool.true_or, Bool.or_true, Bool.false_or, Bool.or_false, EV.gc_len, reduceIte, eq_self, Nat.reduceAdd, Int.reduceLT, Int.reduceLE, Int.reduceEq, Int.reduceNe, Int.reduceSub, Int.reduceAdd, Int.reduceMul, Int.reduceNeg, Int.reduceToNat, Int.cast_ofNat_Int, *])
local macro_rules | `(tactic| walk_at "v") => `(tactic| simp -implicitDefEqProofs (disch := first | omega | (simp only [List.length_cons, List.length_nil, List.length_map, List.length_append] <;> omega)) only [EV.Wb_nil, EV.Wb_pass, EV.Wb_asg, EV.Wb_expr, EV.Wb_ret, EV.Wb_retN, EV.Wb_brk, EV.Wb_cnt, EV.Wb_ite, EV.Wb_set, EV.Wb_for, EV.Wb_tryN, EV.We_cst, EV.We_var, EV.We_glb, EV.We_tup, EV.We_lst, EV.We_dnew, EV.We_bin, EV.We_neg, EV.We_not, EV.We_and, EV.We_or, EV.We_cmp, EV.We_chn, EV.We_ite, EV.We_idx, EV.We_call, EV.We_callK, EV.We_bf, EV.We_mt, EV.We_comp, EV.We_con, EV.Wl_nil, EV.Wl_cons, EV.Wi_itv, EV.Wi_its, EV.Wi_itc, EV.Wi_rng, EV.Wi_enm, EV.Wi_zip, EV.Wt_e, EV.Ws_e, EV.Wo_some, EV.Wv_some, EV.Wob_some, EV.Wtr_some, EV.Woi_some, EV.Ktup_ap, EV.Klst_ap, EV.Kbin_ap, EV.Kbin2_add, EV.Kbin2_sub, EV.Kbin2_mul, EV.Kbin2_mod, EV.Kbin2_fdiv, EV.Kneg_ap, EV.Kbl_ap, EV.Knot_ap, EV.Kand_t, EV.Kand_f, EV.Kor_t, EV.Kor_f, EV.Kcmp_ap, EV.Kcmp2_lt, EV.Kcmp2_le, EV.Kcmp2_gt, EV.Kcmp2_ge, EV.Kcmp2_eq, EV.Kcmp2_ne, EV.Kcmp2_is, EV.Kcmp2_isnot, EV.Kcmp2_isB, EV.Kchn_ap, EV.Kchn2_le, EV.Wch_t, EV.Wch_f, EV.Kife_t, EV.Kife_f, EV.Kidx_ap, EV.Kidx2_T0, EV.Kidx2_T1, EV.Kidx2_T2, EV.Kidx2_Tn, EV.Kidx2_O, EV.Wix_lst, EV.Wix_dK, EV.Wix_lkd, EV.Wix_dT, EV.atI_0, EV.atI_1, EV.atI_2, EV.atI_n, EV.Kcall_ap, EV.KcallK_ap, EV.KcallK2_ap, EV.Wpk_some, EV.Kbf_lenT, EV.Kbf_lenO, EV.Wln_lst, EV.Wln_dK, EV.Wln_dT, EV.Kbf_int, EV.Kbf_intB, EV.Kbf_min, EV.Kbf_max, EV.Kbf_isT, EV.Kbf_isI, EV.Kbf_isB, EV.Kbf_isS, EV.Kbf_isN, EV.Kbf_isO, EV.Wity_lst, EV.Kmt_app, EV.isLs_ap, EV.Kap_ap, EV.Wap_ap, EV.Kcon_tup, EV.Kcon_tupT, EV.Kcon_lst, EV.Kcon_live, EV.Wls_ap, EV.Wr_ctup, EV.Wr_clst, EV.Kc1_ap, EV.Kc2_ap, EV.Ktst_bl, EV.Ktst_tup, EV.Ktst_obj, EV.Wtl_lst, EV.KtstB_ap, EV.Knl_ap, EV.Kvl_ap, EV.Kitv_tup, EV.Kitv_obj, EV.Wlv_ap, EV.Kits_tup, EV.Kits_obj, EV.Wlc_ap, EV.Kenm_tup, EV.Kenm_obj, EV.Kzip_ap, EV.Kzip2_tup, EV.Krng_ap, EV.Krng2_0n, EV.Kasg_ap, EV.Wbd_nm, EV.Wbd_tup, EV.Wbds_nil, EV.Wbds_cons, EV.Kexp_ap, EV.Kret_ap, EV.Kseq_nx, EV.Kseq_rt, EV.Kseq_bk, EV.Kseq_ct, EV.Kif_t, EV.Kif_f, EV.Kset_ap, EV.Kset2_ap, EV.Kwhl_t, EV.Kwhl_f, EV.Kfor_nx, EV.Kfor_ct, EV.Kfor_bk, EV.Kfor_rt, EV.Kout_rt, EV.Kout_nx, EV.hp_get, EV.hp_get0, EV.hp_set, EV.hp_set0, List.getElem?_cons_zero, List.getElem?_cons_succ, List.set_cons_zero, List.set_cons_succ, List.length_cons, List.length_nil, List.length_map, List.getElem?_map, Option.map_some, Option.map_none, List.append_assoc, List.cons_append, List.nil_append, true_and, and_true, false_and, and_false, decide_true, decide_false, Bool.not_true, Bool.not_false, if_true, if_false, EV.isNon, and_self, Nat.zero_add, Bool.true_or, Bool.or_true, Bool.false_or, Bool.or_false, EV.gc_len, reduceIte, eq_self, Nat.reduceAdd, Int.reduceLT, Int.reduceLE, Int.reduceEq, Int.reduceNe, Int.reduceSub, Int.reduceAdd, Int.reduceMul, Int.reduceNeg, Int.reduceToNat, Int.cast_ofNat_Int])
/-! ### courses -/
/-- to the next state, and when -/
def Clk.mv (c : Clk) (p : Nat × Nat) : Nat × Nat := match c.out p.1 with
  | some o => (o.2, p.2 + o.1)
  | none => p
def Clk.cr (c : Clk) (s : Nat) : Nat → Nat × Nat
  | 0 => (s, 0)
  | i + 1 => c.mv (c.cr s i)
def Clk.crs (c : Clk) (s i : Nat) : List (Nat × Nat) := (List.range i).map (c.cr s)
theorem Clk.crs_succ {c : Clk} {s i : Nat} : c.crs s (i + 1) = c.crs s i ++ [c.cr s i] := by unfold Clk.crs; rw [List.range_succ, List.map_append]; rfl
theorem Clk.crs_len {c : Clk} {s i : Nat} : (c.crs s i).length = i := by unfold Clk.crs; rw [List.length_map, List.length_range]
theorem Clk.crs_get {c : Clk} {s i j : Nat} (h : j < i) : (c.crs s i)[j]? = some (c.cr s j) := by unfold Clk.crs; rw [List.getElem?_map, List.getElem?_range h]; rfl
def Clk.go (c : Clk) (s i : Nat) : Prop := ∀ j, j < i → ∃ p, c.out (c.cr s j).1 = some p
theorem Clk.cr_succ {c : Clk} {s i : Nat} {p : Nat × Nat} (e : c.out (c.cr s i).1 = some p) : c.cr s (i + 1) = (p.2, (c.cr s i).2 + p.1) := by
  show c.mv (c.cr s i) = _
  unfold Clk.mv
  rw [e]
theorem Clk.cr_lt {c : Clk} (o : c.Ok) {s : Nat} (hs : s < c.rows.length) : ∀ i, (c.cr s i).1 < c.rows.length
  | 0 => hs
  | i + 1 => by
    have ih := Clk.cr_lt o hs i
    show (c.mv (c.cr s i)).1 < _
    unfold Clk.mv
    cases q : c.out (c.cr s i).1 with
    | none => exact ih
    | some p => exact (Clk.out_ok o ih q).2.2
theorem Clk.cr_mono {c : Clk} (o : c.Ok) {s : Nat} (hs : s < c.rows.length) {i : Nat} (g : c.go s i) : ∀ {j}, j < i → (c.cr s j).2 < (c.cr s i).2 := by
  induction i with
  | zero => intro j hj; omega
  | succ i ih =>
    intro j hj
    obtain ⟨p, hp⟩ := g i (by omega)
    have h1 := (Clk.out_ok o (Clk.cr_lt o hs i) hp).1
    rw [Clk.cr_succ hp]
    simp only
    by_cases q : j = i
    · subst q; omega
    · have := ih (fun j hj => g j (by omega)) (j := j) (by omega)
      omega
/-- where it stands, seen from where it comes -/
theorem Clk.st_cr {c : Clk} (o : c.Ok) {s : Nat} (hs : s < c.rows.length) : ∀ {i : Nat}, c.go s i → ∀ v, c.st s ((c.cr s i).2 + v) = c.st (c.cr s i).1 v
  | 0, _, v => by show c.st s (0 + v) = c.st s v; rw [Nat.zero_add]
  | i + 1, g, v => by
    obtain ⟨p, hp⟩ := g i (by omega)
    have h1 := (Clk.out_ok o (Clk.cr_lt o hs i) hp).1
    rw [Clk.cr_succ hp]
    simp only
    rw [Nat.add_assoc, Clk.st_cr o hs (fun j hj => g j (by omega)) (p.1 + v), Clk.st_ge hp h1 (by omega)]
    congr 1; omega
/-- a round -/
theorem Clk.st_round {c : Clk} (o : c.Ok) {s : Nat} (hs : s < c.rows.length) {i b : Nat} (g : c.go s i) (hb : b < i) (e : (c.cr s b).1 = (c.cr s i).1) (v : Nat) : c.st s ((c.cr s b).2 + ((c.cr s i).2 - (c.cr s b).2) + v) = c.st s ((c.cr s b).2 + v) := by
  have hm := Clk.cr_mono o hs g hb
  rw [show (c.cr s b).2 + ((c.cr s i).2 - (c.cr s b).2) + v = (c.cr s i).2 + v by omega, Clk.st_cr o hs g, ← e, Clk.st_cr o hs (fun j hj => g j (by omega))]
theorem Clk.st_mod {c : Clk} (o : c.Ok) {s : Nat} (hs : s < c.rows.length) {i b : Nat} (g : c.go s i) (hb : b < i) (e : (c.cr s b).1 = (c.cr s i).1) : ∀ v, c.st s ((c.cr s b).2 + v) = c.st s ((c.cr s b).2 + v % ((c.cr s i).2 - (c.cr s b).2)) := by
  intro v
  have hm := Clk.cr_mono o hs g hb
  induction v using Nat.strongRecOn with
  | _ v ih =>
    by_cases h : v < (c.cr s i).2 - (c.cr s b).2
    · rw [Nat.mod_eq_of_lt h]
    · have r := Clk.st_round o hs g hb e (v - ((c.cr s i).2 - (c.cr s b).2))
      rw [show (c.cr s b).2 + ((c.cr s i).2 - (c.cr s b).2) + (v - ((c.cr s i).2 - (c.cr s b).2)) = (c.cr s b).2 + v by omega] at r
      rw [r, ih _ (by omega), Nat.mod_eq_sub_mod (a := v) (by omega)]
/-- the states of a course -/
theorem Clk.fsts {c : Clk} {s i : Nat} : (c.crs s i).map (fun p => nI p.1) = ((List.range i).map fun j => (c.cr s j).1).map nI := by unfold Clk.crs; rw [List.map_map, List.map_map]; rfl
def Clk.ss (c : Clk) (s i : Nat) : List Nat := (List.range i).map fun j => (c.cr s j).1
theorem Clk.ss_mem {c : Clk} {s i x : Nat} : x ∈ c.ss s i ↔ ∃ j, j < i ∧ (c.cr s j).1 = x := by
  unfold Clk.ss
  rw [List.mem_map]
  simp only [List.mem_range]
theorem Clk.ss_succ {c : Clk} {s i : Nat} : c.ss s (i + 1) = c.ss s i ++ [(c.cr s i).1] := by unfold Clk.ss; rw [List.range_succ, List.map_append]; rfl
theorem Clk.ss_len {c : Clk} {s i : Nat} : (c.ss s i).length = i := by unfold Clk.ss; rw [List.length_map, List.length_range]
theorem Clk.ss_get {c : Clk} {s i j : Nat} (h : j < i) : (c.ss s i)[j]? = some (c.cr s j).1 := by unfold Clk.ss; rw [List.getElem?_map, List.getElem?_range h]; rfl
/-- how a course ends -/
structure Clk.End (c : Clk) (s i : Nat) (b : Option Nat) : Prop where
  i1 : 1 ≤ i
  le : i ≤ c.rows.length
  nd : (c.ss s i).Nodup
  fin : match b with
    | none => c.go s (i - 1) ∧ c.out (c.cr s (i - 1)).1 = none
    | some b => c.go s i ∧ b < i ∧ (c.cr s b).1 = (c.cr s i).1
theorem Clk.ss_le {c : Clk} (o : c.Ok) {s : Nat} (hs : s < c.rows.length) {i : Nat} (nd : (c.ss s i).Nodup) : i ≤ c.rows.length := by
  have := pigeon c.rows.length (c.ss s i) nd fun x hx => by
    obtain ⟨j, _, rfl⟩ := Clk.ss_mem.mp hx
    exact Clk.cr_lt o hs j
  rwa [Clk.ss_len] at this
theorem Clk.ss_nd {c : Clk} {s i : Nat} (nd : (c.ss s i).Nodup) (hm : (c.cr s i).1 ∉ c.ss s i) : (c.ss s (i + 1)).Nodup := by
  rw [Clk.ss_succ, List.nodup_append]
  exact ⟨nd, by simp, fun a ha b hb => by rw [List.mem_singleton.mp hb]; exact fun e => hm (by rw [← e]; exact ha)⟩
def optI : Option Nat → PV
  | none => .non
  | some n => nI n
theorem c21 {c : Clk} (o : c.Ok) {s : Nat} (hs : s < c.rows.length) {h : PH} (cl : Cl h) {K : KV} {k : Nat} (hk : 1 ≤ k)
    (hK : ∀ i b g, c.End s i b → K (.tup [.obj h.length, optI b]) (h ++ .lst false ((c.crs s i).map pv2) :: g)) : Wc (P.cc k) 21 [c.pv, nI s] h K := by
  refine w21 (by omega) ?_
  unfold b21
  walk_at "w"
  have t20 := o.t20
  have gk : ∀ (v : PV) (i : Nat) (g : PH), gc h.length (.tup [.obj h.length, v]) (h ++ .lst false ((c.crs s i).map pv2) :: g) = h ++ .lst false ((c.crs s i).map pv2) :: g := fun v i g => by
    unfold gc
    rw [if_neg]
    intro z
    rw [Bool.and_eq_true] at z
    have z1 : (decide (h.length < h.length) && _) = true := z.1
    rw [decide_eq_false (Nat.lt_irrefl _)] at z1
    cases z1
  refine Wb_whl (m := c.rows.length) (by rw [fuelE]; omega) (I := fun m r1 h1 => ∃ i, m = c.rows.length - i ∧ c.go s i ∧ (c.ss s i).Nodup ∧ (∃ g, h1 = h ++ .lst false ((c.crs s i).map pv2) :: g) ∧ ∃ x, r1 = [some c.pv, some (nI s), some (.obj h.length), some (nI (c.cr s i).1), some (nI (c.cr s i).2), x])
    ⟨0, by omega, fun j hj => absurd hj (Nat.not_lt_zero _), .nil, ⟨[], rfl⟩, _, rfl⟩ fun m r1 h1 ⟨i, j1, go, nd, ⟨g, q1⟩, x, q2⟩ => ?_
  subst q1 q2
  have hle := Clk.ss_le o hs nd
  have lx := Clk.cr_lt o hs i
  have hcl : (c.crs s i).length = i := Clk.crs_len
  -- the states so far
  have comp : ∀ (g : PH) (K : List PV → PH → Prop) (x : Option PV), K ((c.ss s i).map nI) (h ++ .lst false ((c.crs s i).map pv2) :: g) → Klp (P.cc (k - 1)) [some c.pv, some (nI s), some (.obj h.length), some (nI (c.cr s i).1), some (nI (c.cr s i).2), x] (.idx (.var 5) (.cst (.int 0))) (.nm 5) (.cst (.bl true)) [5] K (.live h.length) (h ++ .lst false ((c.crs s i).map pv2) :: g) := fun g K x hK => by
    refine Klp_map (l := c.crs s i) (f := pv2) (g := fun p => nI p.1) (by rw [fuelE]; omega) (by omega) (iw_live hp_get0) (fun a _ => ?_) ?_
    · simp only [wipeP]
      walk_at "w"
    · rw [Clk.fsts]; exact hK
  walk_at "w"
  refine comp g _ _ ?_
  walk_at "w"
  have hend : ∀ g : PH, (h ++ .lst false ((c.crs s i).map pv2) :: (g ++ [.lst false ((c.ss s i).map nI)]))[(h ++ .lst false ((c.crs s i).map pv2) :: g).length]? = some (.lst false ((c.ss s i).map nI)) := fun g => by
    rw [List.getElem?_append_right (by simp)]
    simp
  have hin := isIn_lst (x := (c.cr s i).1) (l := c.ss s i) (fz := false) dat_nat (by omega) (hend g)
  have gsn : ∀ g : PH, (h ++ .lst false ((c.crs s i).map pv2 ++ [.tup [nI (c.cr s i).1, nI (c.cr s i).2]]) :: g) = h ++ .lst false ((c.crs s (i + 1)).map pv2) :: g := fun g => by rw [Clk.crs_succ, List.map_append]; rfl
  by_cases hm : (c.cr s i).1 ∈ c.ss s i
  · rw [decide_eq_true hm] at hin
    (have zz0 := @Kcmp2_notin; walk_at "w")
    generalize g ++ [.lst false ((c.ss s i).map nI)] = g2
    refine comp g2 _ _ ?_
    obtain ⟨b, hb, hidx⟩ := index_lst (x := (c.cr s i).1) (l := c.ss s i) (fz := false) dat_nat (by omega) (hend g2) hm
    have hbi : b < i := by have := (List.getElem?_eq_some_iff.mp hb).1; rw [Clk.ss_len] at this; exact this
    rw [Clk.ss_get hbi] at hb
    have q4 := fun c' r K es => Kmt_idx (c := c') (r := r) (K := K) (es := es) (hend g2)
    have q5 := fun K => Kmt2_of (K := K) hidx
    walk_at "w"
    exact hK i (some b) _ ⟨by omega, hle, nd, go, hbi, Option.some.inj hb⟩
  · rw [decide_eq_false hm] at hin
    have nd2 := Clk.ss_nd nd hm
    have hle2 := Clk.ss_le o hs nd2
    obtain ⟨r, e, h2, _⟩ := Clk.get o lx
    have hz : ((c.crs s i).map pv2).length ≤ 16777215 := by rw [List.length_map]; omega
    cases q : c.out (c.cr s i).1 with
    | none =>
      rw [q] at h2
      (have zz0 := @Kcmp2_notin; have zz1 := @outP_none; walk_at "w")
      exact hK (i + 1) none _ ⟨by omega, hle2, nd2, go, q⟩
    | some p =>
      rw [q] at h2
      (have zz0 := @Kcmp2_notin; have zz1 := @outP_some; have zz2 := @isNon_pv2; walk_at "w")
      refine ⟨c.rows.length - (i + 1), by omega, i + 1, rfl, fun j hj => ?_, nd2, ⟨_, rfl⟩, x, ?_⟩
      · by_cases hji : j = i
        · rw [hji]; exact ⟨p, q⟩
        · exact go j (by omega)
      · rw [Clk.cr_succ q]; rfl
end Lw
end
section
set_option Elab.async false
set_option linter.all false
set_option maxRecDepth 100000
namespace Lw
open PySem EV
local macro_rules | `(tactic| walk_at "w") => `(tactic| simp -implicitDefEqProofs (disch := first | omega | (simp only [List.length_cons, List.length_nil, List.length_map, List.length_append] <;> omega)) only [EV.Wb_nil, EV.Wb_pass, EV.Wb_asg, EV.Wb_expr, EV.Wb_ret, EV.Wb_retN, EV.Wb_brk, EV.Wb_cnt, EV.Wb_ite, EV.Wb_set, EV.Wb_for, EV.Wb_tryN, EV.We_cst, EV.We_var, EV.We_glb, EV.We_tup, EV.We_lst, EV.We_dnew, EV.We_bin, EV.We_neg, EV.We_not, EV.We_and, EV.We_or, EV.We_cmp, EV.We_chn, EV.We_ite, EV.We_idx, EV.We_call, EV.We_callK, EV.We_bf, EV.We_mt, EV.We_comp, EV.We_con, EV.Wl_nil, EV.Wl_cons, EV.Wi_itv, EV.Wi_its, EV.Wi_itc, EV.Wi_rng, EV.Wi_enm, EV.Wi_zip, EV.Wt_e, EV.Ws_e, EV.Wo_some, EV.Wv_some, EV.Wob_some, EV.Wtr_some, EV.Woi_some, EV.Ktup_ap, EV.Klst_ap, EV.Kbin_ap, EV.Kbin2_add, EV.Kbin2_sub, EV.Kbin2_mul, EV.Kbin2_mod, EV.Kbin2_fdiv, EV.Kneg_ap, EV.Kbl_ap, EV.Knot_ap, EV.Kand_t, EV.Kand_f, EV.Kor_t, EV.Kor_f, EV.Kcmp_ap, EV.Kcmp2_lt, EV.Kcmp2_le, EV.Kcmp2_gt, EV.Kcmp2_ge, EV.Kcmp2_eq, EV.Kcmp2_ne, EV.Kcmp2_is, EV.Kcmp2_isnot, EV.Kcmp2_isB, EV.Kchn_ap, EV.Kchn2_le, EV.Wch_t, EV.Wch_f, EV.Kife_t, EV.Kife_f, EV.Kidx_ap, EV.Kidx2_T0, EV.Kidx2_T1, EV.Kidx2_T2, EV.Kidx2_Tn, EV.Kidx2_O, EV.Wix_lst, EV.Wix_dK, EV.Wix_lkd, EV.Wix_dT, EV.atI_0, EV.atI_1, EV.atI_2, EV.atI_n, EV.Kcall_ap, EV.KcallK_ap, EV.KcallK2_ap, EV.Wpk_some, EV.Kbf_lenT, EV.Kbf_lenO, EV.Wln_lst, EV.Wln_dK, EV.Wln_dT, EV.Kbf_int, EV.Kbf_intB, EV.Kbf_min, EV.Kbf_max, EV.Kbf_isT, EV.Kbf_isI, EV.Kbf_isB, EV.Kbf_isS, EV.Kbf_isN, EV.Kbf_isO, EV.Wity_lst, EV.Kmt_app, EV.isLs_ap, EV.Kap_ap, EV.Wap_ap, EV.Kcon_tup, EV.Kcon_tupT, EV.Kcon_lst, EV.Kcon_live, EV.Wls_ap, EV.Wr_ctup, EV.Wr_clst, EV.Kc1_ap, EV.Kc2_ap, EV.Ktst_bl, EV.Ktst_tup, EV.Ktst_obj, EV.Wtl_lst, EV.KtstB_ap, EV.Knl_ap, EV.Kvl_ap, EV.Kitv_tup, EV.Kitv_obj, EV.Wlv_ap, EV.Kits_tup, EV.Kits_obj, EV.Wlc_ap, EV.Kenm_tup, EV.Kenm_obj, EV.Kzip_ap, EV.Kzip2_tup, EV.Krng_ap, EV.Krng2_0n, EV.Kasg_ap, EV.Wbd_nm, EV.Wbd_tup, EV.Wbds_nil, EV.Wbds_cons, EV.Kexp_ap, EV.Kret_ap, EV.Kseq_nx, EV.Kseq_rt, EV.Kseq_bk, EV.Kseq_ct, EV.Kif_t, EV.Kif_f, EV.Kset_ap, EV.Kset2_ap, EV.Kwhl_t, EV.Kwhl_f, EV.Kfor_nx, EV.Kfor_ct, EV.Kfor_bk, EV.Kfor_rt, EV.Kout_rt, EV.Kout_nx, EV.hp_get, EV.hp_get0, EV.hp_set, EV.hp_set0, List.getElem?_cons_zero, List.getElem?_cons_succ, List.set_cons_zero, List.set_cons_succ, List.length_cons, List.length_nil, List.length_map, List.getElem?_map, Option.map_some, Option.map_none, List.append_assoc, List.cons_append, List.nil_append, true_and, and_true, false_and, and_false, decide_true, decide_false, Bool.not_true, Bool.not_false, if_true, if_false, EV.isNon, and_self, Nat.zero_add, Bool.true_or, Bool.or_true, Bool.false_or, Bool.or_false, EV.gc_len, reduceIte, eq_self, Nat.reduceAdd, Int.reduceLT, Int.reduceLE, Int.reduceEq, Int.reduceNe, Int.reduceSub, Int.reduceAdd, Int.reduceMul, Int.reduceNeg, Int.reduceToNat, Int.cast_ofNat_Int, *])
local macro_rules | `(tactic| walk_at "v") => `(tactic| simp -implicitDefEqProofs (disch := first | omega | (simp only [List.length_cons, List.length_nil, List.length_map, List.length_append] <;> omega)) only [EV.Wb_nil, EV.Wb_pass, EV.Wb_asg, EV.Wb_expr, EV.Wb_ret, EV.Wb_retN, EV.Wb_brk, EV.Wb_cnt, EV.Wb_ite, EV.Wb_set, EV.Wb_for, EV.Wb_tryN, EV.We_cst, EV.We_var, EV.We_glb, EV.We_tup, EV.We_lst, EV.We_dnew, EV.We_bin, EV.We_neg, EV.We_not, EV.We_and, EV.We_or, EV.We_cmp, EV.We_chn, EV.We_ite, EV.We_idx, EV.We_call, EV.We_callK, EV.We_bf, EV.We_mt, EV.We_comp, EV.We_con, EV.Wl_nil, EV.Wl_cons, EV.Wi_itv, EV.Wi_its, EV.Wi_itc, EV.Wi_rng, EV.Wi_enm, EV.Wi_zip, EV.Wt_e, EV.Ws_e, EV.Wo_some, EV.Wv_some, EV.Wob_some, EV.Wtr_some, EV.Woi_some, EV.Ktup_ap, EV.Klst_ap, EV.Kbin_ap, EV.Kbin2_add, EV.Kbin2_sub, EV.Kbin2_mul, EV.Kbin2_mod, EV.Kbin2_fdiv, EV.Kneg_ap, EV.Kbl_ap, EV.Knot_ap, EV.Kand_t, EV.Kand_f, EV.Kor_t, EV.Kor_f, EV.Kcmp_ap, EV.Kcmp2_lt, EV.Kcmp2_le, EV.Kcmp2_gt, EV.Kcmp2_ge, EV.Kcmp2_eq, EV.Kcmp2_ne, EV.Kcmp2_is, EV.Kcmp2_isnot, EV.Kcmp2_isB, EV.Kchn_ap, EV.Kchn2_le, EV.Wch_t, EV.Wch_f, EV.Kife_t, EV.Kife_f, EV.Kidx_ap, EV.Kidx2_T0, EV.Kidx2_T1, EV.Kidx2_T2, EV.Kidx2_Tn, EV.Kidx2_O, EV.Wix_lst, EV.Wix_dK, EV.Wix_lkd, EV.Wix_dT, EV.atI_0, EV.atI_1, EV.atI_2, EV.atI_n, EV.Kcall_ap, EV.KcallK_ap, EV.KcallK2_ap, EV.Wpk_some, EV.Kbf_lenT, EV.Kbf_lenO, EV.Wln_lst, EV.Wln_dK, EV.Wln_dT, EV.Kbf_int, EV.Kbf_intB, EV.Kbf_min, EV.Kbf_max, EV.Kbf_isT, EV.Kbf_isI, EV.Kbf_isB, EV.Kbf_isS, EV.Kbf_isN, EV.Kbf_isO, EV.Wity_lst, EV.Kmt_app, EV.isLs_ap, EV.Kap_ap, EV.Wap_ap, EV.Kcon_tup, EV.Kcon_tupT, EV.Kcon_lst, EV.Kcon_live, EV.Wls_ap, EV.Wr_ctup, EV.Wr_clst, EV.Kc1_ap, EV.Kc2_ap, EV.Ktst_bl, EV.Ktst_tup, EV.Ktst_obj, EV.Wtl_lst, EV.KtstB_ap, EV.Knl_ap, EV.Kvl_ap, EV.Kitv_tup, EV.Kitv_obj, EV.Wlv_ap, EV.Kits_tup, EV.Kits_obj, EV.Wlc_ap, EV.Kenm_tup, EV.Kenm_obj, EV.Kzip_ap, EV.Kzip2_tup, EV.Krng_ap, EV.Krng2_0n, EV.Kasg_ap, EV.Wbd_nm, EV.Wbd_tup, EV.Wbds_nil, EV.Wbds_cons, EV.Kexp_ap, EV.Kret_ap, EV.Kseq_nx, EV.Kseq_rt, EV.Kseq_bk, EV.Kseq_ct, EV.Kif_t, EV.Kif_f, EV.Kset_ap, EV.Kset2_ap, EV.Kwhl_t, EV.Kwhl_f, EV.Kfor_nx, EV.Kfor_ct, EV.Kfor_bk, EV.Kfor_rt, EV.Kout_rt, EV.Kout_nx, EV.hp_get, EV.hp_get0, EV.hp_set, EV.hp_set0, List.getElem?_cons_zero, List.getElem?_cons_succ, List.set_cons_zero, List.set_cons_succ, List.length_cons, List.length_nil, List.length_map, List.getElem?_map, Option.map_some, Option.map_none, List.append_assoc, List.cons_append, List.nil_append, true_and, and_true, false_and, and_false, decide_true, decide_false, Bool.not_true, Bool.not_false, if_true, if_false, EV.isNon, and_self, Nat.zero_add, Bool.true_or, Bool.or_true, Bool.false_or, Bool.or_false, EV.gc_len, reduceIte, eq_self, Nat.reduceAdd, Int.reduceLT, Int.reduceLE, Int.reduceEq, Int.reduceNe, Int.reduceSub, Int.reduceAdd, Int.reduceMul, Int.reduceNeg, Int.reduceToNat, Int.cast_ofNat_Int])
/-- the last one that keeps a test -/
theorem last_filter {α : Type} {g : Nat → α} {p : α → Bool} : ∀ {i : Nat}, (∃ j, j < i ∧ p (g j) = true) → ∃ j, j < i ∧ p (g j) = true ∧ (∀ j', j < j' → j' < i → p (g j') = false) ∧ ∃ l, ((List.range i).map g).filter p = l ++ [g j]
  | 0, ⟨j, hj, _⟩ => absurd hj (Nat.not_lt_zero _)
  | i + 1, ⟨j, hj, hp⟩ => by
    rw [List.range_succ, List.map_append, List.filter_append]
    by_cases q : p (g i) = true
    · refine ⟨i, Nat.lt_succ_self i, q, fun j' h1 h2 => by omega, ((List.range i).map g).filter p, ?_⟩
      rw [List.map_cons, List.map_nil, List.filter_cons, if_pos q, List.filter_nil]
    · have q : p (g i) = false := by simpa using q
      have hji : j < i := by
        by_cases e : j = i
        · subst e; rw [q] at hp; cases hp
        · omega
      obtain ⟨j2, h1, h2, h3, l, h4⟩ := last_filter (g := g) (p := p) ⟨j, hji, hp⟩
      refine ⟨j2, by omega, h2, fun j' a b => ?_, l, ?_⟩
      · by_cases e : j' = i
        · rw [e]; exact q
        · exact h3 j' a (by omega)
      · rw [h4, List.map_cons, List.map_nil, List.filter_cons, if_neg (by rw [q]; exact Bool.false_ne_true), List.filter_nil, List.append_nil]
theorem atI_last {α : Type} {l : List α} {a : α} : L2.atI (l ++ [a]) (-1) = some a := by
  unfold L2.atI L2.ixN
  have e : ((-1 : Int) + (((l ++ [a]).length : Nat) : Int)).toNat = l.length := by simp; omega
  rw [if_neg (by omega), if_pos (by simp; omega)]
  show (l ++ [a])[_]? = _
  rw [e]
  simp
theorem c22 {c : Clk} (o : c.Ok) {s : Nat} (hs : s < c.rows.length) {i b : Nat} (go : c.go s i) (hb : b < i) {h : PH} {n : Nat} (e : h[n]? = some (.lst false ((c.crs s i).map pv2))) {K : KV} {k : Nat} (hk : 2 ≤ k) :
    Wc (P.cc k) 22 [c.pv, .obj n, nI b] h K = K (.int (((c.cr s i).2 : Int) - ((c.cr s b).2 : Int))) h := by
  refine Wc_eq (w22 (by omega) ?_) K
  obtain ⟨j, rfl⟩ : ∃ j, i = j + 1 := ⟨i - 1, by omega⟩
  obtain ⟨p, hp⟩ := go j (by omega)
  have q1 : L2.atI ((c.crs s (j + 1)).map pv2) (-1) = some (pv2 (c.cr s j)) := by rw [Clk.crs_succ, List.map_append]; exact atI_last
  have q2 : (c.crs s (j + 1))[b]? = some (c.cr s b) := Clk.crs_get hb
  have q3 : ∀ K h, Wc (P.cc (k - 1)) 20 [c.pv, nI (c.cr s j).1] h K = K (nI p.1) h := fun K h => by rw [c20 o (Clk.cr_lt o hs j) (by omega), hp]; rfl
  have q4 : ((c.cr s (j + 1)).2 : Int) = ((c.cr s j).2 : Int) + (p.1 : Int) := by rw [Clk.cr_succ hp]; simp
  unfold b22
  walk_at "w"
theorem c23 {c : Clk} (o : c.Ok) {s w : Nat} (hs : s < c.rows.length) {h : PH} (cl : Cl h) {K : KV} {k : Nat} (hk : 3 ≤ k) : Wc (P.cc k) 23 [c.pv, nI s, nI w] h K = K (pv2 (c.st s w)) h := by
  refine Wc_eq (w23 (by omega) ?_) K
  unfold b23
  walk_at "w"
  refine c21 o hs cl (by omega) fun i b g E => ?_
  have h1 := E.i1
  have hle := E.le
  have t20 := o.t20
  have crl : (c.crs s i).length = i := Clk.crs_len
  -- from the moment on
  have main : ∀ (m : Nat) (vb : PV) (g : PH) (R : EV.Env), R = [some c.pv, some (nI s), some (nI w), some (.obj h.length), some vb, some (nI m), none, none] → c.st s m = c.st s w → (∀ j, j < i → j + 1 < i → ∃ p, c.out (c.cr s j).1 = some p) → (∀ p, c.out (c.cr s (i - 1)).1 = some p → m < (c.cr s (i - 1)).2 + p.1) →
      Klp (P.cc (k - 1)) R (.var 7) (.nm 7) (.cmp .le (.idx (.var 7) (.cst (.int 1))) (.var 5)) [7]
        (Knl (Kidx (P.cc (k - 1)) R (Kasg (P.cc (k - 1)) [.ret (.tup [.idx (.var 6) (.cst (.int 0)), .bin .sub (.var 5) (.idx (.var 6) (.cst (.int 1)))])] R (Kout h.length fun v' h' => v' = pv2 (c.st s w) ∧ h' = h) (.nm 6)) (.neg (.cst (.int 1)))))
        (.live h.length) (h ++ .lst false ((c.crs s i).map pv2) :: g) := by
    intro m vb g R hR hst hgo hfin
    subst hR
    refine Klp_filter (l := c.crs s i) (f := pv2) (g := pv2) (p := fun p => decide (p.2 ≤ m)) (by rw [fuelE]; omega) (by omega) (iw_live hp_get0) (fun a _ => ?_) ?_
    · simp only [wipeP]
      walk_at "w"
      exact ⟨by congr 1; simp, fun _ => trivial⟩
    · obtain ⟨j, j1, j2, j3, l, j4⟩ := last_filter (g := c.cr s) (p := fun p => decide (p.2 ≤ m)) (i := i) ⟨0, by omega, decide_eq_true (Nat.zero_le _)⟩
      have j2 : (c.cr s j).2 ≤ m := of_decide_eq_true j2
      have e4 : (c.crs s i).filter (fun p => decide (p.2 ≤ m)) = l ++ [c.cr s j] := j4
      rw [e4, List.map_append, List.map_cons, List.map_nil]
      have q1 : L2.atI (l.map pv2 ++ [pv2 (c.cr s j)]) (-1) = some (pv2 (c.cr s j)) := atI_last
      generalize hl : List.map pv2 l ++ [pv2 (c.cr s j)] = ll at q1
      have hend : (h ++ .lst false ((c.crs s i).map pv2) :: (g ++ [.lst false ll]))[(h ++ .lst false ((c.crs s i).map pv2) :: g).length]? = some (.lst false ll) := by
        rw [List.getElem?_append_right (by simp)]
        simp
      walk_at "w"
      have gj : c.go s j := fun j' hj => hgo j' (by omega) (by omega)
      have e5 : c.st s w = ((c.cr s j).1, m - (c.cr s j).2) := by
        rw [← hst]
        have := Clk.st_cr o hs gj (m - (c.cr s j).2)
        rw [show (c.cr s j).2 + (m - (c.cr s j).2) = m by omega] at this
        rw [this]
        cases q : c.out (c.cr s j).1 with
        | none => exact Clk.st_none q _
        | some p =>
          refine Clk.st_lt q _ ?_
          by_cases hj : j + 1 < i
          · have := j3 (j + 1) (by omega) hj
            have := of_decide_eq_false this
            rw [Clk.cr_succ q] at this
            simp only at this
            omega
          · have hji : j = i - 1 := by omega
            subst hji
            have := hfin p q
            omega
      refine ⟨?_, gc_flat cl (by rfl)⟩
      rw [e5]
      show PV.tup _ = PV.tup [_, PV.int ((m - (c.cr s j).2 : Nat) : Int)]
      rw [Int.ofNat_sub j2]
  have hget : (c.crs s i).length = i := crl
  cases b with
  | none =>
    obtain ⟨f1, f2⟩ := E.fin
    have e1 : optI none = .non := rfl
    rw [e1]
    walk_at "w"
    exact main w _ g _ rfl rfl (fun j _ hj => f1 j (by omega)) fun p hp => by rw [f2] at hp; cases hp
  | some b =>
    obtain ⟨f1, f2, f3⟩ := E.fin
    have e1 : optI (some b) = nI b := rfl
    have e2 : isNon (nI b) = false := rfl
    have q2 : (c.crs s i)[b]? = some (c.cr s b) := Clk.crs_get f2
    have q3 : ∀ K, Wc (P.cc (k - 1)) 22 [c.pv, .obj h.length, nI b] (h ++ .lst false ((c.crs s i).map pv2) :: g) K = _ := fun K => c22 o hs f1 f2 hp_get0 (by omega)
    have hm := Clk.cr_mono o hs f1 f2
    have hpl : ∀ p, c.out (c.cr s (i - 1)).1 = some p → (c.cr s i).2 = (c.cr s (i - 1)).2 + p.1 := fun p hp => by
      have := Clk.cr_succ hp
      rw [show i - 1 + 1 = i by omega] at this
      rw [this]
    rw [e1]
    by_cases hw : (c.cr s b).2 ≤ w
    · have q5 : ((c.cr s b).2 : Int) ≤ (w : Int) := by omega
      have q6 : ((c.cr s b).2 : Int) + ((w : Int) - ((c.cr s b).2 : Int)) % (((c.cr s i).2 : Int) - ((c.cr s b).2 : Int)) = (((c.cr s b).2 + (w - (c.cr s b).2) % ((c.cr s i).2 - (c.cr s b).2) : Nat) : Int) := by
        rw [← Int.ofNat_sub hw, ← Int.ofNat_sub (Nat.le_of_lt hm)]
        rfl
      walk_at "w"
      refine main _ _ g _ rfl ?_ (fun j hj _ => f1 j hj) fun p hp => ?_
      · have := Clk.st_mod o hs f1 f2 f3 (w - (c.cr s b).2)
        rw [show (c.cr s b).2 + (w - (c.cr s b).2) = w by omega] at this
        exact this.symm
      · rw [← hpl p hp]
        have := Nat.mod_lt (w - (c.cr s b).2) (show 0 < (c.cr s i).2 - (c.cr s b).2 by omega)
        omega
    · have q5 : ¬ ((c.cr s b).2 : Int) ≤ (w : Int) := by omega
      walk_at "w"
      refine main w _ g _ rfl rfl (fun j hj _ => f1 j hj) fun p hp => ?_
      rw [← hpl p hp]
      omega
end Lw
end
section
set_option Elab.async false
set_option linter.all false
set_option maxRecDepth 100000
namespace Lw
open PySem EV
local macro_rules | `(tactic| walk_at "w") => `(tactic| simp -implicitDefEqProofs (disch := first | omega | (simp only [List.length_cons, List.length_nil, List.length_map, List.length_append] <;> omega)) only [EV.Wb_nil, EV.Wb_pass, EV.Wb_asg, EV.Wb_expr, EV.Wb_ret, EV.Wb_retN, EV.Wb_brk, EV.Wb_cnt, EV.Wb_ite, EV.Wb_set, EV.Wb_for, EV.Wb_tryN, EV.We_cst, EV.We_var, EV.We_glb, EV.We_tup, EV.We_lst, EV.We_dnew, EV.We_bin, EV.We_neg, EV.We_not, EV.We_and, EV.We_or, EV.We_cmp, EV.We_chn, EV.We_ite, EV.We_idx, EV.We_call, EV.We_callK, EV.We_bf, EV.We_mt, EV.We_comp, EV.We_con, EV.Wl_nil, EV.Wl_cons, EV.Wi_itv, EV.Wi_its, EV.Wi_itc, EV.Wi_rng, EV.Wi_enm, EV.Wi_zip, EV.Wt_e, EV.Ws_e, EV.Wo_some, EV.Wv_some, EV.Wob_some, EV.Wtr_some, EV.Woi_some, EV.Ktup_ap, EV.Klst_ap, EV.Kbin_ap, EV.Kbin2_add, EV.Kbin2_sub, EV.Kbin2_mul, EV.Kbin2_mod, EV.Kbin2_fdiv, EV.Kneg_ap, EV.Kbl_ap, EV.Knot_ap, EV.Kand_t, EV.Kand_f, EV.Kor_t, EV.Kor_f, EV.Kcmp_ap, EV.Kcmp2_lt, EV.Kcmp2_le, EV.Kcmp2_gt, EV.Kcmp2_ge, EV.Kcmp2_eq, EV.Kcmp2_ne, EV.Kcmp2_is, EV.Kcmp2_isnot, EV.Kcmp2_isB, EV.Kchn_ap, EV.Kchn2_le, EV.Wch_t, EV.Wch_f, EV.Kife_t, EV.Kife_f, EV.Kidx_ap, EV.Kidx2_T0, EV.Kidx2_T1, EV.Kidx2_T2, EV.Kidx2_Tn, EV.Kidx2_O, EV.Wix_lst, EV.Wix_dK, EV.Wix_lkd, EV.Wix_dT, EV.atI_0, EV.atI_1, EV.atI_2, EV.atI_n, EV.Kcall_ap, EV.KcallK_ap, EV.KcallK2_ap, EV.Wpk_some, EV.Kbf_lenT, EV.Kbf_lenO, EV.Wln_lst, EV.Wln_dK, EV.Wln_dT, EV.Kbf_int, EV.Kbf_intB, EV.Kbf_min, EV.Kbf_max, EV.Kbf_isT, EV.Kbf_isI, EV.Kbf_isB, EV.Kbf_isS, EV.Kbf_isN, EV.Kbf_isO, EV.Wity_lst, EV.Kmt_app, EV.isLs_ap, EV.Kap_ap, EV.Wap_ap, EV.Kcon_tup, EV.Kcon_tupT, EV.Kcon_lst, EV.Kcon_live, EV.Wls_ap, EV.Wr_ctup, EV.Wr_clst, EV.Kc1_ap, EV.Kc2_ap, EV.Ktst_bl, EV.Ktst_tup, EV.Ktst_obj, EV.Wtl_lst, EV.KtstB_ap, EV.Knl_ap, EV.Kvl_ap, EV.Kitv_tup, EV.Kitv_obj, EV.Wlv_ap, EV.Kits_tup, EV.Kits_obj, EV.Wlc_ap, EV.Kenm_tup, EV.Kenm_obj, EV.Kzip_ap, EV.Kzip2_tup, EV.Krng_ap, EV.Krng2_0n, EV.Kasg_ap, EV.Wbd_nm, EV.Wbd_tup, EV.Wbds_nil, EV.Wbds_cons, EV.Kexp_ap, EV.Kret_ap, EV.Kseq_nx, EV.Kseq_rt, EV.Kseq_bk, EV.Kseq_ct, EV.Kif_t, EV.Kif_f, EV.Kset_ap, EV.Kset2_ap, EV.Kwhl_t, EV.Kwhl_f, EV.Kfor_nx, EV.Kfor_ct, EV.Kfor_bk, EV.Kfor_rt, EV.Kout_rt, EV.Kout_nx, EV.hp_get, EV.hp_get0, EV.hp_set, EV.hp_set0, List.getElem?_cons_zero, List.getElem?_cons_succ, List.set_cons_zero, List.set_cons_succ, List.length_cons, List.length_nil, List.length_map, List.getElem?_map, Option.map_some, Option.map_none, List.append_assoc, List.cons_append, List.nil_append, true_and, and_true, false_and, and_false, decide_true, decide_false, Bool.not_true, Bool.not_false, if_true, if_false, EV.isNon, and_self, Nat.zero_add, Bool.true_or, Bool.or_true, Bool.false_or, Bool.or_false, EV.gc_len, reduceIte, eq_self, Nat.reduceAdd, Int.reduceLT, Int.reduceLE, Int.reduceEq, Int.reduceNe, Int.reduceSub, Int.reduceAdd, Int.reduceMul, Int.reduceNeg, Int.reduceToNat, Int.cast_ofNat_Int, *])
local macro_rules | `(tactic| walk_at "v") => `(tactic| simp -implicitDefEqProofs (disch := first | omega | (simp only [List.length_cons, List.length_nil, List.length_map, List.length_append] <;> omega)) only [EV.Wb_nil, EV.Wb_pass, EV.Wb_asg, EV.Wb_expr, EV.Wb_ret, EV.Wb_retN, EV.Wb_brk, EV.Wb_cnt, EV.Wb_ite, EV.Wb_set, EV.Wb_for, EV.Wb_tryN, EV.We_cst, EV.We_var, EV.We_glb, EV.We_tup, EV.We_lst, EV.We_dnew, EV.We_bin, EV.We_neg, EV.We_not, EV.We_and, EV.We_or, EV.We_cmp, EV.We_chn, EV.We_ite, EV.We_idx, EV.We_call, EV.We_callK, EV.We_bf, EV.We_mt, EV.We_comp, EV.We_con, EV.Wl_nil, EV.Wl_cons, EV.Wi_itv, EV.Wi_its, EV.Wi_itc, EV.Wi_rng, EV.Wi_enm, EV.Wi_zip, EV.Wt_e, EV.Ws_e, EV.Wo_some, EV.Wv_some, EV.Wob_some, EV.Wtr_some, EV.Woi_some, EV.Ktup_ap, EV.Klst_ap, EV.Kbin_ap, EV.Kbin2_add, EV.Kbin2_sub, EV.Kbin2_mul, EV.Kbin2_mod, EV.Kbin2_fdiv, EV.Kneg_ap, EV.Kbl_ap, EV.Knot_ap, EV.Kand_t, EV.Kand_f, EV.Kor_t, EV.Kor_f, EV.Kcmp_ap, EV.Kcmp2_lt, EV.Kcmp2_le, EV.Kcmp2_gt, EV.Kcmp2_ge, EV.Kcmp2_eq, EV.Kcmp2_ne, EV.Kcmp2_is, EV.Kcmp2_isnot, EV.Kcmp2_isB, EV.Kchn_ap, EV.Kchn2_le, EV.Wch_t, EV.Wch_f, EV.Kife_t, EV.Kife_f, EV.Kidx_ap, EV.Kidx2_T0, EV.Kidx2_T1, EV.Kidx2_T2, EV.Kidx2_Tn, EV.Kidx2_O, EV.Wix_lst, EV.Wix_dK, EV.Wix_lkd, EV.Wix_dT, EV.atI_0, EV.atI_1, EV.atI_2, EV.atI_n, EV.Kcall_ap, EV.KcallK_ap, EV.KcallK2_ap, EV.Wpk_some, EV.Kbf_lenT, EV.Kbf_lenO, EV.Wln_lst, EV.Wln_dK, EV.Wln_dT, EV.Kbf_int, EV.Kbf_intB, EV.Kbf_min, EV.Kbf_max, EV.Kbf_isT, EV.Kbf_isI, EV.Kbf_isB, EV.Kbf_isS, EV.Kbf_isN, EV.Kbf_isO, EV.Wity_lst, EV.Kmt_app, EV.isLs_ap, EV.Kap_ap, EV.Wap_ap, EV.Kcon_tup, EV.Kcon_tupT, EV.Kcon_lst, EV.Kcon_live, EV.Wls_ap, EV.Wr_ctup, EV.Wr_clst, EV.Kc1_ap, EV.Kc2_ap, EV.Ktst_bl, EV.Ktst_tup, EV.Ktst_obj, EV.Wtl_lst, EV.KtstB_ap, EV.Knl_ap, EV.Kvl_ap, EV.Kitv_tup, EV.Kitv_obj, EV.Wlv_ap, EV.Kits_tup, EV.Kits_obj, EV.Wlc_ap, EV.Kenm_tup, EV.Kenm_obj, EV.Kzip_ap, EV.Kzip2_tup, EV.Krng_ap, EV.Krng2_0n, EV.Kasg_ap, EV.Wbd_nm, EV.Wbd_tup, EV.Wbds_nil, EV.Wbds_cons, EV.Kexp_ap, EV.Kret_ap, EV.Kseq_nx, EV.Kseq_rt, EV.Kseq_bk, EV.Kseq_ct, EV.Kif_t, EV.Kif_f, EV.Kset_ap, EV.Kset2_ap, EV.Kwhl_t, EV.Kwhl_f, EV.Kfor_nx, EV.Kfor_ct, EV.Kfor_bk, EV.Kfor_rt, EV.Kout_rt, EV.Kout_nx, EV.hp_get, EV.hp_get0, EV.hp_set, EV.hp_set0, List.getElem?_cons_zero, List.getElem?_cons_succ, List.set_cons_zero, List.set_cons_succ, List.length_cons, List.length_nil, List.length_map, List.getElem?_map, Option.map_some, Option.map_none, List.append_assoc, List.cons_append, List.nil_append, true_and, and_true, false_and, and_false, decide_true, decide_false, Bool.not_true, Bool.not_false, if_true, if_false, EV.isNon, and_self, Nat.zero_add, Bool.true_or, Bool.or_true, Bool.false_or, Bool.or_false, EV.gc_len, reduceIte, eq_self, Nat.reduceAdd, Int.reduceLT, Int.reduceLE, Int.reduceEq, Int.reduceNe, Int.reduceSub, Int.reduceAdd, Int.reduceMul, Int.reduceNeg, Int.reduceToNat, Int.cast_ofNat_Int])
theorem c24 {c : Clk} (o : c.Ok) {s w : Nat} (hs : s < c.rows.length) (hw : w ≤ 10000000000000000000000000000000000000000) {h : PH} (cl : Cl h) {K : KV} {k : Nat} (hk : 7 ≤ k) : Wc (P.cc k) 24 [c.pv, nI s, nI w] h K = K (pv2 (c.st s w)) h := by
  refine Wc_eq (w24 (by omega) ?_) K
  have e1 : ∀ K, Wc (P.cc (k - 1)) 16 [c.pv] h K = K c.pv h := fun K => c16 o (by omega)
  have e2 : ∀ K, Wc (P.cc (k - 1)) 17 [c.pv, nI s] h K = K .non h := fun K => c17 hs (by omega)
  have e3 : ∀ K, Wc (P.cc (k - 1)) 23 [c.pv, nI s, nI w] h K = _ := fun K => c23 o hs cl (by omega)
  unfold b24
  (have zz0 := @c1t; have zz1 := @g7; walk_at "w")
/-- answers to timed words -/
def Clk.ta (c : Clk) (q : List Nat × Nat) (p : Nat × Nat) : List Nat × Nat := (q.1 ++ [(c.stp (c.st q.2 p.1).1 p.2).1], (c.stp (c.st q.2 p.1).1 p.2).2)
def Clk.tas (c : Clk) (w : List (Nat × Nat)) : List Nat × Nat := w.foldl c.ta ([], 0)
theorem Clk.tas_snoc {c : Clk} {w : List (Nat × Nat)} {p : Nat × Nat} : c.tas (w ++ [p]) = c.ta (c.tas w) p := by unfold Clk.tas; rw [List.foldl_append]; rfl
theorem Clk.tas_ok {c : Clk} (o : c.Ok) : ∀ (w : List (Nat × Nat)) (q : List Nat × Nat), (∀ p ∈ w, p.2 < c.n) → q.2 < c.rows.length → (w.foldl c.ta q).2 < c.rows.length ∧ (w.foldl c.ta q).1.length = q.1.length + w.length
  | [], q, _, h => ⟨h, rfl⟩
  | p :: w, q, hw, h => by
    have h1 := (Clk.stp_ok o (Clk.st_ok o h p.1) (hw p List.mem_cons_self)).2
    obtain ⟨a, b⟩ := Clk.tas_ok o w (c.ta q p) (fun x hx => hw x (List.mem_cons_of_mem _ hx)) h1
    refine ⟨a, ?_⟩
    rw [List.foldl_cons, b]
    show (q.1 ++ [_]).length + w.length = _
    simp; omega
theorem Clk.tas_lt {c : Clk} (o : c.Ok) {w : List (Nat × Nat)} (hw : ∀ p ∈ w, p.2 < c.n) : (c.tas w).2 < c.rows.length := (Clk.tas_ok o w ([], 0) hw (by have := o.t1; exact this)).1
theorem Clk.tas_len {c : Clk} (o : c.Ok) {w : List (Nat × Nat)} (hw : ∀ p ∈ w, p.2 < c.n) : (c.tas w).1.length = w.length := by
  have := (Clk.tas_ok o w ([], 0) hw (by have := o.t1; exact this)).2
  simpa [Clk.tas] using this
theorem c25 {c : Clk} (o : c.Ok) {w : List (Nat × Nat)} (hw : TOk c.n w) {h : PH} (cl : Cl h) {K : KV} {k : Nat} (hk : 4 ≤ k) : Wc (P.cc k) 25 [c.pv, rowP w] h K = K (wrdP (c.tas w).1) h := by
  refine Wc_eq (w25 (by omega) ?_) K
  have hwl := hw.1
  unfold b25
  walk_at "w"
  refine Kfors_map (fun u r1 h1 => h1 = h ++ [.lst false ((c.tas u).1.map nI)] ∧ ∃ x y z, r1 = [some c.pv, some (rowP w), some (.obj h.length), some (nI (c.tas u).2), x, y, z]) (by rw [fuelE]; omega) ⟨rfl, _, _, _, rfl⟩ (fun pre a post r1 h1 hx ⟨e1, y, z, u, e2⟩ => ?_) fun r1 h1 ⟨e1, y, z, u, e2⟩ => ?_
  · subst e1 e2
    have hpre : ∀ p ∈ pre, p.2 < c.n := fun x m => (hw.2 x (by rw [hx]; exact List.mem_append_left _ m)).2
    have ha : a.2 < c.n := (hw.2 a (by rw [hx]; exact List.mem_append_right _ List.mem_cons_self)).2
    have hst := Clk.tas_lt o hpre
    have hrl := Clk.tas_len o hpre
    have hpl : pre.length ≤ w.length := by rw [hx, List.length_append]; omega
    obtain ⟨row, q1, _, q3, _⟩ := Clk.get o (Clk.st_ok o hst a.1)
    have q4 := q3 a.2 ha
    have hz : ((c.tas pre).1.map nI).length ≤ 16777215 := by rw [List.length_map, hrl]; omega
    have e3 : ∀ K, Wc (P.cc (k - 1)) 23 [c.pv, nI (c.tas pre).2, nI a.1] (h ++ [.lst false ((c.tas pre).1.map nI)]) K = _ := fun K => c23 o hst (cl_nats cl _) (by omega)
    walk_at "w"
    rw [Clk.tas_snoc]
    exact ⟨by simp [Clk.ta], _, _, _, rfl⟩
  · subst e1 e2
    have hrl := Clk.tas_len o (w := w) fun p m => (hw.2 p m).2
    have hz : ((c.tas w).1.map nI).length ≤ 16777216 := by rw [List.length_map, hrl]; omega
    walk_at "w"
    exact gc_flat cl (by show (flatL _) = true; rw [flat_nI])
theorem c26 {c : Clk} (o : c.Ok) {w : List (Nat × Nat)} (hw : TOk c.n w) {h : PH} (cl : Cl h) {K : KV} {k : Nat} (hk : 7 ≤ k) : Wc (P.cc k) 26 [c.pv, rowP w] h K = K (wrdP (c.tas w).1) h := by
  refine Wc_eq (w26 (by omega) ?_) K
  have e1 : ∀ K, Wc (P.cc (k - 1)) 16 [c.pv] h K = K c.pv h := fun K => c16 o (by omega)
  have e2 : ∀ K, Wc (P.cc (k - 1)) 19 [c.pv, rowP w] h K = K .non h := fun K => c19 hw (by omega)
  have e3 : ∀ K, Wc (P.cc (k - 1)) 25 [c.pv, rowP w] h K = _ := fun K => c25 o hw cl (by omega)
  unfold b26
  walk_at "w"
/-! ### the ticked box -/
/-- a place that comes -/
def Clk.Pl (c : Clk) (p : Nat × Nat) : Prop := p.1 < c.rows.length ∧ match c.out p.1 with | none => p.2 = 0 | some o => p.2 < o.1
def Clk.tp (c : Clk) (p : Nat × Nat) : Nat × Nat := match c.out p.1 with | none => p | some _ => c.tk p
theorem Clk.tk_none {c : Clk} {p : Nat × Nat} (e : c.out p.1 = none) : c.tk p = (p.1, p.2 + 1) := by unfold Clk.tk; rw [e]
theorem Clk.tk_lt {c : Clk} {p u : Nat × Nat} (e : c.out p.1 = some u) (q : p.2 + 1 < u.1) : c.tk p = (p.1, p.2 + 1) := by unfold Clk.tk; rw [e]; exact if_pos q
theorem Clk.tk_ge {c : Clk} {p u : Nat × Nat} (e : c.out p.1 = some u) (q : ¬ p.2 + 1 < u.1) : c.tk p = (u.2, 0) := by unfold Clk.tk; rw [e]; exact if_neg q
theorem Clk.tp_none {c : Clk} {p : Nat × Nat} (e : c.out p.1 = none) : c.tp p = p := by unfold Clk.tp; rw [e]
theorem Clk.tp_some {c : Clk} {p u : Nat × Nat} (e : c.out p.1 = some u) : c.tp p = c.tk p := by unfold Clk.tp; rw [e]
theorem c27 {c : Clk} (o : c.Ok) {p : Nat × Nat} (hp : p.1 < c.rows.length) {h : PH} {K : KV} {k : Nat} (hk : 2 ≤ k) : Wc (P.cc k) 27 [c.pv, pv2 p] h K = K (pv2 (c.tp p)) h := by
  refine Wc_eq (w27 (by omega) ?_) K
  obtain ⟨r, e, h2, _⟩ := Clk.get o hp
  have e1 : ∀ K, Wc (P.cc (k - 1)) 20 [c.pv, nI p.1] h K = K (stayP (c.out p.1)) h := fun K => c20 o hp (by omega)
  unfold b27
  cases q : c.out p.1 with
  | none =>
    have e2 : stayP none = .non := rfl
    rw [q] at e1
    rw [Clk.tp_none q]
    walk_at "w"
  | some u =>
    have e2 : stayP (some u) = nI u.1 := rfl
    have e3 : isNon (nI u.1) = false := rfl
    rw [q] at e1 h2
    rw [Clk.tp_some q]
    by_cases q1 : p.2 + 1 < u.1
    · have q2 : (p.2 : Int) + 1 < (u.1 : Int) := by omega
      rw [Clk.tk_lt q q1]
      walk_at "w"
      rfl
    · have q2 : ¬ (p.2 : Int) + 1 < (u.1 : Int) := by omega
      rw [Clk.tk_ge q q1]
      (have zz0 := @outP_some; walk_at "w")
      rfl
end Lw
end
section
set_option Elab.async false
set_option linter.all false
set_option maxRecDepth 100000
namespace Lw
open PySem EV
/-! ### the places of a clock, in the order in which they come -/
def addp (ps : List (Nat × Nat)) (p : Nat × Nat) : List (Nat × Nat) := if p ∈ ps then ps else ps ++ [p]
def adds (ps : List (Nat × Nat)) (qs : List (Nat × (Nat × Nat))) : List (Nat × Nat) := qs.foldl (fun ps q => addp ps q.2) ps
theorem adds_snoc {ps : List (Nat × Nat)} {qs : List (Nat × (Nat × Nat))} {q : Nat × (Nat × Nat)} : adds ps (qs ++ [q]) = addp (adds ps qs) q.2 := by unfold adds; rw [List.foldl_append]; rfl
theorem addp_pre {ps : List (Nat × Nat)} {p : Nat × Nat} : ps <+: addp ps p := by
  unfold addp
  split
  · exact List.prefix_rfl
  · exact List.prefix_append _ _
theorem adds_pre {qs : List (Nat × (Nat × Nat))} : ∀ {ps : List (Nat × Nat)}, ps <+: adds ps qs := by
  induction qs with
  | nil => exact List.prefix_rfl
  | cons q qs ih => intro ps; exact addp_pre.trans (ih (ps := addp ps q.2))
theorem addp_nd {ps : List (Nat × Nat)} {p : Nat × Nat} (nd : ps.Nodup) : (addp ps p).Nodup := by
  unfold addp
  split
  · exact nd
  · rename_i h
    rw [List.nodup_append]
    exact ⟨nd, by simp, fun a ha b hb => by rw [List.mem_singleton.mp hb]; exact fun e => h (by rw [← e]; exact ha)⟩
theorem adds_nd {qs : List (Nat × (Nat × Nat))} : ∀ {ps : List (Nat × Nat)}, ps.Nodup → (adds ps qs).Nodup := by
  induction qs with
  | nil => exact id
  | cons q qs ih => intro ps nd; exact ih (addp_nd nd)
theorem addp_mem {ps : List (Nat × Nat)} {p x : Nat × Nat} : x ∈ addp ps p ↔ x ∈ ps ∨ x = p := by
  unfold addp
  split
  · rename_i h
    exact ⟨.inl, fun z => z.elim id fun e => by rw [e]; exact h⟩
  · simp
theorem adds_mem {qs : List (Nat × (Nat × Nat))} {x : Nat × Nat} : ∀ {ps : List (Nat × Nat)}, x ∈ adds ps qs ↔ x ∈ ps ∨ ∃ q ∈ qs, x = q.2 := by
  induction qs with
  | nil => intro ps; simp [adds]
  | cons q qs ih =>
    intro ps
    show x ∈ adds (addp ps q.2) qs ↔ _
    rw [ih, addp_mem]
    simp only [List.mem_cons, exists_eq_or_imp]
    rw [or_assoc]
theorem idx_pre {ps qs : List (Nat × Nat)} (h : ps <+: qs) {p : Nat × Nat} (hp : p ∈ ps) : qs.idxOf p = ps.idxOf p := by
  obtain ⟨t, rfl⟩ := h
  rw [List.idxOf_append, if_pos hp]
def Clk.rw (c : Clk) (s : Nat) : List (Nat × Nat) := match c.rows[s]? with | some r => r.2 | none => []
theorem Clk.rw_get {c : Clk} {s : Nat} {r : CRow} (e : c.rows[s]? = some r) : r.2 = c.rw s := by unfold Clk.rw; rw [e]
theorem Clk.rw_len {c : Clk} (o : c.Ok) {s : Nat} (hs : s < c.rows.length) : (c.rw s).length = c.n := by
  obtain ⟨r, e, _, _, h⟩ := Clk.get o hs
  rw [← Clk.rw_get e, h]
theorem Clk.rw_stp {c : Clk} (o : c.Ok) {s x : Nat} (hs : s < c.rows.length) (hx : x < c.n) : (c.rw s)[x]? = some (c.stp s x) := by
  obtain ⟨r, e, _, h, _⟩ := Clk.get o hs
  rw [← Clk.rw_get e, h x hx]
def Clk.nx (c : Clk) (p : Nat × Nat) : List (Nat × (Nat × Nat)) := (c.rw p.1).map (fun q => (q.1, (q.2, 0))) ++ [(0, c.tp p)]
def Clk.pls (c : Clk) : Nat → List (Nat × Nat)
  | 0 => [(0, 0)]
  | j + 1 => match (c.pls j)[j]? with
    | some p => adds (c.pls j) (c.nx p)
    | none => c.pls j
theorem Clk.pls_succ {c : Clk} {j : Nat} {p : Nat × Nat} (e : (c.pls j)[j]? = some p) : c.pls (j + 1) = adds (c.pls j) (c.nx p) := by
  show (match (c.pls j)[j]? with | some p => adds (c.pls j) (c.nx p) | none => c.pls j) = _
  rw [e]
def Clk.prow (c : Clk) (j : Nat) : List (Nat × Nat) := match (c.pls j)[j]? with
  | some p => (c.nx p).map fun q => (q.1, (c.pls (j + 1)).idxOf q.2)
  | none => []
theorem Clk.prow_eq {c : Clk} {j : Nat} {p : Nat × Nat} (e : (c.pls j)[j]? = some p) : c.prow j = (c.nx p).map fun q => (q.1, (c.pls (j + 1)).idxOf q.2) := by unfold Clk.prow; rw [e]
theorem Clk.pls_pre1 {c : Clk} {j : Nat} : c.pls j <+: c.pls (j + 1) := by
  cases e : (c.pls j)[j]? with
  | some p => rw [Clk.pls_succ e]; exact adds_pre
  | none =>
    show _ <+: (match (c.pls j)[j]? with | some p => adds (c.pls j) (c.nx p) | none => c.pls j)
    rw [e]; exact List.prefix_rfl
theorem Clk.pls_pre {c : Clk} {j : Nat} : ∀ {m : Nat}, c.pls j <+: c.pls (j + m)
  | 0 => List.prefix_rfl
  | m + 1 => Clk.pls_pre.trans Clk.pls_pre1
theorem Clk.pls_le {c : Clk} {j m : Nat} (h : j ≤ m) : c.pls j <+: c.pls m := by
  have := Clk.pls_pre (c := c) (j := j) (m := m - j)
  rwa [show j + (m - j) = m by omega] at this
theorem Clk.pls_nd {c : Clk} : ∀ j, (c.pls j).Nodup
  | 0 => by simp [Clk.pls]
  | j + 1 => by
    cases e : (c.pls j)[j]? with
    | some p => rw [Clk.pls_succ e]; exact adds_nd (Clk.pls_nd j)
    | none =>
      show (match (c.pls j)[j]? with | some p => adds (c.pls j) (c.nx p) | none => c.pls j).Nodup
      rw [e]; exact Clk.pls_nd j
theorem Clk.tp_pl {c : Clk} (o : c.Ok) {p : Nat × Nat} (hp : c.Pl p) : c.Pl (c.tp p) := by
  cases q : c.out p.1 with
  | none => rw [Clk.tp_none q]; exact hp
  | some u =>
    rw [Clk.tp_some q]
    have h2 := hp.2
    rw [q] at h2
    by_cases q1 : p.2 + 1 < u.1
    · rw [Clk.tk_lt q q1]
      refine ⟨hp.1, ?_⟩
      simp only
      rw [q]; exact q1
    · rw [Clk.tk_ge q q1]
      have h3 := (Clk.out_ok o hp.1 q).2.2
      refine ⟨h3, ?_⟩
      cases q2 : c.out u.2 with
      | none => rfl
      | some v => exact (Clk.out_ok o h3 q2).1
theorem Clk.pl0 {c : Clk} (o : c.Ok) {s : Nat} (hs : s < c.rows.length) : c.Pl (s, 0) := by
  refine ⟨hs, ?_⟩
  cases q2 : c.out s with
  | none => simp only; 
  | some v => exact (Clk.out_ok o hs q2).1
theorem Clk.nx_ok {c : Clk} (o : c.Ok) {p : Nat × Nat} (hp : c.Pl p) : ∀ q ∈ c.nx p, q.1 < c.A ∧ c.Pl q.2 := by
  intro q hq
  unfold Clk.nx at hq
  rcases List.mem_append.mp hq with h | h
  · obtain ⟨a, ha, rfl⟩ := List.mem_map.mp h
    obtain ⟨r, e, h1, h2, _⟩ := crow_get o hp.1
    rw [← Clk.rw_get e] at ha
    obtain ⟨q1, q2⟩ := h2 a ha
    exact ⟨q1, Clk.pl0 o q2⟩
  · rw [List.mem_singleton.mp h]
    exact ⟨o.a1, Clk.tp_pl o hp⟩
theorem Clk.pls_ok {c : Clk} (o : c.Ok) : ∀ j, ∀ p ∈ c.pls j, c.Pl p
  | 0, p, h => by rw [List.mem_singleton.mp h]; exact Clk.pl0 o o.t1
  | j + 1, p, h => by
    cases e : (c.pls j)[j]? with
    | some x =>
      rw [Clk.pls_succ e] at h
      rcases adds_mem.mp h with h | ⟨q, hq, rfl⟩
      · exact Clk.pls_ok o j p h
      · exact (Clk.nx_ok o (Clk.pls_ok o j x (List.mem_of_getElem? e)) q hq).2
    | none =>
      have h : p ∈ (match (c.pls j)[j]? with | some p => adds (c.pls j) (c.nx p) | none => c.pls j) := h
      rw [e] at h
      exact Clk.pls_ok o j p h
/-- a small clock -/
structure Clk.Sm (c : Clk) : Prop where
  n3 : c.n ≤ 3
  m5 : c.rows.length ≤ 5
  s6 : ∀ s u, s < c.rows.length → c.out s = some u → u.1 ≤ 6
theorem Clk.pls_len {c : Clk} (o : c.Ok) (sm : c.Sm) (j : Nat) : (c.pls j).length ≤ 30 := by
  have hc : ∀ p, c.Pl p → p.2 < 6 := fun p hp => by
    have h2 := hp.2
    cases q : c.out p.1 with
    | none => rw [q] at h2; omega
    | some u => rw [q] at h2; have := sm.s6 _ _ hp.1 q; omega
  have := pigeon 30 ((c.pls j).map fun p => p.1 * 6 + p.2) (by
    rw [List.nodup_iff_pairwise_ne, List.pairwise_map]
    refine List.Pairwise.imp_of_mem ?_ (List.nodup_iff_pairwise_ne.mp (Clk.pls_nd j))
    intro a b ha hb hne e
    have h1 := hc a (Clk.pls_ok o j a ha)
    have h2 := hc b (Clk.pls_ok o j b hb)
    exact hne (Prod.ext (by omega) (by omega))) fun x hx => by
    obtain ⟨p, hp, rfl⟩ := List.mem_map.mp hx
    have h1 := Clk.pls_ok o j p hp
    have h2 := hc p h1
    have := h1.1; have := sm.m5
    omega
  rwa [List.length_map] at this
/-- where the places end -/
structure Clk.Ex (c : Clk) (N : Nat) : Prop where
  fin : (c.pls N).length ≤ N
  more : ∀ i, i < N → i < (c.pls i).length
theorem Clk.ex {c : Clk} (o : c.Ok) (sm : c.Sm) : ∃ N, c.Ex N := by
  have : ∀ n, (∃ j, j ≤ n ∧ (c.pls j).length ≤ j) → ∃ N, c.Ex N := by
    intro n
    induction n using Nat.strongRecOn with
    | _ n ih =>
      rintro ⟨j, h1, h2⟩
      by_cases q : ∃ i, i < j ∧ (c.pls i).length ≤ i
      · obtain ⟨i, h3, h4⟩ := q
        exact ih i (by omega) ⟨i, Nat.le_refl _, h4⟩
      · exact ⟨j, h2, fun i hi => by
          refine Nat.lt_of_not_le fun z => q ⟨i, hi, z⟩⟩
  exact this 30 ⟨30, Nat.le_refl _, Clk.pls_len o sm 30⟩
theorem Clk.Ex.len {c : Clk} {N : Nat} (e : c.Ex N) : (c.pls N).length = N ∧ 1 ≤ N := by
  have h0 : 1 ≤ N := by
    cases N with
    | zero => have := e.fin; simp [Clk.pls] at this
    | succ n => omega
  refine ⟨Nat.le_antisymm e.fin ?_, h0⟩
  have h1 := e.more (N - 1) (by omega)
  have h2 := (Clk.pls_le (c := c) (j := N - 1) (m := N) (by omega)).length_le
  omega
theorem Clk.pls_get {c : Clk} {N j : Nat} (e : c.Ex N) (h : j < N) : ∃ p, (c.pls j)[j]? = some p := ⟨_, List.getElem?_eq_getElem (e.more j h)⟩
theorem Clk.pls_getN {c : Clk} {N j : Nat} (e : c.Ex N) (h : j < N) {p : Nat × Nat} (hp : (c.pls j)[j]? = some p) : (c.pls N)[j]? = some p := by
  obtain ⟨t, ht⟩ := Clk.pls_le (c := c) (j := j) (m := N) (by omega)
  rw [← ht, List.getElem?_append_left (e.more j h), hp]
def Clk.tab (c : Clk) (N : Nat) : List (List (Nat × Nat)) := (List.range N).map c.prow
theorem Clk.tab_succ {c : Clk} {j : Nat} : c.tab (j + 1) = c.tab j ++ [c.prow j] := by unfold Clk.tab; rw [List.range_succ, List.map_append]; rfl
theorem Clk.tab_len {c : Clk} {N : Nat} : (c.tab N).length = N := by unfold Clk.tab; rw [List.length_map, List.length_range]
def Clk.box (c : Clk) (N : Nat) : Box := ⟨c.n + 1, c.A, c.tab N⟩
theorem Clk.nx_len {c : Clk} (o : c.Ok) {p : Nat × Nat} (hp : p.1 < c.rows.length) : (c.nx p).length = c.n + 1 := by
  unfold Clk.nx
  rw [List.length_append, List.length_map, Clk.rw_len o hp]
  rfl
theorem Clk.nx_mem {c : Clk} {N j : Nat} (e : c.Ex N) (h : j < N) {p : Nat × Nat} (hp : (c.pls j)[j]? = some p) : ∀ q ∈ c.nx p, q.2 ∈ c.pls (j + 1) := fun q hq => by
  rw [Clk.pls_succ hp]
  exact adds_mem.mpr (.inr ⟨q, hq, rfl⟩)
theorem Clk.box_ok {c : Clk} (o : c.Ok) (sm : c.Sm) {N : Nat} (e : c.Ex N) : (c.box N).Ok where
  n1 := by show 1 ≤ c.n + 1; omega
  n4 := by show c.n + 1 ≤ 4; have := sm.n3; omega
  a1 := o.a1
  a9 := o.a9
  t1 := by show 1 ≤ (c.tab N).length; rw [Clk.tab_len]; exact e.len.2
  t60 := by show (c.tab N).length ≤ 60; rw [Clk.tab_len]; have := Clk.pls_len o sm N; have := e.len.1; omega
  row := fun r hr => by
    have hr : r ∈ (List.range N).map c.prow := hr
    obtain ⟨j, hj, rfl⟩ := List.mem_map.mp hr
    rw [List.mem_range] at hj
    obtain ⟨p, hp⟩ := Clk.pls_get e hj
    have hpl := Clk.pls_ok o j p (List.mem_of_getElem? hp)
    rw [Clk.prow_eq hp]
    refine ⟨by rw [List.length_map]; exact Clk.nx_len o hpl.1, fun q hq => ?_⟩
    obtain ⟨x, hx, rfl⟩ := List.mem_map.mp hq
    refine ⟨(Clk.nx_ok o hpl x hx).1, ?_⟩
    show _ < (c.tab N).length
    rw [Clk.tab_len]
    have h1 := List.idxOf_lt_length_of_mem (Clk.nx_mem e hj hp x hx)
    have h2 := (Clk.pls_le (c := c) (j := j + 1) (m := N) (by omega)).length_le
    have := e.len.1
    simp only
    omega
/-- the number of a place -/
def Clk.ix (c : Clk) (N : Nat) (p : Nat × Nat) : Nat := (c.pls N).idxOf p
theorem Clk.ix_get {c : Clk} {N : Nat} {p : Nat × Nat} (h : p ∈ c.pls N) : (c.pls N)[c.ix N p]? = some p := by
  unfold Clk.ix
  rw [List.getElem?_eq_getElem (List.idxOf_lt_length_of_mem h), List.getElem_idxOf]
theorem Clk.ix_lt {c : Clk} {N : Nat} (e : c.Ex N) {p : Nat × Nat} (h : p ∈ c.pls N) : c.ix N p < N := by
  have := List.idxOf_lt_length_of_mem h
  have h2 := e.len.1
  unfold Clk.ix
  omega
theorem Clk.stp_box {c : Clk} (o : c.Ok) {N : Nat} (e : c.Ex N) {p : Nat × Nat} (h : p ∈ c.pls N) {x : Nat} {q : Nat × (Nat × Nat)} (hx : (c.nx p)[x]? = some q) : q.2 ∈ c.pls N ∧ Lw.stp (c.box N).t (c.ix N p) x = (q.1, c.ix N q.2) := by
  have hi := Clk.ix_lt e h
  obtain ⟨p', hp'⟩ := Clk.pls_get e hi
  have : p' = p := by
    have h1 := Clk.pls_getN e hi hp'
    rw [Clk.ix_get h] at h1
    exact (Option.some.inj h1).symm
  subst this
  have hm := Clk.nx_mem e hi hp' q (List.mem_of_getElem? hx)
  have hpre := Clk.pls_le (c := c) (j := c.ix N p' + 1) (m := N) (by omega)
  refine ⟨hpre.subset hm, ?_⟩
  unfold Lw.stp
  have e1 : (c.box N).t[c.ix N p']? = some (c.prow (c.ix N p')) := by
    show ((List.range N).map c.prow)[_]? = _
    rw [List.getElem?_map, List.getElem?_range hi]; rfl
  rw [e1, Option.getD_some, Clk.prow_eq hp', List.getElem?_map, hx]
  show (q.1, (c.pls (c.ix N p' + 1)).idxOf q.2) = _
  unfold Clk.ix
  rw [idx_pre hpre hm]
  rfl
theorem Clk.nx_x {c : Clk} (o : c.Ok) {p : Nat × Nat} (hp : p.1 < c.rows.length) {x : Nat} (hx : x < c.n) : (c.nx p)[x]? = some ((c.stp p.1 x).1, ((c.stp p.1 x).2, 0)) := by
  unfold Clk.nx
  have hl := Clk.rw_len o hp
  rw [List.getElem?_append_left (by rw [List.length_map]; omega), List.getElem?_map, Clk.rw_stp o hp hx]; rfl
theorem Clk.nx_n {c : Clk} (o : c.Ok) {p : Nat × Nat} (hp : p.1 < c.rows.length) : (c.nx p)[c.n]? = some (0, c.tp p) := by
  unfold Clk.nx
  have hl := Clk.rw_len o hp
  rw [List.getElem?_append_right (by rw [List.length_map]; omega), List.length_map, hl, Nat.sub_self]; rfl
/-- where it stands, as the box knows it -/
def Clk.nm (c : Clk) (p : Nat × Nat) : Nat × Nat := match c.out p.1 with | none => (p.1, 0) | some _ => p
theorem Clk.nm_fst {c : Clk} {p : Nat × Nat} : (c.nm p).1 = p.1 := by unfold Clk.nm; cases c.out p.1 <;> rfl
theorem Clk.nm_0 {c : Clk} {s : Nat} : c.nm (s, 0) = (s, 0) := by unfold Clk.nm; cases c.out s <;> rfl
theorem Clk.nm_tk {c : Clk} {p : Nat × Nat} : c.nm (c.tk p) = c.tp (c.nm p) := by
  cases q : c.out p.1 with
  | none =>
    have e1 : c.nm p = (p.1, 0) := by unfold Clk.nm; rw [q]
    rw [e1, Clk.tk_none q, Clk.tp_none (p := (p.1, 0)) q]
    unfold Clk.nm
    simp only [q]
  | some u =>
    have e1 : c.nm p = p := by unfold Clk.nm; rw [q]
    rw [e1, Clk.tp_some q]
    by_cases q1 : p.2 + 1 < u.1
    · rw [Clk.tk_lt q q1]
      unfold Clk.nm
      simp only [q]
    · rw [Clk.tk_ge q q1]; exact Clk.nm_0
/-- ticks are the box's last input -/
theorem Clk.run_ticks {c : Clk} (o : c.Ok) {N : Nat} (e : c.Ex N) {s : Nat} (hs : (s, 0) ∈ c.pls N) : ∀ w, c.nm (c.st s w) ∈ c.pls N ∧ runR (c.box N).t (c.ix N (s, 0)) (List.replicate w c.n) = (List.replicate w 0, c.ix N (c.nm (c.st s w)))
  | 0 => by
    have : c.nm (c.st s 0) = (s, 0) := Clk.nm_0
    rw [this]
    exact ⟨hs, rfl⟩
  | w + 1 => by
    obtain ⟨h1, h2⟩ := Clk.run_ticks o e hs w
    have hp := Clk.pls_ok o N _ h1
    obtain ⟨h3, h4⟩ := Clk.stp_box o e h1 (Clk.nx_n o hp.1)
    have e1 : c.st s (w + 1) = c.tk (c.st s w) := rfl
    rw [e1, Clk.nm_tk]
    refine ⟨h3, ?_⟩
    rw [List.replicate_succ', runR_snoc, h2]
    unfold stepR
    simp only [h4]
    rw [List.replicate_succ']
theorem Clk.eff_ticks {c : Clk} (o : c.Ok) {N : Nat} (e : c.Ex N) {s : Nat} (hs : (s, 0) ∈ c.pls N) : ∀ w, itf (eff (c.box N).t [c.n]) w (c.ix N (s, 0)) = c.ix N (c.nm (c.st s w))
  | 0 => by
    show c.ix N (s, 0) = c.ix N (c.nm (s, 0))
    rw [Clk.nm_0]
  | w + 1 => by
    obtain ⟨h1, h2⟩ := Clk.run_ticks o e hs w
    have hp := Clk.pls_ok o N _ h1
    obtain ⟨h3, h4⟩ := Clk.stp_box o e h1 (Clk.nx_n o hp.1)
    show eff _ _ (itf _ w _) = _
    rw [Clk.eff_ticks o e hs w]
    have e1 : c.st s (w + 1) = c.tk (c.st s w) := rfl
    rw [e1, Clk.nm_tk]
    show (stepR _ ([], _) _).2 = _
    unfold stepR
    simp only [h4]
/-- an input after a wait -/
theorem Clk.stp_wait {c : Clk} (o : c.Ok) {N : Nat} (e : c.Ex N) {s : Nat} (hs : (s, 0) ∈ c.pls N) (w : Nat) {x : Nat} (hx : x < c.n) :
    ((c.stp (c.st s w).1 x).2, 0) ∈ c.pls N ∧ Lw.stp (c.box N).t (c.ix N (c.nm (c.st s w))) x = ((c.stp (c.st s w).1 x).1, c.ix N ((c.stp (c.st s w).1 x).2, 0)) := by
  obtain ⟨h1, h2⟩ := Clk.run_ticks o e hs w
  have hp := Clk.pls_ok o N _ h1
  have := Clk.stp_box o e h1 (Clk.nx_x o hp.1 hx)
  rw [Clk.nm_fst] at this
  exact this
/-- the word of a timed word -/
def Clk.wd (c : Clk) (w : List (Nat × Nat)) : List Nat := (w.map fun p => List.replicate p.1 c.n ++ [p.2]).flatten
theorem Clk.wd_snoc {c : Clk} {w : List (Nat × Nat)} {p : Nat × Nat} : c.wd (w ++ [p]) = c.wd w ++ List.replicate p.1 c.n ++ [p.2] := by
  unfold Clk.wd; rw [List.map_append, List.flatten_append]; simp
theorem runR_app {t : List (List (Nat × Nat))} {s : Nat} {u v : List Nat} : runR t s (u ++ v) = ((runR t s u).1 ++ (runR t (runR t s u).2 v).1, (runR t (runR t s u).2 v).2) := by
  have gen : ∀ (v : List Nat) (q : List Nat × Nat), v.foldl (stepR t) q = (q.1 ++ (runR t q.2 v).1, (runR t q.2 v).2) := by
    intro v
    induction v with
    | nil => intro q; simp [runR]
    | cons x v ih =>
      intro q
      have e1 := ih (stepR t q x)
      have e2 := ih (stepR t ([], q.2) x)
      show v.foldl (stepR t) (stepR t q x) = (q.1 ++ (v.foldl (stepR t) (stepR t ([], q.2) x)).1, (v.foldl (stepR t) (stepR t ([], q.2) x)).2)
      rw [e1, e2]
      simp [stepR]
  unfold runR
  rw [List.foldl_append, gen v]
  rfl
theorem Clk.ix0 {c : Clk} {N : Nat} : (0, 0) ∈ c.pls N ∧ c.ix N (0, 0) = 0 := by
  obtain ⟨t, ht⟩ := Clk.pls_le (c := c) (j := 0) (m := N) (Nat.zero_le _)
  unfold Clk.ix
  rw [← ht]
  exact ⟨List.mem_append_left _ (List.mem_singleton.mpr rfl), by simp [Clk.pls]⟩
theorem Clk.run_wd {c : Clk} (o : c.Ok) {N : Nat} (e : c.Ex N) : ∀ (k : Nat) (w : List (Nat × Nat)), w.length = k → (∀ p ∈ w, p.2 < c.n) →
    ((c.tas w).2, 0) ∈ c.pls N ∧ (runR (c.box N).t 0 (c.wd w)).2 = c.ix N ((c.tas w).2, 0) ∧ (runR (c.box N).t 0 (c.wd w)).1.length = (c.wd w).length ∧
    (((runR (c.box N).t 0 (c.wd w)).1.zip (c.wd w)).filter fun q => !decide (q.2 = c.n)).map (·.1) = (c.tas w).1 ∧ ∀ q ∈ (runR (c.box N).t 0 (c.wd w)).1.zip (c.wd w), q.2 = c.n → q.1 = 0 := by
  intro k
  induction k with
  | zero =>
    intro w hw _
    rw [List.length_eq_zero_iff.mp hw]
    refine ⟨Clk.ix0.1, ?_, rfl, rfl, fun q h => by cases h⟩
    show 0 = c.ix N (0, 0)
    exact Clk.ix0.2.symm
  | succ k ih =>
    intro w hw hv
    have hne : w ≠ [] := fun z => by rw [z] at hw; cases hw
    obtain ⟨u, p, rfl⟩ : ∃ u p, w = u ++ [p] := ⟨_, _, (List.dropLast_concat_getLast hne).symm⟩
    obtain ⟨h1, h2, h3, h4, h5⟩ := ih u (by simpa using hw) fun x hx => hv x (List.mem_append_left _ hx)
    have hp : p.2 < c.n := hv p (List.mem_append_right _ List.mem_cons_self)
    obtain ⟨g1, g2⟩ := Clk.run_ticks o e h1 p.1
    obtain ⟨g3, g4⟩ := Clk.stp_wait o e h1 p.1 hp
    have e1 : runR (c.box N).t 0 (c.wd (u ++ [p])) = ((runR (c.box N).t 0 (c.wd u)).1 ++ List.replicate p.1 0 ++ [(c.stp (c.st (c.tas u).2 p.1).1 p.2).1], c.ix N ((c.stp (c.st (c.tas u).2 p.1).1 p.2).2, 0)) := by
      rw [Clk.wd_snoc, runR_snoc, runR_app, h2, g2]
      unfold stepR
      simp only [g4]
    have e2 : c.tas (u ++ [p]) = ((c.tas u).1 ++ [(c.stp (c.st (c.tas u).2 p.1).1 p.2).1], (c.stp (c.st (c.tas u).2 p.1).1 p.2).2) := Clk.tas_snoc
    have e3 : (runR (c.box N).t 0 (c.wd (u ++ [p]))).1.zip (c.wd (u ++ [p])) = (runR (c.box N).t 0 (c.wd u)).1.zip (c.wd u) ++ List.replicate p.1 (0, c.n) ++ [((c.stp (c.st (c.tas u).2 p.1).1 p.2).1, p.2)] := by
      rw [e1, Clk.wd_snoc]
      simp only
      rw [List.zip_append (by simp [h3]), List.zip_append h3, List.zip_replicate]
      simp
    rw [e2]
    refine ⟨g3, by rw [e1], ?_, ?_, ?_⟩
    · rw [e1, Clk.wd_snoc]; simp [h3]
    · rw [e3, List.filter_append, List.filter_append, List.map_append, List.map_append, h4]
      have q1 : (List.replicate p.1 (0, c.n)).filter (fun q => !decide (q.2 = c.n)) = [] := by
        rw [List.filter_eq_nil_iff]
        intro a ha
        rw [(List.mem_replicate.mp ha).2]
        simp
      have q2 : ¬ p.2 = c.n := by omega
      rw [q1]
      simp [q2]
    · rw [e3]
      intro q hq hn
      rcases List.mem_append.mp hq with h | h
      · rcases List.mem_append.mp h with h | h
        · exact h5 q h hn
        · rw [(List.mem_replicate.mp h).2]
      · rw [List.mem_singleton.mp h] at hn
        simp only at hn
        omega
end Lw
end
section
set_option Elab.async false
set_option linter.all false
set_option maxRecDepth 100000
namespace Lw
open PySem EV
local macro_rules | `(tactic| walk_at "w") => `(tactic| simp -implicitDefEqProofs (disch := first | omega | (simp only [List.length_cons, List.length_nil, List.length_map, List.length_append] <;> omega)) only [EV.Wb_nil, EV.Wb_pass, EV.Wb_asg, EV.Wb_expr, EV.Wb_ret, EV.Wb_retN, EV.Wb_brk, EV.Wb_cnt, EV.Wb_ite, EV.Wb_set, EV.Wb_for, EV.Wb_tryN, EV.We_cst, EV.We_var, EV.We_glb, EV.We_tup, EV.We_lst, EV.We_dnew, EV.We_bin, EV.We_neg, EV.We_not, EV.We_and, EV.We_or, EV.We_cmp, EV.We_chn, EV.We_ite, EV.We_idx, EV.We_call, EV.We_callK, EV.We_bf, EV.We_mt, EV.We_comp, EV.We_con, EV.Wl_nil, EV.Wl_cons, EV.Wi_itv, EV.Wi_its, EV.Wi_itc, EV.Wi_rng, EV.Wi_enm, EV.Wi_zip, EV.Wt_e, EV.Ws_e, EV.Wo_some, EV.Wv_some, EV.Wob_some, EV.Wtr_some, EV.Woi_some, EV.Ktup_ap, EV.Klst_ap, EV.Kbin_ap, EV.Kbin2_add, EV.Kbin2_sub, EV.Kbin2_mul, EV.Kbin2_mod, EV.Kbin2_fdiv, EV.Kneg_ap, EV.Kbl_ap, EV.Knot_ap, EV.Kand_t, EV.Kand_f, EV.Kor_t, EV.Kor_f, EV.Kcmp_ap, EV.Kcmp2_lt, EV.Kcmp2_le, EV.Kcmp2_gt, EV.Kcmp2_ge, EV.Kcmp2_eq, EV.Kcmp2_ne, EV.Kcmp2_is, EV.Kcmp2_isnot, EV.Kcmp2_isB, EV.Kchn_ap, EV.Kchn2_le, EV.Wch_t, EV.Wch_f, EV.Kife_t, EV.Kife_f, EV.Kidx_ap, EV.Kidx2_T0, EV.Kidx2_T1, EV.Kidx2_T2, EV.Kidx2_Tn, EV.Kidx2_O, EV.Wix_lst, EV.Wix_dK, EV.Wix_lkd, EV.Wix_dT, EV.atI_0, EV.atI_1, EV.atI_2, EV.atI_n, EV.Kcall_ap, EV.KcallK_ap, EV.KcallK2_ap, EV.Wpk_some, EV.Kbf_lenT, EV.Kbf_lenO, EV.Wln_lst, EV.Wln_dK, EV.Wln_dT, EV.Kbf_int, EV.Kbf_intB, EV.Kbf_min, EV.Kbf_max, EV.Kbf_isT, EV.Kbf_isI, EV.Kbf_isB, EV.Kbf_isS, EV.Kbf_isN, EV.Kbf_isO, EV.Wity_lst, EV.Kmt_app, EV.isLs_ap, EV.Kap_ap, EV.Wap_ap, EV.Kcon_tup, EV.Kcon_tupT, EV.Kcon_lst, EV.Kcon_live, EV.Wls_ap, EV.Wr_ctup, EV.Wr_clst, EV.Kc1_ap, EV.Kc2_ap, EV.Ktst_bl, EV.Ktst_tup, EV.Ktst_obj, EV.Wtl_lst, EV.KtstB_ap, EV.Knl_ap, EV.Kvl_ap, EV.Kitv_tup, EV.Kitv_obj, EV.Wlv_ap, EV.Kits_tup, EV.Kits_obj, EV.Wlc_ap, EV.Kenm_tup, EV.Kenm_obj, EV.Kzip_ap, EV.Kzip2_tup, EV.Krng_ap, EV.Krng2_0n, EV.Kasg_ap, EV.Wbd_nm, EV.Wbd_tup, EV.Wbds_nil, EV.Wbds_cons, EV.Kexp_ap, EV.Kret_ap, EV.Kseq_nx, EV.Kseq_rt, EV.Kseq_bk, EV.Kseq_ct, EV.Kif_t, EV.Kif_f, EV.Kset_ap, EV.Kset2_ap, EV.Kwhl_t, EV.Kwhl_f, EV.Kfor_nx, EV.Kfor_ct, EV.Kfor_bk, EV.Kfor_rt, EV.Kout_rt, EV.Kout_nx, EV.hp_get, EV.hp_get0, EV.hp_set, EV.hp_set0, List.getElem?_cons_zero, List.getElem?_cons_succ, List.set_cons_zero, List.set_cons_succ, List.length_cons, List.length_nil, List.length_map, List.getElem?_map, Option.map_some, Option.map_none, List.append_assoc, List.cons_append, List.nil_append, true_and, and_true, false_and, and_false, decide_true, decide_false, Bool.not_true, Bool.not_false, if_true, if_false, EV.isNon, and_self, Nat.zero_add, Bool.true_or, Bool.or_true, Bool.false_or, Bool.or_false, EV.gc_len, reduceIte, eq_self, Nat.reduceAdd, Int.reduceLT, Int.reduceLE, Int.reduceEq, Int.reduceNe, Int.reduceSub, Int.reduceAdd, Int.reduceMul, Int.reduceNeg, Int.reduceToNat, Int.cast_ofNat_Int, *])
local macro_rules | `(tactic| walk_at "v") => `(tactic| simp -implicitDefEqProofs (disch := first | omega | (simp only [List.length_cons, List.length_nil, List.length_map, List.length_append] <;> omega)) only [EV.Wb_nil, EV.Wb_pass, EV.Wb_asg, EV.Wb_expr, EV.Wb_ret, EV.Wb_retN, EV.Wb_brk, EV.Wb_cnt, EV.Wb_ite, EV.Wb_set, EV.Wb_for, EV.Wb_tryN, EV.We_cst, EV.We_var, EV.We_glb, EV.We_tup, EV.We_lst, EV.We_dnew, EV.We_bin, EV.We_neg, EV.We_not, EV.We_and, EV.We_or, EV.We_cmp, EV.We_chn, EV.We_ite, EV.We_idx, EV.We_call, EV.We_callK, EV.We_bf, EV.We_mt, EV.We_comp, EV.We_con, EV.Wl_nil, EV.Wl_cons, EV.Wi_itv, EV.Wi_its, EV.Wi_itc, EV.Wi_rng, EV.Wi_enm, EV.Wi_zip, EV.Wt_e, EV.Ws_e, EV.Wo_some, EV.Wv_some, EV.Wob_some, EV.Wtr_some, EV.Woi_some, EV.Ktup_ap, EV.Klst_ap, EV.Kbin_ap, EV.Kbin2_add, EV.Kbin2_sub, EV.Kbin2_mul, EV.Kbin2_mod, EV.Kbin2_fdiv, EV.Kneg_ap, EV.Kbl_ap, EV.Knot_ap, EV.Kand_t, EV.Kand_f, EV.Kor_t, EV.Kor_f, EV.Kcmp_ap, EV.Kcmp2_lt, EV.Kcmp2_le, EV.Kcmp2_gt, EV.Kcmp2_ge, EV.Kcmp2_eq, EV.Kcmp2_ne, EV.Kcmp2_is, EV.Kcmp2_isnot, EV.Kcmp2_isB, EV.Kchn_ap, EV.Kchn2_le, EV.Wch_t, EV.Wch_f, EV.Kife_t, EV.Kife_f, EV.Kidx_ap, EV.Kidx2_T0, EV.Kidx2_T1, EV.Kidx2_T2, EV.Kidx2_Tn, EV.Kidx2_O, EV.Wix_lst, EV.Wix_dK, EV.Wix_lkd, EV.Wix_dT, EV.atI_0, EV.atI_1, EV.atI_2, EV.atI_n, EV.Kcall_ap, EV.KcallK_ap, EV.KcallK2_ap, EV.Wpk_some, EV.Kbf_lenT, EV.Kbf_lenO, EV.Wln_lst, EV.Wln_dK, EV.Wln_dT, EV.Kbf_int, EV.Kbf_intB, EV.Kbf_min, EV.Kbf_max, EV.Kbf_isT, EV.Kbf_isI, EV.Kbf_isB, EV.Kbf_isS, EV.Kbf_isN, EV.Kbf_isO, EV.Wity_lst, EV.Kmt_app, EV.isLs_ap, EV.Kap_ap, EV.Wap_ap, EV.Kcon_tup, EV.Kcon_tupT, EV.Kcon_lst, EV.Kcon_live, EV.Wls_ap, EV.Wr_ctup, EV.Wr_clst, EV.Kc1_ap, EV.Kc2_ap, EV.Ktst_bl, EV.Ktst_tup, EV.Ktst_obj, EV.Wtl_lst, EV.KtstB_ap, EV.Knl_ap, EV.Kvl_ap, EV.Kitv_tup, EV.Kitv_obj, EV.Wlv_ap, EV.Kits_tup, EV.Kits_obj, EV.Wlc_ap, EV.Kenm_tup, EV.Kenm_obj, EV.Kzip_ap, EV.Kzip2_tup, EV.Krng_ap, EV.Krng2_0n, EV.Kasg_ap, EV.Wbd_nm, EV.Wbd_tup, EV.Wbds_nil, EV.Wbds_cons, EV.Kexp_ap, EV.Kret_ap, EV.Kseq_nx, EV.Kseq_rt, EV.Kseq_bk, EV.Kseq_ct, EV.Kif_t, EV.Kif_f, EV.Kset_ap, EV.Kset2_ap, EV.Kwhl_t, EV.Kwhl_f, EV.Kfor_nx, EV.Kfor_ct, EV.Kfor_bk, EV.Kfor_rt, EV.Kout_rt, EV.Kout_nx, EV.hp_get, EV.hp_get0, EV.hp_set, EV.hp_set0, List.getElem?_cons_zero, List.getElem?_cons_succ, List.set_cons_zero, List.set_cons_succ, List.length_cons, List.length_nil, List.length_map, List.getElem?_map, Option.map_some, Option.map_none, List.append_assoc, List.cons_append, List.nil_append, true_and, and_true, false_and, and_false, decide_true, decide_false, Bool.not_true, Bool.not_false, if_true, if_false, EV.isNon, and_self, Nat.zero_add, Bool.true_or, Bool.or_true, Bool.false_or, Bool.or_false, EV.gc_len, reduceIte, eq_self, Nat.reduceAdd, Int.reduceLT, Int.reduceLE, Int.reduceEq, Int.reduceNe, Int.reduceSub, Int.reduceAdd, Int.reduceMul, Int.reduceNeg, Int.reduceToNat, Int.cast_ofNat_Int])
local macro_rules | `(tactic| walk_at "u") => `(tactic| simp -implicitDefEqProofs (disch := first | omega | (simp only [List.length_cons, List.length_nil, List.length_map, List.length_append] <;> omega)) only [EV.Wb_nil, EV.Wb_pass, EV.Wb_asg, EV.Wb_expr, EV.Wb_ret, EV.Wb_retN, EV.Wb_brk, EV.Wb_cnt, EV.Wb_ite, EV.Wb_set, EV.Wb_for, EV.Wb_tryN, EV.We_cst, EV.We_var, EV.We_glb, EV.We_tup, EV.We_lst, EV.We_dnew, EV.We_bin, EV.We_neg, EV.We_not, EV.We_and, EV.We_or, EV.We_cmp, EV.We_chn, EV.We_ite, EV.We_idx, EV.We_call, EV.We_callK, EV.We_bf, EV.We_mt, EV.We_comp, EV.We_con, EV.Wl_nil, EV.Wl_cons, EV.Wi_itv, EV.Wi_its, EV.Wi_itc, EV.Wi_rng, EV.Wi_enm, EV.Wi_zip, EV.Wt_e, EV.Ws_e, EV.Wo_some, EV.Wv_some, EV.Wob_some, EV.Wtr_some, EV.Woi_some, EV.Ktup_ap, EV.Klst_ap, EV.Kbin_ap, EV.Kbin2_add, EV.Kbin2_sub, EV.Kbin2_mul, EV.Kbin2_mod, EV.Kbin2_fdiv, EV.Kneg_ap, EV.Kbl_ap, EV.Knot_ap, EV.Kand_t, EV.Kand_f, EV.Kor_t, EV.Kor_f, EV.Kcmp_ap, EV.Kcmp2_lt, EV.Kcmp2_le, EV.Kcmp2_gt, EV.Kcmp2_ge, EV.Kcmp2_eq, EV.Kcmp2_ne, EV.Kcmp2_is, EV.Kcmp2_isnot, EV.Kcmp2_isB, EV.Kchn_ap, EV.Kchn2_le, EV.Wch_t, EV.Wch_f, EV.Kife_t, EV.Kife_f, EV.Kidx_ap, EV.Kidx2_T0, EV.Kidx2_T1, EV.Kidx2_T2, EV.Kidx2_Tn, EV.Kidx2_O, EV.Wix_lst, EV.Wix_dK, EV.Wix_lkd, EV.Wix_dT, EV.atI_0, EV.atI_1, EV.atI_2, EV.atI_n, EV.Kcall_ap, EV.KcallK_ap, EV.KcallK2_ap, EV.Wpk_some, EV.Kbf_lenT, EV.Kbf_lenO, EV.Wln_lst, EV.Wln_dK, EV.Wln_dT, EV.Kbf_int, EV.Kbf_intB, EV.Kbf_min, EV.Kbf_max, EV.Kbf_isT, EV.Kbf_isI, EV.Kbf_isB, EV.Kbf_isS, EV.Kbf_isN, EV.Kbf_isO, EV.Wity_lst, EV.Kmt_app, EV.isLs_ap, EV.Kap_ap, EV.Wap_ap, EV.Kcon_tup, EV.Kcon_tupT, EV.Kcon_lst, EV.Kcon_live, EV.Wls_ap, EV.Wr_ctup, EV.Wr_clst, EV.Kc1_ap, EV.Kc2_ap, EV.Ktst_bl, EV.Ktst_tup, EV.Ktst_obj, EV.Wtl_lst, EV.KtstB_ap, EV.Knl_ap, EV.Kvl_ap, EV.Kitv_tup, EV.Kitv_obj, EV.Wlv_ap, EV.Kits_tup, EV.Kits_obj, EV.Wlc_ap, EV.Kenm_tup, EV.Kenm_obj, EV.Kzip_ap, EV.Kzip2_tup, EV.Krng_ap, EV.Krng2_0n, EV.Kasg_ap, EV.Wbd_nm, EV.Wbd_tup, EV.Wbds_nil, EV.Wbds_cons, EV.Kexp_ap, EV.Kret_ap, EV.Kseq_nx, EV.Kseq_rt, EV.Kseq_bk, EV.Kseq_ct, EV.Kif_t, EV.Kif_f, EV.Kset_ap, EV.Kset2_ap, EV.Kwhl_t, EV.Kwhl_f, EV.Kfor_nx, EV.Kfor_ct, EV.Kfor_bk, EV.Kfor_rt, EV.Kout_rt, EV.Kout_nx, EV.hp_get, EV.hp_get0, EV.hp_set, EV.hp_set0, List.getElem?_cons_zero, List.getElem?_cons_succ, List.set_cons_zero, List.set_cons_succ, List.length_cons, List.length_nil, List.length_map, List.getElem?_map, Option.map_some, Option.map_none, List.append_assoc, List.cons_append, List.nil_append, true_and, and_true, false_and, and_false, decide_true, decide_false, Bool.not_true, Bool.not_false, if_true, if_false, EV.isNon, and_self, Nat.zero_add, Bool.true_or, Bool.or_true, Bool.false_or, Bool.or_false, EV.gc_len, reduceIte, eq_self, Nat.reduceAdd, Int.reduceLT, Int.reduceLE, Int.reduceEq, Int.reduceNe, Int.reduceSub, Int.reduceAdd, Int.reduceMul, Int.reduceNeg, Int.reduceToNat, Int.cast_ofNat_Int, List.length_append, Nat.add_assoc, Option.isSome_none, Option.isSome_some, Option.bind_some, Option.bind_none, List.isEmpty_nil, List.isEmpty_cons, *, List.map_append, List.map_cons, List.map_nil])
abbrev stepP (q : Nat × (Nat × Nat)) : PV := .tup [nI q.1, pv2 q.2]
def dct (ps : List (Nat × Nat)) : List (List L2.Key × PV) := ps.map fun p => (keyP p, nI (ps.idxOf p))
theorem dct_len {ps : List (Nat × Nat)} : (dct ps).length = ps.length := by unfold dct; rw [List.length_map]
theorem dct_in {ps : List (Nat × Nat)} {p : Nat × Nat} (h : p ∈ ps) : look (keyP p) (dct ps) = some (nI (ps.idxOf p)) := look_on h fun a _ e => by rw [keyP_inj e]
theorem dct_no {ps : List (Nat × Nat)} {p : Nat × Nat} (h : p ∉ ps) : look (keyP p) (dct ps) = none := look_no fun a ha e => h (by rw [← keyP_inj e]; exact ha)
theorem dct_put {ps : List (Nat × Nat)} {p : Nat × Nat} (h : p ∉ ps) : put (keyP p) (nI ps.length) (dct ps) = dct (ps ++ [p]) := by
  unfold dct
  rw [put_no fun a ha e => h (by rw [← keyP_inj e]; exact ha), List.map_append]
  congr 1
  · refine List.map_congr_left fun a ha => ?_
    rw [List.idxOf_append, if_pos ha]
  · simp [List.idxOf_append, h]
theorem KdctT_00 {h : PH} {K : KV} : KdctT K [.tup [.int 0, .int 0], .int 0] h = K (.obj h.length) (h ++ [.dT (dct [(0, 0)])]) := by
  unfold KdctT
  have : pairsT [.tup [.int 0, .int 0], .int 0] [] = some (dct [(0, 0)]) := rfl
  rw [this]
  simp
theorem c28 {c : Clk} (o : c.Ok) (sm : c.Sm) {N : Nat} (E : c.Ex N) {h : PH} (cl : Cl h) {K : KV} {k : Nat} (hk : 3 ≤ k) : Wc (P.cc k) 28 [c.pv] h K = K (tabP (c.tab N)) h := by
  refine Wc_eq (w28 (by omega) ?_) K
  unfold b28
  have e27 : ∀ (p : Nat × Nat) H K, p.1 < c.rows.length → Wc (P.cc (k - 1)) 27 [c.pv, pv2 p] H K = K (pv2 (c.tp p)) H := fun p H K hp => c27 o hp (by omega)
  have hN30 : N ≤ 30 := by have := Clk.pls_len o sm N; have := E.len.1; omega
  (have zz0 := @We_dctT; have zz1 := @KdctT_00; walk_at "u")
  refine Wb_whl (m := N) (by rw [fuelE]; omega) (I := fun m r1 h1 => ∃ j, j ≤ N ∧ m = N - j ∧ (∃ g, h1 = h ++ .dT (dct (c.pls j)) :: .lst false ((c.pls j).map pv2) :: .lst false ((c.tab j).map rowP) :: g) ∧ ∃ x5 x6 x7 x8, r1 = [some c.pv, some (.obj h.length), some (.obj (h.length + 1)), some (nI j), some (.obj (h.length + 2)), x5, x6, x7, x8])
    ⟨0, Nat.zero_le _, rfl, ⟨[], rfl⟩, _, _, _, _, rfl⟩ fun m r1 h1 ⟨j, j1, j2, ⟨g, q1⟩, x5, x6, x7, x8, q2⟩ => ?_
  subst q1 q2
  by_cases hj : j < N
  · have q0 : (j : Int) < ((c.pls j).length : Int) := by have := E.more j hj; omega
    obtain ⟨p, hp⟩ := Clk.pls_get E hj
    have hpl := Clk.pls_ok o j p (List.mem_of_getElem? hp)
    obtain ⟨r, e, _⟩ := Clk.get o hpl.1
    have e2 := Clk.rw_get e
    have rl := Clk.rw_len o hpl.1
    have n4 := o.n4
    have e27 := fun H K => e27 p H K hpl.1
    have pl := Clk.pls_len o sm j
    have nl := Clk.nx_len o hpl.1
    walk_at "u"
    refine Klp_map (l := c.rw p.1) (f := pv2) (g := fun q => .tup [nI q.1, .tup [nI q.2, .int 0]]) (by rw [fuelE]; omega) (by omega) (iw_vals (l := c.rw p.1) (f := pv2)) (fun a _ => ?_) ?_
    · simp only [wipeP]
      walk_at "w"
    have eS : (c.rw p.1).map (fun q => (.tup [nI q.1, .tup [nI q.2, .int 0]] : PV)) ++ [.tup [.int 0, pv2 (c.tp p)]] = (c.nx p).map stepP := by
      unfold Clk.nx
      rw [List.map_append, List.map_map]
      rfl
    have hz2 : ((c.rw p.1).map (fun q => (.tup [nI q.1, .tup [nI q.2, .int 0]] : PV))).length + 1 ≤ 16777216 := by rw [List.length_map]; omega
    clear e2
    (have zz0 := @Kbin2_catW; have zz1 := @Wcat_ap; walk_at "u")
    have hg : (g ++ [PO.lst false ((c.rw p.1).map (fun q => (.tup [nI q.1, .tup [nI q.2, .int 0]] : PV))), PO.lst false [PV.tup [PV.int 0, pv2 (c.tp p)]], PO.lst false ((c.nx p).map stepP)])[g.length + 2]? = some (.lst false ((c.nx p).map stepP)) := by rw [hp_get]; rfl
    have hi5 : g.length + 5 = (g.length + 2) + 3 := rfl
    rw [hi5]
    generalize g.length + 2 = i at hg
    generalize (g ++ [PO.lst false ((c.rw p.1).map (fun q => (.tup [nI q.1, .tup [nI q.2, .int 0]] : PV))), PO.lst false [PV.tup [PV.int 0, pv2 (c.tp p)]], PO.lst false ((c.nx p).map stepP)]) = gg at hg
    clear e eS hz2 e27 hi5
    have hlv : ∀ D W R, (h ++ D :: W :: R :: gg)[h.length + (i + 3)]? = some (PO.lst false ((c.nx p).map stepP)) := fun D W R => by rw [hp_get]; exact hg
    refine Kfors_live (l := c.nx p) (f := stepP) (fun pre r1 h1 => h1 = h ++ .dT (dct (adds (c.pls j) pre)) :: .lst false ((adds (c.pls j) pre).map pv2) :: .lst false ((c.tab j).map rowP) :: gg ∧ ∃ x7 x8, r1 = [some c.pv, some (.obj h.length), some (.obj (h.length + 1)), some (.int (j + 1)), some (.obj (h.length + 2)), some (pv2 p), some (.obj (h.length + (i + 3))), x7, x8])
      (by rw [fuelE]; omega) ⟨rfl, _, _, rfl⟩ (fun pre r1 h1 ⟨z1, _⟩ => ⟨false, by rw [z1]; exact hlv _ _ _⟩) (fun pre a post r1 h1 hx ⟨z1, x7, x8, z2⟩ => ?_) fun r1 h1 ⟨z1, x7, x8, z2⟩ => ?_
    · subst z1 z2
      have hpx : c.nx p = (pre ++ [a]) ++ post := by rw [hx]; simp
      rw [adds_snoc]
      have hle : (adds (c.pls j) pre).length ≤ 30 := by
        have := Clk.pls_len o sm (j + 1)
        rw [Clk.pls_succ hp, hx] at this
        have h2 := (adds_pre (qs := a :: post) (ps := adds (c.pls j) pre)).length_le
        unfold adds at this h2 ⊢
        rw [List.foldl_append] at this
        omega
      generalize adds (c.pls j) pre = ps at *
      have hin := isIn_dT (h := h ++ .dT (dct ps) :: .lst false (ps.map pv2) :: .lst false ((c.tab j).map rowP) :: gg) (n := h.length) (kvs := dct ps) hp_get0 (toTK_p (p := a.2))
      by_cases hm : a.2 ∈ ps
      · rw [dct_in hm] at hin
        have : addp ps a.2 = ps := by unfold addp; rw [if_pos hm]
        rw [this]
        (have zz0 := @Kcmp2_notin; walk_at "u")
        exact ⟨_, _, rfl⟩
      · rw [dct_no hm] at hin
        have : addp ps a.2 = ps ++ [a.2] := by unfold addp; rw [if_neg hm]
        rw [this]
        have hset := fun c' ss r Q => Kset3_dT (c := c') (ss := ss) (r := r) (Q := Q) (v := nI ps.length) (h := h ++ .dT (dct ps) :: .lst false (ps.map pv2) :: .lst false ((c.tab j).map rowP) :: gg) (n := h.length) (kvs := dct ps) hp_get0 (toTK_p (p := a.2)) (by rw [dct_len]; omega)
        rw [dct_put hm] at hset
        have hzp : (ps.map pv2).length ≤ 16777215 := by rw [List.length_map]; omega
        (have zz0 := @Kcmp2_notin; have zz1 := @dct_len; walk_at "u")
        exact ⟨_, _, rfl⟩
    · subst z1 z2
      rw [← Clk.pls_succ hp]
      have pl1 := Clk.pls_len o sm (j + 1)
      have q60 : ¬ (60 : Int) < ((c.pls (j + 1)).length : Int) := by omega
      (have zz0 := @dct_len; have zz1 := @g2; walk_at "u")
      refine Klp_map (l := c.nx p) (f := stepP) (g := fun q => pv2 (q.1, (c.pls (j + 1)).idxOf q.2)) (by rw [fuelE]; omega) (by omega) (iw_live (hlv _ _ _)) (fun a ha => ?_) ?_
      · have hd := dct_in (Clk.nx_mem E hj hp a ha)
        simp only [wipeP]
        (have zz0 := @toTK_p; walk_at "u")
      · have ht : ((c.tab j).map rowP).length ≤ 16777215 := by rw [List.length_map, Clk.tab_len]; omega
        have hz3 : ((c.nx p).map fun q => pv2 (q.1, (c.pls (j + 1)).idxOf q.2)).length ≤ 16777216 := by rw [List.length_map]; omega
        walk_at "u"
        refine ⟨N - (j + 1), by omega, j + 1, hj, rfl, ⟨gg, ?_⟩, _, _, _, _, rfl⟩
        rw [Clk.tab_succ, List.map_append, Clk.prow_eq hp]
        simp
  · have hj : j = N := by omega
    subst hj
    have q0 : ¬ (j : Int) < ((c.pls j).length : Int) := by have := E.fin; omega
    have hz : ((c.tab j).map rowP).length ≤ 16777216 := by rw [List.length_map, Clk.tab_len]; omega
    walk_at "u"
    exact gc_flat cl flat_rows
end Lw
end
section
set_option Elab.async false
set_option linter.all false
set_option maxRecDepth 100000
namespace Lw
open PySem EV
local macro_rules | `(tactic| walk_at "w") => `(tactic| simp -implicitDefEqProofs (disch := first | omega | (simp only [List.length_cons, List.length_nil, List.length_map, List.length_append] <;> omega)) only [EV.Wb_nil, EV.Wb_pass, EV.Wb_asg, EV.Wb_expr, EV.Wb_ret, EV.Wb_retN, EV.Wb_brk, EV.Wb_cnt, EV.Wb_ite, EV.Wb_set, EV.Wb_for, EV.Wb_tryN, EV.We_cst, EV.We_var, EV.We_glb, EV.We_tup, EV.We_lst, EV.We_dnew, EV.We_bin, EV.We_neg, EV.We_not, EV.We_and, EV.We_or, EV.We_cmp, EV.We_chn, EV.We_ite, EV.We_idx, EV.We_call, EV.We_callK, EV.We_bf, EV.We_mt, EV.We_comp, EV.We_con, EV.Wl_nil, EV.Wl_cons, EV.Wi_itv, EV.Wi_its, EV.Wi_itc, EV.Wi_rng, EV.Wi_enm, EV.Wi_zip, EV.Wt_e, EV.Ws_e, EV.Wo_some, EV.Wv_some, EV.Wob_some, EV.Wtr_some, EV.Woi_some, EV.Ktup_ap, EV.Klst_ap, EV.Kbin_ap, EV.Kbin2_add, EV.Kbin2_sub, EV.Kbin2_mul, EV.Kbin2_mod, EV.Kbin2_fdiv, EV.Kneg_ap, EV.Kbl_ap, EV.Knot_ap, EV.Kand_t, EV.Kand_f, EV.Kor_t, EV.Kor_f, EV.Kcmp_ap, EV.Kcmp2_lt, EV.Kcmp2_le, EV.Kcmp2_gt, EV.Kcmp2_ge, EV.Kcmp2_eq, EV.Kcmp2_ne, EV.Kcmp2_is, EV.Kcmp2_isnot, EV.Kcmp2_isB, EV.Kchn_ap, EV.Kchn2_le, EV.Wch_t, EV.Wch_f, EV.Kife_t, EV.Kife_f, EV.Kidx_ap, EV.Kidx2_T0, EV.Kidx2_T1, EV.Kidx2_T2, EV.Kidx2_Tn, EV.Kidx2_O, EV.Wix_lst, EV.Wix_dK, EV.Wix_lkd, EV.Wix_dT, EV.atI_0, EV.atI_1, EV.atI_2, EV.atI_n, EV.Kcall_ap, EV.KcallK_ap, EV.KcallK2_ap, EV.Wpk_some, EV.Kbf_lenT, EV.Kbf_lenO, EV.Wln_lst, EV.Wln_dK, EV.Wln_dT, EV.Kbf_int, EV.Kbf_intB, EV.Kbf_min, EV.Kbf_max, EV.Kbf_isT, EV.Kbf_isI, EV.Kbf_isB, EV.Kbf_isS, EV.Kbf_isN, EV.Kbf_isO, EV.Wity_lst, EV.Kmt_app, EV.isLs_ap, EV.Kap_ap, EV.Wap_ap, EV.Kcon_tup, EV.Kcon_tupT, EV.Kcon_lst, EV.Kcon_live, EV.Wls_ap, EV.Wr_ctup, EV.Wr_clst, EV.Kc1_ap, EV.Kc2_ap, EV.Ktst_bl, EV.Ktst_tup, EV.Ktst_obj, EV.Wtl_lst, EV.KtstB_ap, EV.Knl_ap, EV.Kvl_ap, EV.Kitv_tup, EV.Kitv_obj, EV.Wlv_ap, EV.Kits_tup, EV.Kits_obj, EV.Wlc_ap, EV.Kenm_tup, EV.Kenm_obj, EV.Kzip_ap, EV.Kzip2_tup, EV.Krng_ap, EV.Krng2_0n, EV.Kasg_ap, EV.Wbd_nm, EV.Wbd_tup, EV.Wbds_nil, EV.Wbds_cons, EV.Kexp_ap, EV.Kret_ap, EV.Kseq_nx, EV.Kseq_rt, EV.Kseq_bk, EV.Kseq_ct, EV.Kif_t, EV.Kif_f, EV.Kset_ap, EV.Kset2_ap, EV.Kwhl_t, EV.Kwhl_f, EV.Kfor_nx, EV.Kfor_ct, EV.Kfor_bk, EV.Kfor_rt, EV.Kout_rt, EV.Kout_nx, EV.hp_get, EV.hp_get0, EV.hp_set, EV.hp_set0, List.getElem?_cons_zero, List.getElem?_cons_succ, List.set_cons_zero, List.set_cons_succ, List.length_cons, List.length_nil, List.length_map, List.getElem?_map, Option.map_some, Option.map_none, List.append_assoc, List.cons_append, List.nil_append, true_and, and_true, false_and, and_false, decide_true, decide_false, Bool.not_true, Bool.not_false, if_true, if_false, EV.isNon, and_self, Nat.zero_add, Bool.true_or, Bool.or_true, Bool.false_or, Bool.or_false, EV.gc_len, reduceIte, eq_self, Nat.reduceAdd, Int.reduceLT, Int.reduceLE, Int.reduceEq, Int.reduceNe, Int.reduceSub, Int.reduceAdd, Int.reduceMul, Int.reduceNeg, Int.reduceToNat, Int.cast_ofNat_Int, *])
local macro_rules | `(tactic| walk_at "v") => `(tactic| simp -implicitDefEqProofs (disch := first | omega | (simp only [List.length_cons, List.length_nil, List.length_map, List.length_append] <;> omega)) only [EV.Wb_nil, EV.Wb_pass, EV.Wb_asg, EV.Wb_expr, EV.Wb_ret, EV.Wb_retN, EV.Wb_brk, EV.Wb_cnt, EV.Wb_ite, EV.Wb_set, EV.Wb_for, EV.Wb_tryN, EV.We_cst, EV.We_var, EV.We_glb, EV.We_tup, EV.We_lst, EV.We_dnew, EV.We_bin, EV.We_neg, EV.We_not, EV.We_and, EV.We_or, EV.We_cmp, EV.We_chn, EV.We_ite, EV.We_idx, EV.We_call, EV.We_callK, EV.We_bf, EV.We_mt, EV.We_comp, EV.We_con, EV.Wl_nil, EV.Wl_cons, EV.Wi_itv, EV.Wi_its, EV.Wi_itc, EV.Wi_rng, EV.Wi_enm, EV.Wi_zip, EV.Wt_e, EV.Ws_e, EV.Wo_some, EV.Wv_some, EV.Wob_some, EV.Wtr_some, EV.Woi_some, EV.Ktup_ap, EV.Klst_ap, EV.Kbin_ap, EV.Kbin2_add, EV.Kbin2_sub, EV.Kbin2_mul, EV.Kbin2_mod, EV.Kbin2_fdiv, EV.Kneg_ap, EV.Kbl_ap, EV.Knot_ap, EV.Kand_t, EV.Kand_f, EV.Kor_t, EV.Kor_f, EV.Kcmp_ap, EV.Kcmp2_lt, EV.Kcmp2_le, EV.Kcmp2_gt, EV.Kcmp2_ge, EV.Kcmp2_eq, EV.Kcmp2_ne, EV.Kcmp2_is, EV.Kcmp2_isnot, EV.Kcmp2_isB, EV.Kchn_ap, EV.Kchn2_le, EV.Wch_t, EV.Wch_f, EV.Kife_t, EV.Kife_f, EV.Kidx_ap, EV.Kidx2_T0, EV.Kidx2_T1, EV.Kidx2_T2, EV.Kidx2_Tn, EV.Kidx2_O, EV.Wix_lst, EV.Wix_dK, EV.Wix_lkd, EV.Wix_dT, EV.atI_0, EV.atI_1, EV.atI_2, EV.atI_n, EV.Kcall_ap, EV.KcallK_ap, EV.KcallK2_ap, EV.Wpk_some, EV.Kbf_lenT, EV.Kbf_lenO, EV.Wln_lst, EV.Wln_dK, EV.Wln_dT, EV.Kbf_int, EV.Kbf_intB, EV.Kbf_min, EV.Kbf_max, EV.Kbf_isT, EV.Kbf_isI, EV.Kbf_isB, EV.Kbf_isS, EV.Kbf_isN, EV.Kbf_isO, EV.Wity_lst, EV.Kmt_app, EV.isLs_ap, EV.Kap_ap, EV.Wap_ap, EV.Kcon_tup, EV.Kcon_tupT, EV.Kcon_lst, EV.Kcon_live, EV.Wls_ap, EV.Wr_ctup, EV.Wr_clst, EV.Kc1_ap, EV.Kc2_ap, EV.Ktst_bl, EV.Ktst_tup, EV.Ktst_obj, EV.Wtl_lst, EV.KtstB_ap, EV.Knl_ap, EV.Kvl_ap, EV.Kitv_tup, EV.Kitv_obj, EV.Wlv_ap, EV.Kits_tup, EV.Kits_obj, EV.Wlc_ap, EV.Kenm_tup, EV.Kenm_obj, EV.Kzip_ap, EV.Kzip2_tup, EV.Krng_ap, EV.Krng2_0n, EV.Kasg_ap, EV.Wbd_nm, EV.Wbd_tup, EV.Wbds_nil, EV.Wbds_cons, EV.Kexp_ap, EV.Kret_ap, EV.Kseq_nx, EV.Kseq_rt, EV.Kseq_bk, EV.Kseq_ct, EV.Kif_t, EV.Kif_f, EV.Kset_ap, EV.Kset2_ap, EV.Kwhl_t, EV.Kwhl_f, EV.Kfor_nx, EV.Kfor_ct, EV.Kfor_bk, EV.Kfor_rt, EV.Kout_rt, EV.Kout_nx, EV.hp_get, EV.hp_get0, EV.hp_set, EV.hp_set0, List.getElem?_cons_zero, List.getElem?_cons_succ, List.set_cons_zero, List.set_cons_succ, List.length_cons, List.length_nil, List.length_map, List.getElem?_map, Option.map_some, Option.map_none, List.append_assoc, List.cons_append, List.nil_append, true_and, and_true, false_and, and_false, decide_true, decide_false, Bool.not_true, Bool.not_false, if_true, if_false, EV.isNon, and_self, Nat.zero_add, Bool.true_or, Bool.or_true, Bool.false_or, Bool.or_false, EV.gc_len, reduceIte, eq_self, Nat.reduceAdd, Int.reduceLT, Int.reduceLE, Int.reduceEq, Int.reduceNe, Int.reduceSub, Int.reduceAdd, Int.reduceMul, Int.reduceNeg, Int.reduceToNat, Int.cast_ofNat_Int])
local macro_rules | `(tactic| walk_at "u") => `(tactic| simp -implicitDefEqProofs (disch := first | omega | (simp only [List.length_cons, List.length_nil, List.length_map, List.length_append] <;> omega)) only [EV.Wb_nil, EV.Wb_pass, EV.Wb_asg, EV.Wb_expr, EV.Wb_ret, EV.Wb_retN, EV.Wb_brk, EV.Wb_cnt, EV.Wb_ite, EV.Wb_set, EV.Wb_for, EV.Wb_tryN, EV.We_cst, EV.We_var, EV.We_glb, EV.We_tup, EV.We_lst, EV.We_dnew, EV.We_bin, EV.We_neg, EV.We_not, EV.We_and, EV.We_or, EV.We_cmp, EV.We_chn, EV.We_ite, EV.We_idx, EV.We_call, EV.We_callK, EV.We_bf, EV.We_mt, EV.We_comp, EV.We_con, EV.Wl_nil, EV.Wl_cons, EV.Wi_itv, EV.Wi_its, EV.Wi_itc, EV.Wi_rng, EV.Wi_enm, EV.Wi_zip, EV.Wt_e, EV.Ws_e, EV.Wo_some, EV.Wv_some, EV.Wob_some, EV.Wtr_some, EV.Woi_some, EV.Ktup_ap, EV.Klst_ap, EV.Kbin_ap, EV.Kbin2_add, EV.Kbin2_sub, EV.Kbin2_mul, EV.Kbin2_mod, EV.Kbin2_fdiv, EV.Kneg_ap, EV.Kbl_ap, EV.Knot_ap, EV.Kand_t, EV.Kand_f, EV.Kor_t, EV.Kor_f, EV.Kcmp_ap, EV.Kcmp2_lt, EV.Kcmp2_le, EV.Kcmp2_gt, EV.Kcmp2_ge, EV.Kcmp2_eq, EV.Kcmp2_ne, EV.Kcmp2_is, EV.Kcmp2_isnot, EV.Kcmp2_isB, EV.Kchn_ap, EV.Kchn2_le, EV.Wch_t, EV.Wch_f, EV.Kife_t, EV.Kife_f, EV.Kidx_ap, EV.Kidx2_T0, EV.Kidx2_T1, EV.Kidx2_T2, EV.Kidx2_Tn, EV.Kidx2_O, EV.Wix_lst, EV.Wix_dK, EV.Wix_lkd, EV.Wix_dT, EV.atI_0, EV.atI_1, EV.atI_2, EV.atI_n, EV.Kcall_ap, EV.KcallK_ap, EV.KcallK2_ap, EV.Wpk_some, EV.Kbf_lenT, EV.Kbf_lenO, EV.Wln_lst, EV.Wln_dK, EV.Wln_dT, EV.Kbf_int, EV.Kbf_intB, EV.Kbf_min, EV.Kbf_max, EV.Kbf_isT, EV.Kbf_isI, EV.Kbf_isB, EV.Kbf_isS, EV.Kbf_isN, EV.Kbf_isO, EV.Wity_lst, EV.Kmt_app, EV.isLs_ap, EV.Kap_ap, EV.Wap_ap, EV.Kcon_tup, EV.Kcon_tupT, EV.Kcon_lst, EV.Kcon_live, EV.Wls_ap, EV.Wr_ctup, EV.Wr_clst, EV.Kc1_ap, EV.Kc2_ap, EV.Ktst_bl, EV.Ktst_tup, EV.Ktst_obj, EV.Wtl_lst, EV.KtstB_ap, EV.Knl_ap, EV.Kvl_ap, EV.Kitv_tup, EV.Kitv_obj, EV.Wlv_ap, EV.Kits_tup, EV.Kits_obj, EV.Wlc_ap, EV.Kenm_tup, EV.Kenm_obj, EV.Kzip_ap, EV.Kzip2_tup, EV.Krng_ap, EV.Krng2_0n, EV.Kasg_ap, EV.Wbd_nm, EV.Wbd_tup, EV.Wbds_nil, EV.Wbds_cons, EV.Kexp_ap, EV.Kret_ap, EV.Kseq_nx, EV.Kseq_rt, EV.Kseq_bk, EV.Kseq_ct, EV.Kif_t, EV.Kif_f, EV.Kset_ap, EV.Kset2_ap, EV.Kwhl_t, EV.Kwhl_f, EV.Kfor_nx, EV.Kfor_ct, EV.Kfor_bk, EV.Kfor_rt, EV.Kout_rt, EV.Kout_nx, EV.hp_get, EV.hp_get0, EV.hp_set, EV.hp_set0, List.getElem?_cons_zero, List.getElem?_cons_succ, List.set_cons_zero, List.set_cons_succ, List.length_cons, List.length_nil, List.length_map, List.getElem?_map, Option.map_some, Option.map_none, List.append_assoc, List.cons_append, List.nil_append, true_and, and_true, false_and, and_false, decide_true, decide_false, Bool.not_true, Bool.not_false, if_true, if_false, EV.isNon, and_self, Nat.zero_add, Bool.true_or, Bool.or_true, Bool.false_or, Bool.or_false, EV.gc_len, reduceIte, eq_self, Nat.reduceAdd, Int.reduceLT, Int.reduceLE, Int.reduceEq, Int.reduceNe, Int.reduceSub, Int.reduceAdd, Int.reduceMul, Int.reduceNeg, Int.reduceToNat, Int.cast_ofNat_Int, List.length_append, Nat.add_assoc, Option.isSome_none, Option.isSome_some, Option.bind_some, Option.bind_none, List.isEmpty_nil, List.isEmpty_cons, *, List.map_append, List.map_cons, List.map_nil])
theorem c29 {c : Clk} (o : c.Ok) (sm : c.Sm) {N : Nat} (E : c.Ex N) {h : PH} (cl : Cl h) {K : KV} {k : Nat} (hk : 7 ≤ k) : Wc (P.cc k) 29 [c.pv] h K = K (c.box N).pv h := by
  refine Wc_eq (w29 (by omega) ?_) K
  have e1 : ∀ K, Wc (P.cc (k - 1)) 16 [c.pv] h K = K c.pv h := fun K => c16 o (by omega)
  have e2 : ∀ K, Wc (P.cc (k - 1)) 28 [c.pv] h K = _ := fun K => c28 o sm E cl (by omega)
  have n3 := sm.n3
  have q : ¬ (c.n : Int) = 4 := by omega
  unfold b29
  (have zz0 := @g0; walk_at "w")
  rfl
theorem Clk.End.uniq {c : Clk} {s : Nat} {i i' : Nat} {b b' : Option Nat} (E : c.End s i b) (E' : c.End s i' b') : i = i' := by
  have key : ∀ {i i' : Nat} {b b' : Option Nat}, c.End s i b → c.End s i' b' → ¬ i < i' := by
    intro i i' b b' E E' hlt
    have h1 := E.i1
    cases b with
    | none =>
      have f2 := E.fin.2
      have : c.go s (i' - 1) := by
        cases b' with
        | none => exact E'.fin.1
        | some b' => intro j hj; exact E'.fin.1 j (by omega)
      obtain ⟨p, hp⟩ := this (i - 1) (by omega)
      rw [f2] at hp; cases hp
    | some b =>
      obtain ⟨_, f2, f3⟩ := E.fin
      have nd := E'.nd
      have e1 := Clk.ss_get (c := c) (s := s) (i := i') (j := b) (by omega)
      have e2 := Clk.ss_get (c := c) (s := s) (i := i') (j := i) hlt
      rw [f3] at e1
      have := (List.getElem?_inj (by rw [Clk.ss_len]; omega) nd).mp (e1.trans e2.symm)
      omega
  have := key E E'
  have := key E' E
  omega
def Clk.fw (c : Clk) (s i v a : Nat) : List Nat := ((c.crs s i).filter fun p => decide ((c.stp p.1 v).1 = a)).map (·.2)
theorem c30 {c : Clk} (o : c.Ok) {s v a i : Nat} {b : Option Nat} (hs : s < c.rows.length) (hv : v < c.n) (ha : a < c.A) (E : c.End s i b) {h : PH} (cl : Cl h) {K : KV} {k : Nat} (hk : 7 ≤ k) : Wc (P.cc k) 30 [c.pv, nI s, nI v, nI a] h K = K (optI (c.fw s i v a).head?) h := by
  refine Wc_eq (w30 (by omega) ?_) K
  have e1 : ∀ K, Wc (P.cc (k - 1)) 16 [c.pv] h K = K c.pv h := fun K => c16 o (by omega)
  have e2 : ∀ K, Wc (P.cc (k - 1)) 17 [c.pv, nI s] h K = K .non h := fun K => c17 hs (by omega)
  have e3 : ∀ K, Wc (P.cc (k - 1)) 18 [c.pv, nI v] h K = K .non h := fun K => c18 hv (by omega)
  unfold b30
  (have zz0 := @c1t; walk_at "w")
  refine c21 o hs cl (by omega) fun i' b' g E' => ?_
  obtain rfl : i = i' := E.uniq E'
  have hle := E.le
  have t20 := o.t20
  have crl : (c.crs s i).length = i := Clk.crs_len
  walk_at "u"
  refine Klp_filter (l := c.crs s i) (f := pv2) (g := fun p => nI p.2) (p := fun p => decide ((c.stp p.1 v).1 = a)) (by rw [fuelE]; omega) (by omega) (iw_live hp_get0) (fun x hx => ?_) ?_
  · have hx1 : x.1 < c.rows.length := by
      unfold Clk.crs at hx
      obtain ⟨j, _, rfl⟩ := List.mem_map.mp hx
      exact Clk.cr_lt o hs j
    obtain ⟨r, e, _, h3, _⟩ := Clk.get o hx1
    have h4 := h3 v hv
    simp only [wipeP]
    walk_at "u"
    exact ⟨by congr 1; apply propext; omega, fun _ => trivial⟩
  · have e4 : ((c.crs s i).filter fun p => decide ((c.stp p.1 v).1 = a)).map (fun p => nI p.2) = (c.fw s i v a).map nI := by unfold Clk.fw; rw [List.map_map]; rfl
    have hz : (c.fw s i v a).length ≤ i := by unfold Clk.fw; rw [List.length_map]; exact Nat.le_trans (List.length_filter_le _ _) (by omega)
    rw [e4]
    generalize c.fw s i v a = l at *
    cases l with
    | nil =>
      walk_at "u"
      exact ⟨rfl, gc_flat cl rfl⟩
    | cons x l =>
      walk_at "u"
      exact ⟨rfl, gc_flat cl rfl⟩
end Lw
end
section
set_option Elab.async false
set_option linter.all false
set_option maxRecDepth 100000
namespace Lw
open PySem EV
local macro_rules | `(tactic| walk_at "w") => `(tactic| simp -implicitDefEqProofs (disch := first | omega | (simp only [List.length_cons, List.length_nil, List.length_map, List.length_append] <;> omega)) only [EV.Wb_nil, EV.Wb_pass, EV.Wb_asg, EV.Wb_expr, EV.Wb_ret, EV.Wb_retN, EV.Wb_brk, EV.Wb_cnt, EV.Wb_ite, EV.Wb_set, EV.Wb_for, EV.Wb_tryN, EV.We_cst, EV.We_var, EV.We_glb, EV.We_tup, EV.We_lst, EV.We_dnew, EV.We_bin, EV.We_neg, EV.We_not, EV.We_and, EV.We_or, EV.We_cmp, EV.We_chn, EV.We_ite, EV.We_idx, EV.We_call, EV.We_callK, EV.We_bf, EV.We_mt, EV.We_comp, EV.We_con, EV.Wl_nil, EV.Wl_cons, EV.Wi_itv, EV.Wi_its, EV.Wi_itc, EV.Wi_rng, EV.Wi_enm, EV.Wi_zip, EV.Wt_e, EV.Ws_e, EV.Wo_some, EV.Wv_some, EV.Wob_some, EV.Wtr_some, EV.Woi_some, EV.Ktup_ap, EV.Klst_ap, EV.Kbin_ap, EV.Kbin2_add, EV.Kbin2_sub, EV.Kbin2_mul, EV.Kbin2_mod, EV.Kbin2_fdiv, EV.Kneg_ap, EV.Kbl_ap, EV.Knot_ap, EV.Kand_t, EV.Kand_f, EV.Kor_t, EV.Kor_f, EV.Kcmp_ap, EV.Kcmp2_lt, EV.Kcmp2_le, EV.Kcmp2_gt, EV.Kcmp2_ge, EV.Kcmp2_eq, EV.Kcmp2_ne, EV.Kcmp2_is, EV.Kcmp2_isnot, EV.Kcmp2_isB, EV.Kchn_ap, EV.Kchn2_le, EV.Wch_t, EV.Wch_f, EV.Kife_t, EV.Kife_f, EV.Kidx_ap, EV.Kidx2_T0, EV.Kidx2_T1, EV.Kidx2_T2, EV.Kidx2_Tn, EV.Kidx2_O, EV.Wix_lst, EV.Wix_dK, EV.Wix_lkd, EV.Wix_dT, EV.atI_0, EV.atI_1, EV.atI_2, EV.atI_n, EV.Kcall_ap, EV.KcallK_ap, EV.KcallK2_ap, EV.Wpk_some, EV.Kbf_lenT, EV.Kbf_lenO, EV.Wln_lst, EV.Wln_dK, EV.Wln_dT, EV.Kbf_int, EV.Kbf_intB, EV.Kbf_min, EV.Kbf_max, EV.Kbf_isT, EV.Kbf_isI, EV.Kbf_isB, EV.Kbf_isS, EV.Kbf_isN, EV.Kbf_isO, EV.Wity_lst, EV.Kmt_app, EV.isLs_ap, EV.Kap_ap, EV.Wap_ap, EV.Kcon_tup, EV.Kcon_tupT, EV.Kcon_lst, EV.Kcon_live, EV.Wls_ap, EV.Wr_ctup, EV.Wr_clst, EV.Kc1_ap, EV.Kc2_ap, EV.Ktst_bl, EV.Ktst_tup, EV.Ktst_obj, EV.Wtl_lst, EV.KtstB_ap, EV.Knl_ap, EV.Kvl_ap, EV.Kitv_tup, EV.Kitv_obj, EV.Wlv_ap, EV.Kits_tup, EV.Kits_obj, EV.Wlc_ap, EV.Kenm_tup, EV.Kenm_obj, EV.Kzip_ap, EV.Kzip2_tup, EV.Krng_ap, EV.Krng2_0n, EV.Kasg_ap, EV.Wbd_nm, EV.Wbd_tup, EV.Wbds_nil, EV.Wbds_cons, EV.Kexp_ap, EV.Kret_ap, EV.Kseq_nx, EV.Kseq_rt, EV.Kseq_bk, EV.Kseq_ct, EV.Kif_t, EV.Kif_f, EV.Kset_ap, EV.Kset2_ap, EV.Kwhl_t, EV.Kwhl_f, EV.Kfor_nx, EV.Kfor_ct, EV.Kfor_bk, EV.Kfor_rt, EV.Kout_rt, EV.Kout_nx, EV.hp_get, EV.hp_get0, EV.hp_set, EV.hp_set0, List.getElem?_cons_zero, List.getElem?_cons_succ, List.set_cons_zero, List.set_cons_succ, List.length_cons, List.length_nil, List.length_map, List.getElem?_map, Option.map_some, Option.map_none, List.append_assoc, List.cons_append, List.nil_append, true_and, and_true, false_and, and_false, decide_true, decide_false, Bool.not_true, Bool.not_false, if_true, if_false, EV.isNon, and_self, Nat.zero_add, Bool.true_or, Bool.or_true, Bool.false_or, Bool.or_false, EV.gc_len, reduceIte, eq_self, Nat.reduceAdd, Int.reduceLT, Int.reduceLE, Int.reduceEq, Int.reduceNe, Int.reduceSub, Int.reduceAdd, Int.reduceMul, Int.reduceNeg, Int.reduceToNat, Int.cast_ofNat_Int, *])
local macro_rules | `(tactic| walk_at "v") => `(tactic| simp -implicitDefEqProofs (disch := first | omega | (simp only [List.length_cons, List.length_nil, List.length_map, List.length_append] <;> omega)) only [EV.Wb_nil, EV.Wb_pass, EV.Wb_asg, EV.Wb_expr, EV.Wb_ret, EV.Wb_retN, EV.Wb_brk, EV.Wb_cnt, EV.Wb_ite, EV.Wb_set, EV.Wb_for, EV.Wb_tryN, EV.We_cst, EV.We_var, EV.We_glb, EV.We_tup, EV.We_lst, EV.We_dnew, EV.We_bin, EV.We_neg, EV.We_not, EV.We_and, EV.We_or, EV.We_cmp, EV.We_chn, EV.We_ite, EV.We_idx, EV.We_call, EV.We_callK, EV.We_bf, EV.We_mt, EV.We_comp, EV.We_con, EV.Wl_nil, EV.Wl_cons, EV.Wi_itv, EV.Wi_its, EV.Wi_itc, EV.Wi_rng, EV.Wi_enm, EV.Wi_zip, EV.Wt_e, EV.Ws_e, EV.Wo_some, EV.Wv_some, EV.Wob_some, EV.Wtr_some, EV.Woi_some, EV.Ktup_ap, EV.Klst_ap, EV.Kbin_ap, EV.Kbin2_add, EV.Kbin2_sub, EV.Kbin2_mul, EV.Kbin2_mod, EV.Kbin2_fdiv, EV.Kneg_ap, EV.Kbl_ap, EV.Knot_ap, EV.Kand_t, EV.Kand_f, EV.Kor_t, EV.Kor_f, EV.Kcmp_ap, EV.Kcmp2_lt, EV.Kcmp2_le, EV.Kcmp2_gt, EV.Kcmp2_ge, EV.Kcmp2_eq, EV.Kcmp2_ne, EV.Kcmp2_is, EV.Kcmp2_isnot, EV.Kcmp2_isB, EV.Kchn_ap, EV.Kchn2_le, EV.Wch_t, EV.Wch_f, EV.Kife_t, EV.Kife_f, EV.Kidx_ap, EV.Kidx2_T0, EV.Kidx2_T1, EV.Kidx2_T2, EV.Kidx2_Tn, EV.Kidx2_O, EV.Wix_lst, EV.Wix_dK, EV.Wix_lkd, EV.Wix_dT, EV.atI_0, EV.atI_1, EV.atI_2, EV.atI_n, EV.Kcall_ap, EV.KcallK_ap, EV.KcallK2_ap, EV.Wpk_some, EV.Kbf_lenT, EV.Kbf_lenO, EV.Wln_lst, EV.Wln_dK, EV.Wln_dT, EV.Kbf_int, EV.Kbf_intB, EV.Kbf_min, EV.Kbf_max, EV.Kbf_isT, EV.Kbf_isI, EV.Kbf_isB, EV.Kbf_isS, EV.Kbf_isN, EV.Kbf_isO, EV.Wity_lst, EV.Kmt_app, EV.isLs_ap, EV.Kap_ap, EV.Wap_ap, EV.Kcon_tup, EV.Kcon_tupT, EV.Kcon_lst, EV.Kcon_live, EV.Wls_ap, EV.Wr_ctup, EV.Wr_clst, EV.Kc1_ap, EV.Kc2_ap, EV.Ktst_bl, EV.Ktst_tup, EV.Ktst_obj, EV.Wtl_lst, EV.KtstB_ap, EV.Knl_ap, EV.Kvl_ap, EV.Kitv_tup, EV.Kitv_obj, EV.Wlv_ap, EV.Kits_tup, EV.Kits_obj, EV.Wlc_ap, EV.Kenm_tup, EV.Kenm_obj, EV.Kzip_ap, EV.Kzip2_tup, EV.Krng_ap, EV.Krng2_0n, EV.Kasg_ap, EV.Wbd_nm, EV.Wbd_tup, EV.Wbds_nil, EV.Wbds_cons, EV.Kexp_ap, EV.Kret_ap, EV.Kseq_nx, EV.Kseq_rt, EV.Kseq_bk, EV.Kseq_ct, EV.Kif_t, EV.Kif_f, EV.Kset_ap, EV.Kset2_ap, EV.Kwhl_t, EV.Kwhl_f, EV.Kfor_nx, EV.Kfor_ct, EV.Kfor_bk, EV.Kfor_rt, EV.Kout_rt, EV.Kout_nx, EV.hp_get, EV.hp_get0, EV.hp_set, EV.hp_set0, List.getElem?_cons_zero, List.getElem?_cons_succ, List.set_cons_zero, List.set_cons_succ, List.length_cons, List.length_nil, List.length_map, List.getElem?_map, Option.map_some, Option.map_none, List.append_assoc, List.cons_append, List.nil_append, true_and, and_true, false_and, and_false, decide_true, decide_false, Bool.not_true, Bool.not_false, if_true, if_false, EV.isNon, and_self, Nat.zero_add, Bool.true_or, Bool.or_true, Bool.false_or, Bool.or_false, EV.gc_len, reduceIte, eq_self, Nat.reduceAdd, Int.reduceLT, Int.reduceLE, Int.reduceEq, Int.reduceNe, Int.reduceSub, Int.reduceAdd, Int.reduceMul, Int.reduceNeg, Int.reduceToNat, Int.cast_ofNat_Int])
local macro_rules | `(tactic| walk_at "u") => `(tactic| simp -implicitDefEqProofs (disch := first | omega | (simp only [List.length_cons, List.length_nil, List.length_map, List.length_append] <;> omega)) only [EV.Wb_nil, EV.Wb_pass, EV.Wb_asg, EV.Wb_expr, EV.Wb_ret, EV.Wb_retN, EV.Wb_brk, EV.Wb_cnt, EV.Wb_ite, EV.Wb_set, EV.Wb_for, EV.Wb_tryN, EV.We_cst, EV.We_var, EV.We_glb, EV.We_tup, EV.We_lst, EV.We_dnew, EV.We_bin, EV.We_neg, EV.We_not, EV.We_and, EV.We_or, EV.We_cmp, EV.We_chn, EV.We_ite, EV.We_idx, EV.We_call, EV.We_callK, EV.We_bf, EV.We_mt, EV.We_comp, EV.We_con, EV.Wl_nil, EV.Wl_cons, EV.Wi_itv, EV.Wi_its, EV.Wi_itc, EV.Wi_rng, EV.Wi_enm, EV.Wi_zip, EV.Wt_e, EV.Ws_e, EV.Wo_some, EV.Wv_some, EV.Wob_some, EV.Wtr_some, EV.Woi_some, EV.Ktup_ap, EV.Klst_ap, EV.Kbin_ap, EV.Kbin2_add, EV.Kbin2_sub, EV.Kbin2_mul, EV.Kbin2_mod, EV.Kbin2_fdiv, EV.Kneg_ap, EV.Kbl_ap, EV.Knot_ap, EV.Kand_t, EV.Kand_f, EV.Kor_t, EV.Kor_f, EV.Kcmp_ap, EV.Kcmp2_lt, EV.Kcmp2_le, EV.Kcmp2_gt, EV.Kcmp2_ge, EV.Kcmp2_eq, EV.Kcmp2_ne, EV.Kcmp2_is, EV.Kcmp2_isnot, EV.Kcmp2_isB, EV.Kchn_ap, EV.Kchn2_le, EV.Wch_t, EV.Wch_f, EV.Kife_t, EV.Kife_f, EV.Kidx_ap, EV.Kidx2_T0, EV.Kidx2_T1, EV.Kidx2_T2, EV.Kidx2_Tn, EV.Kidx2_O, EV.Wix_lst, EV.Wix_dK, EV.Wix_lkd, EV.Wix_dT, EV.atI_0, EV.atI_1, EV.atI_2, EV.atI_n, EV.Kcall_ap, EV.KcallK_ap, EV.KcallK2_ap, EV.Wpk_some, EV.Kbf_lenT, EV.Kbf_lenO, EV.Wln_lst, EV.Wln_dK, EV.Wln_dT, EV.Kbf_int, EV.Kbf_intB, EV.Kbf_min, EV.Kbf_max, EV.Kbf_isT, EV.Kbf_isI, EV.Kbf_isB, EV.Kbf_isS, EV.Kbf_isN, EV.Kbf_isO, EV.Wity_lst, EV.Kmt_app, EV.isLs_ap, EV.Kap_ap, EV.Wap_ap, EV.Kcon_tup, EV.Kcon_tupT, EV.Kcon_lst, EV.Kcon_live, EV.Wls_ap, EV.Wr_ctup, EV.Wr_clst, EV.Kc1_ap, EV.Kc2_ap, EV.Ktst_bl, EV.Ktst_tup, EV.Ktst_obj, EV.Wtl_lst, EV.KtstB_ap, EV.Knl_ap, EV.Kvl_ap, EV.Kitv_tup, EV.Kitv_obj, EV.Wlv_ap, EV.Kits_tup, EV.Kits_obj, EV.Wlc_ap, EV.Kenm_tup, EV.Kenm_obj, EV.Kzip_ap, EV.Kzip2_tup, EV.Krng_ap, EV.Krng2_0n, EV.Kasg_ap, EV.Wbd_nm, EV.Wbd_tup, EV.Wbds_nil, EV.Wbds_cons, EV.Kexp_ap, EV.Kret_ap, EV.Kseq_nx, EV.Kseq_rt, EV.Kseq_bk, EV.Kseq_ct, EV.Kif_t, EV.Kif_f, EV.Kset_ap, EV.Kset2_ap, EV.Kwhl_t, EV.Kwhl_f, EV.Kfor_nx, EV.Kfor_ct, EV.Kfor_bk, EV.Kfor_rt, EV.Kout_rt, EV.Kout_nx, EV.hp_get, EV.hp_get0, EV.hp_set, EV.hp_set0, List.getElem?_cons_zero, List.getElem?_cons_succ, List.set_cons_zero, List.set_cons_succ, List.length_cons, List.length_nil, List.length_map, List.getElem?_map, Option.map_some, Option.map_none, List.append_assoc, List.cons_append, List.nil_append, true_and, and_true, false_and, and_false, decide_true, decide_false, Bool.not_true, Bool.not_false, if_true, if_false, EV.isNon, and_self, Nat.zero_add, Bool.true_or, Bool.or_true, Bool.false_or, Bool.or_false, EV.gc_len, reduceIte, eq_self, Nat.reduceAdd, Int.reduceLT, Int.reduceLE, Int.reduceEq, Int.reduceNe, Int.reduceSub, Int.reduceAdd, Int.reduceMul, Int.reduceNeg, Int.reduceToNat, Int.cast_ofNat_Int, List.length_append, Nat.add_assoc, Option.isSome_none, Option.isSome_some, Option.bind_some, Option.bind_none, List.isEmpty_nil, List.isEmpty_cons, *, List.map_append, List.map_cons, List.map_nil])
/-! ### drawing -/
structure St where
  small : List Nat
  great : List Nat
  spot : Nat
structure St.Ok (m : St) : Prop where
  len : m.small.length = 64
  lt : ∀ x ∈ m.small, x < 2147483647
  gl : m.great.length ≤ 63
def mD (sp : Nat) : List (L2.Key × PV) := [(Sum.inr "small", .obj 1), (Sum.inr "great", .obj 2), (Sum.inr "spot", nI sp)]
/-- the heap of the law: the script, what is drawn from, and what came since -/
def M (sc : List Int) (m : St) (g : PH) : PH := .lst true (sc.map .int) :: .lst false (m.small.map nI) :: .lst false (m.great.map nI) :: .dK (mD m.spot) :: g
theorem M_app {sc : List Int} {m : St} {g t : PH} : M sc m g ++ t = M sc m (g ++ t) := rfl
theorem M_len {sc : List Int} {m : St} {g : PH} : (M sc m g).length = g.length + 4 := rfl
def Cg (g : PH) : Prop := g.all (·.old (g.length + 4)) = true
theorem Cg.cl {sc : List Int} {m : St} {g : PH} (c : Cg g) : Cl (M sc m g) := by
  have h1 : oldL (g.length + 4) (sc.map .int) = true := oldL_ints sc
  have h2 : oldL (g.length + 4) (m.small.map nI) = true := flatL_old _ flat_nI
  have h3 : oldL (g.length + 4) (m.great.map nI) = true := flatL_old _ flat_nI
  have h4 : (PO.dK (mD m.spot)).old (g.length + 4) = true := by
    show (decide (1 < g.length + 4) && (decide (2 < g.length + 4) && true)) = true
    rw [decide_eq_true (by omega), decide_eq_true (by omega)]; rfl
  have h5 : g.all (fun o => o.old (g.length + 4)) = true := c
  show (oldL (g.length + 4) (sc.map .int) && (oldL (g.length + 4) (m.small.map nI) && (oldL (g.length + 4) (m.great.map nI) && ((PO.dK (mD m.spot)).old (g.length + 4) && g.all (fun o => o.old (g.length + 4)))))) = true
  rw [h1, h2, h3, h4, h5]; rfl
theorem Cg.nil : Cg [] := rfl
theorem Cg.app {g t : PH} (c : Cg g) (h : t.all (·.old (g.length + t.length + 4)) = true) : Cg (g ++ t) := by
  unfold Cg at *
  rw [List.length_append, List.all_append, h, Bool.and_true]
  rw [List.all_eq_true] at c ⊢
  exact fun x hx => PO.old_mono (by omega) (c x hx)
theorem Cg.lst {g : PH} {xs : List PV} {fz : Bool} (c : Cg g) (h : flatL xs = true) : Cg (g ++ [.lst fz xs]) := c.app (by
  rw [List.all_cons, List.all_nil, Bool.and_true]
  exact flatL_old xs h)
theorem lk_small {s : Nat} : look (Sum.inr "small" : L2.Key) (mD s) = some (.obj 1) := by kernel_rfl
theorem lk_great {s : Nat} : look (Sum.inr "great" : L2.Key) (mD s) = some (.obj 2) := by kernel_rfl
theorem lk_spot {s : Nat} : look (Sum.inr "spot" : L2.Key) (mD s) = some (nI s) := by kernel_rfl
theorem pt_spot {s s' : Nat} : put (Sum.inr "spot" : L2.Key) (nI s') (mD s) = mD s' := by kernel_rfl
theorem toKey_s {s : Str} : toKey (.str s) = some (Sum.inr s) := rfl
def mixN (cell n : Nat) : Nat := ((((cell * (1 + 2 * n) * 48271) % 2147483647 + 7919 * n * n + 104729 * n) * 69621) % 2147483629) / 7
theorem mixN_lt {cell n : Nat} : mixN cell n < 2147483647 := by
  unfold mixN
  have := Nat.mod_lt (((cell * (1 + 2 * n) * 48271) % 2147483647 + 7919 * n * n + 104729 * n) * 69621) (show 0 < 2147483629 by decide)
  omega
theorem c31 {cell n : Nat} (hc : cell < 4611686018427387904) (hn : n < 1000000000000000) {h : PH} {K : KV} {k : Nat} (hk : 1 ≤ k) : Wc (P.cc k) 31 [nI cell, nI n] h K = K (nI (mixN cell n)) h := by
  refine Wc_eq (w31 hk ?_) K
  unfold b31
  have q1 : (cell : Int) < 4611686018427387904 := by omega
  have q2 : (n : Int) < 1000000000000000 := by omega
  walk_at "w"
  rfl
theorem gcM {sc : List Int} {m : St} {g t : PH} (cg : Cg g) {v : PV} (hv : v.flat = true) : gc (g.length + 4) v (M sc m (g ++ t)) = M sc m g := by
  rw [← M_app]
  exact gc_flat cg.cl hv
theorem gcM0 {sc : List Int} {m : St} {g : PH} {v : PV} : gc (g.length + 4) v (M sc m g) = M sc m g := by
  have := gc_len (v := v) (h := M sc m g)
  rwa [M_len] at this
theorem c33 {sc : List Int} {m : St} {g : PH} (mo : m.Ok) (hs : m.spot < 1000000000000) (cg : Cg g) {L : Nat} (h1 : 1 ≤ L) (h2 : L < 1000000000000000000000000000000000000000000) {K : KV} {k : Nat} (hk : 2 ≤ k)
    (hK : ∀ d m', d < L → m'.Ok → m'.spot = m.spot + 1 → K (nI d) (M sc m' g)) : Wc (P.cc k) 33 [.obj 3, nI L] (M sc m g) K := by
  refine w33 (by omega) ?_
  unfold b33
  obtain ⟨small, great, spot⟩ := m
  have hs : spot < 1000000000000 := hs
  have e1 := fun c' ss r Q => Kset3_dK (c := c') (ss := ss) (r := r) (Q := Q) (v := nI (spot + 1)) (h := M sc ⟨small, great, spot⟩ g) (n := 3) (kvs := mD spot) rfl (toKey_s (s := "spot")) (by show 3 < 16777216; decide)
  rw [pt_spot] at e1
  have e1 : ∀ c' ss r Q, Kset3 c' ss r Q (.int ((spot : Int) + 1)) (.obj 3) (.str "spot") (M sc ⟨small, great, spot⟩ g) = Wb c' ss r (M sc ⟨small, great, spot + 1⟩ g) Q := e1
  have hM3 : ∀ m g, (M sc m g)[3]? = some (.dK (mD m.spot)) := fun _ _ => rfl
  have hM2 : ∀ m g, (M sc m g)[2]? = some (.lst false (m.great.map nI)) := fun _ _ => rfl
  have hM1 : ∀ m g, (M sc m g)[1]? = some (.lst false (m.small.map nI)) := fun _ _ => rfl
  have mgl := mo.gl
  have hsl := mo.len
  have hsx : small[spot % 64]? = some (small[spot % 64]?.getD 0) := by
    have : spot % 64 < small.length := by rw [show small.length = 64 from hsl]; omega
    rw [List.getElem?_eq_getElem this]; rfl
  have hxl : small[spot % 64]?.getD 0 < 2147483647 := mo.lt _ (List.mem_of_getElem? hsx)
  generalize small[spot % 64]?.getD 0 = x at hsx hxl
  have c1 : (spot : Int) % 64 = ((spot % 64 : Nat) : Int) := rfl
  have c2 : (spot : Int) / 64 = ((spot / 64 : Nat) : Int) := rfl
  have e31a : ∀ H K, Wc (P.cc (k - 1)) 31 [.int ((x : Int) + 31 * ((spot / 64 : Nat) : Int)), nI spot] H K = K (nI (mixN (x + 31 * (spot / 64)) spot)) H := fun H K => c31 (cell := x + 31 * (spot / 64)) (by omega) (by omega) (by omega)
  have e31b : ∀ H K, Wc (P.cc (k - 1)) 31 [nI (mixN (x + 31 * (spot / 64)) spot), .int ((spot : Int) + 7)] H K = K (nI (mixN (mixN (x + 31 * (spot / 64)) spot) (spot + 7))) H := fun H K => c31 (n := spot + 7) (by have := mixN_lt (cell := x + 31 * (spot / 64)) (n := spot); omega) (by omega) (by omega)
  generalize mixN (x + 31 * (spot / 64)) spot = y at e31a e31b
  generalize mixN y (spot + 7) = u at e31b
  have fin : ∀ gr, St.Ok ⟨small, gr, spot⟩ → K (.int ((u : Int) % (L : Int))) (M sc ⟨small, gr, spot + 1⟩ g) := fun gr o => hK (u % L) ⟨small, gr, spot + 1⟩ (Nat.mod_lt _ h1) ⟨o.len, o.lt, o.gl⟩ rfl
  cases great with
  | nil =>
    have e2 : ∀ K, Kcmp2 K .ne (.obj 2) (.obj (g.length + 4)) (M sc ⟨small, [], spot + 1⟩ (g ++ [.lst false []])) = K (.bl false) (M sc ⟨small, [], spot + 1⟩ (g ++ [.lst false []])) := fun K => Kne_nil (l := ([] : List Nat)) dat_nat (by decide) rfl (by rw [← M_app, ← M_len (sc := sc) (m := ⟨small, [], spot + 1⟩), hp_get0]; rfl)
    (have zz0 := @@lk_small; have zz1 := @@lk_great; have zz2 := @@lk_spot; have zz3 := @toKey_s; have zz4 := @M_app; have zz5 := @M_len; walk_at "u")
    rw [gcM cg rfl]
    exact fin _ mo
  | cons a great =>
    have e2 : ∀ K, Kcmp2 K .ne (.obj 2) (.obj (g.length + 4)) (M sc ⟨small, a :: great, spot + 1⟩ (g ++ [.lst false []])) = K (.bl true) (M sc ⟨small, a :: great, spot + 1⟩ (g ++ [.lst false []])) := fun K => Kne_nil (l := a :: great) dat_nat (by decide) rfl (by rw [← M_app, ← M_len (sc := sc) (m := ⟨small, a :: great, spot + 1⟩), hp_get0]; rfl)
    obtain ⟨gr, hgr⟩ : ∃ gr, gr = a :: great := ⟨_, rfl⟩
    rw [← hgr] at mo e1 e2 mgl ⊢
    have hgl : 0 < gr.length := by rw [hgr]; exact Nat.succ_pos _
    have mgl : gr.length ≤ 63 := mgl
    clear hgr
    have hi := Nat.mod_lt spot hgl
    obtain ⟨y, hy⟩ : ∃ y, gr[spot % gr.length]? = some y := ⟨_, List.getElem?_eq_getElem hi⟩
    have c3 : (spot : Int) % (gr.length : Int) = ((spot % gr.length : Nat) : Int) := rfl
    by_cases q : 0 < y
    · have q1 : (0 : Int) < (y : Int) := by omega
      have c4 : (y : Int) / (L : Int) = ((y / L : Nat) : Int) := rfl
      have e3 := fun c' ss r Q => Kset3_lst (c := c') (ss := ss) (r := r) (Q := Q) (v := nI (y / L)) (h := M sc ⟨small, gr, spot + 1⟩ (g ++ [.lst false []])) (n := 2) (xs := gr.map nI) (i := spot % gr.length) rfl (by rw [List.length_map]; exact hi)
      have c5 : (M sc ⟨small, gr, spot + 1⟩ (g ++ [.lst false []])).set 2 (.lst false ((gr.map nI).set (spot % gr.length) (nI (y / L)))) = M sc ⟨small, gr.set (spot % gr.length) (y / L), spot + 1⟩ (g ++ [.lst false []]) := by
        unfold M
        simp only [List.set_cons_succ, List.set_cons_zero, List.map_set]
      rw [c5] at e3
      (have zz0 := @@lk_small; have zz1 := @@lk_great; have zz2 := @@lk_spot; have zz3 := @toKey_s; have zz4 := @M_app; have zz5 := @M_len; walk_at "u")
      rw [gcM cg rfl]
      exact hK (y % L) ⟨small, gr.set (spot % gr.length) (y / L), spot + 1⟩ (Nat.mod_lt _ h1) ⟨mo.len, mo.lt, by show (gr.set _ _).length ≤ 63; rw [List.length_set]; exact mgl⟩ rfl
    · have q1 : ¬ (0 : Int) < (y : Int) := by omega
      (have zz0 := @@lk_small; have zz1 := @@lk_great; have zz2 := @@lk_spot; have zz3 := @toKey_s; have zz4 := @M_app; have zz5 := @M_len; walk_at "u")
      rw [gcM cg rfl]
      exact fin _ mo
end Lw
end
section
set_option Elab.async false
set_option linter.all false
set_option maxRecDepth 100000
namespace EV
open PySem
theorem Kfors_enml {c : Cc} {ss : List S} {r : Env} {h : PH} {Q : Rt → Prop} {α : Type} {t : Tg} {b : List S} {l : List α} {f : α → PV} {n : Nat} (I : Nat → Env → PH → Prop) (hN : l.length < c.fuel) (h0 : I 0 r h)
    (hlive : ∀ i r h, I i r h → ∃ fz, h[n]? = some (.lst fz (l.map f)))
    (hstep : ∀ i a r h, l[i]? = some a → I i r h → Wbd t (.tup [.int (i : Int), f a]) r fun r1 => Wb c b r1 h (Kfor c ss Q (I (i + 1)))) (hend : ∀ r h, I l.length r h → Wb c ss r h Q) : Kfors c ss r Q t b (.enm (.live n)) h := by
  refine Kfors_run (N := l.length) I hN h0 (fun i r h hi hI => ?_) fun r h hI => ?_
  · obtain ⟨fz, e⟩ := hlive _ r h hI
    exact ⟨_, by unfold itAt; rw [iw_live e, List.getElem?_eq_getElem hi]; rfl, hstep i l[i] r h (List.getElem?_eq_getElem hi) hI⟩
  · obtain ⟨fz, e⟩ := hlive _ r h hI
    exact ⟨by unfold itAt; rw [iw_live e]; simp, hend r h hI⟩
theorem pow_18 {K : KV} {h : PH} : Kbin2 K .pow (.int 10) (.int 18) h = K (.int 1000000000000000000) h := rfl
theorem pow_6 {K : KV} {h : PH} : Kbin2 K .pow (.int 10) (.int 6) h = K (.int 1000000) h := rfl
theorem pow_40 {K : KV} {h : PH} : Kbin2 K .pow (.int 10) (.int 40) h = K (.int 10000000000000000000000000000000000000000) h := rfl
theorem pow_39 {K : KV} {h : PH} : Kbin2 K .pow (.int 10) (.int 39) h = K (.int 1000000000000000000000000000000000000000) h := rfl
end EV
namespace Lw
open PySem EV
local macro_rules | `(tactic| walk_at "w") => `(tactic| simp -implicitDefEqProofs (disch := first | omega | (simp only [List.length_cons, List.length_nil, List.length_map, List.length_append] <;> omega)) only [EV.Wb_nil, EV.Wb_pass, EV.Wb_asg, EV.Wb_expr, EV.Wb_ret, EV.Wb_retN, EV.Wb_brk, EV.Wb_cnt, EV.Wb_ite, EV.Wb_set, EV.Wb_for, EV.Wb_tryN, EV.We_cst, EV.We_var, EV.We_glb, EV.We_tup, EV.We_lst, EV.We_dnew, EV.We_bin, EV.We_neg, EV.We_not, EV.We_and, EV.We_or, EV.We_cmp, EV.We_chn, EV.We_ite, EV.We_idx, EV.We_call, EV.We_callK, EV.We_bf, EV.We_mt, EV.We_comp, EV.We_con, EV.Wl_nil, EV.Wl_cons, EV.Wi_itv, EV.Wi_its, EV.Wi_itc, EV.Wi_rng, EV.Wi_enm, EV.Wi_zip, EV.Wt_e, EV.Ws_e, EV.Wo_some, EV.Wv_some, EV.Wob_some, EV.Wtr_some, EV.Woi_some, EV.Ktup_ap, EV.Klst_ap, EV.Kbin_ap, EV.Kbin2_add, EV.Kbin2_sub, EV.Kbin2_mul, EV.Kbin2_mod, EV.Kbin2_fdiv, EV.Kneg_ap, EV.Kbl_ap, EV.Knot_ap, EV.Kand_t, EV.Kand_f, EV.Kor_t, EV.Kor_f, EV.Kcmp_ap, EV.Kcmp2_lt, EV.Kcmp2_le, EV.Kcmp2_gt, EV.Kcmp2_ge, EV.Kcmp2_eq, EV.Kcmp2_ne, EV.Kcmp2_is, EV.Kcmp2_isnot, EV.Kcmp2_isB, EV.Kchn_ap, EV.Kchn2_le, EV.Wch_t, EV.Wch_f, EV.Kife_t, EV.Kife_f, EV.Kidx_ap, EV.Kidx2_T0, EV.Kidx2_T1, EV.Kidx2_T2, EV.Kidx2_Tn, EV.Kidx2_O, EV.Wix_lst, EV.Wix_dK, EV.Wix_lkd, EV.Wix_dT, EV.atI_0, EV.atI_1, EV.atI_2, EV.atI_n, EV.Kcall_ap, EV.KcallK_ap, EV.KcallK2_ap, EV.Wpk_some, EV.Kbf_lenT, EV.Kbf_lenO, EV.Wln_lst, EV.Wln_dK, EV.Wln_dT, EV.Kbf_int, EV.Kbf_intB, EV.Kbf_min, EV.Kbf_max, EV.Kbf_isT, EV.Kbf_isI, EV.Kbf_isB, EV.Kbf_isS, EV.Kbf_isN, EV.Kbf_isO, EV.Wity_lst, EV.Kmt_app, EV.isLs_ap, EV.Kap_ap, EV.Wap_ap, EV.Kcon_tup, EV.Kcon_tupT, EV.Kcon_lst, EV.Kcon_live, EV.Wls_ap, EV.Wr_ctup, EV.Wr_clst, EV.Kc1_ap, EV.Kc2_ap, EV.Ktst_bl, EV.Ktst_tup, EV.Ktst_obj, EV.Wtl_lst, EV.KtstB_ap, EV.Knl_ap, EV.Kvl_ap, EV.Kitv_tup, EV.Kitv_obj, EV.Wlv_ap, EV.Kits_tup, EV.Kits_obj, EV.Wlc_ap, EV.Kenm_tup, EV.Kenm_obj, EV.Kzip_ap, EV.Kzip2_tup, EV.Krng_ap, EV.Krng2_0n, EV.Kasg_ap, EV.Wbd_nm, EV.Wbd_tup, EV.Wbds_nil, EV.Wbds_cons, EV.Kexp_ap, EV.Kret_ap, EV.Kseq_nx, EV.Kseq_rt, EV.Kseq_bk, EV.Kseq_ct, EV.Kif_t, EV.Kif_f, EV.Kset_ap, EV.Kset2_ap, EV.Kwhl_t, EV.Kwhl_f, EV.Kfor_nx, EV.Kfor_ct, EV.Kfor_bk, EV.Kfor_rt, EV.Kout_rt, EV.Kout_nx, EV.hp_get, EV.hp_get0, EV.hp_set, EV.hp_set0, List.getElem?_cons_zero, List.getElem?_cons_succ, List.set_cons_zero, List.set_cons_succ, List.length_cons, List.length_nil, List.length_map, List.getElem?_map, Option.map_some, Option.map_none, List.append_assoc, List.cons_append, List.nil_append, true_and, and_true, false_and, and_false, decide_true, decide_false, Bool.not_true, Bool.not_false, if_true, if_false, EV.isNon, and_self, Nat.zero_add, Bool.true_or, Bool.or_true, Bool.false_or, Bool.or_false, EV.gc_len, reduceIte, eq_self, Nat.reduceAdd, Int.reduceLT, Int.reduceLE, Int.reduceEq, Int.reduceNe, Int.reduceSub, Int.reduceAdd, Int.reduceMul, Int.reduceNeg, Int.reduceToNat, Int.cast_ofNat_Int, *])
local macro_rules | `(tactic| walk_at "v") => `(tactic| simp -implicitDefEqProofs (disch := first | omega | (simp only [List.length_cons, List.length_nil, List.length_map, List.length_append] <;> omega)) only [EV.Wb_nil, EV.Wb_pass, EV.Wb_asg, EV.Wb_expr, EV.Wb_ret, EV.Wb_retN, EV.Wb_brk, EV.Wb_cnt, EV.Wb_ite, EV.Wb_set, EV.Wb_for, EV.Wb_tryN, EV.We_cst, EV.We_var, EV.We_glb, EV.We_tup, EV.We_lst, EV.We_dnew, EV.We_bin, EV.We_neg, EV.We_not, EV.We_and, EV.We_or, EV.We_cmp, EV.We_chn, EV.We_ite, EV.We_idx, EV.We_call, EV.We_callK, EV.We_bf, EV.We_mt, EV.We_comp, EV.We_con, EV.Wl_nil, EV.Wl_cons, EV.Wi_itv, EV.Wi_its, EV.Wi_itc, EV.Wi_rng, EV.Wi_enm, EV.Wi_zip, EV.Wt_e, EV.Ws_e, EV.Wo_some, EV.Wv_some, EV.Wob_some, EV.Wtr_some, EV.Woi_some, EV.Ktup_ap, EV.Klst_ap, EV.Kbin_ap, EV.Kbin2_add, EV.Kbin2_sub, EV.Kbin2_mul, EV.Kbin2_mod, EV.Kbin2_fdiv, EV.Kneg_ap, EV.Kbl_ap, EV.Knot_ap, EV.Kand_t, EV.Kand_f, EV.Kor_t, EV.Kor_f, EV.Kcmp_ap, EV.Kcmp2_lt, EV.Kcmp2_le, EV.Kcmp2_gt, EV.Kcmp2_ge, EV.Kcmp2_eq, EV.Kcmp2_ne, EV.Kcmp2_is, EV.Kcmp2_isnot, EV.Kcmp2_isB, EV.Kchn_ap, EV.Kchn2_le, EV.Wch_t, EV.Wch_f, EV.Kife_t, EV.Kife_f, EV.Kidx_ap, EV.Kidx2_T0, EV.Kidx2_T1, EV.Kidx2_T2, EV.Kidx2_Tn, EV.Kidx2_O, EV.Wix_lst, EV.Wix_dK, EV.Wix_lkd, EV.Wix_dT, EV.atI_0, EV.atI_1, EV.atI_2, EV.atI_n, EV.Kcall_ap, EV.KcallK_ap, EV.KcallK2_ap, EV.Wpk_some, EV.Kbf_lenT, EV.Kbf_lenO, EV.Wln_lst, EV.Wln_dK, EV.Wln_dT, EV.Kbf_int, EV.Kbf_intB, EV.Kbf_min, EV.Kbf_max, EV.Kbf_isT, EV.Kbf_isI, EV.Kbf_isB, EV.Kbf_isS, EV.Kbf_isN, EV.Kbf_isO, EV.Wity_lst, EV.Kmt_app, EV.isLs_ap, EV.Kap_ap, EV.Wap_ap, EV.Kcon_tup, EV.Kcon_tupT, EV.Kcon_lst, EV.Kcon_live, EV.Wls_ap, EV.Wr_ctup, EV.Wr_clst, EV.Kc1_ap, EV.Kc2_ap, EV.Ktst_bl, EV.Ktst_tup, EV.Ktst_obj, EV.Wtl_lst, EV.KtstB_ap, EV.Knl_ap, EV.Kvl_ap, EV.Kitv_tup, EV.Kitv_obj, EV.Wlv_ap, EV.Kits_tup, EV.Kits_obj, EV.Wlc_ap, EV.Kenm_tup, EV.Kenm_obj, EV.Kzip_ap, EV.Kzip2_tup, EV.Krng_ap, EV.Krng2_0n, EV.Kasg_ap, EV.Wbd_nm, EV.Wbd_tup, EV.Wbds_nil, EV.Wbds_cons, EV.Kexp_ap, EV.Kret_ap, EV.Kseq_nx, EV.Kseq_rt, EV.Kseq_bk, EV.Kseq_ct, EV.Kif_t, EV.Kif_f, EV.Kset_ap, EV.Kset2_ap, EV.Kwhl_t, EV.Kwhl_f, EV.Kfor_nx, EV.Kfor_ct, EV.Kfor_bk, EV.Kfor_rt, EV.Kout_rt, EV.Kout_nx, EV.hp_get, EV.hp_get0, EV.hp_set, EV.hp_set0, List.getElem?_cons_zero, List.getElem?_cons_succ, List.set_cons_zero, List.set_cons_succ, List.length_cons, List.length_nil, List.length_map, List.getElem?_map, Option.map_some, Option.map_none, List.append_assoc, List.cons_append, List.nil_append, true_and, and_true, false_and, and_false, decide_true, decide_false, Bool.not_true, Bool.not_false, if_true, if_false, EV.isNon, and_self, Nat.zero_add, Bool.true_or, Bool.or_true, Bool.false_or, Bool.or_false, EV.gc_len, reduceIte, eq_self, Nat.reduceAdd, Int.reduceLT, Int.reduceLE, Int.reduceEq, Int.reduceNe, Int.reduceSub, Int.reduceAdd, Int.reduceMul, Int.reduceNeg, Int.reduceToNat, Int.cast_ofNat_Int])
local macro_rules | `(tactic| walk_at "u") => `(tactic| simp -implicitDefEqProofs (disch := first | omega | (simp only [List.length_cons, List.length_nil, List.length_map, List.length_append] <;> omega)) only [EV.Wb_nil, EV.Wb_pass, EV.Wb_asg, EV.Wb_expr, EV.Wb_ret, EV.Wb_retN, EV.Wb_brk, EV.Wb_cnt, EV.Wb_ite, EV.Wb_set, EV.Wb_for, EV.Wb_tryN, EV.We_cst, EV.We_var, EV.We_glb, EV.We_tup, EV.We_lst, EV.We_dnew, EV.We_bin, EV.We_neg, EV.We_not, EV.We_and, EV.We_or, EV.We_cmp, EV.We_chn, EV.We_ite, EV.We_idx, EV.We_call, EV.We_callK, EV.We_bf, EV.We_mt, EV.We_comp, EV.We_con, EV.Wl_nil, EV.Wl_cons, EV.Wi_itv, EV.Wi_its, EV.Wi_itc, EV.Wi_rng, EV.Wi_enm, EV.Wi_zip, EV.Wt_e, EV.Ws_e, EV.Wo_some, EV.Wv_some, EV.Wob_some, EV.Wtr_some, EV.Woi_some, EV.Ktup_ap, EV.Klst_ap, EV.Kbin_ap, EV.Kbin2_add, EV.Kbin2_sub, EV.Kbin2_mul, EV.Kbin2_mod, EV.Kbin2_fdiv, EV.Kneg_ap, EV.Kbl_ap, EV.Knot_ap, EV.Kand_t, EV.Kand_f, EV.Kor_t, EV.Kor_f, EV.Kcmp_ap, EV.Kcmp2_lt, EV.Kcmp2_le, EV.Kcmp2_gt, EV.Kcmp2_ge, EV.Kcmp2_eq, EV.Kcmp2_ne, EV.Kcmp2_is, EV.Kcmp2_isnot, EV.Kcmp2_isB, EV.Kchn_ap, EV.Kchn2_le, EV.Wch_t, EV.Wch_f, EV.Kife_t, EV.Kife_f, EV.Kidx_ap, EV.Kidx2_T0, EV.Kidx2_T1, EV.Kidx2_T2, EV.Kidx2_Tn, EV.Kidx2_O, EV.Wix_lst, EV.Wix_dK, EV.Wix_lkd, EV.Wix_dT, EV.atI_0, EV.atI_1, EV.atI_2, EV.atI_n, EV.Kcall_ap, EV.KcallK_ap, EV.KcallK2_ap, EV.Wpk_some, EV.Kbf_lenT, EV.Kbf_lenO, EV.Wln_lst, EV.Wln_dK, EV.Wln_dT, EV.Kbf_int, EV.Kbf_intB, EV.Kbf_min, EV.Kbf_max, EV.Kbf_isT, EV.Kbf_isI, EV.Kbf_isB, EV.Kbf_isS, EV.Kbf_isN, EV.Kbf_isO, EV.Wity_lst, EV.Kmt_app, EV.isLs_ap, EV.Kap_ap, EV.Wap_ap, EV.Kcon_tup, EV.Kcon_tupT, EV.Kcon_lst, EV.Kcon_live, EV.Wls_ap, EV.Wr_ctup, EV.Wr_clst, EV.Kc1_ap, EV.Kc2_ap, EV.Ktst_bl, EV.Ktst_tup, EV.Ktst_obj, EV.Wtl_lst, EV.KtstB_ap, EV.Knl_ap, EV.Kvl_ap, EV.Kitv_tup, EV.Kitv_obj, EV.Wlv_ap, EV.Kits_tup, EV.Kits_obj, EV.Wlc_ap, EV.Kenm_tup, EV.Kenm_obj, EV.Kzip_ap, EV.Kzip2_tup, EV.Krng_ap, EV.Krng2_0n, EV.Kasg_ap, EV.Wbd_nm, EV.Wbd_tup, EV.Wbds_nil, EV.Wbds_cons, EV.Kexp_ap, EV.Kret_ap, EV.Kseq_nx, EV.Kseq_rt, EV.Kseq_bk, EV.Kseq_ct, EV.Kif_t, EV.Kif_f, EV.Kset_ap, EV.Kset2_ap, EV.Kwhl_t, EV.Kwhl_f, EV.Kfor_nx, EV.Kfor_ct, EV.Kfor_bk, EV.Kfor_rt, EV.Kout_rt, EV.Kout_nx, EV.hp_get, EV.hp_get0, EV.hp_set, EV.hp_set0, List.getElem?_cons_zero, List.getElem?_cons_succ, List.set_cons_zero, List.set_cons_succ, List.length_cons, List.length_nil, List.length_map, List.getElem?_map, Option.map_some, Option.map_none, List.append_assoc, List.cons_append, List.nil_append, true_and, and_true, false_and, and_false, decide_true, decide_false, Bool.not_true, Bool.not_false, if_true, if_false, EV.isNon, and_self, Nat.zero_add, Bool.true_or, Bool.or_true, Bool.false_or, Bool.or_false, EV.gc_len, reduceIte, eq_self, Nat.reduceAdd, Int.reduceLT, Int.reduceLE, Int.reduceEq, Int.reduceNe, Int.reduceSub, Int.reduceAdd, Int.reduceMul, Int.reduceNeg, Int.reduceToNat, Int.cast_ofNat_Int, List.length_append, Nat.add_assoc, Option.isSome_none, Option.isSome_some, Option.bind_some, Option.bind_none, List.isEmpty_nil, List.isEmpty_cons, *, List.map_append, List.map_cons, List.map_nil])
theorem M_get {sc : List Int} {m : St} {g : PH} {n : Nat} : (M sc m g)[n + 4]? = g[n]? := rfl
theorem c34 {sc : List Int} {m : St} {g : PH} (mo : m.Ok) (hs : m.spot < 1000000000000) (cg : Cg g) {n : Nat} {xs : List PV} {fz : Bool} (e : g[n]? = some (.lst fz xs)) (h1 : 1 ≤ xs.length) (h2 : xs.length ≤ 1000000) {K : KV} {k : Nat} (hk : 3 ≤ k)
    (hK : ∀ (i : Nat) x m', xs[i]? = some x → m'.Ok → m'.spot = m.spot + 1 → K x (M sc m' g)) : Wc (P.cc k) 34 [.obj 3, .obj (n + 4)] (M sc m g) K := by
  refine w34 (by omega) ?_
  unfold b34
  (have zz0 := @@M_get; walk_at "u")
  refine c33 mo hs cg h1 (by omega) (by omega) fun d m' hd mo' hs' => ?_
  obtain ⟨x, hx⟩ : ∃ x, xs[d]? = some x := ⟨_, List.getElem?_eq_getElem hd⟩
  (have zz0 := @@M_get; have zz1 := @@M_len; have zz2 := @@gcM0; walk_at "u")
theorem c32 {sc : List Int} (hsc : sc.length ≤ 63) {K : KV} {k : Nat} (hk : 1 ≤ k) (hK : ∀ m, m.Ok → m.spot = 0 → K (.obj 3) (M sc m [])) : Wc (P.cc k) 32 [.obj 0] [.lst true (sc.map .int)] K := by
  refine w32 (by omega) ?_
  unfold b32
  (have zz0 := @@Krng2_ap; walk_at "u")
  refine Klp_map (l := List.range 64) (f := fun j : Nat => .int (0 + (j : Int))) (g := fun j => nI (31 + j)) (by rw [fuelE, List.length_range]; omega) (by rw [List.length_range]; omega) iw_rng (fun a _ => ?_) ?_
  · simp only [wipeP]
    walk_at "u"
    exact congrArg PV.int (by omega)
  have hl0 : ((List.range 64).map fun j => nI (31 + j)) = ((List.range 64).map (31 + ·)).map nI := by rw [List.map_map]; rfl
  rw [hl0]
  walk_at "u"
  refine Kfors_enml (l := sc) (f := .int) (fun i r1 h1 => ∃ (sm : List Nat) (x2 x3 : Option PV), sm.length = 64 ∧ (∀ x ∈ sm, x < 2147483647) ∧ h1 = [.lst true (sc.map .int), .lst false (sm.map nI)] ∧ r1 = [some (.obj 0), some (.obj 1), x2, x3]) (by rw [fuelE]; omega)
    ⟨_, _, _, by rw [List.length_map, List.length_range], fun x hx => by obtain ⟨j, hj, rfl⟩ := List.mem_map.mp hx; rw [List.mem_range] at hj; omega, rfl, rfl⟩ (fun i r1 h1 ⟨sm, x2, x3, z1, z2, z3, z4⟩ => ⟨true, by rw [z3]; rfl⟩) (fun i a r1 h1 ha ⟨sm, x2, x3, z1, z2, z3, z4⟩ => ?_) fun r1 h1 ⟨sm, x2, x3, z1, z2, z3, z4⟩ => ?_
  · subst z3 z4
    have c1 : (i : Int) % 64 = ((i % 64 : Nat) : Int) := rfl
    have hi : i % 64 < sm.length := by omega
    obtain ⟨x, hx⟩ : ∃ x, sm[i % 64]? = some x := ⟨_, List.getElem?_eq_getElem hi⟩
    have hxl := z2 x (List.mem_of_getElem? hx)
    obtain ⟨y, hy⟩ : ∃ y : Nat, ((x : Int) * 48271 + a) % 2147483647 = (y : Int) := ⟨(((x : Int) * 48271 + a) % 2147483647).toNat, by omega⟩
    have hyl : y < 2147483647 := by omega
    have e3 := fun c' ss r Q => Kset3_lst (c := c') (ss := ss) (r := r) (Q := Q) (v := nI y) (h := [PO.lst true (sc.map .int), .lst false (sm.map nI)]) (n := 1) (xs := sm.map nI) (i := i % 64) rfl (by rw [List.length_map]; exact hi)
    rw [← List.map_set] at e3
    walk_at "u"
    refine ⟨sm.set (i % 64) y, _, _, by rw [List.length_set]; exact z1, fun w hw => ?_, rfl, rfl⟩
    rcases List.mem_or_eq_of_mem_set hw with h | h
    · exact z2 w h
    · omega
  subst z3 z4
  (have zz0 := @@Krng2_ap; walk_at "u")
  refine Kfors_rng (lo := 1) (n := 63) (fun i r1 h1 => ∃ (sm : List Nat) (x2 x3 : Option PV), sm.length = 64 ∧ (∀ x ∈ sm, x < 2147483647) ∧ h1 = [.lst true (sc.map .int), .lst false (sm.map nI)] ∧ r1 = [some (.obj 0), some (.obj 1), x2, x3]) (by rw [fuelE]; omega)
    ⟨_, _, _, z1, z2, rfl, rfl⟩ (fun i r1 h1 hi63 ⟨sm, x2, x3, z1, z2, z3, z4⟩ => ?_) fun r1 h1 ⟨sm, x2, x3, z1, z2, z3, z4⟩ => ?_
  · subst z3 z4
    have c1 : (1 : Int) + (i : Int) = ((i + 1 : Nat) : Int) := by omega
    have c2 : ((i + 1 : Nat) : Int) - 1 = (i : Int) := by omega
    have hi : i < sm.length := by omega
    have hi1 : i + 1 < sm.length := by omega
    obtain ⟨x, hx⟩ : ∃ x, sm[i]? = some x := ⟨_, List.getElem?_eq_getElem hi⟩
    obtain ⟨x1, hx1⟩ : ∃ x, sm[i + 1]? = some x := ⟨_, List.getElem?_eq_getElem hi1⟩
    have hxl := z2 x (List.mem_of_getElem? hx)
    have hxl1 := z2 x1 (List.mem_of_getElem? hx1)
    obtain ⟨y, hy⟩ : ∃ y : Nat, ((x1 : Int) + (x : Int) * 16807) % 2147483647 = (y : Int) := ⟨(((x1 : Int) + (x : Int) * 16807) % 2147483647).toNat, by omega⟩
    have hyl : y < 2147483647 := by omega
    have e3 := fun c' ss r Q => Kset3_lst (c := c') (ss := ss) (r := r) (Q := Q) (v := nI y) (h := [PO.lst true (sc.map .int), .lst false (sm.map nI)]) (n := 1) (xs := sm.map nI) (i := i + 1) rfl (by rw [List.length_map]; exact hi1)
    rw [← List.map_set] at e3
    walk_at "w"
    refine ⟨sm.set (i + 1) y, _, _, by rw [List.length_set]; exact z1, fun w hw => ?_, rfl, rfl⟩
    rcases List.mem_or_eq_of_mem_set hw with h | h
    · exact z2 w h
    · omega
  subst z3 z4
  have pK : ∀ K, Kdct K [.str "small", .obj 1, .str "great", .obj 2, .str "spot", .int 0] [.lst true (sc.map .int), .lst false (sm.map nI), .lst false ((sc.map fun c => if 1000000000000000000 ≤ c then c.toNat else 0).map nI)] = K (.obj 3) (M sc ⟨sm, sc.map fun c => if 1000000000000000000 ≤ c then c.toNat else 0, 0⟩ []) := fun K => by
    unfold Kdct
    have : pairsK [.str "small", .obj 1, .str "great", .obj 2, .str "spot", .int 0] [] = some (mD 0) := by kernel_rfl
    rw [this]
    simp only [List.length_cons, List.length_nil, Nat.reduceAdd, Nat.reduceLeDiff, true_and]
    rfl
  (have zz0 := @@We_dct; walk_at "u")
  refine Klp_map (l := sc) (f := .int) (g := fun c => nI (if 1000000000000000000 ≤ c then c.toNat else 0)) (by rw [fuelE]; omega) (by omega) (iw_live (n := 0) (fz := true) rfl) (fun a _ => ?_) ?_
  · simp only [wipeP]
    by_cases q : (1000000000000000000 : Int) ≤ a
    · (have zz0 := @@pow_18; walk_at "u")
      congr 1; omega
    · (have zz0 := @@pow_18; walk_at "u")
      rfl
  have hl1 : (sc.map fun c => nI (if 1000000000000000000 ≤ c then c.toNat else 0)) = (sc.map fun c => if 1000000000000000000 ≤ c then c.toNat else 0).map nI := by rw [List.map_map]; rfl
  rw [hl1]
  walk_at "u"
  have hg : ∀ H : PH, gc 1 (.obj 3) H = H := fun H => by unfold gc; exact if_neg (by intro z; cases z)
  rw [hg]
  exact hK _ ⟨z1, z2, by show (sc.map _).length ≤ 63; rw [List.length_map]; exact hsc⟩ rfl
end Lw
end
section
set_option Elab.async false
set_option linter.all false
set_option maxRecDepth 100000
namespace Lw
open PySem EV
local macro_rules | `(tactic| walk_at "w") => `(tactic| simp -implicitDefEqProofs (disch := first | omega | (simp only [List.length_cons, List.length_nil, List.length_map, List.length_append] <;> omega)) only [EV.Wb_nil, EV.Wb_pass, EV.Wb_asg, EV.Wb_expr, EV.Wb_ret, EV.Wb_retN, EV.Wb_brk, EV.Wb_cnt, EV.Wb_ite, EV.Wb_set, EV.Wb_for, EV.Wb_tryN, EV.We_cst, EV.We_var, EV.We_glb, EV.We_tup, EV.We_lst, EV.We_dnew, EV.We_bin, EV.We_neg, EV.We_not, EV.We_and, EV.We_or, EV.We_cmp, EV.We_chn, EV.We_ite, EV.We_idx, EV.We_call, EV.We_callK, EV.We_bf, EV.We_mt, EV.We_comp, EV.We_con, EV.Wl_nil, EV.Wl_cons, EV.Wi_itv, EV.Wi_its, EV.Wi_itc, EV.Wi_rng, EV.Wi_enm, EV.Wi_zip, EV.Wt_e, EV.Ws_e, EV.Wo_some, EV.Wv_some, EV.Wob_some, EV.Wtr_some, EV.Woi_some, EV.Ktup_ap, EV.Klst_ap, EV.Kbin_ap, EV.Kbin2_add, EV.Kbin2_sub, EV.Kbin2_mul, EV.Kbin2_mod, EV.Kbin2_fdiv, EV.Kneg_ap, EV.Kbl_ap, EV.Knot_ap, EV.Kand_t, EV.Kand_f, EV.Kor_t, EV.Kor_f, EV.Kcmp_ap, EV.Kcmp2_lt, EV.Kcmp2_le, EV.Kcmp2_gt, EV.Kcmp2_ge, EV.Kcmp2_eq, EV.Kcmp2_ne, EV.Kcmp2_is, EV.Kcmp2_isnot, EV.Kcmp2_isB, EV.Kchn_ap, EV.Kchn2_le, EV.Wch_t, EV.Wch_f, EV.Kife_t, EV.Kife_f, EV.Kidx_ap, EV.Kidx2_T0, EV.Kidx2_T1, EV.Kidx2_T2, EV.Kidx2_Tn, EV.Kidx2_O, EV.Wix_lst, EV.Wix_dK, EV.Wix_lkd, EV.Wix_dT, EV.atI_0, EV.atI_1, EV.atI_2, EV.atI_n, EV.Kcall_ap, EV.KcallK_ap, EV.KcallK2_ap, EV.Wpk_some, EV.Kbf_lenT, EV.Kbf_lenO, EV.Wln_lst, EV.Wln_dK, EV.Wln_dT, EV.Kbf_int, EV.Kbf_intB, EV.Kbf_min, EV.Kbf_max, EV.Kbf_isT, EV.Kbf_isI, EV.Kbf_isB, EV.Kbf_isS, EV.Kbf_isN, EV.Kbf_isO, EV.Wity_lst, EV.Kmt_app, EV.isLs_ap, EV.Kap_ap, EV.Wap_ap, EV.Kcon_tup, EV.Kcon_tupT, EV.Kcon_lst, EV.Kcon_live, EV.Wls_ap, EV.Wr_ctup, EV.Wr_clst, EV.Kc1_ap, EV.Kc2_ap, EV.Ktst_bl, EV.Ktst_tup, EV.Ktst_obj, EV.Wtl_lst, EV.KtstB_ap, EV.Knl_ap, EV.Kvl_ap, EV.Kitv_tup, EV.Kitv_obj, EV.Wlv_ap, EV.Kits_tup, EV.Kits_obj, EV.Wlc_ap, EV.Kenm_tup, EV.Kenm_obj, EV.Kzip_ap, EV.Kzip2_tup, EV.Krng_ap, EV.Krng2_0n, EV.Kasg_ap, EV.Wbd_nm, EV.Wbd_tup, EV.Wbds_nil, EV.Wbds_cons, EV.Kexp_ap, EV.Kret_ap, EV.Kseq_nx, EV.Kseq_rt, EV.Kseq_bk, EV.Kseq_ct, EV.Kif_t, EV.Kif_f, EV.Kset_ap, EV.Kset2_ap, EV.Kwhl_t, EV.Kwhl_f, EV.Kfor_nx, EV.Kfor_ct, EV.Kfor_bk, EV.Kfor_rt, EV.Kout_rt, EV.Kout_nx, EV.hp_get, EV.hp_get0, EV.hp_set, EV.hp_set0, List.getElem?_cons_zero, List.getElem?_cons_succ, List.set_cons_zero, List.set_cons_succ, List.length_cons, List.length_nil, List.length_map, List.getElem?_map, Option.map_some, Option.map_none, List.append_assoc, List.cons_append, List.nil_append, true_and, and_true, false_and, and_false, decide_true, decide_false, Bool.not_true, Bool.not_false, if_true, if_false, EV.isNon, and_self, Nat.zero_add, Bool.true_or, Bool.or_true, Bool.false_or, Bool.or_false, EV.gc_len, reduceIte, eq_self, Nat.reduceAdd, Int.reduceLT, Int.reduceLE, Int.reduceEq, Int.reduceNe, Int.reduceSub, Int.reduceAdd, Int.reduceMul, Int.reduceNeg, Int.reduceToNat, Int.cast_ofNat_Int, *])
local macro_rules | `(tactic| walk_at "v") => `(tactic| simp -implicitDefEqProofs (disch := first | omega | (simp only [List.length_cons, List.length_nil, List.length_map, List.length_append] <;> omega)) only [EV.Wb_nil, EV.Wb_pass, EV.Wb_asg, EV.Wb_expr, EV.Wb_ret, EV.Wb_retN, EV.Wb_brk, EV.Wb_cnt, EV.Wb_ite, EV.Wb_set, EV.Wb_for, EV.Wb_tryN, EV.We_cst, EV.We_var, EV.We_glb, EV.We_tup, EV.We_lst, EV.We_dnew, EV.We_bin, EV.We_neg, EV.We_not, EV.We_and, EV.We_or, EV.We_cmp, EV.We_chn, EV.We_ite, EV.We_idx, EV.We_call, EV.We_callK, EV.We_bf, EV.We_mt, EV.We_comp, EV.We_con, EV.Wl_nil, EV.Wl_cons, EV.Wi_itv, EV.Wi_its, EV.Wi_itc, EV.Wi_rng, EV.Wi_enm, EV.Wi_zip, EV.Wt_e, EV.Ws_e, EV.Wo_some, EV.Wv_some, EV.Wob_some, EV.Wtr_some, EV.Woi_some, EV.Ktup_ap, EV.Klst_ap, EV.Kbin_ap, EV.Kbin2_add, EV.Kbin2_sub, EV.Kbin2_mul, EV.Kbin2_mod, EV.Kbin2_fdiv, EV.Kneg_ap, EV.Kbl_ap, EV.Knot_ap, EV.Kand_t, EV.Kand_f, EV.Kor_t, EV.Kor_f, EV.Kcmp_ap, EV.Kcmp2_lt, EV.Kcmp2_le, EV.Kcmp2_gt, EV.Kcmp2_ge, EV.Kcmp2_eq, EV.Kcmp2_ne, EV.Kcmp2_is, EV.Kcmp2_isnot, EV.Kcmp2_isB, EV.Kchn_ap, EV.Kchn2_le, EV.Wch_t, EV.Wch_f, EV.Kife_t, EV.Kife_f, EV.Kidx_ap, EV.Kidx2_T0, EV.Kidx2_T1, EV.Kidx2_T2, EV.Kidx2_Tn, EV.Kidx2_O, EV.Wix_lst, EV.Wix_dK, EV.Wix_lkd, EV.Wix_dT, EV.atI_0, EV.atI_1, EV.atI_2, EV.atI_n, EV.Kcall_ap, EV.KcallK_ap, EV.KcallK2_ap, EV.Wpk_some, EV.Kbf_lenT, EV.Kbf_lenO, EV.Wln_lst, EV.Wln_dK, EV.Wln_dT, EV.Kbf_int, EV.Kbf_intB, EV.Kbf_min, EV.Kbf_max, EV.Kbf_isT, EV.Kbf_isI, EV.Kbf_isB, EV.Kbf_isS, EV.Kbf_isN, EV.Kbf_isO, EV.Wity_lst, EV.Kmt_app, EV.isLs_ap, EV.Kap_ap, EV.Wap_ap, EV.Kcon_tup, EV.Kcon_tupT, EV.Kcon_lst, EV.Kcon_live, EV.Wls_ap, EV.Wr_ctup, EV.Wr_clst, EV.Kc1_ap, EV.Kc2_ap, EV.Ktst_bl, EV.Ktst_tup, EV.Ktst_obj, EV.Wtl_lst, EV.KtstB_ap, EV.Knl_ap, EV.Kvl_ap, EV.Kitv_tup, EV.Kitv_obj, EV.Wlv_ap, EV.Kits_tup, EV.Kits_obj, EV.Wlc_ap, EV.Kenm_tup, EV.Kenm_obj, EV.Kzip_ap, EV.Kzip2_tup, EV.Krng_ap, EV.Krng2_0n, EV.Kasg_ap, EV.Wbd_nm, EV.Wbd_tup, EV.Wbds_nil, EV.Wbds_cons, EV.Kexp_ap, EV.Kret_ap, EV.Kseq_nx, EV.Kseq_rt, EV.Kseq_bk, EV.Kseq_ct, EV.Kif_t, EV.Kif_f, EV.Kset_ap, EV.Kset2_ap, EV.Kwhl_t, EV.Kwhl_f, EV.Kfor_nx, EV.Kfor_ct, EV.Kfor_bk, EV.Kfor_rt, EV.Kout_rt, EV.Kout_nx, EV.hp_get, EV.hp_get0, EV.hp_set, EV.hp_set0, List.getElem?_cons_zero, List.getElem?_cons_succ, List.set_cons_zero, List.set_cons_succ, List.length_cons, List.length_nil, List.length_map, List.getElem?_map, Option.map_some, Option.map_none, List.append_assoc, List.cons_append, List.nil_append, true_and, and_true, false_and, and_false, decide_true, decide_false, Bool.not_true, Bool.not_false, if_true, if_false, EV.isNon, and_self, Nat.zero_add, Bool.true_or, Bool.or_true, Bool.false_or, Bool.or_false, EV.gc_len, reduceIte, eq_self, Nat.reduceAdd, Int.reduceLT, Int.reduceLE, Int.reduceEq, Int.reduceNe, Int.reduceSub, Int.reduceAdd, Int.reduceMul, Int.reduceNeg, Int.reduceToNat, Int.cast_ofNat_Int])
local macro_rules | `(tactic| walk_at "u") => `(tactic| simp -implicitDefEqProofs (disch := first | omega | (simp only [List.length_cons, List.length_nil, List.length_map, List.length_append] <;> omega)) only [EV.Wb_nil, EV.Wb_pass, EV.Wb_asg, EV.Wb_expr, EV.Wb_ret, EV.Wb_retN, EV.Wb_brk, EV.Wb_cnt, EV.Wb_ite, EV.Wb_set, EV.Wb_for, EV.Wb_tryN, EV.We_cst, EV.We_var, EV.We_glb, EV.We_tup, EV.We_lst, EV.We_dnew, EV.We_bin, EV.We_neg, EV.We_not, EV.We_and, EV.We_or, EV.We_cmp, EV.We_chn, EV.We_ite, EV.We_idx, EV.We_call, EV.We_callK, EV.We_bf, EV.We_mt, EV.We_comp, EV.We_con, EV.Wl_nil, EV.Wl_cons, EV.Wi_itv, EV.Wi_its, EV.Wi_itc, EV.Wi_rng, EV.Wi_enm, EV.Wi_zip, EV.Wt_e, EV.Ws_e, EV.Wo_some, EV.Wv_some, EV.Wob_some, EV.Wtr_some, EV.Woi_some, EV.Ktup_ap, EV.Klst_ap, EV.Kbin_ap, EV.Kbin2_add, EV.Kbin2_sub, EV.Kbin2_mul, EV.Kbin2_mod, EV.Kbin2_fdiv, EV.Kneg_ap, EV.Kbl_ap, EV.Knot_ap, EV.Kand_t, EV.Kand_f, EV.Kor_t, EV.Kor_f, EV.Kcmp_ap, EV.Kcmp2_lt, EV.Kcmp2_le, EV.Kcmp2_gt, EV.Kcmp2_ge, EV.Kcmp2_eq, EV.Kcmp2_ne, EV.Kcmp2_is, EV.Kcmp2_isnot, EV.Kcmp2_isB, EV.Kchn_ap, EV.Kchn2_le, EV.Wch_t, EV.Wch_f, EV.Kife_t, EV.Kife_f, EV.Kidx_ap, EV.Kidx2_T0, EV.Kidx2_T1, EV.Kidx2_T2, EV.Kidx2_Tn, EV.Kidx2_O, EV.Wix_lst, EV.Wix_dK, EV.Wix_lkd, EV.Wix_dT, EV.atI_0, EV.atI_1, EV.atI_2, EV.atI_n, EV.Kcall_ap, EV.KcallK_ap, EV.KcallK2_ap, EV.Wpk_some, EV.Kbf_lenT, EV.Kbf_lenO, EV.Wln_lst, EV.Wln_dK, EV.Wln_dT, EV.Kbf_int, EV.Kbf_intB, EV.Kbf_min, EV.Kbf_max, EV.Kbf_isT, EV.Kbf_isI, EV.Kbf_isB, EV.Kbf_isS, EV.Kbf_isN, EV.Kbf_isO, EV.Wity_lst, EV.Kmt_app, EV.isLs_ap, EV.Kap_ap, EV.Wap_ap, EV.Kcon_tup, EV.Kcon_tupT, EV.Kcon_lst, EV.Kcon_live, EV.Wls_ap, EV.Wr_ctup, EV.Wr_clst, EV.Kc1_ap, EV.Kc2_ap, EV.Ktst_bl, EV.Ktst_tup, EV.Ktst_obj, EV.Wtl_lst, EV.KtstB_ap, EV.Knl_ap, EV.Kvl_ap, EV.Kitv_tup, EV.Kitv_obj, EV.Wlv_ap, EV.Kits_tup, EV.Kits_obj, EV.Wlc_ap, EV.Kenm_tup, EV.Kenm_obj, EV.Kzip_ap, EV.Kzip2_tup, EV.Krng_ap, EV.Krng2_0n, EV.Kasg_ap, EV.Wbd_nm, EV.Wbd_tup, EV.Wbds_nil, EV.Wbds_cons, EV.Kexp_ap, EV.Kret_ap, EV.Kseq_nx, EV.Kseq_rt, EV.Kseq_bk, EV.Kseq_ct, EV.Kif_t, EV.Kif_f, EV.Kset_ap, EV.Kset2_ap, EV.Kwhl_t, EV.Kwhl_f, EV.Kfor_nx, EV.Kfor_ct, EV.Kfor_bk, EV.Kfor_rt, EV.Kout_rt, EV.Kout_nx, EV.hp_get, EV.hp_get0, EV.hp_set, EV.hp_set0, List.getElem?_cons_zero, List.getElem?_cons_succ, List.set_cons_zero, List.set_cons_succ, List.length_cons, List.length_nil, List.length_map, List.getElem?_map, Option.map_some, Option.map_none, List.append_assoc, List.cons_append, List.nil_append, true_and, and_true, false_and, and_false, decide_true, decide_false, Bool.not_true, Bool.not_false, if_true, if_false, EV.isNon, and_self, Nat.zero_add, Bool.true_or, Bool.or_true, Bool.false_or, Bool.or_false, EV.gc_len, reduceIte, eq_self, Nat.reduceAdd, Int.reduceLT, Int.reduceLE, Int.reduceEq, Int.reduceNe, Int.reduceSub, Int.reduceAdd, Int.reduceMul, Int.reduceNeg, Int.reduceToNat, Int.cast_ofNat_Int, List.length_append, Nat.add_assoc, Option.isSome_none, Option.isSome_some, Option.bind_some, Option.bind_none, List.isEmpty_nil, List.isEmpty_cons, *, List.map_append, List.map_cons, List.map_nil])
def lik : Nat → PV → Prop
  | _, .int _ => True
  | _, .non => True
  | d + 1, .tup xs => xs.length ≤ 1000000 ∧ ∀ x ∈ xs, lik d x
  | _, _ => False
theorem isBl_int {b : Bool} {i : Int} : isBl b (.int i) = false := rfl
theorem isBl_non {b : Bool} : isBl b .non = false := rfl
theorem iw_zz {h : PH} {xs : List PV} (i : Nat) : itAt (.zip (.vals xs) (.vals xs)) i h = some ((xs[i]?).map fun x => .tup [x, x]) := by
  unfold itAt
  rw [itAt_vals]
  cases xs[i]? <;> rfl
theorem iw_zzl {h : PH} {xs : List PV} {a b : Nat} {fa fb : Bool} (ea : h[a]? = some (.lst fa xs)) (eb : h[b]? = some (.lst fb xs)) (i : Nat) : itAt (.zip (.live a) (.live b)) i h = some ((xs[i]?).map fun x => .tup [x, x]) := by
  unfold itAt
  rw [itAt_live ea, itAt_live eb]
  cases xs[i]? <;> rfl
theorem Kzip2_ll {K : It → PH → Prop} {h : PH} {a b : Nat} {xs ys : List PV} {fa fb : Bool} (ea : h[a]? = some (.lst fa xs)) (eb : h[b]? = some (.lst fb ys)) : Kzip2 K (.obj a) (.obj b) h = K (.zip (.live a) (.live b)) h := by
  unfold Kzip2 zipIt toIt
  simp only [ea, eb]
  rfl
theorem eqE {h : PH} {K : KV} : Kcmp2 K .eq (.obj h.length) (.obj (h.length + 1)) (h ++ [.lst false [], .lst false []]) = K (.bl true) (h ++ [.lst false [], .lst false []]) := Keq_nil (l := ([] : List Nat)) dat_nat (by decide) hp_get0 hp_get
theorem c35 : ∀ (d : Nat) (v : PV), lik d v → ∀ {h : PH}, Cl h → ∀ {K : KV} {k : Nat}, d + 1 ≤ k → Wc (P.cc k) 35 [v, v] h K = K (.bl true) h := by
  intro d
  induction d with
  | zero =>
    intro v lv h cl K k hk
    refine Wc_eq (w35 (by omega) ?_) K
    unfold b35
    cases v with
    | int i => (have zz0 := @@isBl_int; walk_at "u")
    | non => (have zz0 := @@isBl_non; walk_at "u")
    | _ => exact lv.elim
  | succ d ih =>
    intro v lv h cl K k hk
    refine Wc_eq (w35 (by omega) ?_) K
    unfold b35
    cases v with
    | int i => (have zz0 := @@isBl_int; walk_at "u")
    | non => (have zz0 := @@isBl_non; walk_at "u")
    | tup xs =>
      obtain ⟨hl, hx⟩ := lv
      have e1 : ∀ x ∈ xs, ∀ K, Wc (P.cc (k - 1)) 35 [x, x] h K = K (.bl true) h := fun x m K => ih x (hx x m) cl (by omega)
      clear ih
      (have zz0 := @@Kzip2_tup; walk_at "u")
      refine Klp_filter (l := xs) (f := fun x => .tup [x, x]) (g := fun x => x) (p := fun _ => false) (by rw [fuelE]; omega) (by omega) iw_zz (fun a ha => ?_) ?_
      · have e2 := e1 a ha
        clear e1
        simp only [wipeP]
        (have zz0 := @@Bool.false_eq_true; walk_at "u")
        exact fun z => z.elim
      · have e3 : (xs.filter fun _ => false).map (fun x => x) = [] := by simp
        rw [e3]
        clear e1
        (have zz0 := @@eqE; walk_at "u")
        exact gc_flat cl rfl
    | _ => exact lv.elim
/-- two lists of the same -/
theorem c35l {d a b : Nat} {xs : List PV} (hl : xs.length ≤ 1000000) (hx : ∀ x ∈ xs, lik d x) {h : PH} {fa fb : Bool} (ea : h[a]? = some (.lst fa xs)) (eb : h[b]? = some (.lst fb xs)) (cl : Cl h) {K : KV} {k : Nat} (hk : d + 2 ≤ k) : Wc (P.cc k) 35 [.obj a, .obj b] h K = K (.bl true) h := by
  refine Wc_eq (w35 (by omega) ?_) K
  unfold b35
  have e1 : ∀ x ∈ xs, ∀ K, Wc (P.cc (k - 1)) 35 [x, x] h K = K (.bl true) h := fun x m K => c35 d x (hx x m) cl (by omega)
  have e0 : ∀ K, Kzip2 K (.obj a) (.obj b) h = K (.zip (.live a) (.live b)) h := fun K => Kzip2_ll ea eb
  walk_at "u"
  refine Klp_filter (l := xs) (f := fun x => .tup [x, x]) (g := fun x => x) (p := fun _ => false) (by rw [fuelE]; omega) (by omega) (iw_zzl ea eb) (fun a ha => ?_) ?_
  · have e2 := e1 a ha
    clear e1
    simp only [wipeP]
    (have zz0 := @@Bool.false_eq_true; walk_at "u")
    exact fun z => z.elim
  · have e3 : (xs.filter fun _ => false).map (fun x => x) = [] := by simp
    rw [e3]
    clear e1
    (have zz0 := @@eqE; walk_at "u")
    exact gc_flat cl rfl
end Lw
end
section
set_option Elab.async false
set_option linter.all false
set_option maxRecDepth 100000
namespace Lw
open PySem EV
local macro_rules | `(tactic| walk_at "w") => `(tactic| simp -implicitDefEqProofs (disch := first | omega | (simp only [List.length_cons, List.length_nil, List.length_map, List.length_append] <;> omega)) only [EV.Wb_nil, EV.Wb_pass, EV.Wb_asg, EV.Wb_expr, EV.Wb_ret, EV.Wb_retN, EV.Wb_brk, EV.Wb_cnt, EV.Wb_ite, EV.Wb_set, EV.Wb_for, EV.Wb_tryN, EV.We_cst, EV.We_var, EV.We_glb, EV.We_tup, EV.We_lst, EV.We_dnew, EV.We_bin, EV.We_neg, EV.We_not, EV.We_and, EV.We_or, EV.We_cmp, EV.We_chn, EV.We_ite, EV.We_idx, EV.We_call, EV.We_callK, EV.We_bf, EV.We_mt, EV.We_comp, EV.We_con, EV.Wl_nil, EV.Wl_cons, EV.Wi_itv, EV.Wi_its, EV.Wi_itc, EV.Wi_rng, EV.Wi_enm, EV.Wi_zip, EV.Wt_e, EV.Ws_e, EV.Wo_some, EV.Wv_some, EV.Wob_some, EV.Wtr_some, EV.Woi_some, EV.Ktup_ap, EV.Klst_ap, EV.Kbin_ap, EV.Kbin2_add, EV.Kbin2_sub, EV.Kbin2_mul, EV.Kbin2_mod, EV.Kbin2_fdiv, EV.Kneg_ap, EV.Kbl_ap, EV.Knot_ap, EV.Kand_t, EV.Kand_f, EV.Kor_t, EV.Kor_f, EV.Kcmp_ap, EV.Kcmp2_lt, EV.Kcmp2_le, EV.Kcmp2_gt, EV.Kcmp2_ge, EV.Kcmp2_eq, EV.Kcmp2_ne, EV.Kcmp2_is, EV.Kcmp2_isnot, EV.Kcmp2_isB, EV.Kchn_ap, EV.Kchn2_le, EV.Wch_t, EV.Wch_f, EV.Kife_t, EV.Kife_f, EV.Kidx_ap, EV.Kidx2_T0, EV.Kidx2_T1, EV.Kidx2_T2, EV.Kidx2_Tn, EV.Kidx2_O, EV.Wix_lst, EV.Wix_dK, EV.Wix_lkd, EV.Wix_dT, EV.atI_0, EV.atI_1, EV.atI_2, EV.atI_n, EV.Kcall_ap, EV.KcallK_ap, EV.KcallK2_ap, EV.Wpk_some, EV.Kbf_lenT, EV.Kbf_lenO, EV.Wln_lst, EV.Wln_dK, EV.Wln_dT, EV.Kbf_int, EV.Kbf_intB, EV.Kbf_min, EV.Kbf_max, EV.Kbf_isT, EV.Kbf_isI, EV.Kbf_isB, EV.Kbf_isS, EV.Kbf_isN, EV.Kbf_isO, EV.Wity_lst, EV.Kmt_app, EV.isLs_ap, EV.Kap_ap, EV.Wap_ap, EV.Kcon_tup, EV.Kcon_tupT, EV.Kcon_lst, EV.Kcon_live, EV.Wls_ap, EV.Wr_ctup, EV.Wr_clst, EV.Kc1_ap, EV.Kc2_ap, EV.Ktst_bl, EV.Ktst_tup, EV.Ktst_obj, EV.Wtl_lst, EV.KtstB_ap, EV.Knl_ap, EV.Kvl_ap, EV.Kitv_tup, EV.Kitv_obj, EV.Wlv_ap, EV.Kits_tup, EV.Kits_obj, EV.Wlc_ap, EV.Kenm_tup, EV.Kenm_obj, EV.Kzip_ap, EV.Kzip2_tup, EV.Krng_ap, EV.Krng2_0n, EV.Kasg_ap, EV.Wbd_nm, EV.Wbd_tup, EV.Wbds_nil, EV.Wbds_cons, EV.Kexp_ap, EV.Kret_ap, EV.Kseq_nx, EV.Kseq_rt, EV.Kseq_bk, EV.Kseq_ct, EV.Kif_t, EV.Kif_f, EV.Kset_ap, EV.Kset2_ap, EV.Kwhl_t, EV.Kwhl_f, EV.Kfor_nx, EV.Kfor_ct, EV.Kfor_bk, EV.Kfor_rt, EV.Kout_rt, EV.Kout_nx, EV.hp_get, EV.hp_get0, EV.hp_set, EV.hp_set0, List.getElem?_cons_zero, List.getElem?_cons_succ, List.set_cons_zero, List.set_cons_succ, List.length_cons, List.length_nil, List.length_map, List.getElem?_map, Option.map_some, Option.map_none, List.append_assoc, List.cons_append, List.nil_append, true_and, and_true, false_and, and_false, decide_true, decide_false, Bool.not_true, Bool.not_false, if_true, if_false, EV.isNon, and_self, Nat.zero_add, Bool.true_or, Bool.or_true, Bool.false_or, Bool.or_false, EV.gc_len, reduceIte, eq_self, Nat.reduceAdd, Int.reduceLT, Int.reduceLE, Int.reduceEq, Int.reduceNe, Int.reduceSub, Int.reduceAdd, Int.reduceMul, Int.reduceNeg, Int.reduceToNat, Int.cast_ofNat_Int, *])
local macro_rules | `(tactic| walk_at "v") => `(tactic| simp -implicitDefEqProofs (disch := first | omega | (simp only [List.length_cons, List.length_nil, List.length_map, List.length_append] <;> omega)) only [EV.Wb_nil, EV.Wb_pass, EV.Wb_asg, EV.Wb_expr, EV.Wb_ret, EV.Wb_retN, EV.Wb_brk, EV.Wb_cnt, EV.Wb_ite, EV.Wb_set, EV.Wb_for, EV.Wb_tryN, EV.We_cst, EV.We_var, EV.We_glb, EV.We_tup, EV.We_lst, EV.We_dnew, EV.We_bin, EV.We_neg, EV.We_not, EV.We_and, EV.We_or, EV.We_cmp, EV.We_chn, EV.We_ite, EV.We_idx, EV.We_call, EV.We_callK, EV.We_bf, EV.We_mt, EV.We_comp, EV.We_con, EV.Wl_nil, EV.Wl_cons, EV.Wi_itv, EV.Wi_its, EV.Wi_itc, EV.Wi_rng, EV.Wi_enm, EV.Wi_zip, EV.Wt_e, EV.Ws_e, EV.Wo_some, EV.Wv_some, EV.Wob_some, EV.Wtr_some, EV.Woi_some, EV.Ktup_ap, EV.Klst_ap, EV.Kbin_ap, EV.Kbin2_add, EV.Kbin2_sub, EV.Kbin2_mul, EV.Kbin2_mod, EV.Kbin2_fdiv, EV.Kneg_ap, EV.Kbl_ap, EV.Knot_ap, EV.Kand_t, EV.Kand_f, EV.Kor_t, EV.Kor_f, EV.Kcmp_ap, EV.Kcmp2_lt, EV.Kcmp2_le, EV.Kcmp2_gt, EV.Kcmp2_ge, EV.Kcmp2_eq, EV.Kcmp2_ne, EV.Kcmp2_is, EV.Kcmp2_isnot, EV.Kcmp2_isB, EV.Kchn_ap, EV.Kchn2_le, EV.Wch_t, EV.Wch_f, EV.Kife_t, EV.Kife_f, EV.Kidx_ap, EV.Kidx2_T0, EV.Kidx2_T1, EV.Kidx2_T2, EV.Kidx2_Tn, EV.Kidx2_O, EV.Wix_lst, EV.Wix_dK, EV.Wix_lkd, EV.Wix_dT, EV.atI_0, EV.atI_1, EV.atI_2, EV.atI_n, EV.Kcall_ap, EV.KcallK_ap, EV.KcallK2_ap, EV.Wpk_some, EV.Kbf_lenT, EV.Kbf_lenO, EV.Wln_lst, EV.Wln_dK, EV.Wln_dT, EV.Kbf_int, EV.Kbf_intB, EV.Kbf_min, EV.Kbf_max, EV.Kbf_isT, EV.Kbf_isI, EV.Kbf_isB, EV.Kbf_isS, EV.Kbf_isN, EV.Kbf_isO, EV.Wity_lst, EV.Kmt_app, EV.isLs_ap, EV.Kap_ap, EV.Wap_ap, EV.Kcon_tup, EV.Kcon_tupT, EV.Kcon_lst, EV.Kcon_live, EV.Wls_ap, EV.Wr_ctup, EV.Wr_clst, EV.Kc1_ap, EV.Kc2_ap, EV.Ktst_bl, EV.Ktst_tup, EV.Ktst_obj, EV.Wtl_lst, EV.KtstB_ap, EV.Knl_ap, EV.Kvl_ap, EV.Kitv_tup, EV.Kitv_obj, EV.Wlv_ap, EV.Kits_tup, EV.Kits_obj, EV.Wlc_ap, EV.Kenm_tup, EV.Kenm_obj, EV.Kzip_ap, EV.Kzip2_tup, EV.Krng_ap, EV.Krng2_0n, EV.Kasg_ap, EV.Wbd_nm, EV.Wbd_tup, EV.Wbds_nil, EV.Wbds_cons, EV.Kexp_ap, EV.Kret_ap, EV.Kseq_nx, EV.Kseq_rt, EV.Kseq_bk, EV.Kseq_ct, EV.Kif_t, EV.Kif_f, EV.Kset_ap, EV.Kset2_ap, EV.Kwhl_t, EV.Kwhl_f, EV.Kfor_nx, EV.Kfor_ct, EV.Kfor_bk, EV.Kfor_rt, EV.Kout_rt, EV.Kout_nx, EV.hp_get, EV.hp_get0, EV.hp_set, EV.hp_set0, List.getElem?_cons_zero, List.getElem?_cons_succ, List.set_cons_zero, List.set_cons_succ, List.length_cons, List.length_nil, List.length_map, List.getElem?_map, Option.map_some, Option.map_none, List.append_assoc, List.cons_append, List.nil_append, true_and, and_true, false_and, and_false, decide_true, decide_false, Bool.not_true, Bool.not_false, if_true, if_false, EV.isNon, and_self, Nat.zero_add, Bool.true_or, Bool.or_true, Bool.false_or, Bool.or_false, EV.gc_len, reduceIte, eq_self, Nat.reduceAdd, Int.reduceLT, Int.reduceLE, Int.reduceEq, Int.reduceNe, Int.reduceSub, Int.reduceAdd, Int.reduceMul, Int.reduceNeg, Int.reduceToNat, Int.cast_ofNat_Int])
local macro_rules | `(tactic| walk_at "u") => `(tactic| simp -implicitDefEqProofs (disch := first | omega | (simp only [List.length_cons, List.length_nil, List.length_map, List.length_append] <;> omega)) only [EV.Wb_nil, EV.Wb_pass, EV.Wb_asg, EV.Wb_expr, EV.Wb_ret, EV.Wb_retN, EV.Wb_brk, EV.Wb_cnt, EV.Wb_ite, EV.Wb_set, EV.Wb_for, EV.Wb_tryN, EV.We_cst, EV.We_var, EV.We_glb, EV.We_tup, EV.We_lst, EV.We_dnew, EV.We_bin, EV.We_neg, EV.We_not, EV.We_and, EV.We_or, EV.We_cmp, EV.We_chn, EV.We_ite, EV.We_idx, EV.We_call, EV.We_callK, EV.We_bf, EV.We_mt, EV.We_comp, EV.We_con, EV.Wl_nil, EV.Wl_cons, EV.Wi_itv, EV.Wi_its, EV.Wi_itc, EV.Wi_rng, EV.Wi_enm, EV.Wi_zip, EV.Wt_e, EV.Ws_e, EV.Wo_some, EV.Wv_some, EV.Wob_some, EV.Wtr_some, EV.Woi_some, EV.Ktup_ap, EV.Klst_ap, EV.Kbin_ap, EV.Kbin2_add, EV.Kbin2_sub, EV.Kbin2_mul, EV.Kbin2_mod, EV.Kbin2_fdiv, EV.Kneg_ap, EV.Kbl_ap, EV.Knot_ap, EV.Kand_t, EV.Kand_f, EV.Kor_t, EV.Kor_f, EV.Kcmp_ap, EV.Kcmp2_lt, EV.Kcmp2_le, EV.Kcmp2_gt, EV.Kcmp2_ge, EV.Kcmp2_eq, EV.Kcmp2_ne, EV.Kcmp2_is, EV.Kcmp2_isnot, EV.Kcmp2_isB, EV.Kchn_ap, EV.Kchn2_le, EV.Wch_t, EV.Wch_f, EV.Kife_t, EV.Kife_f, EV.Kidx_ap, EV.Kidx2_T0, EV.Kidx2_T1, EV.Kidx2_T2, EV.Kidx2_Tn, EV.Kidx2_O, EV.Wix_lst, EV.Wix_dK, EV.Wix_lkd, EV.Wix_dT, EV.atI_0, EV.atI_1, EV.atI_2, EV.atI_n, EV.Kcall_ap, EV.KcallK_ap, EV.KcallK2_ap, EV.Wpk_some, EV.Kbf_lenT, EV.Kbf_lenO, EV.Wln_lst, EV.Wln_dK, EV.Wln_dT, EV.Kbf_int, EV.Kbf_intB, EV.Kbf_min, EV.Kbf_max, EV.Kbf_isT, EV.Kbf_isI, EV.Kbf_isB, EV.Kbf_isS, EV.Kbf_isN, EV.Kbf_isO, EV.Wity_lst, EV.Kmt_app, EV.isLs_ap, EV.Kap_ap, EV.Wap_ap, EV.Kcon_tup, EV.Kcon_tupT, EV.Kcon_lst, EV.Kcon_live, EV.Wls_ap, EV.Wr_ctup, EV.Wr_clst, EV.Kc1_ap, EV.Kc2_ap, EV.Ktst_bl, EV.Ktst_tup, EV.Ktst_obj, EV.Wtl_lst, EV.KtstB_ap, EV.Knl_ap, EV.Kvl_ap, EV.Kitv_tup, EV.Kitv_obj, EV.Wlv_ap, EV.Kits_tup, EV.Kits_obj, EV.Wlc_ap, EV.Kenm_tup, EV.Kenm_obj, EV.Kzip_ap, EV.Kzip2_tup, EV.Krng_ap, EV.Krng2_0n, EV.Kasg_ap, EV.Wbd_nm, EV.Wbd_tup, EV.Wbds_nil, EV.Wbds_cons, EV.Kexp_ap, EV.Kret_ap, EV.Kseq_nx, EV.Kseq_rt, EV.Kseq_bk, EV.Kseq_ct, EV.Kif_t, EV.Kif_f, EV.Kset_ap, EV.Kset2_ap, EV.Kwhl_t, EV.Kwhl_f, EV.Kfor_nx, EV.Kfor_ct, EV.Kfor_bk, EV.Kfor_rt, EV.Kout_rt, EV.Kout_nx, EV.hp_get, EV.hp_get0, EV.hp_set, EV.hp_set0, List.getElem?_cons_zero, List.getElem?_cons_succ, List.set_cons_zero, List.set_cons_succ, List.length_cons, List.length_nil, List.length_map, List.getElem?_map, Option.map_some, Option.map_none, List.append_assoc, List.cons_append, List.nil_append, true_and, and_true, false_and, and_false, decide_true, decide_false, Bool.not_true, Bool.not_false, if_true, if_false, EV.isNon, and_self, Nat.zero_add, Bool.true_or, Bool.or_true, Bool.false_or, Bool.or_false, EV.gc_len, reduceIte, eq_self, Nat.reduceAdd, Int.reduceLT, Int.reduceLE, Int.reduceEq, Int.reduceNe, Int.reduceSub, Int.reduceAdd, Int.reduceMul, Int.reduceNeg, Int.reduceToNat, Int.cast_ofNat_Int, List.length_append, Nat.add_assoc, Option.isSome_none, Option.isSome_some, Option.bind_some, Option.bind_none, List.isEmpty_nil, List.isEmpty_cons, *, List.map_append, List.map_cons, List.map_nil])
def RowOk (S A N mo : Nat) (r : CRow) : Prop := r.2.length = N ∧ (∀ p ∈ r.2, p.1 < A ∧ p.2 < S) ∧ ∀ o, r.1 = some o → 1 ≤ o.1 ∧ o.1 ≤ mo ∧ o.2 < S
theorem flat_crow {r : CRow} : (crowP r).flat = true := by
  show flatL [outP r.1, rowP r.2] = true
  have h1 := outP_flat (o := r.1)
  have h2 : (rowP r.2).flat = true := flat_pairs
  show ((outP r.1).flat && ((rowP r.2).flat && true)) = true
  rw [h1, h2]; rfl
theorem flat_crows {l : List CRow} : flatL (l.map crowP) = true := flatL_map fun r _ => flat_crow
theorem flat_clk {c : Clk} : c.pv.flat = true := by
  show (flatL (c.rows.map crowP) && true) = true
  rw [flat_crows]; rfl
theorem M_set {sc : List Int} {m : St} {g : PH} {n : Nat} {o : PO} : (M sc m g).set (n + 4) o = M sc m (g.set n o) := rfl
theorem pairs_comp {sc : List Int} {m : St} {g : PH} (mo : m.Ok) (hs : m.spot < 910000000000) (cg : Cg g) {S N A ms : Nat} (s1 : 1 ≤ S) (s2 : S ≤ 20) (n2 : N ≤ 4) (a1 : 1 ≤ A) (a2 : A ≤ 9) {k : Nat} (hk : 2 ≤ k) {x5 x6 x7 x8 : Option PV} {KL : List PV → PH → Prop}
    (hK : ∀ (ps : List (Nat × Nat)) m', ps.length = N → (∀ p ∈ ps, p.1 < A ∧ p.2 < S) → m'.Ok → m'.spot ≤ m.spot + 8 → KL (ps.map pv2) (M sc m' g)) :
    Klp (P.cc k) [some (.obj 3), some (nI S), some (nI N), some (nI A), some (nI ms), x5, x6, x7, x8] (.tup [.call 33 [.var 0, .var 3], .call 33 [.var 0, .var 1]]) (.nm 8) (.cst (.bl true)) [8] KL (.rng 0 N) (M sc m g) := by
  refine Klp_run (N := N) (fun i acc h' => ∃ (ps : List (Nat × Nat)) (m' : St), ps.length = i ∧ (∀ p ∈ ps, p.1 < A ∧ p.2 < S) ∧ m'.Ok ∧ m'.spot ≤ m.spot + 2 * i ∧ acc = ps.map pv2 ∧ h' = M sc m' g) (by rw [fuelE]; omega)
    ⟨[], m, rfl, (fun p h => by cases h), mo, Nat.le_refl _, rfl, rfl⟩ (fun i acc h' hi ⟨ps, m', z1, z2, z3, z4, z5, z6⟩ => ?_) fun acc h' ⟨ps, m', z1, z2, z3, z4, z5, z6⟩ => ?_
  · subst z5 z6
    refine ⟨by rw [List.length_map]; omega, _, by rw [itAt_rng, if_pos hi], ?_⟩
    simp only [wipeP]
    walk_at "v"
    refine c33 (L := A) z3 (by omega) cg (by omega) (by omega) (by omega) fun d m1 hd o1 s1' => ?_
    walk_at "v"
    refine c33 (L := S) o1 (by omega) cg (by omega) (by omega) (by omega) fun d2 m2 hd2 o2 s2' => ?_
    walk_at "v"
    refine ⟨ps ++ [(d, d2)], m2, by rw [List.length_append, z1]; rfl, fun p hp => ?_, o2, by omega, by rw [List.map_append]; rfl, rfl⟩
    rcases List.mem_append.mp hp with h | h
    · exact z2 p h
    · rw [List.mem_singleton.mp h]; exact ⟨hd, hd2⟩
  · subst z5 z6
    exact ⟨by rw [itAt_rng, if_neg (Nat.lt_irrefl _)], hK ps m' z1 z2 z3 (by omega)⟩
theorem c36 {sc : List Int} {m : St} {g : PH} (mo : m.Ok) (hs : m.spot < 900000000000) (cg : Cg g) {S N A ms : Nat} (s1 : 1 ≤ S) (s2 : S ≤ 20) (n2 : N ≤ 4) (a1 : 1 ≤ A) (a2 : A ≤ 9) (m1 : 1 ≤ ms) (m2 : ms ≤ 1000000000000000000) {K : KV} {k : Nat} (hk : 3 ≤ k)
    (hK : ∀ rows m', rows.length = S → (∀ r ∈ rows, RowOk S A N ms r) → m'.Ok → m'.spot ≤ m.spot + 220 → K (Clk.mk N A rows).pv (M sc m' g)) : Wc (P.cc k) 36 [.obj 3, nI S, nI N, nI A, nI ms] (M sc m g) K := by
  refine w36 (by omega) ?_
  unfold b36
  (have zz0 := @@M_app; have zz1 := @@M_len; walk_at "u")
  refine Kfors_rng0 (fun i r1 h1 => ∃ (rows : List CRow) (m' : St) (x6 x7 x8 : Option PV), i ≤ S ∧ rows.length = i ∧ (∀ r ∈ rows, RowOk S A N ms r) ∧ m'.Ok ∧ m'.spot ≤ m.spot + 11 * i ∧ h1 = M sc m' (g ++ [.lst false (rows.map crowP)]) ∧ r1 = [some (.obj 3), some (nI S), some (nI N), some (nI A), some (nI ms), some (.obj (g.length + 4)), x6, x7, x8]) (by rw [fuelE]; omega)
    ⟨[], m, _, _, _, Nat.zero_le _, rfl, (fun r h => by cases h), mo, Nat.le_refl _, rfl, rfl⟩ (fun i r1 h1 hi ⟨rows, m', x6, x7, x8, z0, z1, z2, z3, z4, z5, z6⟩ => ?_) fun r1 h1 ⟨rows, m', x6, x7, x8, z0, z1, z2, z3, z4, z5, z6⟩ => ?_
  · subst z5 z6
    have cg1 : Cg (g ++ [.lst false (rows.map crowP)]) := cg.lst flat_crows
    walk_at "u"
    refine c33 (L := 4) z3 (by omega) cg1 (by omega) (by omega) (by omega) fun d m1 hd o1 s1' => ?_
    by_cases hd0 : 0 < d
    · have q : (0 : Int) < (d : Int) := by omega
      walk_at "u"
      refine c33 (L := ms) o1 (by omega) cg1 (by omega) (by omega) (by omega) fun d1 m2 hd1 o2 s2' => ?_
      walk_at "u"
      refine c33 (L := S) o2 (by omega) cg1 (by omega) (by omega) (by omega) fun d2 m3 hd2 o3 s3' => ?_
      (have zz0 := @@M_get; have zz1 := @@M_set; walk_at "u")
      refine pairs_comp (S := S) (N := N) (A := A) (ms := ms) o3 (by omega) cg1 s1 s2 n2 a1 a2 (by omega) fun ps m4 l4 v4 o4 s4 => ?_
      have hz : (ps.map pv2).length ≤ 16777216 := by rw [List.length_map]; omega
      have hz2 : (rows.map crowP).length ≤ 16777215 := by rw [List.length_map]; omega
      (have zz0 := @@M_get; have zz1 := @@M_set; walk_at "u")
      refine ⟨rows ++ [(some (1 + d1, d2), ps)], m4, _, _, _, by omega, by rw [List.length_append, z1]; rfl, fun r hr => ?_, o4, by omega, by rw [List.map_append]; rfl, rfl⟩
      rcases List.mem_append.mp hr with h | h
      · exact z2 r h
      · rw [List.mem_singleton.mp h]; exact ⟨l4, v4, fun o ho => by cases ho; exact ⟨by omega, by omega, hd2⟩⟩
    · have q : ¬ (0 : Int) < (d : Int) := by omega
      (have zz0 := @@M_get; have zz1 := @@M_set; walk_at "u")
      refine pairs_comp (S := S) (N := N) (A := A) (ms := ms) o1 (by omega) cg1 s1 s2 n2 a1 a2 (by omega) fun ps m4 l4 v4 o4 s4 => ?_
      have hz : (ps.map pv2).length ≤ 16777216 := by rw [List.length_map]; omega
      have hz2 : (rows.map crowP).length ≤ 16777215 := by rw [List.length_map]; omega
      (have zz0 := @@M_get; have zz1 := @@M_set; walk_at "u")
      refine ⟨rows ++ [(none, ps)], m4, _, _, _, by omega, by rw [List.length_append, z1]; rfl, fun r hr => ?_, o4, by omega, by rw [List.map_append]; rfl, rfl⟩
      rcases List.mem_append.mp hr with h | h
      · exact z2 r h
      · rw [List.mem_singleton.mp h]; exact ⟨l4, v4, fun o ho => by cases ho⟩
  · subst z5 z6
    have hz2 : (rows.map crowP).length ≤ 16777216 := by rw [List.length_map]; omega
    have hK2 := hK rows m' z1 z2 z3 (by omega)
    clear hK
    (have zz0 := @@M_get; have zz1 := @@M_set; walk_at "u")
    rw [gcM cg (flat_clk (c := ⟨N, A, rows⟩))]
    exact hK2
end Lw
end
section
set_option Elab.async false
set_option linter.all false
set_option maxRecDepth 100000
namespace Lw
open PySem EV
local macro_rules | `(tactic| walk_at "w") => `(tactic| simp -implicitDefEqProofs (disch := first | omega | (simp only [List.length_cons, List.length_nil, List.length_map, List.length_append] <;> omega)) only [EV.Wb_nil, EV.Wb_pass, EV.Wb_asg, EV.Wb_expr, EV.Wb_ret, EV.Wb_retN, EV.Wb_brk, EV.Wb_cnt, EV.Wb_ite, EV.Wb_set, EV.Wb_for, EV.Wb_tryN, EV.We_cst, EV.We_var, EV.We_glb, EV.We_tup, EV.We_lst, EV.We_dnew, EV.We_bin, EV.We_neg, EV.We_not, EV.We_and, EV.We_or, EV.We_cmp, EV.We_chn, EV.We_ite, EV.We_idx, EV.We_call, EV.We_callK, EV.We_bf, EV.We_mt, EV.We_comp, EV.We_con, EV.Wl_nil, EV.Wl_cons, EV.Wi_itv, EV.Wi_its, EV.Wi_itc, EV.Wi_rng, EV.Wi_enm, EV.Wi_zip, EV.Wt_e, EV.Ws_e, EV.Wo_some, EV.Wv_some, EV.Wob_some, EV.Wtr_some, EV.Woi_some, EV.Ktup_ap, EV.Klst_ap, EV.Kbin_ap, EV.Kbin2_add, EV.Kbin2_sub, EV.Kbin2_mul, EV.Kbin2_mod, EV.Kbin2_fdiv, EV.Kneg_ap, EV.Kbl_ap, EV.Knot_ap, EV.Kand_t, EV.Kand_f, EV.Kor_t, EV.Kor_f, EV.Kcmp_ap, EV.Kcmp2_lt, EV.Kcmp2_le, EV.Kcmp2_gt, EV.Kcmp2_ge, EV.Kcmp2_eq, EV.Kcmp2_ne, EV.Kcmp2_is, EV.Kcmp2_isnot, EV.Kcmp2_isB, EV.Kchn_ap, EV.Kchn2_le, EV.Wch_t, EV.Wch_f, EV.Kife_t, EV.Kife_f, EV.Kidx_ap, EV.Kidx2_T0, EV.Kidx2_T1, EV.Kidx2_T2, EV.Kidx2_Tn, EV.Kidx2_O, EV.Wix_lst, EV.Wix_dK, EV.Wix_lkd, EV.Wix_dT, EV.atI_0, EV.atI_1, EV.atI_2, EV.atI_n, EV.Kcall_ap, EV.KcallK_ap, EV.KcallK2_ap, EV.Wpk_some, EV.Kbf_lenT, EV.Kbf_lenO, EV.Wln_lst, EV.Wln_dK, EV.Wln_dT, EV.Kbf_int, EV.Kbf_intB, EV.Kbf_min, EV.Kbf_max, EV.Kbf_isT, EV.Kbf_isI, EV.Kbf_isB, EV.Kbf_isS, EV.Kbf_isN, EV.Kbf_isO, EV.Wity_lst, EV.Kmt_app, EV.isLs_ap, EV.Kap_ap, EV.Wap_ap, EV.Kcon_tup, EV.Kcon_tupT, EV.Kcon_lst, EV.Kcon_live, EV.Wls_ap, EV.Wr_ctup, EV.Wr_clst, EV.Kc1_ap, EV.Kc2_ap, EV.Ktst_bl, EV.Ktst_tup, EV.Ktst_obj, EV.Wtl_lst, EV.KtstB_ap, EV.Knl_ap, EV.Kvl_ap, EV.Kitv_tup, EV.Kitv_obj, EV.Wlv_ap, EV.Kits_tup, EV.Kits_obj, EV.Wlc_ap, EV.Kenm_tup, EV.Kenm_obj, EV.Kzip_ap, EV.Kzip2_tup, EV.Krng_ap, EV.Krng2_0n, EV.Kasg_ap, EV.Wbd_nm, EV.Wbd_tup, EV.Wbds_nil, EV.Wbds_cons, EV.Kexp_ap, EV.Kret_ap, EV.Kseq_nx, EV.Kseq_rt, EV.Kseq_bk, EV.Kseq_ct, EV.Kif_t, EV.Kif_f, EV.Kset_ap, EV.Kset2_ap, EV.Kwhl_t, EV.Kwhl_f, EV.Kfor_nx, EV.Kfor_ct, EV.Kfor_bk, EV.Kfor_rt, EV.Kout_rt, EV.Kout_nx, EV.hp_get, EV.hp_get0, EV.hp_set, EV.hp_set0, List.getElem?_cons_zero, List.getElem?_cons_succ, List.set_cons_zero, List.set_cons_succ, List.length_cons, List.length_nil, List.length_map, List.getElem?_map, Option.map_some, Option.map_none, List.append_assoc, List.cons_append, List.nil_append, true_and, and_true, false_and, and_false, decide_true, decide_false, Bool.not_true, Bool.not_false, if_true, if_false, EV.isNon, and_self, Nat.zero_add, Bool.true_or, Bool.or_true, Bool.false_or, Bool.or_false, EV.gc_len, reduceIte, eq_self, Nat.reduceAdd, Int.reduceLT, Int.reduceLE, Int.reduceEq, Int.reduceNe, Int.reduceSub, Int.reduceAdd, Int.reduceMul, Int.reduceNeg, Int.reduceToNat, Int.cast_ofNat_Int, *])
local macro_rules | `(tactic| walk_at "v") => `(tactic| simp -implicitDefEqProofs (disch := first | omega | (simp only [List.length_cons, List.length_nil, List.length_map, List.length_append] <;> omega)) only [EV.Wb_nil, EV.Wb_pass, EV.Wb_asg, EV.Wb_expr, EV.Wb_ret, EV.Wb_retN, EV.Wb_brk, EV.Wb_cnt, EV.Wb_ite, EV.Wb_set, EV.Wb_for, EV.Wb_tryN, EV.We_cst, EV.We_var, EV.We_glb, EV.We_tup, EV.We_lst, EV.We_dnew, EV.We_bin, EV.We_neg, EV.We_not, EV.We_and, EV.We_or, EV.We_cmp, EV.We_chn, EV.We_ite, EV.We_idx, EV.We_call, EV.We_callK, EV.We_bf, EV.We_mt, EV.We_comp, EV.We_con, EV.Wl_nil, EV.Wl_cons, EV.Wi_itv, EV.Wi_its, EV.Wi_itc, EV.Wi_rng, EV.Wi_enm, EV.Wi_zip, EV.Wt_e, EV.Ws_e, EV.Wo_some, EV.Wv_some, EV.Wob_some, EV.Wtr_some, EV.Woi_some, EV.Ktup_ap, EV.Klst_ap, EV.Kbin_ap, EV.Kbin2_add, EV.Kbin2_sub, EV.Kbin2_mul, EV.Kbin2_mod, EV.Kbin2_fdiv, EV.Kneg_ap, EV.Kbl_ap, EV.Knot_ap, EV.Kand_t, EV.Kand_f, EV.Kor_t, EV.Kor_f, EV.Kcmp_ap, EV.Kcmp2_lt, EV.Kcmp2_le, EV.Kcmp2_gt, EV.Kcmp2_ge, EV.Kcmp2_eq, EV.Kcmp2_ne, EV.Kcmp2_is, EV.Kcmp2_isnot, EV.Kcmp2_isB, EV.Kchn_ap, EV.Kchn2_le, EV.Wch_t, EV.Wch_f, EV.Kife_t, EV.Kife_f, EV.Kidx_ap, EV.Kidx2_T0, EV.Kidx2_T1, EV.Kidx2_T2, EV.Kidx2_Tn, EV.Kidx2_O, EV.Wix_lst, EV.Wix_dK, EV.Wix_lkd, EV.Wix_dT, EV.atI_0, EV.atI_1, EV.atI_2, EV.atI_n, EV.Kcall_ap, EV.KcallK_ap, EV.KcallK2_ap, EV.Wpk_some, EV.Kbf_lenT, EV.Kbf_lenO, EV.Wln_lst, EV.Wln_dK, EV.Wln_dT, EV.Kbf_int, EV.Kbf_intB, EV.Kbf_min, EV.Kbf_max, EV.Kbf_isT, EV.Kbf_isI, EV.Kbf_isB, EV.Kbf_isS, EV.Kbf_isN, EV.Kbf_isO, EV.Wity_lst, EV.Kmt_app, EV.isLs_ap, EV.Kap_ap, EV.Wap_ap, EV.Kcon_tup, EV.Kcon_tupT, EV.Kcon_lst, EV.Kcon_live, EV.Wls_ap, EV.Wr_ctup, EV.Wr_clst, EV.Kc1_ap, EV.Kc2_ap, EV.Ktst_bl, EV.Ktst_tup, EV.Ktst_obj, EV.Wtl_lst, EV.KtstB_ap, EV.Knl_ap, EV.Kvl_ap, EV.Kitv_tup, EV.Kitv_obj, EV.Wlv_ap, EV.Kits_tup, EV.Kits_obj, EV.Wlc_ap, EV.Kenm_tup, EV.Kenm_obj, EV.Kzip_ap, EV.Kzip2_tup, EV.Krng_ap, EV.Krng2_0n, EV.Kasg_ap, EV.Wbd_nm, EV.Wbd_tup, EV.Wbds_nil, EV.Wbds_cons, EV.Kexp_ap, EV.Kret_ap, EV.Kseq_nx, EV.Kseq_rt, EV.Kseq_bk, EV.Kseq_ct, EV.Kif_t, EV.Kif_f, EV.Kset_ap, EV.Kset2_ap, EV.Kwhl_t, EV.Kwhl_f, EV.Kfor_nx, EV.Kfor_ct, EV.Kfor_bk, EV.Kfor_rt, EV.Kout_rt, EV.Kout_nx, EV.hp_get, EV.hp_get0, EV.hp_set, EV.hp_set0, List.getElem?_cons_zero, List.getElem?_cons_succ, List.set_cons_zero, List.set_cons_succ, List.length_cons, List.length_nil, List.length_map, List.getElem?_map, Option.map_some, Option.map_none, List.append_assoc, List.cons_append, List.nil_append, true_and, and_true, false_and, and_false, decide_true, decide_false, Bool.not_true, Bool.not_false, if_true, if_false, EV.isNon, and_self, Nat.zero_add, Bool.true_or, Bool.or_true, Bool.false_or, Bool.or_false, EV.gc_len, reduceIte, eq_self, Nat.reduceAdd, Int.reduceLT, Int.reduceLE, Int.reduceEq, Int.reduceNe, Int.reduceSub, Int.reduceAdd, Int.reduceMul, Int.reduceNeg, Int.reduceToNat, Int.cast_ofNat_Int])
local macro_rules | `(tactic| walk_at "u") => `(tactic| simp -implicitDefEqProofs (disch := first | omega | (simp only [List.length_cons, List.length_nil, List.length_map, List.length_append] <;> omega)) only [EV.Wb_nil, EV.Wb_pass, EV.Wb_asg, EV.Wb_expr, EV.Wb_ret, EV.Wb_retN, EV.Wb_brk, EV.Wb_cnt, EV.Wb_ite, EV.Wb_set, EV.Wb_for, EV.Wb_tryN, EV.We_cst, EV.We_var, EV.We_glb, EV.We_tup, EV.We_lst, EV.We_dnew, EV.We_bin, EV.We_neg, EV.We_not, EV.We_and, EV.We_or, EV.We_cmp, EV.We_chn, EV.We_ite, EV.We_idx, EV.We_call, EV.We_callK, EV.We_bf, EV.We_mt, EV.We_comp, EV.We_con, EV.Wl_nil, EV.Wl_cons, EV.Wi_itv, EV.Wi_its, EV.Wi_itc, EV.Wi_rng, EV.Wi_enm, EV.Wi_zip, EV.Wt_e, EV.Ws_e, EV.Wo_some, EV.Wv_some, EV.Wob_some, EV.Wtr_some, EV.Woi_some, EV.Ktup_ap, EV.Klst_ap, EV.Kbin_ap, EV.Kbin2_add, EV.Kbin2_sub, EV.Kbin2_mul, EV.Kbin2_mod, EV.Kbin2_fdiv, EV.Kneg_ap, EV.Kbl_ap, EV.Knot_ap, EV.Kand_t, EV.Kand_f, EV.Kor_t, EV.Kor_f, EV.Kcmp_ap, EV.Kcmp2_lt, EV.Kcmp2_le, EV.Kcmp2_gt, EV.Kcmp2_ge, EV.Kcmp2_eq, EV.Kcmp2_ne, EV.Kcmp2_is, EV.Kcmp2_isnot, EV.Kcmp2_isB, EV.Kchn_ap, EV.Kchn2_le, EV.Wch_t, EV.Wch_f, EV.Kife_t, EV.Kife_f, EV.Kidx_ap, EV.Kidx2_T0, EV.Kidx2_T1, EV.Kidx2_T2, EV.Kidx2_Tn, EV.Kidx2_O, EV.Wix_lst, EV.Wix_dK, EV.Wix_lkd, EV.Wix_dT, EV.atI_0, EV.atI_1, EV.atI_2, EV.atI_n, EV.Kcall_ap, EV.KcallK_ap, EV.KcallK2_ap, EV.Wpk_some, EV.Kbf_lenT, EV.Kbf_lenO, EV.Wln_lst, EV.Wln_dK, EV.Wln_dT, EV.Kbf_int, EV.Kbf_intB, EV.Kbf_min, EV.Kbf_max, EV.Kbf_isT, EV.Kbf_isI, EV.Kbf_isB, EV.Kbf_isS, EV.Kbf_isN, EV.Kbf_isO, EV.Wity_lst, EV.Kmt_app, EV.isLs_ap, EV.Kap_ap, EV.Wap_ap, EV.Kcon_tup, EV.Kcon_tupT, EV.Kcon_lst, EV.Kcon_live, EV.Wls_ap, EV.Wr_ctup, EV.Wr_clst, EV.Kc1_ap, EV.Kc2_ap, EV.Ktst_bl, EV.Ktst_tup, EV.Ktst_obj, EV.Wtl_lst, EV.KtstB_ap, EV.Knl_ap, EV.Kvl_ap, EV.Kitv_tup, EV.Kitv_obj, EV.Wlv_ap, EV.Kits_tup, EV.Kits_obj, EV.Wlc_ap, EV.Kenm_tup, EV.Kenm_obj, EV.Kzip_ap, EV.Kzip2_tup, EV.Krng_ap, EV.Krng2_0n, EV.Kasg_ap, EV.Wbd_nm, EV.Wbd_tup, EV.Wbds_nil, EV.Wbds_cons, EV.Kexp_ap, EV.Kret_ap, EV.Kseq_nx, EV.Kseq_rt, EV.Kseq_bk, EV.Kseq_ct, EV.Kif_t, EV.Kif_f, EV.Kset_ap, EV.Kset2_ap, EV.Kwhl_t, EV.Kwhl_f, EV.Kfor_nx, EV.Kfor_ct, EV.Kfor_bk, EV.Kfor_rt, EV.Kout_rt, EV.Kout_nx, EV.hp_get, EV.hp_get0, EV.hp_set, EV.hp_set0, List.getElem?_cons_zero, List.getElem?_cons_succ, List.set_cons_zero, List.set_cons_succ, List.length_cons, List.length_nil, List.length_map, List.getElem?_map, Option.map_some, Option.map_none, List.append_assoc, List.cons_append, List.nil_append, true_and, and_true, false_and, and_false, decide_true, decide_false, Bool.not_true, Bool.not_false, if_true, if_false, EV.isNon, and_self, Nat.zero_add, Bool.true_or, Bool.or_true, Bool.false_or, Bool.or_false, EV.gc_len, reduceIte, eq_self, Nat.reduceAdd, Int.reduceLT, Int.reduceLE, Int.reduceEq, Int.reduceNe, Int.reduceSub, Int.reduceAdd, Int.reduceMul, Int.reduceNeg, Int.reduceToNat, Int.cast_ofNat_Int, List.length_append, Nat.add_assoc, Option.isSome_none, Option.isSome_some, Option.bind_some, Option.bind_none, List.isEmpty_nil, List.isEmpty_cons, *, List.map_append, List.map_cons, List.map_nil])
theorem c37 {c : Clk} (o : c.Ok) {p : Nat × Nat} (hp : p.1 < c.rows.length) {h : PH} {K : KV} {k : Nat} (hk : 1 ≤ k) : Wc (P.cc k) 37 [c.pv, pv2 p] h K = K (pv2 (c.tk p)) h := by
  refine Wc_eq (w37 (by omega) ?_) K
  obtain ⟨r, e, h2, _⟩ := Clk.get o hp
  unfold b37
  cases q : c.out p.1 with
  | none =>
    rw [q] at h2
    rw [Clk.tk_none q]
    (have zz0 := @outP_none; walk_at "u")
    rfl
  | some u =>
    rw [q] at h2
    by_cases q1 : p.2 + 1 < u.1
    · have q2 : (p.2 : Int) + 1 < (u.1 : Int) := by omega
      rw [Clk.tk_lt q q1]
      (have zz0 := @outP_some; have zz1 := @isNon_pv2; walk_at "u")
      rfl
    · have q2 : ¬ (p.2 : Int) + 1 < (u.1 : Int) := by omega
      rw [Clk.tk_ge q q1]
      (have zz0 := @outP_some; have zz1 := @isNon_pv2; walk_at "u")
      rfl
theorem gc_obj {h g : PH} {i : Nat} : gc h.length (.obj (h.length + i)) g = g := by
  unfold gc
  rw [if_neg]
  intro z
  rw [Bool.and_eq_true] at z
  have z1 : decide (h.length + i < h.length) = true := z.1
  have := of_decide_eq_true z1
  omega
theorem gc_obj0 {h g : PH} : gc h.length (.obj h.length) g = g := gc_obj (i := 0)
def Clk.sts (c : Clk) (s n : Nat) : List (Nat × Nat) := (List.range n).map (c.st s)
theorem Clk.sts_succ {c : Clk} {s n : Nat} : c.sts s (n + 1) = c.sts s n ++ [c.st s n] := by unfold Clk.sts; rw [List.range_succ, List.map_append]; rfl
theorem Clk.sts_len {c : Clk} {s n : Nat} : (c.sts s n).length = n := by unfold Clk.sts; rw [List.length_map, List.length_range]
theorem Clk.sts_last {c : Clk} {s n : Nat} : L2.atI ((c.sts s (n + 1)).map pv2) (-1) = some (pv2 (c.st s n)) := by rw [Clk.sts_succ, List.map_append]; exact atI_last
theorem c38 {c : Clk} (o : c.Ok) {s w : Nat} (hs : s < c.rows.length) (hw : w ≤ 1000000) {h : PH} {K : KV} {k : Nat} (hk : 2 ≤ k) : Wc (P.cc k) 38 [c.pv, nI s, nI w] h K = K (.obj h.length) (h ++ [.lst false ((c.sts s (w + 1)).map pv2)]) := by
  refine Wc_eq (w38 (by omega) ?_) K
  unfold b38
  walk_at "u"
  refine Kfors_rng0 (fun i r1 h1 => h1 = h ++ [.lst false ((c.sts s (i + 1)).map pv2)] ∧ ∃ x, r1 = [some c.pv, some (nI s), some (nI w), some (.obj h.length), x]) (by rw [fuelE]; omega) ⟨rfl, _, rfl⟩ (fun i r1 h1 hi ⟨z1, x, z2⟩ => ?_) fun r1 h1 ⟨z1, x, z2⟩ => ?_
  · subst z1 z2
    have e1 := Clk.sts_last (c := c) (s := s) (n := i)
    have e2 : ∀ H K, Wc (P.cc (k - 1)) 37 [c.pv, pv2 (c.st s i)] H K = K (pv2 (c.tk (c.st s i))) H := fun H K => c37 o (Clk.st_ok o hs i) (by omega)
    have hl := Clk.sts_len (c := c) (s := s) (n := i + 1)
    have hz : ((c.sts s (i + 1)).map pv2).length ≤ 16777215 := by rw [List.length_map, hl]; omega
    have e3 : (c.sts s (i + 1)).map pv2 ++ [pv2 (c.tk (c.st s i))] = (c.sts s (i + 1 + 1)).map pv2 := by rw [Clk.sts_succ (n := i + 1), List.map_append]; rfl
    walk_at "w"
    exact ⟨_, rfl⟩
  · subst z1 z2
    (have zz0 := @@gc_obj0; walk_at "u")
/-! ### the law's own way to stand -/
theorem Clk.cr_add {c : Clk} {s b : Nat} : ∀ j, c.cr s (b + j) = ((c.cr (c.cr s b).1 j).1, (c.cr s b).2 + (c.cr (c.cr s b).1 j).2)
  | 0 => rfl
  | j + 1 => by
    show c.mv (c.cr s (b + j)) = _
    rw [Clk.cr_add j]
    show _ = ((c.mv (c.cr (c.cr s b).1 j)).1, (c.cr s b).2 + (c.mv (c.cr (c.cr s b).1 j)).2)
    unfold Clk.mv
    simp only
    cases c.out (c.cr (c.cr s b).1 j).1 with
    | none => rfl
    | some p => simp only [Nat.add_assoc]
theorem Clk.go_le {c : Clk} {s i j : Nat} (g : c.go s i) (h : j ≤ i) : c.go s j := fun x hx => g x (by omega)
/-- within so many ticks no state comes again -/
def Clk.Once (c : Clk) (e R : Nat) : Prop := ∀ b i, b < i → c.go e i → (c.cr e i).2 ≤ R → (c.cr e b).1 ≠ (c.cr e i).1
theorem Clk.once {c : Clk} (o : c.Ok) {e i b R : Nat} (he : e < c.rows.length) (g : c.go e i) (nd : (c.ss e i).Nodup) (hb : b < i) (hc : (c.cr e b).1 = (c.cr e i).1) (hR : R < (c.cr e i).2 - (c.cr e b).2) : c.Once (c.cr e i).1 R := by
  intro b' i' hlt g' hle heq
  rw [← hc] at g' hle heq
  have a1 := Clk.cr_add (c := c) (s := e) (b := b) (i - b)
  rw [show b + (i - b) = i by omega] at a1
  have hi' : i' < i - b := by
    refine Nat.lt_of_not_le fun z => ?_
    have a2 : (c.cr (c.cr e b).1 (i - b)).2 = (c.cr e i).2 - (c.cr e b).2 := by rw [a1]; simp
    by_cases q : i' = i - b
    · rw [q] at hle; omega
    · have := Clk.cr_mono o (Clk.cr_lt o he b) g' (j := i - b) (by omega)
      omega
  have e1 := Clk.ss_get (c := c) (s := e) (i := i) (j := b + b') (by omega)
  have e2 := Clk.ss_get (c := c) (s := e) (i := i) (j := b + i') (by omega)
  rw [Clk.cr_add] at e1 e2
  simp only [heq] at e1
  have := (List.getElem?_inj (by rw [Clk.ss_len]; omega) nd).mp (e1.trans e2.symm)
  omega
theorem Clk.st_per {c : Clk} (o : c.Ok) {e i b : Nat} (he : e < c.rows.length) (g : c.go e i) (hb : b < i) (hc : (c.cr e b).1 = (c.cr e i).1) (v : Nat) : c.st (c.cr e i).1 v = c.st (c.cr e i).1 (v % ((c.cr e i).2 - (c.cr e b).2)) := by
  rw [← hc, ← Clk.st_cr o he (Clk.go_le g (by omega)), ← Clk.st_cr o he (Clk.go_le g (by omega))]
  exact Clk.st_mod o he g hb hc v
def Clk.adk (c : Clk) (e R i : Nat) : List (L2.Key × PV) := (List.range i).map fun j => (keyN (c.cr e j).1, nI (R - (c.cr e j).2))
theorem Clk.adk_len {c : Clk} {e R i : Nat} : (c.adk e R i).length = i := by unfold Clk.adk; rw [List.length_map, List.length_range]
theorem Clk.adk_no {c : Clk} {e R i x : Nat} (h : x ∉ c.ss e i) : look (keyN x) (c.adk e R i) = none := look_no fun a ha z => h (Clk.ss_mem.mpr ⟨a, List.mem_range.mp ha, keyN_inj z⟩)
theorem Clk.adk_in {c : Clk} {e R i b : Nat} (nd : (c.ss e i).Nodup) (hb : b < i) : look (keyN (c.cr e b).1) (c.adk e R i) = some (nI (R - (c.cr e b).2)) :=
  look_on (key := fun j => keyN (c.cr e j).1) (val := fun j => nI (R - (c.cr e j).2)) (List.mem_range.mpr hb) fun a ha z => by
    have h1 := keyN_inj z
    have h2 := List.mem_range.mp ha
    have e1 := Clk.ss_get (c := c) (s := e) (i := i) (j := a) h2
    have e2 := Clk.ss_get (c := c) (s := e) (i := i) (j := b) hb
    rw [h1] at e1
    have := (List.getElem?_inj (by rw [Clk.ss_len]; omega) nd).mp (e1.trans e2.symm)
    rw [this]
theorem Clk.adk_put {c : Clk} {e R i : Nat} (h : (c.cr e i).1 ∉ c.ss e i) : put (keyN (c.cr e i).1) (nI (R - (c.cr e i).2)) (c.adk e R i) = c.adk e R (i + 1) := by
  unfold Clk.adk
  rw [put_no fun a ha z => h (Clk.ss_mem.mpr ⟨a, List.mem_range.mp ha, keyN_inj z⟩), List.range_succ, List.map_append]
  rfl
end Lw
end
section
set_option Elab.async false
set_option linter.all false
set_option maxRecDepth 100000
namespace Lw
open PySem EV
local macro_rules | `(tactic| walk_at "w") => `(tactic| simp -implicitDefEqProofs (disch := first | omega | (simp only [List.length_cons, List.length_nil, List.length_map, List.length_append] <;> omega)) only [EV.Wb_nil, EV.Wb_pass, EV.Wb_asg, EV.Wb_expr, EV.Wb_ret, EV.Wb_retN, EV.Wb_brk, EV.Wb_cnt, EV.Wb_ite, EV.Wb_set, EV.Wb_for, EV.Wb_tryN, EV.We_cst, EV.We_var, EV.We_glb, EV.We_tup, EV.We_lst, EV.We_dnew, EV.We_bin, EV.We_neg, EV.We_not, EV.We_and, EV.We_or, EV.We_cmp, EV.We_chn, EV.We_ite, EV.We_idx, EV.We_call, EV.We_callK, EV.We_bf, EV.We_mt, EV.We_comp, EV.We_con, EV.Wl_nil, EV.Wl_cons, EV.Wi_itv, EV.Wi_its, EV.Wi_itc, EV.Wi_rng, EV.Wi_enm, EV.Wi_zip, EV.Wt_e, EV.Ws_e, EV.Wo_some, EV.Wv_some, EV.Wob_some, EV.Wtr_some, EV.Woi_some, EV.Ktup_ap, EV.Klst_ap, EV.Kbin_ap, EV.Kbin2_add, EV.Kbin2_sub, EV.Kbin2_mul, EV.Kbin2_mod, EV.Kbin2_fdiv, EV.Kneg_ap, EV.Kbl_ap, EV.Knot_ap, EV.Kand_t, EV.Kand_f, EV.Kor_t, EV.Kor_f, EV.Kcmp_ap, EV.Kcmp2_lt, EV.Kcmp2_le, EV.Kcmp2_gt, EV.Kcmp2_ge, EV.Kcmp2_eq, EV.Kcmp2_ne, EV.Kcmp2_is, EV.Kcmp2_isnot, EV.Kcmp2_isB, EV.Kchn_ap, EV.Kchn2_le, EV.Wch_t, EV.Wch_f, EV.Kife_t, EV.Kife_f, EV.Kidx_ap, EV.Kidx2_T0, EV.Kidx2_T1, EV.Kidx2_T2, EV.Kidx2_Tn, EV.Kidx2_O, EV.Wix_lst, EV.Wix_dK, EV.Wix_lkd, EV.Wix_dT, EV.atI_0, EV.atI_1, EV.atI_2, EV.atI_n, EV.Kcall_ap, EV.KcallK_ap, EV.KcallK2_ap, EV.Wpk_some, EV.Kbf_lenT, EV.Kbf_lenO, EV.Wln_lst, EV.Wln_dK, EV.Wln_dT, EV.Kbf_int, EV.Kbf_intB, EV.Kbf_min, EV.Kbf_max, EV.Kbf_isT, EV.Kbf_isI, EV.Kbf_isB, EV.Kbf_isS, EV.Kbf_isN, EV.Kbf_isO, EV.Wity_lst, EV.Kmt_app, EV.isLs_ap, EV.Kap_ap, EV.Wap_ap, EV.Kcon_tup, EV.Kcon_tupT, EV.Kcon_lst, EV.Kcon_live, EV.Wls_ap, EV.Wr_ctup, EV.Wr_clst, EV.Kc1_ap, EV.Kc2_ap, EV.Ktst_bl, EV.Ktst_tup, EV.Ktst_obj, EV.Wtl_lst, EV.KtstB_ap, EV.Knl_ap, EV.Kvl_ap, EV.Kitv_tup, EV.Kitv_obj, EV.Wlv_ap, EV.Kits_tup, EV.Kits_obj, EV.Wlc_ap, EV.Kenm_tup, EV.Kenm_obj, EV.Kzip_ap, EV.Kzip2_tup, EV.Krng_ap, EV.Krng2_0n, EV.Kasg_ap, EV.Wbd_nm, EV.Wbd_tup, EV.Wbds_nil, EV.Wbds_cons, EV.Kexp_ap, EV.Kret_ap, EV.Kseq_nx, EV.Kseq_rt, EV.Kseq_bk, EV.Kseq_ct, EV.Kif_t, EV.Kif_f, EV.Kset_ap, EV.Kset2_ap, EV.Kwhl_t, EV.Kwhl_f, EV.Kfor_nx, EV.Kfor_ct, EV.Kfor_bk, EV.Kfor_rt, EV.Kout_rt, EV.Kout_nx, EV.hp_get, EV.hp_get0, EV.hp_set, EV.hp_set0, List.getElem?_cons_zero, List.getElem?_cons_succ, List.set_cons_zero, List.set_cons_succ, List.length_cons, List.length_nil, List.length_map, List.getElem?_map, Option.map_some, Option.map_none, List.append_assoc, List.cons_append, List.nil_append, true_and, and_true, false_and, and_false, decide_true, decide_false, Bool.not_true, Bool.not_false, if_true, if_false, EV.isNon, and_self, Nat.zero_add, Bool.true_or, Bool.or_true, Bool.false_or, Bool.or_false, EV.gc_len, reduceIte, eq_self, Nat.reduceAdd, Int.reduceLT, Int.reduceLE, Int.reduceEq, Int.reduceNe, Int.reduceSub, Int.reduceAdd, Int.reduceMul, Int.reduceNeg, Int.reduceToNat, Int.cast_ofNat_Int, *])
local macro_rules | `(tactic| walk_at "v") => `(tactic| simp -implicitDefEqProofs (disch := first | omega | (simp only [List.length_cons, List.length_nil, List.length_map, List.length_append] <;> omega)) only [EV.Wb_nil, EV.Wb_pass, EV.Wb_asg, EV.Wb_expr, EV.Wb_ret, EV.Wb_retN, EV.Wb_brk, EV.Wb_cnt, EV.Wb_ite, EV.Wb_set, EV.Wb_for, EV.Wb_tryN, EV.We_cst, EV.We_var, EV.We_glb, EV.We_tup, EV.We_lst, EV.We_dnew, EV.We_bin, EV.We_neg, EV.We_not, EV.We_and, EV.We_or, EV.We_cmp, EV.We_chn, EV.We_ite, EV.We_idx, EV.We_call, EV.We_callK, EV.We_bf, EV.We_mt, EV.We_comp, EV.We_con, EV.Wl_nil, EV.Wl_cons, EV.Wi_itv, EV.Wi_its, EV.Wi_itc, EV.Wi_rng, EV.Wi_enm, EV.Wi_zip, EV.Wt_e, EV.Ws_e, EV.Wo_some, EV.Wv_some, EV.Wob_some, EV.Wtr_some, EV.Woi_some, EV.Ktup_ap, EV.Klst_ap, EV.Kbin_ap, EV.Kbin2_add, EV.Kbin2_sub, EV.Kbin2_mul, EV.Kbin2_mod, EV.Kbin2_fdiv, EV.Kneg_ap, EV.Kbl_ap, EV.Knot_ap, EV.Kand_t, EV.Kand_f, EV.Kor_t, EV.Kor_f, EV.Kcmp_ap, EV.Kcmp2_lt, EV.Kcmp2_le, EV.Kcmp2_gt, EV.Kcmp2_ge, EV.Kcmp2_eq, EV.Kcmp2_ne, EV.Kcmp2_is, EV.Kcmp2_isnot, EV.Kcmp2_isB, EV.Kchn_ap, EV.Kchn2_le, EV.Wch_t, EV.Wch_f, EV.Kife_t, EV.Kife_f, EV.Kidx_ap, EV.Kidx2_T0, EV.Kidx2_T1, EV.Kidx2_T2, EV.Kidx2_Tn, EV.Kidx2_O, EV.Wix_lst, EV.Wix_dK, EV.Wix_lkd, EV.Wix_dT, EV.atI_0, EV.atI_1, EV.atI_2, EV.atI_n, EV.Kcall_ap, EV.KcallK_ap, EV.KcallK2_ap, EV.Wpk_some, EV.Kbf_lenT, EV.Kbf_lenO, EV.Wln_lst, EV.Wln_dK, EV.Wln_dT, EV.Kbf_int, EV.Kbf_intB, EV.Kbf_min, EV.Kbf_max, EV.Kbf_isT, EV.Kbf_isI, EV.Kbf_isB, EV.Kbf_isS, EV.Kbf_isN, EV.Kbf_isO, EV.Wity_lst, EV.Kmt_app, EV.isLs_ap, EV.Kap_ap, EV.Wap_ap, EV.Kcon_tup, EV.Kcon_tupT, EV.Kcon_lst, EV.Kcon_live, EV.Wls_ap, EV.Wr_ctup, EV.Wr_clst, EV.Kc1_ap, EV.Kc2_ap, EV.Ktst_bl, EV.Ktst_tup, EV.Ktst_obj, EV.Wtl_lst, EV.KtstB_ap, EV.Knl_ap, EV.Kvl_ap, EV.Kitv_tup, EV.Kitv_obj, EV.Wlv_ap, EV.Kits_tup, EV.Kits_obj, EV.Wlc_ap, EV.Kenm_tup, EV.Kenm_obj, EV.Kzip_ap, EV.Kzip2_tup, EV.Krng_ap, EV.Krng2_0n, EV.Kasg_ap, EV.Wbd_nm, EV.Wbd_tup, EV.Wbds_nil, EV.Wbds_cons, EV.Kexp_ap, EV.Kret_ap, EV.Kseq_nx, EV.Kseq_rt, EV.Kseq_bk, EV.Kseq_ct, EV.Kif_t, EV.Kif_f, EV.Kset_ap, EV.Kset2_ap, EV.Kwhl_t, EV.Kwhl_f, EV.Kfor_nx, EV.Kfor_ct, EV.Kfor_bk, EV.Kfor_rt, EV.Kout_rt, EV.Kout_nx, EV.hp_get, EV.hp_get0, EV.hp_set, EV.hp_set0, List.getElem?_cons_zero, List.getElem?_cons_succ, List.set_cons_zero, List.set_cons_succ, List.length_cons, List.length_nil, List.length_map, List.getElem?_map, Option.map_some, Option.map_none, List.append_assoc, List.cons_append, List.nil_append, true_and, and_true, false_and, and_false, decide_true, decide_false, Bool.not_true, Bool.not_false, if_true, if_false, EV.isNon, and_self, Nat.zero_add, Bool.true_or, Bool.or_true, Bool.false_or, Bool.or_false, EV.gc_len, reduceIte, eq_self, Nat.reduceAdd, Int.reduceLT, Int.reduceLE, Int.reduceEq, Int.reduceNe, Int.reduceSub, Int.reduceAdd, Int.reduceMul, Int.reduceNeg, Int.reduceToNat, Int.cast_ofNat_Int])
local macro_rules | `(tactic| walk_at "u") => `(tactic| simp -implicitDefEqProofs (disch := first | omega | (simp only [List.length_cons, List.length_nil, List.length_map, List.length_append] <;> omega)) only [EV.Wb_nil, EV.Wb_pass, EV.Wb_asg, EV.Wb_expr, EV.Wb_ret, EV.Wb_retN, EV.Wb_brk, EV.Wb_cnt, EV.Wb_ite, EV.Wb_set, EV.Wb_for, EV.Wb_tryN, EV.We_cst, EV.We_var, EV.We_glb, EV.We_tup, EV.We_lst, EV.We_dnew, EV.We_bin, EV.We_neg, EV.We_not, EV.We_and, EV.We_or, EV.We_cmp, EV.We_chn, EV.We_ite, EV.We_idx, EV.We_call, EV.We_callK, EV.We_bf, EV.We_mt, EV.We_comp, EV.We_con, EV.Wl_nil, EV.Wl_cons, EV.Wi_itv, EV.Wi_its, EV.Wi_itc, EV.Wi_rng, EV.Wi_enm, EV.Wi_zip, EV.Wt_e, EV.Ws_e, EV.Wo_some, EV.Wv_some, EV.Wob_some, EV.Wtr_some, EV.Woi_some, EV.Ktup_ap, EV.Klst_ap, EV.Kbin_ap, EV.Kbin2_add, EV.Kbin2_sub, EV.Kbin2_mul, EV.Kbin2_mod, EV.Kbin2_fdiv, EV.Kneg_ap, EV.Kbl_ap, EV.Knot_ap, EV.Kand_t, EV.Kand_f, EV.Kor_t, EV.Kor_f, EV.Kcmp_ap, EV.Kcmp2_lt, EV.Kcmp2_le, EV.Kcmp2_gt, EV.Kcmp2_ge, EV.Kcmp2_eq, EV.Kcmp2_ne, EV.Kcmp2_is, EV.Kcmp2_isnot, EV.Kcmp2_isB, EV.Kchn_ap, EV.Kchn2_le, EV.Wch_t, EV.Wch_f, EV.Kife_t, EV.Kife_f, EV.Kidx_ap, EV.Kidx2_T0, EV.Kidx2_T1, EV.Kidx2_T2, EV.Kidx2_Tn, EV.Kidx2_O, EV.Wix_lst, EV.Wix_dK, EV.Wix_lkd, EV.Wix_dT, EV.atI_0, EV.atI_1, EV.atI_2, EV.atI_n, EV.Kcall_ap, EV.KcallK_ap, EV.KcallK2_ap, EV.Wpk_some, EV.Kbf_lenT, EV.Kbf_lenO, EV.Wln_lst, EV.Wln_dK, EV.Wln_dT, EV.Kbf_int, EV.Kbf_intB, EV.Kbf_min, EV.Kbf_max, EV.Kbf_isT, EV.Kbf_isI, EV.Kbf_isB, EV.Kbf_isS, EV.Kbf_isN, EV.Kbf_isO, EV.Wity_lst, EV.Kmt_app, EV.isLs_ap, EV.Kap_ap, EV.Wap_ap, EV.Kcon_tup, EV.Kcon_tupT, EV.Kcon_lst, EV.Kcon_live, EV.Wls_ap, EV.Wr_ctup, EV.Wr_clst, EV.Kc1_ap, EV.Kc2_ap, EV.Ktst_bl, EV.Ktst_tup, EV.Ktst_obj, EV.Wtl_lst, EV.KtstB_ap, EV.Knl_ap, EV.Kvl_ap, EV.Kitv_tup, EV.Kitv_obj, EV.Wlv_ap, EV.Kits_tup, EV.Kits_obj, EV.Wlc_ap, EV.Kenm_tup, EV.Kenm_obj, EV.Kzip_ap, EV.Kzip2_tup, EV.Krng_ap, EV.Krng2_0n, EV.Kasg_ap, EV.Wbd_nm, EV.Wbd_tup, EV.Wbds_nil, EV.Wbds_cons, EV.Kexp_ap, EV.Kret_ap, EV.Kseq_nx, EV.Kseq_rt, EV.Kseq_bk, EV.Kseq_ct, EV.Kif_t, EV.Kif_f, EV.Kset_ap, EV.Kset2_ap, EV.Kwhl_t, EV.Kwhl_f, EV.Kfor_nx, EV.Kfor_ct, EV.Kfor_bk, EV.Kfor_rt, EV.Kout_rt, EV.Kout_nx, EV.hp_get, EV.hp_get0, EV.hp_set, EV.hp_set0, List.getElem?_cons_zero, List.getElem?_cons_succ, List.set_cons_zero, List.set_cons_succ, List.length_cons, List.length_nil, List.length_map, List.getElem?_map, Option.map_some, Option.map_none, List.append_assoc, List.cons_append, List.nil_append, true_and, and_true, false_and, and_false, decide_true, decide_false, Bool.not_true, Bool.not_false, if_true, if_false, EV.isNon, and_self, Nat.zero_add, Bool.true_or, Bool.or_true, Bool.false_or, Bool.or_false, EV.gc_len, reduceIte, eq_self, Nat.reduceAdd, Int.reduceLT, Int.reduceLE, Int.reduceEq, Int.reduceNe, Int.reduceSub, Int.reduceAdd, Int.reduceMul, Int.reduceNeg, Int.reduceToNat, Int.cast_ofNat_Int, List.length_append, Nat.add_assoc, Option.isSome_none, Option.isSome_some, Option.bind_some, Option.bind_none, List.isEmpty_nil, List.isEmpty_cons, *, List.map_append, List.map_cons, List.map_nil])
abbrev cnd39 : EV.E := .and (.cmp .isnot (.idx (.idx (.idx (.var 0) (.cst (.int 2))) (.var 3)) (.cst (.int 0))) (.cst .non)) (.cmp .ge (.var 4) (.idx (.idx (.idx (.idx (.var 0) (.cst (.int 2))) (.var 3)) (.cst (.int 0))) (.cst (.int 0))))
abbrev bod39 : List EV.S := [.ite (.cmp .isin (.var 3) (.var 5)) [.asg (.tup [.nm 4, .nm 5]) (.tup [.bin .mod (.var 4) (.bin .sub (.idx (.var 5) (.var 3)) (.var 4)), .dnew false]), .ite (.cmp .lt (.var 4) (.idx (.idx (.idx (.idx (.var 0) (.cst (.int 2))) (.var 3)) (.cst (.int 0))) (.cst (.int 0)))) [.ret (.tup [.var 3, .var 4])] []] [], .set (.var 5) (.var 3) (.var 4), .asg (.tup [.nm 4, .nm 3]) (.tup [.bin .sub (.var 4) (.idx (.idx (.idx (.idx (.var 0) (.cst (.int 2))) (.var 3)) (.cst (.int 0))) (.cst (.int 0))), .idx (.idx (.idx (.idx (.var 0) (.cst (.int 2))) (.var 3)) (.cst (.int 0))) (.cst (.int 1))])]
abbrev ss39 : List EV.S := [.ret (.tup [.var 3, .var 4])]
section
variable {c : Clk} (o : c.Ok) {here rest : Nat} {x1 x2 : Option PV} (hh : here < c.rows.length) {h g : PH} (cl : Cl h) {n : Nat} {kvs : List (L2.Key × PV)} (hg : g[n]? = some (.dK kvs)) (hl : kvs.length < 1000) {K : KV} {k : Nat} {J : EV.Env → PH → Prop}
include o hh cl
theorem x39n (hp : c.out here = none) (hK : K (pv2 (here, rest)) h) : Wt (P.cc k) cnd39 [some c.pv, x1, x2, some (nI here), some (nI rest), some (.obj (h.length + n))] (h ++ g) (Kwhl (P.cc k) ss39 [some c.pv, x1, x2, some (nI here), some (nI rest), some (.obj (h.length + n))] (Kout h.length K) bod39 J) := by
  obtain ⟨r, e, h2, _⟩ := Clk.get o hh
  rw [hp] at h2
  (have zz0 := @outP_none; have zz1 := @isNon; walk_at "u")
  rw [gc_flat cl rfl]; exact hK
theorem x39l {p : Nat × Nat} (hp : c.out here = some p) (hlt : rest < p.1) (hK : K (pv2 (here, rest)) h) : Wt (P.cc k) cnd39 [some c.pv, x1, x2, some (nI here), some (nI rest), some (.obj (h.length + n))] (h ++ g) (Kwhl (P.cc k) ss39 [some c.pv, x1, x2, some (nI here), some (nI rest), some (.obj (h.length + n))] (Kout h.length K) bod39 J) := by
  obtain ⟨r, e, h2, _⟩ := Clk.get o hh
  rw [hp] at h2
  have q : ¬ (p.1 : Int) ≤ (rest : Int) := by omega
  (have zz0 := @outP_some; have zz1 := @isNon_pv2; walk_at "u")
  rw [gc_flat cl rfl]; exact hK
include hg hl
omit cl in
theorem x39a {p : Nat × Nat} (hp : c.out here = some p) (hge : p.1 ≤ rest) (hn : look (keyN here) kvs = none) (hJ : J [some c.pv, x1, x2, some (nI p.2), some (nI (rest - p.1)), some (.obj (h.length + n))] (h ++ g.set n (.dK (put (keyN here) (nI rest) kvs)))) : Wt (P.cc k) cnd39 [some c.pv, x1, x2, some (nI here), some (nI rest), some (.obj (h.length + n))] (h ++ g) (Kwhl (P.cc k) ss39 [some c.pv, x1, x2, some (nI here), some (nI rest), some (.obj (h.length + n))] (Kout h.length K) bod39 J) := by
  obtain ⟨r, e, h2, _⟩ := Clk.get o hh
  rw [hp] at h2
  have q : (p.1 : Int) ≤ (rest : Int) := by omega
  have e1 : (h ++ g)[h.length + n]? = some (.dK kvs) := by rw [hp_get]; exact hg
  have hin := isIn_dK (x := nI here) e1 toKey_n
  rw [hn] at hin
  have e3 := fun c' ss r Q => Kset3_dK (c := c') (ss := ss) (r := r) (Q := Q) (v := nI rest) (x := nI here) e1 toKey_n (by omega)
  rw [hp_set] at e3
  have c5 := (Int.ofNat_sub hge).symm
  (have zz0 := @outP_some; have zz1 := @isNon_pv2; have zz2 := @Kcmp2_in; walk_at "u")
theorem x39b {p : Nat × Nat} {v d : Nat} (hp : c.out here = some p) (hge : p.1 ≤ rest) (hn : look (keyN here) kvs = some (nI v)) (hd : v - rest = d) (hd0 : 0 < d) (hK : rest % d < p.1 → K (pv2 (here, rest % d)) h) (hJ : p.1 ≤ rest % d → J [some c.pv, x1, x2, some (nI p.2), some (nI (rest % d - p.1)), some (.obj (h.length + g.length))] (h ++ (g ++ [.dK [(keyN here, nI (rest % d))]]))) : Wt (P.cc k) cnd39 [some c.pv, x1, x2, some (nI here), some (nI rest), some (.obj (h.length + n))] (h ++ g) (Kwhl (P.cc k) ss39 [some c.pv, x1, x2, some (nI here), some (nI rest), some (.obj (h.length + n))] (Kout h.length K) bod39 J) := by
  obtain ⟨r, e, h2, _⟩ := Clk.get o hh
  rw [hp] at h2
  have q : (p.1 : Int) ≤ (rest : Int) := by omega
  have e1 : (h ++ g)[h.length + n]? = some (.dK kvs) := by rw [hp_get]; exact hg
  have hin := isIn_dK (x := nI here) e1 toKey_n
  rw [hn] at hin
  have c1 : (v : Int) - (rest : Int) = (d : Int) := by omega
  have c2 : (rest : Int) % (d : Int) = ((rest % d : Nat) : Int) := rfl
  generalize rest % d = y at hK hJ c2
  by_cases hy : y < p.1
  · have hK := hK hy
    have q2 : (y : Int) < (p.1 : Int) := by omega
    clear hJ
    (have zz0 := @outP_some; have zz1 := @isNon_pv2; have zz2 := @Kcmp2_in; have zz3 := @toKey_n; have zz4 := @@We_dnew; have zz5 := @@Bool.false_eq_true; walk_at "u")
    rw [gc_flat cl rfl]
    exact hK
  · have hJ := hJ (by omega)
    have q2 : ¬ (y : Int) < (p.1 : Int) := by omega
    have c5 := (Int.ofNat_sub (show p.1 ≤ y by omega)).symm
    clear hK
    have e3 := fun c' ss r Q => Kset3_dK (c := c') (ss := ss) (r := r) (Q := Q) (v := nI y) (x := nI here) (h := h ++ (g ++ [.dK []])) (n := h.length + g.length) (kvs := []) (by rw [hp_get, hp_get0]; rfl) toKey_n (by decide)
    have e4 : put (keyN here) (nI y) [] = [(keyN here, nI y)] := rfl
    rw [hp_set, hp_set0, e4] at e3
    (have zz0 := @outP_some; have zz1 := @isNon_pv2; have zz2 := @Kcmp2_in; have zz3 := @toKey_n; have zz4 := @@We_dnew; have zz5 := @@Bool.false_eq_true; walk_at "u")
end
theorem c39 {c : Clk} (o : c.Ok) {s w : Nat} (hs : s < c.rows.length) {h : PH} (cl : Cl h) {K : KV} {k : Nat} (hk : 1 ≤ k) : Wc (P.cc k) 39 [c.pv, nI s, nI w] h K = K (pv2 (c.st s w)) h := by
  refine Wc_eq (w39 (by omega) ?_) K
  unfold b39
  have t20 := o.t20
  (have zz0 := @@We_dnew; have zz1 := @@Bool.false_eq_true; walk_at "u")
  refine Wb_whl (m := 2 * c.rows.length + 3) (by rw [fuelE]; omega) (I := fun m r1 h1 => ∃ (e R i : Nat) (ph : Bool), e < c.rows.length ∧ c.go e i ∧ (c.ss e i).Nodup ∧ (c.cr e i).2 ≤ R ∧ c.st e R = c.st s w ∧ (ph = true → c.Once e R) ∧ m = (if ph = true then c.rows.length + 1 - i else 2 * c.rows.length + 3 - i) ∧ ∃ n g, g[n]? = some (.dK (c.adk e R i)) ∧ h1 = h ++ g ∧ r1 = [some c.pv, some (nI s), some (nI w), some (nI (c.cr e i).1), some (nI (R - (c.cr e i).2)), some (.obj (h.length + n))])
    ⟨s, w, 0, false, hs, (fun j hj => absurd hj (Nat.not_lt_zero _)), .nil, Nat.zero_le _, rfl, (fun z => by cases z), rfl, 0, [.dK []], rfl, rfl, rfl⟩ fun m r1 h1 ⟨e, R, i, ph, he, go, nd, hR, hst, hph, hm, n, g, hg, z1, z2⟩ => ?_
  subst z1 z2
  have hle := Clk.ss_le o he nd
  have lx := Clk.cr_lt o he i
  have hkl : (c.adk e R i).length < 1000 := by rw [Clk.adk_len]; omega
  have hst2 : c.st (c.cr e i).1 (R - (c.cr e i).2) = c.st s w := by
    rw [← hst, ← Clk.st_cr o he go]
    congr 1; omega
  cases q : c.out (c.cr e i).1 with
  | none => exact x39n o lx cl q ⟨by rw [← hst2, Clk.st_none q], rfl⟩
  | some p =>
    have hp1 := (Clk.out_ok o lx q).1
    by_cases hlt : R - (c.cr e i).2 < p.1
    · exact x39l o lx cl q hlt ⟨by rw [← hst2, Clk.st_lt q _ hlt], rfl⟩
    · by_cases hin : (c.cr e i).1 ∈ c.ss e i
      · obtain ⟨b, hb, hc⟩ := Clk.ss_mem.mp hin
        cases ph with
        | true => exact absurd hc (hph rfl b i hb go hR)
        | false =>
          have hmn := Clk.cr_mono o he go hb
          have hd := Clk.adk_in (c := c) (e := e) (R := R) nd hb
          rw [hc] at hd
          have hv : (R - (c.cr e b).2) - (R - (c.cr e i).2) = (c.cr e i).2 - (c.cr e b).2 := by omega
          have hper := Clk.st_per o he go hb hc (R - (c.cr e i).2)
          have hlt2 := Nat.mod_lt (R - (c.cr e i).2) (show 0 < (c.cr e i).2 - (c.cr e b).2 by omega)
          have honce := Clk.once o he go nd hb hc hlt2
          rw [hst2] at hper
          refine x39b o lx cl hg hkl q (by omega) hd hv (by omega) (fun hy => ⟨by rw [hper, Clk.st_lt q _ hy], rfl⟩) fun hy => ?_
          generalize (R - (c.cr e i).2) % ((c.cr e i).2 - (c.cr e b).2) = y at hper hlt2 honce hy
          have hcr : c.cr (c.cr e i).1 1 = (p.2, 0 + p.1) := Clk.cr_succ (s := (c.cr e i).1) (i := 0) q
          refine ⟨c.rows.length + 1 - 1, ?_, (c.cr e i).1, y, 1, true, lx, ?_, by simp [Clk.ss], ?_, hper.symm, fun _ => honce, rfl, g.length, g ++ [.dK [(keyN (c.cr e i).1, nI y)]], by rw [hp_get0]; rfl, rfl, by rw [hcr]; simp⟩
          · rw [hm]; simp; omega
          · intro j hj
            obtain rfl : j = 0 := by omega
            exact ⟨p, q⟩
          · rw [hcr]; simp only; omega
      · refine x39a o lx hg hkl q (by omega) (Clk.adk_no hin) ?_
        rw [Clk.adk_put hin]
        have hcr := Clk.cr_succ q
        have nd2 := Clk.ss_nd nd hin
        have hle2 := Clk.ss_le o he nd2
        have hi := (List.getElem?_eq_some_iff.mp hg).1
        refine ⟨if ph = true then c.rows.length + 1 - (i + 1) else 2 * c.rows.length + 3 - (i + 1), ?_, e, R, i + 1, ph, he, ?_, nd2, ?_, hst, hph, rfl, n, g.set n (.dK (c.adk e R (i + 1))), by rw [List.getElem?_set_self hi], rfl, ?_⟩
        · rw [hm]; cases ph <;> simp <;> omega
        · intro j hj
          by_cases hji : j = i
          · rw [hji]; exact ⟨p, q⟩
          · exact go j (by omega)
        · rw [hcr]; simp only; omega
        · rw [hcr]
          simp only [Nat.sub_sub]
end Lw
end
section
set_option Elab.async false
set_option linter.all false
set_option maxRecDepth 100000
namespace Lw
open PySem EV
local macro_rules | `(tactic| walk_at "w") => `(tactic| simp -implicitDefEqProofs (disch := first | omega | (simp only [List.length_cons, List.length_nil, List.length_map, List.length_append] <;> omega)) only [EV.Wb_nil, EV.Wb_pass, EV.Wb_asg, EV.Wb_expr, EV.Wb_ret, EV.Wb_retN, EV.Wb_brk, EV.Wb_cnt, EV.Wb_ite, EV.Wb_set, EV.Wb_for, EV.Wb_tryN, EV.We_cst, EV.We_var, EV.We_glb, EV.We_tup, EV.We_lst, EV.We_dnew, EV.We_bin, EV.We_neg, EV.We_not, EV.We_and, EV.We_or, EV.We_cmp, EV.We_chn, EV.We_ite, EV.We_idx, EV.We_call, EV.We_callK, EV.We_bf, EV.We_mt, EV.We_comp, EV.We_con, EV.Wl_nil, EV.Wl_cons, EV.Wi_itv, EV.Wi_its, EV.Wi_itc, EV.Wi_rng, EV.Wi_enm, EV.Wi_zip, EV.Wt_e, EV.Ws_e, EV.Wo_some, EV.Wv_some, EV.Wob_some, EV.Wtr_some, EV.Woi_some, EV.Ktup_ap, EV.Klst_ap, EV.Kbin_ap, EV.Kbin2_add, EV.Kbin2_sub, EV.Kbin2_mul, EV.Kbin2_mod, EV.Kbin2_fdiv, EV.Kneg_ap, EV.Kbl_ap, EV.Knot_ap, EV.Kand_t, EV.Kand_f, EV.Kor_t, EV.Kor_f, EV.Kcmp_ap, EV.Kcmp2_lt, EV.Kcmp2_le, EV.Kcmp2_gt, EV.Kcmp2_ge, EV.Kcmp2_eq, EV.Kcmp2_ne, EV.Kcmp2_is, EV.Kcmp2_isnot, EV.Kcmp2_isB, EV.Kchn_ap, EV.Kchn2_le, EV.Wch_t, EV.Wch_f, EV.Kife_t, EV.Kife_f, EV.Kidx_ap, EV.Kidx2_T0, EV.Kidx2_T1, EV.Kidx2_T2, EV.Kidx2_Tn, EV.Kidx2_O, EV.Wix_lst, EV.Wix_dK, EV.Wix_lkd, EV.Wix_dT, EV.atI_0, EV.atI_1, EV.atI_2, EV.atI_n, EV.Kcall_ap, EV.KcallK_ap, EV.KcallK2_ap, EV.Wpk_some, EV.Kbf_lenT, EV.Kbf_lenO, EV.Wln_lst, EV.Wln_dK, EV.Wln_dT, EV.Kbf_int, EV.Kbf_intB, EV.Kbf_min, EV.Kbf_max, EV.Kbf_isT, EV.Kbf_isI, EV.Kbf_isB, EV.Kbf_isS, EV.Kbf_isN, EV.Kbf_isO, EV.Wity_lst, EV.Kmt_app, EV.isLs_ap, EV.Kap_ap, EV.Wap_ap, EV.Kcon_tup, EV.Kcon_tupT, EV.Kcon_lst, EV.Kcon_live, EV.Wls_ap, EV.Wr_ctup, EV.Wr_clst, EV.Kc1_ap, EV.Kc2_ap, EV.Ktst_bl, EV.Ktst_tup, EV.Ktst_obj, EV.Wtl_lst, EV.KtstB_ap, EV.Knl_ap, EV.Kvl_ap, EV.Kitv_tup, EV.Kitv_obj, EV.Wlv_ap, EV.Kits_tup, EV.Kits_obj, EV.Wlc_ap, EV.Kenm_tup, EV.Kenm_obj, EV.Kzip_ap, EV.Kzip2_tup, EV.Krng_ap, EV.Krng2_0n, EV.Kasg_ap, EV.Wbd_nm, EV.Wbd_tup, EV.Wbds_nil, EV.Wbds_cons, EV.Kexp_ap, EV.Kret_ap, EV.Kseq_nx, EV.Kseq_rt, EV.Kseq_bk, EV.Kseq_ct, EV.Kif_t, EV.Kif_f, EV.Kset_ap, EV.Kset2_ap, EV.Kwhl_t, EV.Kwhl_f, EV.Kfor_nx, EV.Kfor_ct, EV.Kfor_bk, EV.Kfor_rt, EV.Kout_rt, EV.Kout_nx, EV.hp_get, EV.hp_get0, EV.hp_set, EV.hp_set0, List.getElem?_cons_zero, List.getElem?_cons_succ, List.set_cons_zero, List.set_cons_succ, List.length_cons, List.length_nil, List.length_map, List.getElem?_map, Option.map_some, Option.map_none, List.append_assoc, List.cons_append, List.nil_append, true_and, and_true, false_and, and_false, decide_true, decide_false, Bool.not_true, Bool.not_false, if_true, if_false, EV.isNon, and_self, Nat.zero_add, Bool.true_or, Bool.or_true, Bool.false_or, Bool.or_false, EV.gc_len, reduceIte, eq_self, Nat.reduceAdd, Int.reduceLT, Int.reduceLE, Int.reduceEq, Int.reduceNe, Int.reduceSub, Int.reduceAdd, Int.reduceMul, Int.reduceNeg, Int.reduceToNat, Int.cast_ofNat_Int, *])
local macro_rules | `(tactic| walk_at "v") => `(tactic| simp -implicitDefEqProofs (disch := first | omega | (simp only [List.length_cons, List.length_nil, List.length_map, List.length_append] <;> omega)) only [EV.Wb_nil, EV.Wb_pass, EV.Wb_asg, EV.Wb_expr, EV.Wb_ret, EV.Wb_retN, EV.Wb_brk, EV.Wb_cnt, EV.Wb_ite, EV.Wb_set, EV.Wb_for, EV.Wb_tryN, EV.We_cst, EV.We_var, EV.We_glb, EV.We_tup, EV.We_lst, EV.We_dnew, EV.We_bin, EV.We_neg, EV.We_not, EV.We_and, EV.We_or, EV.We_cmp, EV.We_chn, EV.We_ite, EV.We_idx, EV.We_call, EV.We_callK, EV.We_bf, EV.We_mt, EV.We_comp, EV.We_con, EV.Wl_nil, EV.Wl_cons, EV.Wi_itv, EV.Wi_its, EV.Wi_itc, EV.Wi_rng, EV.Wi_enm, EV.Wi_zip, EV.Wt_e, EV.Ws_e, EV.Wo_some, EV.Wv_some, EV.Wob_some, EV.Wtr_some, EV.Woi_some, EV.Ktup_ap, EV.Klst_ap, EV.Kbin_ap, EV.Kbin2_add, EV.Kbin2_sub, EV.Kbin2_mul, EV.Kbin2_mod, EV.Kbin2_fdiv, EV.Kneg_ap, EV.Kbl_ap, EV.Knot_ap, EV.Kand_t, EV.Kand_f, EV.Kor_t, EV.Kor_f, EV.Kcmp_ap, EV.Kcmp2_lt, EV.Kcmp2_le, EV.Kcmp2_gt, EV.Kcmp2_ge, EV.Kcmp2_eq, EV.Kcmp2_ne, EV.Kcmp2_is, EV.Kcmp2_isnot, EV.Kcmp2_isB, EV.Kchn_ap, EV.Kchn2_le, EV.Wch_t, EV.Wch_f, EV.Kife_t, EV.Kife_f, EV.Kidx_ap, EV.Kidx2_T0, EV.Kidx2_T1, EV.Kidx2_T2, EV.Kidx2_Tn, EV.Kidx2_O, EV.Wix_lst, EV.Wix_dK, EV.Wix_lkd, EV.Wix_dT, EV.atI_0, EV.atI_1, EV.atI_2, EV.atI_n, EV.Kcall_ap, EV.KcallK_ap, EV.KcallK2_ap, EV.Wpk_some, EV.Kbf_lenT, EV.Kbf_lenO, EV.Wln_lst, EV.Wln_dK, EV.Wln_dT, EV.Kbf_int, EV.Kbf_intB, EV.Kbf_min, EV.Kbf_max, EV.Kbf_isT, EV.Kbf_isI, EV.Kbf_isB, EV.Kbf_isS, EV.Kbf_isN, EV.Kbf_isO, EV.Wity_lst, EV.Kmt_app, EV.isLs_ap, EV.Kap_ap, EV.Wap_ap, EV.Kcon_tup, EV.Kcon_tupT, EV.Kcon_lst, EV.Kcon_live, EV.Wls_ap, EV.Wr_ctup, EV.Wr_clst, EV.Kc1_ap, EV.Kc2_ap, EV.Ktst_bl, EV.Ktst_tup, EV.Ktst_obj, EV.Wtl_lst, EV.KtstB_ap, EV.Knl_ap, EV.Kvl_ap, EV.Kitv_tup, EV.Kitv_obj, EV.Wlv_ap, EV.Kits_tup, EV.Kits_obj, EV.Wlc_ap, EV.Kenm_tup, EV.Kenm_obj, EV.Kzip_ap, EV.Kzip2_tup, EV.Krng_ap, EV.Krng2_0n, EV.Kasg_ap, EV.Wbd_nm, EV.Wbd_tup, EV.Wbds_nil, EV.Wbds_cons, EV.Kexp_ap, EV.Kret_ap, EV.Kseq_nx, EV.Kseq_rt, EV.Kseq_bk, EV.Kseq_ct, EV.Kif_t, EV.Kif_f, EV.Kset_ap, EV.Kset2_ap, EV.Kwhl_t, EV.Kwhl_f, EV.Kfor_nx, EV.Kfor_ct, EV.Kfor_bk, EV.Kfor_rt, EV.Kout_rt, EV.Kout_nx, EV.hp_get, EV.hp_get0, EV.hp_set, EV.hp_set0, List.getElem?_cons_zero, List.getElem?_cons_succ, List.set_cons_zero, List.set_cons_succ, List.length_cons, List.length_nil, List.length_map, List.getElem?_map, Option.map_some, Option.map_none, List.append_assoc, List.cons_append, List.nil_append, true_and, and_true, false_and, and_false, decide_true, decide_false, Bool.not_true, Bool.not_false, if_true, if_false, EV.isNon, and_self, Nat.zero_add, Bool.true_or, Bool.or_true, Bool.false_or, Bool.or_false, EV.gc_len, reduceIte, eq_self, Nat.reduceAdd, Int.reduceLT, Int.reduceLE, Int.reduceEq, Int.reduceNe, Int.reduceSub, Int.reduceAdd, Int.reduceMul, Int.reduceNeg, Int.reduceToNat, Int.cast_ofNat_Int])
local macro_rules | `(tactic| walk_at "u") => `(tactic| simp -implicitDefEqProofs (disch := first | omega | (simp only [List.length_cons, List.length_nil, List.length_map, List.length_append] <;> omega)) only [EV.Wb_nil, EV.Wb_pass, EV.Wb_asg, EV.Wb_expr, EV.Wb_ret, EV.Wb_retN, EV.Wb_brk, EV.Wb_cnt, EV.Wb_ite, EV.Wb_set, EV.Wb_for, EV.Wb_tryN, EV.We_cst, EV.We_var, EV.We_glb, EV.We_tup, EV.We_lst, EV.We_dnew, EV.We_bin, EV.We_neg, EV.We_not, EV.We_and, EV.We_or, EV.We_cmp, EV.We_chn, EV.We_ite, EV.We_idx, EV.We_call, EV.We_callK, EV.We_bf, EV.We_mt, EV.We_comp, EV.We_con, EV.Wl_nil, EV.Wl_cons, EV.Wi_itv, EV.Wi_its, EV.Wi_itc, EV.Wi_rng, EV.Wi_enm, EV.Wi_zip, EV.Wt_e, EV.Ws_e, EV.Wo_some, EV.Wv_some, EV.Wob_some, EV.Wtr_some, EV.Woi_some, EV.Ktup_ap, EV.Klst_ap, EV.Kbin_ap, EV.Kbin2_add, EV.Kbin2_sub, EV.Kbin2_mul, EV.Kbin2_mod, EV.Kbin2_fdiv, EV.Kneg_ap, EV.Kbl_ap, EV.Knot_ap, EV.Kand_t, EV.Kand_f, EV.Kor_t, EV.Kor_f, EV.Kcmp_ap, EV.Kcmp2_lt, EV.Kcmp2_le, EV.Kcmp2_gt, EV.Kcmp2_ge, EV.Kcmp2_eq, EV.Kcmp2_ne, EV.Kcmp2_is, EV.Kcmp2_isnot, EV.Kcmp2_isB, EV.Kchn_ap, EV.Kchn2_le, EV.Wch_t, EV.Wch_f, EV.Kife_t, EV.Kife_f, EV.Kidx_ap, EV.Kidx2_T0, EV.Kidx2_T1, EV.Kidx2_T2, EV.Kidx2_Tn, EV.Kidx2_O, EV.Wix_lst, EV.Wix_dK, EV.Wix_lkd, EV.Wix_dT, EV.atI_0, EV.atI_1, EV.atI_2, EV.atI_n, EV.Kcall_ap, EV.KcallK_ap, EV.KcallK2_ap, EV.Wpk_some, EV.Kbf_lenT, EV.Kbf_lenO, EV.Wln_lst, EV.Wln_dK, EV.Wln_dT, EV.Kbf_int, EV.Kbf_intB, EV.Kbf_min, EV.Kbf_max, EV.Kbf_isT, EV.Kbf_isI, EV.Kbf_isB, EV.Kbf_isS, EV.Kbf_isN, EV.Kbf_isO, EV.Wity_lst, EV.Kmt_app, EV.isLs_ap, EV.Kap_ap, EV.Wap_ap, EV.Kcon_tup, EV.Kcon_tupT, EV.Kcon_lst, EV.Kcon_live, EV.Wls_ap, EV.Wr_ctup, EV.Wr_clst, EV.Kc1_ap, EV.Kc2_ap, EV.Ktst_bl, EV.Ktst_tup, EV.Ktst_obj, EV.Wtl_lst, EV.KtstB_ap, EV.Knl_ap, EV.Kvl_ap, EV.Kitv_tup, EV.Kitv_obj, EV.Wlv_ap, EV.Kits_tup, EV.Kits_obj, EV.Wlc_ap, EV.Kenm_tup, EV.Kenm_obj, EV.Kzip_ap, EV.Kzip2_tup, EV.Krng_ap, EV.Krng2_0n, EV.Kasg_ap, EV.Wbd_nm, EV.Wbd_tup, EV.Wbds_nil, EV.Wbds_cons, EV.Kexp_ap, EV.Kret_ap, EV.Kseq_nx, EV.Kseq_rt, EV.Kseq_bk, EV.Kseq_ct, EV.Kif_t, EV.Kif_f, EV.Kset_ap, EV.Kset2_ap, EV.Kwhl_t, EV.Kwhl_f, EV.Kfor_nx, EV.Kfor_ct, EV.Kfor_bk, EV.Kfor_rt, EV.Kout_rt, EV.Kout_nx, EV.hp_get, EV.hp_get0, EV.hp_set, EV.hp_set0, List.getElem?_cons_zero, List.getElem?_cons_succ, List.set_cons_zero, List.set_cons_succ, List.length_cons, List.length_nil, List.length_map, List.getElem?_map, Option.map_some, Option.map_none, List.append_assoc, List.cons_append, List.nil_append, true_and, and_true, false_and, and_false, decide_true, decide_false, Bool.not_true, Bool.not_false, if_true, if_false, EV.isNon, and_self, Nat.zero_add, Bool.true_or, Bool.or_true, Bool.false_or, Bool.or_false, EV.gc_len, reduceIte, eq_self, Nat.reduceAdd, Int.reduceLT, Int.reduceLE, Int.reduceEq, Int.reduceNe, Int.reduceSub, Int.reduceAdd, Int.reduceMul, Int.reduceNeg, Int.reduceToNat, Int.cast_ofNat_Int, List.length_append, Nat.add_assoc, Option.isSome_none, Option.isSome_some, Option.bind_some, Option.bind_none, List.isEmpty_nil, List.isEmpty_cons, *, List.map_append, List.map_cons, List.map_nil])
theorem c40 {c : Clk} (o : c.Ok) {w : List (Nat × Nat)} (hw : TOk c.n w) {h : PH} (cl : Cl h) {K : KV} {k : Nat} (hk : 4 ≤ k) : Wc (P.cc k) 40 [c.pv, rowP w] h K = K (wrdP (c.tas w).1) h := by
  refine Wc_eq (w40 (by omega) ?_) K
  have hwl := hw.1
  unfold b40
  walk_at "w"
  refine Kfors_map (fun u r1 h1 => h1 = h ++ [.lst false ((c.tas u).1.map nI)] ∧ ∃ x y z, r1 = [some c.pv, some (rowP w), some (.obj h.length), some (nI (c.tas u).2), x, y, z]) (by rw [fuelE]; omega) ⟨rfl, _, _, _, rfl⟩ (fun pre a post r1 h1 hx ⟨e1, y, z, u, e2⟩ => ?_) fun r1 h1 ⟨e1, y, z, u, e2⟩ => ?_
  · subst e1 e2
    have hpre : ∀ p ∈ pre, p.2 < c.n := fun x m => (hw.2 x (by rw [hx]; exact List.mem_append_left _ m)).2
    have ha : a.2 < c.n := (hw.2 a (by rw [hx]; exact List.mem_append_right _ List.mem_cons_self)).2
    have hst := Clk.tas_lt o hpre
    have hrl := Clk.tas_len o hpre
    have hpl : pre.length ≤ w.length := by rw [hx, List.length_append]; omega
    obtain ⟨row, q1, _, q3, _⟩ := Clk.get o (Clk.st_ok o hst a.1)
    have q4 := q3 a.2 ha
    have hz : ((c.tas pre).1.map nI).length ≤ 16777215 := by rw [List.length_map, hrl]; omega
    have e3 : ∀ K, Wc (P.cc (k - 1)) 39 [c.pv, nI (c.tas pre).2, nI a.1] (h ++ [.lst false ((c.tas pre).1.map nI)]) K = _ := fun K => c39 o hst (cl_nats cl _) (by omega)
    walk_at "w"
    rw [Clk.tas_snoc]
    exact ⟨by simp [Clk.ta], _, _, _, rfl⟩
  · subst e1 e2
    have hrl := Clk.tas_len o (w := w) fun p m => (hw.2 p m).2
    have hz : ((c.tas w).1.map nI).length ≤ 16777216 := by rw [List.length_map, hrl]; omega
    walk_at "w"
    exact gc_flat cl (by show (flatL _) = true; rw [flat_nI])
/-! ### first waits -/
def Clk.bgk (c : Clk) (s i : Nat) : List (L2.Key × PV) := (List.range i).map fun j => (keyN (c.cr s j).1, nI (c.cr s j).2)
theorem Clk.bgk_len {c : Clk} {s i : Nat} : (c.bgk s i).length = i := by unfold Clk.bgk; rw [List.length_map, List.length_range]
theorem Clk.bgk_no {c : Clk} {s i x : Nat} (h : x ∉ c.ss s i) : look (keyN x) (c.bgk s i) = none := look_no fun a ha z => h (Clk.ss_mem.mpr ⟨a, List.mem_range.mp ha, keyN_inj z⟩)
theorem Clk.bgk_in {c : Clk} {s i b : Nat} (nd : (c.ss s i).Nodup) (hb : b < i) : look (keyN (c.cr s b).1) (c.bgk s i) = some (nI (c.cr s b).2) :=
  look_on (key := fun j => keyN (c.cr s j).1) (val := fun j => nI (c.cr s j).2) (List.mem_range.mpr hb) fun a ha z => by
    have h1 := keyN_inj z
    have h2 := List.mem_range.mp ha
    have e1 := Clk.ss_get (c := c) (s := s) (i := i) (j := a) h2
    have e2 := Clk.ss_get (c := c) (s := s) (i := i) (j := b) hb
    rw [h1] at e1
    have := (List.getElem?_inj (by rw [Clk.ss_len]; omega) nd).mp (e1.trans e2.symm)
    rw [this]
theorem Clk.bgk_put {c : Clk} {s i : Nat} (h : (c.cr s i).1 ∉ c.ss s i) : put (keyN (c.cr s i).1) (nI (c.cr s i).2) (c.bgk s i) = c.bgk s (i + 1) := by
  unfold Clk.bgk
  rw [put_no fun a ha z => h (Clk.ss_mem.mpr ⟨a, List.mem_range.mp ha, keyN_inj z⟩), List.range_succ, List.map_append]
  rfl
theorem Clk.fw_eq {c : Clk} {s i v a : Nat} : c.fw s i v a = ((List.range i).filter fun j => decide ((c.stp (c.cr s j).1 v).1 = a)).map fun j => (c.cr s j).2 := by
  unfold Clk.fw Clk.crs
  rw [List.filter_map, List.map_map]
  rfl
theorem Clk.fw_up {c : Clk} (o : c.Ok) {s i v a : Nat} (hs : s < c.rows.length) {b : Option Nat} (E : c.End s i b) : (c.fw s i v a).Pairwise (· ≤ ·) := by
  rw [Clk.fw_eq, List.pairwise_map]
  refine List.Pairwise.sublist (List.filter_sublist) ?_
  refine List.Pairwise.imp_of_mem (R := (· < ·)) (fun {x y} hx hy hlt => ?_) List.pairwise_lt_range
  have hy := List.mem_range.mp hy
  have g : c.go s (i - 1) := by
    cases b with
    | none => exact E.fin.1
    | some b => exact Clk.go_le E.fin.1 (by omega)
  exact Nat.le_of_lt (Clk.cr_mono o hs (Clk.go_le g (by omega)) hlt)
theorem pick4 {a b c d : PV} : pick [a, b, c, d] [3, 2, 1, 0] = some [d, c, b, a] := rfl
theorem pick3 {a b c : PV} : pick [a, b, c] [2, 1, 0] = some [c, b, a] := rfl
theorem pick2 {a b : PV} : pick [a, b] [1, 0] = some [b, a] := rfl
theorem pick1 {a : PV} : pick [a] [0] = some [a] := rfl
theorem Wr_ok {v : PV} {h : PH} {K : KV} : Wr (.ok v h) K = K v h := rfl
abbrev ss41 : List EV.S := [.ret (.cst (.bl true))]
abbrev bo41 : List EV.S := [.asg (.nm 7) (.compD (.idx (.var 2) (.var 9)) (.nm 9) 2 (.cmp .eq (.idx (.idx (.idx (.idx (.idx (.var 0) (.cst (.int 2))) (.var 9)) (.cst (.int 1))) (.var 5)) (.cst (.int 0))) (.var 6)) [9]), .asg (.nm 8) (.callK 30 [] [.var 6, .var 5, .var 1, .var 0] [3, 2, 1, 0]), .ite (.not (.call 35 [.var 8, .ite (.cmp .ne (.var 7) (.lst [])) (.con .min (.its (.var 7))) (.cst .non)])) [.ret (.cst (.bl false))] []]
abbrev bo41o : List EV.S := [.forS (.nm 6) (.rng (.cst (.int 0)) (.idx (.var 0) (.cst (.int 1)))) bo41]
theorem lik_opt {x : Option Nat} : lik 0 (optI x) := by cases x <;> trivial
section
variable {c : Clk} (o : c.Ok) {s i : Nat} (hs : s < c.rows.length) {b : Option Nat} (E : c.End s i b) {h : PH} (cl : Cl h)
include o hs E cl
theorem x41 {v a : Nat} (hv : v < c.n) (ha : a < c.A) {g : PH} (cg : Cl (h ++ .dK (c.bgk s i) :: g)) {x3 x4 x7 x8 x9 : Option PV} {k : Nat} (hk : 7 ≤ k) {ss : List EV.S} {Q : Rt → Prop} {J : EV.Env → PH → Prop}
    (hJ : ∀ g' x7 x8 x9, Cl (h ++ .dK (c.bgk s i) :: g') → J [some c.pv, some (nI s), some (.obj h.length), x3, x4, some (nI v), some (nI a), x7, x8, x9] (h ++ .dK (c.bgk s i) :: g')) :
    Wb (P.cc k) bo41 [some c.pv, some (nI s), some (.obj h.length), x3, x4, some (nI v), some (nI a), x7, x8, x9] (h ++ .dK (c.bgk s i) :: g) (Kfor (P.cc k) ss Q J) := by
  walk_at "u"
  refine We_compD (n := h.length) (kvs := c.bgk s i) rfl hp_get0 ?_
  have ek : (c.bgk s i).map (·.1) = (List.range i).map fun j => keyN (c.cr s j).1 := by unfold Clk.bgk; rw [List.map_map]; rfl
  have hle := E.le
  have t20 := o.t20
  rw [ek, hp_set0]
  refine Klp_filter (l := List.range i) (f := fun j => ofKey (keyN (c.cr s j).1)) (g := fun j => nI (c.cr s j).2) (p := fun j => decide ((c.stp (c.cr s j).1 v).1 = a)) (by rw [fuelE, List.length_range]; omega) (by rw [List.length_range]; omega) iw_keys (fun j hj => ?_) ?_
  · have hj := List.mem_range.mp hj
    obtain ⟨r, e, _, h3, _⟩ := Clk.get o (Clk.cr_lt o hs j)
    have h4 := h3 v hv
    have h5 := Clk.bgk_in E.nd hj
    have h6 : ofKey (keyN (c.cr s j).1) = nI (c.cr s j).1 := rfl
    simp only [wipeP]
    (have zz0 := @toKey_n; walk_at "u")
    exact ⟨by congr 1; apply propext; omega, fun _ => trivial⟩
  · have ef : ((List.range i).filter fun j => decide ((c.stp (c.cr s j).1 v).1 = a)).map (fun j => nI (c.cr s j).2) = (c.fw s i v a).map nI := by rw [Clk.fw_eq, List.map_map]; rfl
    rw [ef]
    refine ⟨h ++ .dK (c.bgk s i) :: g, by unfold unlockD; rw [hp_get0]; simp [hp_set0], ?_⟩
    have cg1 : Cl (h ++ .dK (c.bgk s i) :: (g ++ [.lst false ((c.fw s i v a).map nI)])) := by
      have := cg.lst (fz := false) (flat_nI (l := c.fw s i v a))
      rwa [List.append_assoc] at this
    have cg2 : Cl (h ++ .dK (c.bgk s i) :: (g ++ [.lst false ((c.fw s i v a).map nI), .lst false []])) := by
      have := cg1.lst (fz := false) (xs := []) rfl
      rw [List.append_assoc] at this
      simpa using this
    have hw2 := fun x7 x8 x9 => hJ _ x7 x8 x9 cg2
    have up := Clk.fw_up (v := v) (a := a) o hs E
    have e30 : ∀ K, Wc (P.cc k) 30 [c.pv, nI s, nI v, nI a] (h ++ .dK (c.bgk s i) :: (g ++ [.lst false ((c.fw s i v a).map nI)])) K = K (optI (c.fw s i v a).head?) _ := fun K => c30 o hs hv ha E cg1 hk
    generalize c.fw s i v a = l at *
    have ene : ∀ K, Kcmp2 K .ne (.obj (h.length + (g.length + 1))) (.obj (h.length + (g.length + 2))) (h ++ .dK (c.bgk s i) :: (g ++ [.lst false (l.map nI), .lst false []])) = K (.bl (!l.isEmpty)) (h ++ .dK (c.bgk s i) :: (g ++ [.lst false (l.map nI), .lst false []])) := fun K => Kne_nil (l := l) dat_nat (by decide) (by rw [hp_get, List.getElem?_cons_succ, hp_get0]; rfl) (by rw [hp_get]; show (g ++ _)[g.length + 1]? = _; rw [hp_get]; rfl)
    have e35 : ∀ K, Wc (P.cc k) 35 [optI l.head?, optI l.head?] (h ++ .dK (c.bgk s i) :: (g ++ [.lst false (l.map nI), .lst false []])) K = K (.bl true) _ := fun K => c35 0 _ lik_opt cg2 (by omega)
    clear hJ
    cases hl : l.head? with
    | none =>
      have h0 : l = [] := List.head?_eq_none_iff.mp hl
      have h1 : l.isEmpty = true := by rw [h0]; rfl
      rw [hl] at e30 e35
      have ho : optI none = .non := rfl
      rw [ho] at e30 e35
      clear h0 up cg1
      (have zz0 := @@pick4; walk_at "u")
    | some x =>
      have h1 : l.isEmpty = false := by cases l with | nil => cases hl | cons => rfl
      have hm : ∀ H, conop .min (l.map nI) H = .ok (nI x) H := fun H => by
        cases l with
        | nil => cases hl
        | cons y l =>
          cases hl
          exact conop_min fun b hb => List.rel_of_pairwise_cons up hb
      rw [hl] at e30 e35
      have ho : optI (some x) = nI x := rfl
      rw [ho] at e30 e35
      clear up cg1
      (have zz0 := @@pick4; have zz1 := @@Wr_ok; walk_at "u")
end
theorem cl_bgk {c : Clk} {s i : Nat} {h : PH} (cl : Cl h) : Cl (h ++ [.dK (c.bgk s i)]) := cl.app (by
  rw [List.all_cons, List.all_nil, Bool.and_true]
  show oldL h.length ((c.bgk s i).map (·.2)) = true
  have : (c.bgk s i).map (·.2) = ((List.range i).map fun j => (c.cr s j).2).map nI := by unfold Clk.bgk; rw [List.map_map, List.map_map]; rfl
  rw [this]
  exact flatL_old _ flat_nI)
section
variable {c : Clk} (o : c.Ok) {s i : Nat} (hs : s < c.rows.length) {b : Option Nat} (E : c.End s i b) {h : PH} (cl : Cl h)
include o hs E cl
theorem x41r {g : PH} (cg : Cl (h ++ .dK (c.bgk s i) :: g)) {x3 x4 x5 x6 x7 x8 x9 : Option PV} {k : Nat} (hk : 7 ≤ k) {K : KV} (hK : K (.bl true) h) :
    Kfors (P.cc k) ss41 [some c.pv, some (nI s), some (.obj h.length), x3, x4, x5, x6, x7, x8, x9] (Kout h.length K) (.nm 5) bo41o (.rng 0 c.n) (h ++ .dK (c.bgk s i) :: g) := by
  have n4 := o.n4
  have a9 := o.a9
  refine Kfors_rng0 (fun v r1 h1 => ∃ g x5 x6 x7 x8 x9, Cl (h ++ .dK (c.bgk s i) :: g) ∧ h1 = h ++ .dK (c.bgk s i) :: g ∧ r1 = [some c.pv, some (nI s), some (.obj h.length), x3, x4, x5, x6, x7, x8, x9]) (by rw [fuelE]; omega) ⟨g, _, _, _, _, _, cg, rfl, rfl⟩ (fun v r1 h1 hv ⟨g, x5, x6, x7, x8, x9, z1, z2, z3⟩ => ?_) fun r1 h1 ⟨g, x5, x6, x7, x8, x9, z1, z2, z3⟩ => ?_
  · subst z2 z3
    clear hK
    walk_at "u"
    refine Kfors_rng0 (fun a r1 h1 => ∃ g x6 x7 x8 x9, Cl (h ++ .dK (c.bgk s i) :: g) ∧ h1 = h ++ .dK (c.bgk s i) :: g ∧ r1 = [some c.pv, some (nI s), some (.obj h.length), x3, x4, some (nI v), x6, x7, x8, x9]) (by rw [fuelE]; omega) ⟨g, _, _, _, _, z1, rfl, rfl⟩ (fun a r1 h1 ha ⟨g, x6, x7, x8, x9, z1, z2, z3⟩ => ?_) fun r1 h1 ⟨g, x6, x7, x8, x9, z1, z2, z3⟩ => ?_
    · subst z2 z3
      rw [Wbd_nm]
      exact x41 o hs E cl hv ha z1 hk fun g' x7 x8 x9 cl' => ⟨g', _, _, _, _, cl', rfl, rfl⟩
    · subst z2 z3
      walk_at "u"
      exact ⟨g, _, _, _, _, _, z1, rfl, rfl⟩
  · subst z2 z3
    have e := gc_flat (v := .bl true) (g := .dK (c.bgk s i) :: g) cl rfl
    walk_at "u"
end
theorem c41 {c : Clk} (o : c.Ok) {s : Nat} (hs : s < c.rows.length) {h : PH} (cl : Cl h) {K : KV} {k : Nat} (hk : 8 ≤ k) : Wc (P.cc k) 41 [c.pv, nI s] h K = K (.bl true) h := by
  refine Wc_eq (w41 (by omega) ?_) K
  unfold b41
  have t20 := o.t20
  have n4 := o.n4
  (have zz0 := @@We_dnew; have zz1 := @@Bool.false_eq_true; walk_at "u")
  refine Wb_whl (m := c.rows.length) (by rw [fuelE]; omega) (I := fun m r1 h1 => ∃ i, m = c.rows.length - i ∧ c.go s i ∧ (c.ss s i).Nodup ∧ h1 = h ++ [.dK (c.bgk s i)] ∧ r1 = [some c.pv, some (nI s), some (.obj h.length), some (nI (c.cr s i).1), some (nI (c.cr s i).2), none, none, none, none, none])
    ⟨0, rfl, (fun j hj => absurd hj (Nat.not_lt_zero _)), .nil, rfl, rfl⟩ fun m r1 h1 ⟨i, j1, go, nd, z1, z2⟩ => ?_
  subst z1 z2
  have hle := Clk.ss_le o hs nd
  have lx := Clk.cr_lt o hs i
  have e1 : (h ++ [.dK (c.bgk s i)])[h.length]? = some (.dK (c.bgk s i)) := hp_get0
  have hin := isIn_dK (x := nI (c.cr s i).1) e1 toKey_n
  by_cases hm : (c.cr s i).1 ∈ c.ss s i
  · obtain ⟨b, hb, hc⟩ := Clk.ss_mem.mp hm
    have hd := Clk.bgk_in nd hb
    rw [hc] at hd
    rw [hd] at hin
    have E : c.End s i (some b) := ⟨by omega, hle, nd, go, hb, hc⟩
    have fin := x41r (K := fun v' h' => v' = .bl true ∧ h' = h) o hs E cl (g := []) (cl_bgk cl) (x3 := some (nI (c.cr s i).1)) (x4 := some (nI (c.cr s i).2)) (x5 := none) (x6 := none) (x7 := none) (x8 := none) (x9 := none) (k := k - 1) (by omega) ⟨rfl, rfl⟩
    clear E hc hd
    (have zz0 := @Kcmp2_notin; walk_at "u")
  · rw [Clk.bgk_no hm] at hin
    have nd2 := Clk.ss_nd nd hm
    have hle2 := Clk.ss_le o hs nd2
    obtain ⟨r, e, h2, _⟩ := Clk.get o lx
    have e3 := fun c' ss r Q => Kset3_dK (c := c') (ss := ss) (r := r) (Q := Q) (v := nI (c.cr s i).2) (x := nI (c.cr s i).1) e1 toKey_n (by rw [Clk.bgk_len]; omega)
    rw [Clk.bgk_put hm, hp_set0] at e3
    cases q : c.out (c.cr s i).1 with
    | none =>
      rw [q] at h2
      have E : c.End s (i + 1) none := ⟨by omega, hle2, nd2, go, q⟩
      have fin := x41r (K := fun v' h' => v' = .bl true ∧ h' = h) o hs E cl (g := []) (cl_bgk cl) (x3 := some (nI (c.cr s i).1)) (x4 := some (nI (c.cr s i).2)) (x5 := none) (x6 := none) (x7 := none) (x8 := none) (x9 := none) (k := k - 1) (by omega) ⟨rfl, rfl⟩
      clear E
      (have zz0 := @Kcmp2_notin; have zz1 := @outP_none; walk_at "u")
    | some p =>
      rw [q] at h2
      (have zz0 := @Kcmp2_notin; have zz1 := @outP_some; have zz2 := @isNon_pv2; walk_at "u")
      refine ⟨c.rows.length - (i + 1), by omega, i + 1, rfl, fun j hj => ?_, nd2, rfl, ?_⟩
      · by_cases hji : j = i
        · rw [hji]; exact ⟨p, q⟩
        · exact go j (by omega)
      · rw [Clk.cr_succ q]; rfl
end Lw
end
section
set_option Elab.async false
set_option linter.all false
set_option maxRecDepth 100000
namespace Lw
open PySem EV
local macro_rules | `(tactic| walk_at "w") => `(tactic| simp -implicitDefEqProofs (disch := first | omega | (simp only [List.length_cons, List.length_nil, List.length_map, List.length_append] <;> omega)) only [EV.Wb_nil, EV.Wb_pass, EV.Wb_asg, EV.Wb_expr, EV.Wb_ret, EV.Wb_retN, EV.Wb_brk, EV.Wb_cnt, EV.Wb_ite, EV.Wb_set, EV.Wb_for, EV.Wb_tryN, EV.We_cst, EV.We_var, EV.We_glb, EV.We_tup, EV.We_lst, EV.We_dnew, EV.We_bin, EV.We_neg, EV.We_not, EV.We_and, EV.We_or, EV.We_cmp, EV.We_chn, EV.We_ite, EV.We_idx, EV.We_call, EV.We_callK, EV.We_bf, EV.We_mt, EV.We_comp, EV.We_con, EV.Wl_nil, EV.Wl_cons, EV.Wi_itv, EV.Wi_its, EV.Wi_itc, EV.Wi_rng, EV.Wi_enm, EV.Wi_zip, EV.Wt_e, EV.Ws_e, EV.Wo_some, EV.Wv_some, EV.Wob_some, EV.Wtr_some, EV.Woi_some, EV.Ktup_ap, EV.Klst_ap, EV.Kbin_ap, EV.Kbin2_add, EV.Kbin2_sub, EV.Kbin2_mul, EV.Kbin2_mod, EV.Kbin2_fdiv, EV.Kneg_ap, EV.Kbl_ap, EV.Knot_ap, EV.Kand_t, EV.Kand_f, EV.Kor_t, EV.Kor_f, EV.Kcmp_ap, EV.Kcmp2_lt, EV.Kcmp2_le, EV.Kcmp2_gt, EV.Kcmp2_ge, EV.Kcmp2_eq, EV.Kcmp2_ne, EV.Kcmp2_is, EV.Kcmp2_isnot, EV.Kcmp2_isB, EV.Kchn_ap, EV.Kchn2_le, EV.Wch_t, EV.Wch_f, EV.Kife_t, EV.Kife_f, EV.Kidx_ap, EV.Kidx2_T0, EV.Kidx2_T1, EV.Kidx2_T2, EV.Kidx2_Tn, EV.Kidx2_O, EV.Wix_lst, EV.Wix_dK, EV.Wix_lkd, EV.Wix_dT, EV.atI_0, EV.atI_1, EV.atI_2, EV.atI_n, EV.Kcall_ap, EV.KcallK_ap, EV.KcallK2_ap, EV.Wpk_some, EV.Kbf_lenT, EV.Kbf_lenO, EV.Wln_lst, EV.Wln_dK, EV.Wln_dT, EV.Kbf_int, EV.Kbf_intB, EV.Kbf_min, EV.Kbf_max, EV.Kbf_isT, EV.Kbf_isI, EV.Kbf_isB, EV.Kbf_isS, EV.Kbf_isN, EV.Kbf_isO, EV.Wity_lst, EV.Kmt_app, EV.isLs_ap, EV.Kap_ap, EV.Wap_ap, EV.Kcon_tup, EV.Kcon_tupT, EV.Kcon_lst, EV.Kcon_live, EV.Wls_ap, EV.Wr_ctup, EV.Wr_clst, EV.Kc1_ap, EV.Kc2_ap, EV.Ktst_bl, EV.Ktst_tup, EV.Ktst_obj, EV.Wtl_lst, EV.KtstB_ap, EV.Knl_ap, EV.Kvl_ap, EV.Kitv_tup, EV.Kitv_obj, EV.Wlv_ap, EV.Kits_tup, EV.Kits_obj, EV.Wlc_ap, EV.Kenm_tup, EV.Kenm_obj, EV.Kzip_ap, EV.Kzip2_tup, EV.Krng_ap, EV.Krng2_0n, EV.Kasg_ap, EV.Wbd_nm, EV.Wbd_tup, EV.Wbds_nil, EV.Wbds_cons, EV.Kexp_ap, EV.Kret_ap, EV.Kseq_nx, EV.Kseq_rt, EV.Kseq_bk, EV.Kseq_ct, EV.Kif_t, EV.Kif_f, EV.Kset_ap, EV.Kset2_ap, EV.Kwhl_t, EV.Kwhl_f, EV.Kfor_nx, EV.Kfor_ct, EV.Kfor_bk, EV.Kfor_rt, EV.Kout_rt, EV.Kout_nx, EV.hp_get, EV.hp_get0, EV.hp_set, EV.hp_set0, List.getElem?_cons_zero, List.getElem?_cons_succ, List.set_cons_zero, List.set_cons_succ, List.length_cons, List.length_nil, List.length_map, List.getElem?_map, Option.map_some, Option.map_none, List.append_assoc, List.cons_append, List.nil_append, true_and, and_true, false_and, and_false, decide_true, decide_false, Bool.not_true, Bool.not_false, if_true, if_false, EV.isNon, and_self, Nat.zero_add, Bool.true_or, Bool.or_true, Bool.false_or, Bool.or_false, EV.gc_len, reduceIte, eq_self, Nat.reduceAdd, Int.reduceLT, Int.reduceLE, Int.reduceEq, Int.reduceNe, Int.reduceSub, Int.reduceAdd, Int.reduceMul, Int.reduceNeg, Int.reduceToNat, Int.cast_ofNat_Int, *])
local macro_rules | `(tactic| walk_at "v") => `(tactic| simp -implicitDefEqProofs (disch := first | omega | (simp only [List.length_cons, List.length_nil, List.length_map, List.length_append] <;> omega)) only [EV.Wb_nil, EV.Wb_pass, EV.Wb_asg, EV.Wb_expr, EV.Wb_ret, EV.Wb_retN, EV.Wb_brk, EV.Wb_cnt, EV.Wb_ite, EV.Wb_set, EV.Wb_for, EV.Wb_tryN, EV.We_cst, EV.We_var, EV.We_glb, EV.We_tup, EV.We_lst, EV.We_dnew, EV.We_bin, EV.We_neg, EV.We_not, EV.We_and, EV.We_or, EV.We_cmp, EV.We_chn, EV.We_ite, EV.We_idx, EV.We_call, EV.We_callK, EV.We_bf, EV.We_mt, EV.We_comp, EV.We_con, EV.Wl_nil, EV.Wl_cons, EV.Wi_itv, EV.Wi_its, EV.Wi_itc, EV.Wi_rng, EV.Wi_enm, EV.Wi_zip, EV.Wt_e, EV.Ws_e, EV.Wo_some, EV.Wv_some, EV.Wob_some, EV.Wtr_some, EV.Woi_some, EV.Ktup_ap, EV.Klst_ap, EV.Kbin_ap, EV.Kbin2_add, EV.Kbin2_sub, EV.Kbin2_mul, EV.Kbin2_mod, EV.Kbin2_fdiv, EV.Kneg_ap, EV.Kbl_ap, EV.Knot_ap, EV.Kand_t, EV.Kand_f, EV.Kor_t, EV.Kor_f, EV.Kcmp_ap, EV.Kcmp2_lt, EV.Kcmp2_le, EV.Kcmp2_gt, EV.Kcmp2_ge, EV.Kcmp2_eq, EV.Kcmp2_ne, EV.Kcmp2_is, EV.Kcmp2_isnot, EV.Kcmp2_isB, EV.Kchn_ap, EV.Kchn2_le, EV.Wch_t, EV.Wch_f, EV.Kife_t, EV.Kife_f, EV.Kidx_ap, EV.Kidx2_T0, EV.Kidx2_T1, EV.Kidx2_T2, EV.Kidx2_Tn, EV.Kidx2_O, EV.Wix_lst, EV.Wix_dK, EV.Wix_lkd, EV.Wix_dT, EV.atI_0, EV.atI_1, EV.atI_2, EV.atI_n, EV.Kcall_ap, EV.KcallK_ap, EV.KcallK2_ap, EV.Wpk_some, EV.Kbf_lenT, EV.Kbf_lenO, EV.Wln_lst, EV.Wln_dK, EV.Wln_dT, EV.Kbf_int, EV.Kbf_intB, EV.Kbf_min, EV.Kbf_max, EV.Kbf_isT, EV.Kbf_isI, EV.Kbf_isB, EV.Kbf_isS, EV.Kbf_isN, EV.Kbf_isO, EV.Wity_lst, EV.Kmt_app, EV.isLs_ap, EV.Kap_ap, EV.Wap_ap, EV.Kcon_tup, EV.Kcon_tupT, EV.Kcon_lst, EV.Kcon_live, EV.Wls_ap, EV.Wr_ctup, EV.Wr_clst, EV.Kc1_ap, EV.Kc2_ap, EV.Ktst_bl, EV.Ktst_tup, EV.Ktst_obj, EV.Wtl_lst, EV.KtstB_ap, EV.Knl_ap, EV.Kvl_ap, EV.Kitv_tup, EV.Kitv_obj, EV.Wlv_ap, EV.Kits_tup, EV.Kits_obj, EV.Wlc_ap, EV.Kenm_tup, EV.Kenm_obj, EV.Kzip_ap, EV.Kzip2_tup, EV.Krng_ap, EV.Krng2_0n, EV.Kasg_ap, EV.Wbd_nm, EV.Wbd_tup, EV.Wbds_nil, EV.Wbds_cons, EV.Kexp_ap, EV.Kret_ap, EV.Kseq_nx, EV.Kseq_rt, EV.Kseq_bk, EV.Kseq_ct, EV.Kif_t, EV.Kif_f, EV.Kset_ap, EV.Kset2_ap, EV.Kwhl_t, EV.Kwhl_f, EV.Kfor_nx, EV.Kfor_ct, EV.Kfor_bk, EV.Kfor_rt, EV.Kout_rt, EV.Kout_nx, EV.hp_get, EV.hp_get0, EV.hp_set, EV.hp_set0, List.getElem?_cons_zero, List.getElem?_cons_succ, List.set_cons_zero, List.set_cons_succ, List.length_cons, List.length_nil, List.length_map, List.getElem?_map, Option.map_some, Option.map_none, List.append_assoc, List.cons_append, List.nil_append, true_and, and_true, false_and, and_false, decide_true, decide_false, Bool.not_true, Bool.not_false, if_true, if_false, EV.isNon, and_self, Nat.zero_add, Bool.true_or, Bool.or_true, Bool.false_or, Bool.or_false, EV.gc_len, reduceIte, eq_self, Nat.reduceAdd, Int.reduceLT, Int.reduceLE, Int.reduceEq, Int.reduceNe, Int.reduceSub, Int.reduceAdd, Int.reduceMul, Int.reduceNeg, Int.reduceToNat, Int.cast_ofNat_Int])
local macro_rules | `(tactic| walk_at "u") => `(tactic| simp -implicitDefEqProofs (disch := first | omega | (simp only [List.length_cons, List.length_nil, List.length_map, List.length_append] <;> omega)) only [EV.Wb_nil, EV.Wb_pass, EV.Wb_asg, EV.Wb_expr, EV.Wb_ret, EV.Wb_retN, EV.Wb_brk, EV.Wb_cnt, EV.Wb_ite, EV.Wb_set, EV.Wb_for, EV.Wb_tryN, EV.We_cst, EV.We_var, EV.We_glb, EV.We_tup, EV.We_lst, EV.We_dnew, EV.We_bin, EV.We_neg, EV.We_not, EV.We_and, EV.We_or, EV.We_cmp, EV.We_chn, EV.We_ite, EV.We_idx, EV.We_call, EV.We_callK, EV.We_bf, EV.We_mt, EV.We_comp, EV.We_con, EV.Wl_nil, EV.Wl_cons, EV.Wi_itv, EV.Wi_its, EV.Wi_itc, EV.Wi_rng, EV.Wi_enm, EV.Wi_zip, EV.Wt_e, EV.Ws_e, EV.Wo_some, EV.Wv_some, EV.Wob_some, EV.Wtr_some, EV.Woi_some, EV.Ktup_ap, EV.Klst_ap, EV.Kbin_ap, EV.Kbin2_add, EV.Kbin2_sub, EV.Kbin2_mul, EV.Kbin2_mod, EV.Kbin2_fdiv, EV.Kneg_ap, EV.Kbl_ap, EV.Knot_ap, EV.Kand_t, EV.Kand_f, EV.Kor_t, EV.Kor_f, EV.Kcmp_ap, EV.Kcmp2_lt, EV.Kcmp2_le, EV.Kcmp2_gt, EV.Kcmp2_ge, EV.Kcmp2_eq, EV.Kcmp2_ne, EV.Kcmp2_is, EV.Kcmp2_isnot, EV.Kcmp2_isB, EV.Kchn_ap, EV.Kchn2_le, EV.Wch_t, EV.Wch_f, EV.Kife_t, EV.Kife_f, EV.Kidx_ap, EV.Kidx2_T0, EV.Kidx2_T1, EV.Kidx2_T2, EV.Kidx2_Tn, EV.Kidx2_O, EV.Wix_lst, EV.Wix_dK, EV.Wix_lkd, EV.Wix_dT, EV.atI_0, EV.atI_1, EV.atI_2, EV.atI_n, EV.Kcall_ap, EV.KcallK_ap, EV.KcallK2_ap, EV.Wpk_some, EV.Kbf_lenT, EV.Kbf_lenO, EV.Wln_lst, EV.Wln_dK, EV.Wln_dT, EV.Kbf_int, EV.Kbf_intB, EV.Kbf_min, EV.Kbf_max, EV.Kbf_isT, EV.Kbf_isI, EV.Kbf_isB, EV.Kbf_isS, EV.Kbf_isN, EV.Kbf_isO, EV.Wity_lst, EV.Kmt_app, EV.isLs_ap, EV.Kap_ap, EV.Wap_ap, EV.Kcon_tup, EV.Kcon_tupT, EV.Kcon_lst, EV.Kcon_live, EV.Wls_ap, EV.Wr_ctup, EV.Wr_clst, EV.Kc1_ap, EV.Kc2_ap, EV.Ktst_bl, EV.Ktst_tup, EV.Ktst_obj, EV.Wtl_lst, EV.KtstB_ap, EV.Knl_ap, EV.Kvl_ap, EV.Kitv_tup, EV.Kitv_obj, EV.Wlv_ap, EV.Kits_tup, EV.Kits_obj, EV.Wlc_ap, EV.Kenm_tup, EV.Kenm_obj, EV.Kzip_ap, EV.Kzip2_tup, EV.Krng_ap, EV.Krng2_0n, EV.Kasg_ap, EV.Wbd_nm, EV.Wbd_tup, EV.Wbds_nil, EV.Wbds_cons, EV.Kexp_ap, EV.Kret_ap, EV.Kseq_nx, EV.Kseq_rt, EV.Kseq_bk, EV.Kseq_ct, EV.Kif_t, EV.Kif_f, EV.Kset_ap, EV.Kset2_ap, EV.Kwhl_t, EV.Kwhl_f, EV.Kfor_nx, EV.Kfor_ct, EV.Kfor_bk, EV.Kfor_rt, EV.Kout_rt, EV.Kout_nx, EV.hp_get, EV.hp_get0, EV.hp_set, EV.hp_set0, List.getElem?_cons_zero, List.getElem?_cons_succ, List.set_cons_zero, List.set_cons_succ, List.length_cons, List.length_nil, List.length_map, List.getElem?_map, Option.map_some, Option.map_none, List.append_assoc, List.cons_append, List.nil_append, true_and, and_true, false_and, and_false, decide_true, decide_false, Bool.not_true, Bool.not_false, if_true, if_false, EV.isNon, and_self, Nat.zero_add, Bool.true_or, Bool.or_true, Bool.false_or, Bool.or_false, EV.gc_len, reduceIte, eq_self, Nat.reduceAdd, Int.reduceLT, Int.reduceLE, Int.reduceEq, Int.reduceNe, Int.reduceSub, Int.reduceAdd, Int.reduceMul, Int.reduceNeg, Int.reduceToNat, Int.cast_ofNat_Int, List.length_append, Nat.add_assoc, Option.isSome_none, Option.isSome_some, Option.bind_some, Option.bind_none, List.isEmpty_nil, List.isEmpty_cons, *, List.map_append, List.map_cons, List.map_nil])
/-- lists of data alone -/
def Fl (t : PH) : Prop := ∀ o ∈ t, ∃ fz xs, o = .lst fz xs ∧ flatL xs = true
theorem Fl.nil : Fl [] := fun o h => by cases h
theorem Fl.lst {t : PH} {fz : Bool} {xs : List PV} (f : Fl t) (h : flatL xs = true) : Fl (t ++ [.lst fz xs]) := fun o ho => by
  rcases List.mem_append.mp ho with z | z
  · exact f o z
  · exact ⟨fz, xs, List.mem_singleton.mp z, h⟩
theorem Fl.app {t u : PH} (f : Fl t) (h : Fl u) : Fl (t ++ u) := fun o ho => (List.mem_append.mp ho).elim (f o) (h o)
theorem Fl.cons {t : PH} {fz : Bool} {xs : List PV} (f : Fl t) (h : flatL xs = true) : Fl (.lst fz xs :: t) := fun o ho => by
  rcases List.mem_cons.mp ho with z | z
  · exact ⟨fz, xs, z, h⟩
  · exact f o z
theorem Fl.old {t : PH} (f : Fl t) (n : Nat) : t.all (·.old n) = true := by
  rw [List.all_eq_true]
  intro o ho
  obtain ⟨fz, xs, rfl, h⟩ := f o ho
  exact flatL_old xs h
theorem Fl.cl {h t : PH} (f : Fl t) (c : Cl h) : Cl (h ++ t) := c.app (f.old _)
theorem Fl.cg {g t : PH} (f : Fl t) (c : Cg g) : Cg (g ++ t) := c.app (f.old _)
theorem flat_steps {l : List (Nat × (Nat × Nat))} : flatL (l.map stepP) = true := flatL_map fun _ _ => rfl
abbrev wh43 : EV.E := .cmp .lt (.bf .len [.var 5]) (.bf .len [.var 4])
abbrev bd43 : List EV.S := [.asg (.tup [.nm 6, .nm 7]) (.idx (.var 4) (.bf .len [.var 5])), .asg (.nm 8) (.comp (.tup [.var 9, .tup [.var 18, .cst (.int 0)]]) (.tup [.nm 9, .nm 18]) (.itv (.idx (.idx (.idx (.var 1) (.cst (.int 2))) (.var 6)) (.cst (.int 1)))) (.cst (.bl true)) [9, 18]), .expr (.mt .append (.var 8) [.tup [.cst (.int 0), .ite (.cmp .isnot (.idx (.idx (.idx (.var 1) (.cst (.int 2))) (.var 6)) (.cst (.int 0))) (.cst .non)) (.call 37 [.var 1, .tup [.var 6, .var 7]]) (.tup [.var 6, .cst (.int 0)])]]), .forS (.tup [.nm 9, .nm 10]) (.itv (.var 8)) [.ite (.cmp .notin (.var 10) (.var 4)) [.expr (.mt .append (.var 4) [.var 10])] []], .expr (.mt .append (.var 5) [.con .tuple (.itc (.tup [.var 9, .mt .index (.var 4) [.var 10]]) (.tup [.nm 9, .nm 10]) (.itv (.var 8)) (.cst (.bl true)) [9, 10])])]
section
variable {c : Clk} (o : c.Ok) (sm : c.Sm) {N : Nat} (E : c.Ex N) {h : PH} {x0 x2 x3 : Option PV} {k : Nat} (hk : 2 ≤ k)
include o sm E hk
theorem x43w {x6 x7 x8 x9 x10 x11 x12 x13 x14 x15 x16 x17 x18 : Option PV} {rest : List EV.S} {Q : Rt → Prop}
    (hK : ∀ t x6 x7 x8 x9 x10 x18, Fl t → Wb (P.cc k) rest [x0, some c.pv, x2, x3, some (.obj h.length), some (.obj (h.length + 1)), x6, x7, x8, x9, x10, x11, x12, x13, x14, x15, x16, x17, x18] (h ++ .lst false ((c.pls N).map pv2) :: .lst false ((c.tab N).map rowP) :: t) Q) :
    Wb (P.cc k) (.whl wh43 bd43 :: rest) [x0, some c.pv, x2, x3, some (.obj h.length), some (.obj (h.length + 1)), x6, x7, x8, x9, x10, x11, x12, x13, x14, x15, x16, x17, x18] (h ++ [.lst false [.tup [.int 0, .int 0]], .lst false []]) Q := by
  have hN30 : N ≤ 30 := by have := Clk.pls_len o sm N; have := E.len.1; omega
  refine Wb_whl (m := N) (by rw [fuelE]; omega) (I := fun m r1 h1 => ∃ j, j ≤ N ∧ m = N - j ∧ (∃ g, Fl g ∧ h1 = h ++ .lst false ((c.pls j).map pv2) :: .lst false ((c.tab j).map rowP) :: g) ∧ ∃ x6 x7 x8 x9 x10 x18, r1 = [x0, some c.pv, x2, x3, some (.obj h.length), some (.obj (h.length + 1)), x6, x7, x8, x9, x10, x11, x12, x13, x14, x15, x16, x17, x18])
    ⟨0, Nat.zero_le _, rfl, ⟨[], .nil, rfl⟩, _, _, _, _, _, _, rfl⟩ fun m r1 h1 ⟨j, j1, j2, ⟨g, fg, q1⟩, x6, x7, x8, x9, x10, x18, q2⟩ => ?_
  subst q1 q2
  have tl := Clk.tab_len (c := c) (N := j)
  by_cases hj : j < N
  · clear hK
    have q0 : (j : Int) < ((c.pls j).length : Int) := by have := E.more j hj; omega
    obtain ⟨p, hp⟩ := Clk.pls_get E hj
    have hpl := Clk.pls_ok o j p (List.mem_of_getElem? hp)
    obtain ⟨r, e, hro, _⟩ := Clk.get o hpl.1
    have e2 := Clk.rw_get e
    have rl := Clk.rw_len o hpl.1
    have n4 := o.n4
    have e37 : ∀ H K, Wc (P.cc k) 37 [c.pv, .tup [nI p.1, nI p.2]] H K = K (pv2 (c.tk p)) H := fun H K => c37 o hpl.1 (by omega)
    have pl := Clk.pls_len o sm j
    have nl := Clk.nx_len o hpl.1
    walk_at "u"
    refine Klp_map (l := c.rw p.1) (f := pv2) (g := fun q => .tup [nI q.1, .tup [nI q.2, .int 0]]) (by rw [fuelE]; omega) (by omega) (iw_vals (l := c.rw p.1) (f := pv2)) (fun a _ => ?_) ?_
    · simp only [wipeP]
      walk_at "w"
    have eS : (c.rw p.1).map (fun q => (.tup [nI q.1, .tup [nI q.2, .int 0]] : PV)) ++ [.tup [.int 0, pv2 (c.tp p)]] = (c.nx p).map stepP := by
      unfold Clk.nx
      rw [List.map_append, List.map_map]
      rfl
    have hz2 : ((c.rw p.1).map (fun q => (.tup [nI q.1, .tup [nI q.2, .int 0]] : PV))).length ≤ 16777215 := by rw [List.length_map]; omega
    clear e2
    -- the rest of the lap, once the steps are there
    have lap : Kfors (P.cc k) [.expr (.mt .append (.var 5) [.con .tuple (.itc (.tup [.var 9, .mt .index (.var 4) [.var 10]]) (.tup [.nm 9, .nm 10]) (.itv (.var 8)) (.cst (.bl true)) [9, 10])])] [x0, some c.pv, x2, x3, some (.obj h.length), some (.obj (h.length + 1)), some (nI p.1), some (nI p.2), some (.obj (h.length + (g.length + 2))), x9, x10, x11, x12, x13, x14, x15, x16, x17, x18]
        (Kfor (P.cc k) rest Q fun r' h' => ∃ m', m' < N - j ∧ ∃ j, j ≤ N ∧ m' = N - j ∧ (∃ g, Fl g ∧ h' = h ++ .lst false ((c.pls j).map pv2) :: .lst false ((c.tab j).map rowP) :: g) ∧ ∃ x6 x7 x8 x9 x10 x18, r' = [x0, some c.pv, x2, x3, some (.obj h.length), some (.obj (h.length + 1)), x6, x7, x8, x9, x10, x11, x12, x13, x14, x15, x16, x17, x18])
        (.tup [.nm 9, .nm 10]) [.ite (.cmp .notin (.var 10) (.var 4)) [.expr (.mt .append (.var 4) [.var 10])] []] (.live (h.length + (g.length + 2))) (h ++ .lst false ((c.pls j).map pv2) :: .lst false ((c.tab j).map rowP) :: (g ++ [.lst false ((c.nx p).map stepP)])) := by
      clear eS hz2 e37 e hro
      have hg : (g ++ [PO.lst false ((c.nx p).map stepP)])[g.length]? = some (.lst false ((c.nx p).map stepP)) := hp_get0
      have fg2 : Fl (g ++ [PO.lst false ((c.nx p).map stepP)]) := fg.lst flat_steps
      generalize g.length = i at hg ⊢
      generalize (g ++ [PO.lst false ((c.nx p).map stepP)]) = gg at hg fg2 ⊢
      have hlv : ∀ W R, (h ++ W :: R :: gg)[h.length + (i + 2)]? = some (PO.lst false ((c.nx p).map stepP)) := fun W R => by rw [hp_get]; exact hg
      refine Kfors_live (l := c.nx p) (f := stepP) (fun pre r1 h1 => h1 = h ++ .lst false ((adds (c.pls j) pre).map pv2) :: .lst false ((c.tab j).map rowP) :: gg ∧ ∃ x9 x10, r1 = [x0, some c.pv, x2, x3, some (.obj h.length), some (.obj (h.length + 1)), some (nI p.1), some (nI p.2), some (.obj (h.length + (i + 2))), x9, x10, x11, x12, x13, x14, x15, x16, x17, x18])
        (by rw [fuelE]; omega) ⟨rfl, _, _, rfl⟩ (fun pre r1 h1 ⟨z1, _⟩ => ⟨false, by rw [z1]; exact hlv _ _⟩) (fun pre a post r1 h1 hx ⟨z1, x9, x10, z2⟩ => ?_) fun r1 h1 ⟨z1, x9, x10, z2⟩ => ?_
      · subst z1 z2
        rw [adds_snoc]
        have hle : (adds (c.pls j) pre).length ≤ 30 := by
          have := Clk.pls_len o sm (j + 1)
          rw [Clk.pls_succ hp, hx] at this
          have h2 := (adds_pre (qs := a :: post) (ps := adds (c.pls j) pre)).length_le
          unfold adds at this h2 ⊢
          rw [List.foldl_append] at this
          omega
        generalize adds (c.pls j) pre = ps at *
        have hin := isIn_lst (h := h ++ .lst false (ps.map pv2) :: .lst false ((c.tab j).map rowP) :: gg) (n := h.length) (x := a.2) (l := ps) (fz := false) dat_pair (by decide) hp_get0
        by_cases hm : a.2 ∈ ps
        · simp only [hm, decide_true] at hin
          have : addp ps a.2 = ps := by unfold addp; rw [if_pos hm]
          rw [this]
          (have zz0 := @Kcmp2_notin; walk_at "u")
          exact ⟨_, _, rfl⟩
        · simp only [hm, decide_false] at hin
          have : addp ps a.2 = ps ++ [a.2] := by unfold addp; rw [if_neg hm]
          rw [this]
          have hzp : (ps.map pv2).length ≤ 16777215 := by rw [List.length_map]; omega
          (have zz0 := @Kcmp2_notin; walk_at "u")
          exact ⟨_, _, rfl⟩
      · subst z1 z2
        rw [← Clk.pls_succ hp]
        have pl1 := Clk.pls_len o sm (j + 1)
        have hl4 : (h ++ .lst false ((c.pls (j + 1)).map pv2) :: .lst false ((c.tab j).map rowP) :: gg)[h.length]? = some (.lst false ((c.pls (j + 1)).map pv2)) := hp_get0
        (have zz0 := @@isLs_ap; walk_at "u")
        refine Klp_map (l := c.nx p) (f := stepP) (g := fun q => pv2 (q.1, (c.pls (j + 1)).idxOf q.2)) (by rw [fuelE]; omega) (by omega) (iw_live (hlv _ _)) (fun a ha => ?_) ?_
        · have hmm := Clk.nx_mem E hj hp a ha
          obtain ⟨ix, hix, hidx⟩ := index_lst (x := a.2) (l := c.pls (j + 1)) (fz := false) dat_pair (by decide) hl4 hmm
          have hixe : ix = (c.pls (j + 1)).idxOf a.2 := by
            have h2 := List.idxOf_lt_length_of_mem hmm
            have h3 : (c.pls (j + 1))[(c.pls (j + 1)).idxOf a.2]? = some a.2 := by rw [List.getElem?_eq_getElem h2, List.getElem_idxOf]
            exact (List.getElem?_inj (List.getElem?_eq_some_iff.mp hix).1 (Clk.pls_nd (j + 1))).mp (hix.trans h3.symm)
          subst hixe
          have q4 := fun c' r K es => Kmt_idx (c := c') (r := r) (K := K) (es := es) hl4
          have q5 := fun K => Kmt2_of (K := K) hidx
          simp only [wipeP]
          (have zz0 := @@isLs_ap; walk_at "u")
        · have ht : ((c.tab j).map rowP).length ≤ 16777215 := by rw [List.length_map, Clk.tab_len]; omega
          have hz3 : ((c.nx p).map fun q => pv2 (q.1, (c.pls (j + 1)).idxOf q.2)).length ≤ 16777216 := by rw [List.length_map]; omega
          clear hl4
          walk_at "u"
          refine ⟨N - (j + 1), by omega, j + 1, hj, rfl, ⟨gg, fg2, ?_⟩, _, _, _, _, _, _, rfl⟩
          rw [Clk.tab_succ, List.map_append, Clk.prow_eq hp]
          simp
    cases q : c.out p.1 with
    | none =>
      have hp2 : p.2 = 0 := by have := hpl.2; rw [q] at this; exact this
      have htp : pv2 (c.tp p) = .tup [nI p.1, .int 0] := by rw [Clk.tp_none q]; show PV.tup [_, PV.int (p.2 : Int)] = _; rw [hp2]; rfl
      rw [q] at hro
      rw [htp] at eS
      clear hp2 htp
      (have zz0 := @outP_none; have zz1 := @isNon; walk_at "u")
    | some u =>
      rw [q] at hro
      rw [Clk.tp_some q] at eS
      (have zz0 := @outP_some; have zz1 := @isNon_pv2; walk_at "u")
  · have hj : j = N := by omega
    subst hj
    have q0 : ¬ (j : Int) < ((c.pls j).length : Int) := by have := E.fin; omega
    have hK := hK g x6 x7 x8 x9 x10 x18 fg
    walk_at "u"
end
end Lw
end
section
set_option Elab.async false
set_option linter.all false
set_option maxRecDepth 100000
namespace Lw
open PySem EV
local macro_rules | `(tactic| walk_at "w") => `(tactic| simp -implicitDefEqProofs (disch := first | omega | (simp only [List.length_cons, List.length_nil, List.length_map, List.length_append] <;> omega)) only [EV.Wb_nil, EV.Wb_pass, EV.Wb_asg, EV.Wb_expr, EV.Wb_ret, EV.Wb_retN, EV.Wb_brk, EV.Wb_cnt, EV.Wb_ite, EV.Wb_set, EV.Wb_for, EV.Wb_tryN, EV.We_cst, EV.We_var, EV.We_glb, EV.We_tup, EV.We_lst, EV.We_dnew, EV.We_bin, EV.We_neg, EV.We_not, EV.We_and, EV.We_or, EV.We_cmp, EV.We_chn, EV.We_ite, EV.We_idx, EV.We_call, EV.We_callK, EV.We_bf, EV.We_mt, EV.We_comp, EV.We_con, EV.Wl_nil, EV.Wl_cons, EV.Wi_itv, EV.Wi_its, EV.Wi_itc, EV.Wi_rng, EV.Wi_enm, EV.Wi_zip, EV.Wt_e, EV.Ws_e, EV.Wo_some, EV.Wv_some, EV.Wob_some, EV.Wtr_some, EV.Woi_some, EV.Ktup_ap, EV.Klst_ap, EV.Kbin_ap, EV.Kbin2_add, EV.Kbin2_sub, EV.Kbin2_mul, EV.Kbin2_mod, EV.Kbin2_fdiv, EV.Kneg_ap, EV.Kbl_ap, EV.Knot_ap, EV.Kand_t, EV.Kand_f, EV.Kor_t, EV.Kor_f, EV.Kcmp_ap, EV.Kcmp2_lt, EV.Kcmp2_le, EV.Kcmp2_gt, EV.Kcmp2_ge, EV.Kcmp2_eq, EV.Kcmp2_ne, EV.Kcmp2_is, EV.Kcmp2_isnot, EV.Kcmp2_isB, EV.Kchn_ap, EV.Kchn2_le, EV.Wch_t, EV.Wch_f, EV.Kife_t, EV.Kife_f, EV.Kidx_ap, EV.Kidx2_T0, EV.Kidx2_T1, EV.Kidx2_T2, EV.Kidx2_Tn, EV.Kidx2_O, EV.Wix_lst, EV.Wix_dK, EV.Wix_lkd, EV.Wix_dT, EV.atI_0, EV.atI_1, EV.atI_2, EV.atI_n, EV.Kcall_ap, EV.KcallK_ap, EV.KcallK2_ap, EV.Wpk_some, EV.Kbf_lenT, EV.Kbf_lenO, EV.Wln_lst, EV.Wln_dK, EV.Wln_dT, EV.Kbf_int, EV.Kbf_intB, EV.Kbf_min, EV.Kbf_max, EV.Kbf_isT, EV.Kbf_isI, EV.Kbf_isB, EV.Kbf_isS, EV.Kbf_isN, EV.Kbf_isO, EV.Wity_lst, EV.Kmt_app, EV.isLs_ap, EV.Kap_ap, EV.Wap_ap, EV.Kcon_tup, EV.Kcon_tupT, EV.Kcon_lst, EV.Kcon_live, EV.Wls_ap, EV.Wr_ctup, EV.Wr_clst, EV.Kc1_ap, EV.Kc2_ap, EV.Ktst_bl, EV.Ktst_tup, EV.Ktst_obj, EV.Wtl_lst, EV.KtstB_ap, EV.Knl_ap, EV.Kvl_ap, EV.Kitv_tup, EV.Kitv_obj, EV.Wlv_ap, EV.Kits_tup, EV.Kits_obj, EV.Wlc_ap, EV.Kenm_tup, EV.Kenm_obj, EV.Kzip_ap, EV.Kzip2_tup, EV.Krng_ap, EV.Krng2_0n, EV.Kasg_ap, EV.Wbd_nm, EV.Wbd_tup, EV.Wbds_nil, EV.Wbds_cons, EV.Kexp_ap, EV.Kret_ap, EV.Kseq_nx, EV.Kseq_rt, EV.Kseq_bk, EV.Kseq_ct, EV.Kif_t, EV.Kif_f, EV.Kset_ap, EV.Kset2_ap, EV.Kwhl_t, EV.Kwhl_f, EV.Kfor_nx, EV.Kfor_ct, EV.Kfor_bk, EV.Kfor_rt, EV.Kout_rt, EV.Kout_nx, EV.hp_get, EV.hp_get0, EV.hp_set, EV.hp_set0, List.getElem?_cons_zero, List.getElem?_cons_succ, List.set_cons_zero, List.set_cons_succ, List.length_cons, List.length_nil, List.length_map, List.getElem?_map, Option.map_some, Option.map_none, List.append_assoc, List.cons_append, List.nil_append, true_and, and_true, false_and, and_false, decide_true, decide_false, Bool.not_true, Bool.not_false, if_true, if_false, EV.isNon, and_self, Nat.zero_add, Bool.true_or, Bool.or_true, Bool.false_or, Bool.or_false, EV.gc_len, reduceIte, eq_self, Nat.reduceAdd, Int.reduceLT, Int.reduceLE, Int.reduceEq, Int.reduceNe, Int.reduceSub, Int.reduceAdd, Int.reduceMul, Int.reduceNeg, Int.reduceToNat, Int.cast_ofNat_Int, *])
local macro_rules | `(tactic| walk_at "v") => `(tactic| simp -implicitDefEqProofs (disch := first | omega | (simp only [List.length_cons, List.length_nil, List.length_map, List.length_append] <;> omega)) only [EV.Wb_nil, EV.Wb_pass, EV.Wb_asg, EV.Wb_expr, EV.Wb_ret, EV.Wb_retN, EV.Wb_brk, EV.Wb_cnt, EV.Wb_ite, EV.Wb_set, EV.Wb_for, EV.Wb_tryN, EV.We_cst, EV.We_var, EV.We_glb, EV.We_tup, EV.We_lst, EV.We_dnew, EV.We_bin, EV.We_neg, EV.We_not, EV.We_and, EV.We_or, EV.We_cmp, EV.We_chn, EV.We_ite, EV.We_idx, EV.We_call, EV.We_callK, EV.We_bf, EV.We_mt, EV.We_comp, EV.We_con, EV.Wl_nil, EV.Wl_cons, EV.Wi_itv, EV.Wi_its, EV.Wi_itc, EV.Wi_rng, EV.Wi_enm, EV.Wi_zip, EV.Wt_e, EV.Ws_e, EV.Wo_some, EV.Wv_some, EV.Wob_some, EV.Wtr_some, EV.Woi_some, EV.Ktup_ap, EV.Klst_ap, EV.Kbin_ap, EV.Kbin2_add, EV.Kbin2_sub, EV.Kbin2_mul, EV.Kbin2_mod, EV.Kbin2_fdiv, EV.Kneg_ap, EV.Kbl_ap, EV.Knot_ap, EV.Kand_t, EV.Kand_f, EV.Kor_t, EV.Kor_f, EV.Kcmp_ap, EV.Kcmp2_lt, EV.Kcmp2_le, EV.Kcmp2_gt, EV.Kcmp2_ge, EV.Kcmp2_eq, EV.Kcmp2_ne, EV.Kcmp2_is, EV.Kcmp2_isnot, EV.Kcmp2_isB, EV.Kchn_ap, EV.Kchn2_le, EV.Wch_t, EV.Wch_f, EV.Kife_t, EV.Kife_f, EV.Kidx_ap, EV.Kidx2_T0, EV.Kidx2_T1, EV.Kidx2_T2, EV.Kidx2_Tn, EV.Kidx2_O, EV.Wix_lst, EV.Wix_dK, EV.Wix_lkd, EV.Wix_dT, EV.atI_0, EV.atI_1, EV.atI_2, EV.atI_n, EV.Kcall_ap, EV.KcallK_ap, EV.KcallK2_ap, EV.Wpk_some, EV.Kbf_lenT, EV.Kbf_lenO, EV.Wln_lst, EV.Wln_dK, EV.Wln_dT, EV.Kbf_int, EV.Kbf_intB, EV.Kbf_min, EV.Kbf_max, EV.Kbf_isT, EV.Kbf_isI, EV.Kbf_isB, EV.Kbf_isS, EV.Kbf_isN, EV.Kbf_isO, EV.Wity_lst, EV.Kmt_app, EV.isLs_ap, EV.Kap_ap, EV.Wap_ap, EV.Kcon_tup, EV.Kcon_tupT, EV.Kcon_lst, EV.Kcon_live, EV.Wls_ap, EV.Wr_ctup, EV.Wr_clst, EV.Kc1_ap, EV.Kc2_ap, EV.Ktst_bl, EV.Ktst_tup, EV.Ktst_obj, EV.Wtl_lst, EV.KtstB_ap, EV.Knl_ap, EV.Kvl_ap, EV.Kitv_tup, EV.Kitv_obj, EV.Wlv_ap, EV.Kits_tup, EV.Kits_obj, EV.Wlc_ap, EV.Kenm_tup, EV.Kenm_obj, EV.Kzip_ap, EV.Kzip2_tup, EV.Krng_ap, EV.Krng2_0n, EV.Kasg_ap, EV.Wbd_nm, EV.Wbd_tup, EV.Wbds_nil, EV.Wbds_cons, EV.Kexp_ap, EV.Kret_ap, EV.Kseq_nx, EV.Kseq_rt, EV.Kseq_bk, EV.Kseq_ct, EV.Kif_t, EV.Kif_f, EV.Kset_ap, EV.Kset2_ap, EV.Kwhl_t, EV.Kwhl_f, EV.Kfor_nx, EV.Kfor_ct, EV.Kfor_bk, EV.Kfor_rt, EV.Kout_rt, EV.Kout_nx, EV.hp_get, EV.hp_get0, EV.hp_set, EV.hp_set0, List.getElem?_cons_zero, List.getElem?_cons_succ, List.set_cons_zero, List.set_cons_succ, List.length_cons, List.length_nil, List.length_map, List.getElem?_map, Option.map_some, Option.map_none, List.append_assoc, List.cons_append, List.nil_append, true_and, and_true, false_and, and_false, decide_true, decide_false, Bool.not_true, Bool.not_false, if_true, if_false, EV.isNon, and_self, Nat.zero_add, Bool.true_or, Bool.or_true, Bool.false_or, Bool.or_false, EV.gc_len, reduceIte, eq_self, Nat.reduceAdd, Int.reduceLT, Int.reduceLE, Int.reduceEq, Int.reduceNe, Int.reduceSub, Int.reduceAdd, Int.reduceMul, Int.reduceNeg, Int.reduceToNat, Int.cast_ofNat_Int])
local macro_rules | `(tactic| walk_at "u") => `(tactic| simp -implicitDefEqProofs (disch := first | omega | (simp only [List.length_cons, List.length_nil, List.length_map, List.length_append] <;> omega)) only [EV.Wb_nil, EV.Wb_pass, EV.Wb_asg, EV.Wb_expr, EV.Wb_ret, EV.Wb_retN, EV.Wb_brk, EV.Wb_cnt, EV.Wb_ite, EV.Wb_set, EV.Wb_for, EV.Wb_tryN, EV.We_cst, EV.We_var, EV.We_glb, EV.We_tup, EV.We_lst, EV.We_dnew, EV.We_bin, EV.We_neg, EV.We_not, EV.We_and, EV.We_or, EV.We_cmp, EV.We_chn, EV.We_ite, EV.We_idx, EV.We_call, EV.We_callK, EV.We_bf, EV.We_mt, EV.We_comp, EV.We_con, EV.Wl_nil, EV.Wl_cons, EV.Wi_itv, EV.Wi_its, EV.Wi_itc, EV.Wi_rng, EV.Wi_enm, EV.Wi_zip, EV.Wt_e, EV.Ws_e, EV.Wo_some, EV.Wv_some, EV.Wob_some, EV.Wtr_some, EV.Woi_some, EV.Ktup_ap, EV.Klst_ap, EV.Kbin_ap, EV.Kbin2_add, EV.Kbin2_sub, EV.Kbin2_mul, EV.Kbin2_mod, EV.Kbin2_fdiv, EV.Kneg_ap, EV.Kbl_ap, EV.Knot_ap, EV.Kand_t, EV.Kand_f, EV.Kor_t, EV.Kor_f, EV.Kcmp_ap, EV.Kcmp2_lt, EV.Kcmp2_le, EV.Kcmp2_gt, EV.Kcmp2_ge, EV.Kcmp2_eq, EV.Kcmp2_ne, EV.Kcmp2_is, EV.Kcmp2_isnot, EV.Kcmp2_isB, EV.Kchn_ap, EV.Kchn2_le, EV.Wch_t, EV.Wch_f, EV.Kife_t, EV.Kife_f, EV.Kidx_ap, EV.Kidx2_T0, EV.Kidx2_T1, EV.Kidx2_T2, EV.Kidx2_Tn, EV.Kidx2_O, EV.Wix_lst, EV.Wix_dK, EV.Wix_lkd, EV.Wix_dT, EV.atI_0, EV.atI_1, EV.atI_2, EV.atI_n, EV.Kcall_ap, EV.KcallK_ap, EV.KcallK2_ap, EV.Wpk_some, EV.Kbf_lenT, EV.Kbf_lenO, EV.Wln_lst, EV.Wln_dK, EV.Wln_dT, EV.Kbf_int, EV.Kbf_intB, EV.Kbf_min, EV.Kbf_max, EV.Kbf_isT, EV.Kbf_isI, EV.Kbf_isB, EV.Kbf_isS, EV.Kbf_isN, EV.Kbf_isO, EV.Wity_lst, EV.Kmt_app, EV.isLs_ap, EV.Kap_ap, EV.Wap_ap, EV.Kcon_tup, EV.Kcon_tupT, EV.Kcon_lst, EV.Kcon_live, EV.Wls_ap, EV.Wr_ctup, EV.Wr_clst, EV.Kc1_ap, EV.Kc2_ap, EV.Ktst_bl, EV.Ktst_tup, EV.Ktst_obj, EV.Wtl_lst, EV.KtstB_ap, EV.Knl_ap, EV.Kvl_ap, EV.Kitv_tup, EV.Kitv_obj, EV.Wlv_ap, EV.Kits_tup, EV.Kits_obj, EV.Wlc_ap, EV.Kenm_tup, EV.Kenm_obj, EV.Kzip_ap, EV.Kzip2_tup, EV.Krng_ap, EV.Krng2_0n, EV.Kasg_ap, EV.Wbd_nm, EV.Wbd_tup, EV.Wbds_nil, EV.Wbds_cons, EV.Kexp_ap, EV.Kret_ap, EV.Kseq_nx, EV.Kseq_rt, EV.Kseq_bk, EV.Kseq_ct, EV.Kif_t, EV.Kif_f, EV.Kset_ap, EV.Kset2_ap, EV.Kwhl_t, EV.Kwhl_f, EV.Kfor_nx, EV.Kfor_ct, EV.Kfor_bk, EV.Kfor_rt, EV.Kout_rt, EV.Kout_nx, EV.hp_get, EV.hp_get0, EV.hp_set, EV.hp_set0, List.getElem?_cons_zero, List.getElem?_cons_succ, List.set_cons_zero, List.set_cons_succ, List.length_cons, List.length_nil, List.length_map, List.getElem?_map, Option.map_some, Option.map_none, List.append_assoc, List.cons_append, List.nil_append, true_and, and_true, false_and, and_false, decide_true, decide_false, Bool.not_true, Bool.not_false, if_true, if_false, EV.isNon, and_self, Nat.zero_add, Bool.true_or, Bool.or_true, Bool.false_or, Bool.or_false, EV.gc_len, reduceIte, eq_self, Nat.reduceAdd, Int.reduceLT, Int.reduceLE, Int.reduceEq, Int.reduceNe, Int.reduceSub, Int.reduceAdd, Int.reduceMul, Int.reduceNeg, Int.reduceToNat, Int.cast_ofNat_Int, List.length_append, Nat.add_assoc, Option.isSome_none, Option.isSome_some, Option.bind_some, Option.bind_none, List.isEmpty_nil, List.isEmpty_cons, *, List.map_append, List.map_cons, List.map_nil])
theorem wd_len {c : Clk} : ∀ {w : List (Nat × Nat)}, (∀ p ∈ w, p.1 < 12) → (c.wd w).length ≤ 13 * w.length
  | [], _ => Nat.le_refl _
  | p :: w, hw => by
    have := wd_len (c := c) (w := w) fun x hx => hw x (List.mem_cons_of_mem _ hx)
    have h1 := hw p List.mem_cons_self
    have : (c.wd (p :: w)).length = p.1 + 1 + (c.wd w).length := by unfold Clk.wd; rw [List.map_cons, List.flatten_cons, List.length_append, List.length_append, List.length_replicate]; rfl
    rw [this, List.length_cons]
    omega
theorem wd_ok {c : Clk} {w : List (Nat × Nat)} (hw : ∀ p ∈ w, p.2 < c.n) : ∀ x ∈ c.wd w, x < c.n + 1 := by
  intro x hx
  unfold Clk.wd at hx
  obtain ⟨l, hl, hx⟩ := List.mem_flatten.mp hx
  obtain ⟨p, hp, rfl⟩ := List.mem_map.mp hl
  rcases List.mem_append.mp hx with h | h
  · rw [(List.mem_replicate.mp h).2]; omega
  · rw [List.mem_singleton.mp h]; have := hw p hp; omega
theorem rep_nI {n a : Nat} : (List.replicate ((a : Int)).toNat [nI n]).flatten = (List.replicate a n).map nI := by
  rw [Int.toNat_natCast]
  induction a with
  | zero => rfl
  | succ a ih => rw [List.replicate_succ, List.flatten_cons, ih]; rfl
theorem lik_nats {l : List Nat} (h : l.length ≤ 1000000) : lik 1 (wrdP l) := ⟨by rw [List.length_map]; exact h, fun x hx => by obtain ⟨a, _, rfl⟩ := List.mem_map.mp hx; trivial⟩
theorem lik_pv2 {d : Nat} {p : Nat × Nat} : lik (d + 1) (pv2 p) := ⟨by show _ + 1 ≤ _; simp, fun x hx => by
  rcases List.mem_cons.mp hx with h | h
  · rw [h]; cases d <;> trivial
  · rw [List.mem_singleton.mp h]; cases d <;> trivial⟩
theorem lik_row {d : Nat} {l : List (Nat × Nat)} (h : l.length ≤ 1000000) : lik (d + 2) (rowP l) := ⟨by rw [List.length_map]; exact h, fun x hx => by obtain ⟨a, _, rfl⟩ := List.mem_map.mp hx; exact lik_pv2⟩
theorem lik_tab {d : Nat} {l : List (List (Nat × Nat))} (h : l.length ≤ 1000000) (h2 : ∀ r ∈ l, r.length ≤ 1000000) : lik (d + 3) (tabP l) := ⟨by rw [List.length_map]; exact h, fun x hx => by obtain ⟨a, ha, rfl⟩ := List.mem_map.mp hx; exact lik_row (h2 a ha)⟩
theorem lik_int {d : Nat} {i : Int} : lik d (.int i) := by cases d <;> trivial
theorem lik_box {b : Box} (o : b.Ok) : lik 4 b.pv := ⟨by show _ + 1 ≤ _; simp, fun x hx => by
  rcases List.mem_cons.mp hx with h | h
  · rw [h]; exact lik_int
  rcases List.mem_cons.mp h with h | h
  · rw [h]; exact lik_int
  rw [List.mem_singleton.mp h]
  exact lik_tab (d := 0) (by have := o.t60; omega) fun r hr => by have := (o.row r hr).1; have := o.n4; omega⟩
abbrev r43 (rest : List EV.S) : List EV.S := .asg (.tup [.nm 11, .nm 12, .nm 13]) (.tup [.call 29 [.var 1], .idx (.var 1) (.cst (.int 0)), .tup []]) :: .ite (.not (.call 35 [.var 11, .tup [.bin .add (.idx (.var 1) (.cst (.int 0))) (.cst (.int 1)), .idx (.var 1) (.cst (.int 1)), .con .tuple (.its (.var 5))]])) [.ret (.cst (.bl false))] [] :: .forS (.tup [.nm 14, .nm 15]) (.itv (.var 2)) [.asg (.nm 13) (.bin .add (.bin .add (.var 13) (.bin .mul (.tup [.var 12]) (.var 14))) (.tup [.var 15]))] :: .asg (.nm 16) (.call 9 [.var 11, .var 13]) :: .ite (.not (.call 35 [.con .tuple (.itc (.var 9) (.tup [.nm 9, .nm 15]) (.zip (.var 16) (.var 13)) (.cmp .ne (.var 15) (.var 12)) [9, 15]), .var 3])) [.ret (.cst (.bl false))] [] :: .ite (.cmp .ne (.comp (.cst (.int 1)) (.tup [.nm 9, .nm 15]) (.zip (.var 16) (.var 13)) (.and (.cmp .eq (.var 15) (.var 12)) (.cmp .ne (.var 9) (.cst (.int 0)))) [9, 15]) (.lst [])) [.ret (.cst (.bl false))] [] :: rest
section
variable {c : Clk} (o : c.Ok) (sm : c.Sm) {N : Nat} (E : c.Ex N) {h : PH} (cl : Cl h) {x0 : Option PV} {k : Nat} (hk : 8 ≤ k) {w : List (Nat × Nat)} (hw : TOk c.n w) (h12 : ∀ p ∈ w, p.1 < 12) (hl6 : w.length ≤ 6)
include o sm E hk hw h12 hl6 cl
theorem x43g {rest : List EV.S} {Q : Rt → Prop} {m : Nat} (hm : h[m]? = some (.lst false ((c.tab N).map rowP))) {x4 x6 x7 x8 x9 x10 x18 : Option PV}
    (hK : ∀ t x13 x14 x15 x16, Fl t → Wb (P.cc k) rest [x0, some c.pv, some (rowP w), some (wrdP (c.tas w).1), x4, some (.obj m), x6, x7, x8, x9, x10, some (c.box N).pv, some (nI c.n), x13, x14, x15, x16, none, x18] (h ++ t) Q) :
    Wb (P.cc k) (r43 rest) [x0, some c.pv, some (rowP w), some (wrdP (c.tas w).1), x4, some (.obj m), x6, x7, x8, x9, x10, none, none, none, none, none, none, none, x18] h Q := by
  have hN30 : N ≤ 30 := by have := Clk.pls_len o sm N; have := E.len.1; omega
  have bo := Clk.box_ok o sm E
  have e29 : ∀ K, Wc (P.cc k) 29 [c.pv] h K = K (c.box N).pv h := fun K => c29 o sm E cl (by omega)
  have e35 : ∀ K, Wc (P.cc k) 35 [(c.box N).pv, .tup [.int ((c.n : Int) + 1), nI c.A, .tup ((c.tab N).map rowP)]] h K = K (.bl true) h := fun K => c35 4 (c.box N).pv (lik_box bo) cl (by omega)
  have hz : ((c.tab N).map rowP).length ≤ 16777216 := by rw [List.length_map, Clk.tab_len]; omega
  have hK' := hK
  clear hK
  walk_at "u"
  clear e35 e29 hz
  refine Kfors_map (l := w) (f := pv2) (fun u r1 h1 => h = h1 ∧ ∃ x14 x15, r1 = [x0, some c.pv, some (rowP w), some (wrdP (c.tas w).1), x4, some (.obj m), x6, x7, x8, x9, x10, some (c.box N).pv, some (nI c.n), some (wrdP (c.wd u)), x14, x15, none, none, x18]) (by rw [fuelE]; omega) ⟨rfl, _, _, rfl⟩ (fun pre a post r1 h1 hx ⟨z1, x14, x15, z2⟩ => ?_) fun r1 h1 ⟨z1, x14, x15, z2⟩ => ?_
  · subst z1 z2
    clear hK'
    have ha := h12 a (by rw [hx]; exact List.mem_append_right _ List.mem_cons_self)
    have hpl : pre.length ≤ w.length := by rw [hx, List.length_append]; omega
    have hlen := wd_len (c := c) (w := pre) fun p hp => h12 p (by rw [hx]; exact List.mem_append_left _ hp)
    have er := rep_nI (n := c.n) (a := a.1)
    have hz1 : ((c.wd pre).map nI).length + ((List.replicate a.1 c.n).map nI).length ≤ 16777216 := by rw [List.length_map, List.length_map, List.length_replicate]; omega
    have hz2 : ((c.wd pre).map nI ++ (List.replicate a.1 c.n).map nI).length + [nI a.2].length ≤ 16777216 := by rw [List.length_append, List.length_map, List.length_map, List.length_replicate]; simp; omega
    (have zz0 := @@Kbin2_repT; have zz1 := @@Kbin2_catT; walk_at "u")
    have eq : wrdP (c.wd (pre ++ [a])) = .tup ((c.wd pre).map nI ++ ((List.replicate a.1 c.n).map nI ++ [nI a.2])) := by
      rw [Clk.wd_snoc]
      show PV.tup (List.map nI _) = _
      rw [List.map_append, List.map_append, List.append_assoc]
      rfl
    exact ⟨_, _, by rw [eq]⟩
  · subst z1 z2
    obtain ⟨_, _, g3, g4, g5⟩ := Clk.run_wd o E w.length w rfl fun p hp => (hw.2 p hp).2
    have hlen := wd_len (c := c) (w := w) h12
    have e9 : ∀ K, Wc (P.cc k) 9 [(c.box N).pv, wrdP (c.wd w)] h K = K (wrdP (runR (c.box N).t 0 (c.wd w)).1) h := fun K => c9 bo ⟨by omega, wd_ok fun p hp => (hw.2 p hp).2⟩ cl (by omega)
    generalize (runR (c.box N).t 0 (c.wd w)).1 = tl at e9 g3 g4 g5
    generalize c.wd w = wo at e9 g3 g4 g5 hlen ⊢
    have hzl : (tl.zip wo).length ≤ 78 := by rw [List.length_zip]; omega
    have ht1 : ((tl.zip wo).filter fun q => !decide (q.2 = c.n)).map (fun q => nI q.1) = (c.tas w).1.map nI := by rw [← g4, List.map_map]; rfl
    have htl : (c.tas w).1.length ≤ 78 := by rw [← g4, List.length_map]; exact Nat.le_trans (List.length_filter_le _ _) hzl
    have e35 : ∀ K, Wc (P.cc k) 35 [wrdP (c.tas w).1, wrdP (c.tas w).1] h K = K (.bl true) h := fun K => c35 1 _ (lik_nats (by omega)) cl (by omega)
    have hz1 : ((c.tas w).1.map nI).length ≤ 16777216 := by rw [List.length_map]; omega
    have ht2 : ((tl.zip wo).filter fun q => decide (q.2 = c.n) && !decide (q.1 = 0)) = [] := by
      rw [List.filter_eq_nil_iff]
      intro q hq z
      rw [Bool.and_eq_true] at z
      have := g5 q hq (of_decide_eq_true z.1)
      rw [this] at z
      simp at z
    clear g3 g4 g5 hlen
    (have zz0 := @@Kzip2_tup; walk_at "u")
    refine Klp_filter (l := tl.zip wo) (f := fun q => .tup [nI q.1, nI q.2]) (g := fun q => nI q.1) (p := fun q => !decide (q.2 = c.n)) (by rw [fuelE]; omega) (by omega) iw_zip (fun q hq => ?_) ?_
    · clear hK' e35 ht1 ht2 e9
      simp only [wipeP]
      walk_at "u"
      refine ⟨?_, fun _ => trivial⟩
      congr 2; apply propext; omega
    rw [ht1]
    clear ht1
    (have zz0 := @@Kzip2_tup; walk_at "u")
    refine Klp_filter (l := tl.zip wo) (f := fun q => .tup [nI q.1, nI q.2]) (g := fun _ => .int 1) (p := fun q => decide (q.2 = c.n) && !decide (q.1 = 0)) (by rw [fuelE]; omega) (by omega) iw_zip (fun q hq => ?_) ?_
    · clear hK' e35 ht2 e9
      simp only [wipeP]
      by_cases q1 : q.2 = c.n
      · have q2 : (q.2 : Int) = (c.n : Int) := by omega
        by_cases q3 : q.1 = 0
        · have q4 : (q.1 : Int) = 0 := by omega
          walk_at "u"
          exact ⟨by simp, fun _ => trivial⟩
        · have q4 : ¬ (q.1 : Int) = 0 := by omega
          walk_at "u"
          exact ⟨by simp, fun _ => trivial⟩
      · have q2 : ¬ (q.2 : Int) = (c.n : Int) := by omega
        walk_at "u"
        exact ⟨by simp, fun _ => trivial⟩
    rw [ht2]
    have ene : ∀ K, Kcmp2 K .ne (.obj h.length) (.obj (h.length + 1)) (h ++ [.lst false [], .lst false []]) = K (.bl false) (h ++ [.lst false [], .lst false []]) := fun K => Kne_nil (l := ([] : List Nat)) dat_nat (by decide) hp_get0 hp_get
    have fin := fun x13 x14 x15 x16 => hK' [.lst false [], .lst false []] x13 x14 x15 x16 ((Fl.nil.lst (fz := false) (xs := []) rfl).lst (fz := false) (xs := []) rfl)
    walk_at "u"
theorem x43f {rest : List EV.S} {Q : Rt → Prop}
    (hK : ∀ t x4 x5 x6 x7 x8 x9 x10 x13 x14 x15 x16 x18, Fl t → Wb (P.cc k) rest [x0, some c.pv, some (rowP w), some (wrdP (c.tas w).1), x4, x5, x6, x7, x8, x9, x10, some (c.box N).pv, some (nI c.n), x13, x14, x15, x16, none, x18] (h ++ t) Q) :
    Wb (P.cc k) (.asg (.tup [.nm 4, .nm 5]) (.tup [.lst [.tup [.cst (.int 0), .cst (.int 0)]], .lst []]) :: .whl wh43 bd43 :: r43 rest)
      [x0, some c.pv, some (rowP w), some (wrdP (c.tas w).1), none, none, none, none, none, none, none, none, none, none, none, none, none, none, none] h Q := by
  have fin := x43w o sm E (h := h) (x0 := x0) (x2 := some (rowP w)) (x3 := some (wrdP (c.tas w).1)) (k := k) (by omega) (x6 := none) (x7 := none) (x8 := none) (x9 := none) (x10 := none) (x11 := none) (x12 := none) (x13 := none) (x14 := none) (x15 := none) (x16 := none) (x17 := none) (x18 := none) (rest := r43 rest) (Q := Q) fun t x6 x7 x8 x9 x10 x18 ft => by
    have f2 : Fl (.lst false ((c.pls N).map pv2) :: .lst false ((c.tab N).map rowP) :: t) := (ft.cons flat_rows).cons flat_pairs
    refine x43g o sm E (f2.cl cl) hk hw h12 hl6 (by rw [hp_get]; rfl) fun t' x13 x14 x15 x16 ft' => ?_
    rw [List.append_assoc]
    exact hK _ _ _ _ _ _ _ _ _ _ _ _ _ (f2.app ft')
  clear hK
  walk_at "u"
end
end Lw
end
section
set_option Elab.async false
set_option linter.all false
set_option maxRecDepth 100000
namespace Lw
open PySem EV
local macro_rules | `(tactic| walk_at "w") => `(tactic| simp -implicitDefEqProofs (disch := first | omega | (simp only [List.length_cons, List.length_nil, List.length_map, List.length_append] <;> omega)) only [EV.Wb_nil, EV.Wb_pass, EV.Wb_asg, EV.Wb_expr, EV.Wb_ret, EV.Wb_retN, EV.Wb_brk, EV.Wb_cnt, EV.Wb_ite, EV.Wb_set, EV.Wb_for, EV.Wb_tryN, EV.We_cst, EV.We_var, EV.We_glb, EV.We_tup, EV.We_lst, EV.We_dnew, EV.We_bin, EV.We_neg, EV.We_not, EV.We_and, EV.We_or, EV.We_cmp, EV.We_chn, EV.We_ite, EV.We_idx, EV.We_call, EV.We_callK, EV.We_bf, EV.We_mt, EV.We_comp, EV.We_con, EV.Wl_nil, EV.Wl_cons, EV.Wi_itv, EV.Wi_its, EV.Wi_itc, EV.Wi_rng, EV.Wi_enm, EV.Wi_zip, EV.Wt_e, EV.Ws_e, EV.Wo_some, EV.Wv_some, EV.Wob_some, EV.Wtr_some, EV.Woi_some, EV.Ktup_ap, EV.Klst_ap, EV.Kbin_ap, EV.Kbin2_add, EV.Kbin2_sub, EV.Kbin2_mul, EV.Kbin2_mod, EV.Kbin2_fdiv, EV.Kneg_ap, EV.Kbl_ap, EV.Knot_ap, EV.Kand_t, EV.Kand_f, EV.Kor_t, EV.Kor_f, EV.Kcmp_ap, EV.Kcmp2_lt, EV.Kcmp2_le, EV.Kcmp2_gt, EV.Kcmp2_ge, EV.Kcmp2_eq, EV.Kcmp2_ne, EV.Kcmp2_is, EV.Kcmp2_isnot, EV.Kcmp2_isB, EV.Kchn_ap, EV.Kchn2_le, EV.Wch_t, EV.Wch_f, EV.Kife_t, EV.Kife_f, EV.Kidx_ap, EV.Kidx2_T0, EV.Kidx2_T1, EV.Kidx2_T2, EV.Kidx2_Tn, EV.Kidx2_O, EV.Wix_lst, EV.Wix_dK, EV.Wix_lkd, EV.Wix_dT, EV.atI_0, EV.atI_1, EV.atI_2, EV.atI_n, EV.Kcall_ap, EV.KcallK_ap, EV.KcallK2_ap, EV.Wpk_some, EV.Kbf_lenT, EV.Kbf_lenO, EV.Wln_lst, EV.Wln_dK, EV.Wln_dT, EV.Kbf_int, EV.Kbf_intB, EV.Kbf_min, EV.Kbf_max, EV.Kbf_isT, EV.Kbf_isI, EV.Kbf_isB, EV.Kbf_isS, EV.Kbf_isN, EV.Kbf_isO, EV.Wity_lst, EV.Kmt_app, EV.isLs_ap, EV.Kap_ap, EV.Wap_ap, EV.Kcon_tup, EV.Kcon_tupT, EV.Kcon_lst, EV.Kcon_live, EV.Wls_ap, EV.Wr_ctup, EV.Wr_clst, EV.Kc1_ap, EV.Kc2_ap, EV.Ktst_bl, EV.Ktst_tup, EV.Ktst_obj, EV.Wtl_lst, EV.KtstB_ap, EV.Knl_ap, EV.Kvl_ap, EV.Kitv_tup, EV.Kitv_obj, EV.Wlv_ap, EV.Kits_tup, EV.Kits_obj, EV.Wlc_ap, EV.Kenm_tup, EV.Kenm_obj, EV.Kzip_ap, EV.Kzip2_tup, EV.Krng_ap, EV.Krng2_0n, EV.Kasg_ap, EV.Wbd_nm, EV.Wbd_tup, EV.Wbds_nil, EV.Wbds_cons, EV.Kexp_ap, EV.Kret_ap, EV.Kseq_nx, EV.Kseq_rt, EV.Kseq_bk, EV.Kseq_ct, EV.Kif_t, EV.Kif_f, EV.Kset_ap, EV.Kset2_ap, EV.Kwhl_t, EV.Kwhl_f, EV.Kfor_nx, EV.Kfor_ct, EV.Kfor_bk, EV.Kfor_rt, EV.Kout_rt, EV.Kout_nx, EV.hp_get, EV.hp_get0, EV.hp_set, EV.hp_set0, List.getElem?_cons_zero, List.getElem?_cons_succ, List.set_cons_zero, List.set_cons_succ, List.length_cons, List.length_nil, List.length_map, List.getElem?_map, Option.map_some, Option.map_none, List.append_assoc, List.cons_append, List.nil_append, true_and, and_true, false_and, and_false, decide_true, decide_false, Bool.not_true, Bool.not_false, if_true, if_false, EV.isNon, and_self, Nat.zero_add, Bool.true_or, Bool.or_true, Bool.false_or, Bool.or_false, EV.gc_len, reduceIte, eq_self, Nat.reduceAdd, Int.reduceLT, Int.reduceLE, Int.reduceEq, Int.reduceNe, Int.reduceSub, Int.reduceAdd, Int.reduceMul, Int.reduceNeg, Int.reduceToNat, Int.cast_ofNat_Int, *])
local macro_rules | `(tactic| walk_at "v") => `(tactic| simp -implicitDefEqProofs (disch := first | omega | (simp only [List.length_cons, List.length_nil, List.length_map, List.length_append] <;> omega)) only [EV.Wb_nil, EV.Wb_pass, EV.Wb_asg, EV.Wb_expr, EV.Wb_ret, EV.Wb_retN, EV.Wb_brk, EV.Wb_cnt, EV.Wb_ite, EV.Wb_set, EV.Wb_for, EV.Wb_tryN, EV.We_cst, EV.We_var, EV.We_glb, EV.We_tup, EV.We_lst, EV.We_dnew, EV.We_bin, EV.We_neg, EV.We_not, EV.We_and, EV.We_or, EV.We_cmp, EV.We_chn, EV.We_ite, EV.We_idx, EV.We_call, EV.We_callK, EV.We_bf, EV.We_mt, EV.We_comp, EV.We_con, EV.Wl_nil, EV.Wl_cons, EV.Wi_itv, EV.Wi_its, EV.Wi_itc, EV.Wi_rng, EV.Wi_enm, EV.Wi_zip, EV.Wt_e, EV.Ws_e, EV.Wo_some, EV.Wv_some, EV.Wob_some, EV.Wtr_some, EV.Woi_some, EV.Ktup_ap, EV.Klst_ap, EV.Kbin_ap, EV.Kbin2_add, EV.Kbin2_sub, EV.Kbin2_mul, EV.Kbin2_mod, EV.Kbin2_fdiv, EV.Kneg_ap, EV.Kbl_ap, EV.Knot_ap, EV.Kand_t, EV.Kand_f, EV.Kor_t, EV.Kor_f, EV.Kcmp_ap, EV.Kcmp2_lt, EV.Kcmp2_le, EV.Kcmp2_gt, EV.Kcmp2_ge, EV.Kcmp2_eq, EV.Kcmp2_ne, EV.Kcmp2_is, EV.Kcmp2_isnot, EV.Kcmp2_isB, EV.Kchn_ap, EV.Kchn2_le, EV.Wch_t, EV.Wch_f, EV.Kife_t, EV.Kife_f, EV.Kidx_ap, EV.Kidx2_T0, EV.Kidx2_T1, EV.Kidx2_T2, EV.Kidx2_Tn, EV.Kidx2_O, EV.Wix_lst, EV.Wix_dK, EV.Wix_lkd, EV.Wix_dT, EV.atI_0, EV.atI_1, EV.atI_2, EV.atI_n, EV.Kcall_ap, EV.KcallK_ap, EV.KcallK2_ap, EV.Wpk_some, EV.Kbf_lenT, EV.Kbf_lenO, EV.Wln_lst, EV.Wln_dK, EV.Wln_dT, EV.Kbf_int, EV.Kbf_intB, EV.Kbf_min, EV.Kbf_max, EV.Kbf_isT, EV.Kbf_isI, EV.Kbf_isB, EV.Kbf_isS, EV.Kbf_isN, EV.Kbf_isO, EV.Wity_lst, EV.Kmt_app, EV.isLs_ap, EV.Kap_ap, EV.Wap_ap, EV.Kcon_tup, EV.Kcon_tupT, EV.Kcon_lst, EV.Kcon_live, EV.Wls_ap, EV.Wr_ctup, EV.Wr_clst, EV.Kc1_ap, EV.Kc2_ap, EV.Ktst_bl, EV.Ktst_tup, EV.Ktst_obj, EV.Wtl_lst, EV.KtstB_ap, EV.Knl_ap, EV.Kvl_ap, EV.Kitv_tup, EV.Kitv_obj, EV.Wlv_ap, EV.Kits_tup, EV.Kits_obj, EV.Wlc_ap, EV.Kenm_tup, EV.Kenm_obj, EV.Kzip_ap, EV.Kzip2_tup, EV.Krng_ap, EV.Krng2_0n, EV.Kasg_ap, EV.Wbd_nm, EV.Wbd_tup, EV.Wbds_nil, EV.Wbds_cons, EV.Kexp_ap, EV.Kret_ap, EV.Kseq_nx, EV.Kseq_rt, EV.Kseq_bk, EV.Kseq_ct, EV.Kif_t, EV.Kif_f, EV.Kset_ap, EV.Kset2_ap, EV.Kwhl_t, EV.Kwhl_f, EV.Kfor_nx, EV.Kfor_ct, EV.Kfor_bk, EV.Kfor_rt, EV.Kout_rt, EV.Kout_nx, EV.hp_get, EV.hp_get0, EV.hp_set, EV.hp_set0, List.getElem?_cons_zero, List.getElem?_cons_succ, List.set_cons_zero, List.set_cons_succ, List.length_cons, List.length_nil, List.length_map, List.getElem?_map, Option.map_some, Option.map_none, List.append_assoc, List.cons_append, List.nil_append, true_and, and_true, false_and, and_false, decide_true, decide_false, Bool.not_true, Bool.not_false, if_true, if_false, EV.isNon, and_self, Nat.zero_add, Bool.true_or, Bool.or_true, Bool.false_or, Bool.or_false, EV.gc_len, reduceIte, eq_self, Nat.reduceAdd, Int.reduceLT, Int.reduceLE, Int.reduceEq, Int.reduceNe, Int.reduceSub, Int.reduceAdd, Int.reduceMul, Int.reduceNeg, Int.reduceToNat, Int.cast_ofNat_Int])
local macro_rules | `(tactic| walk_at "u") => `(tactic| simp -implicitDefEqProofs (disch := first | omega | (simp only [List.length_cons, List.length_nil, List.length_map, List.length_append] <;> omega)) only [EV.Wb_nil, EV.Wb_pass, EV.Wb_asg, EV.Wb_expr, EV.Wb_ret, EV.Wb_retN, EV.Wb_brk, EV.Wb_cnt, EV.Wb_ite, EV.Wb_set, EV.Wb_for, EV.Wb_tryN, EV.We_cst, EV.We_var, EV.We_glb, EV.We_tup, EV.We_lst, EV.We_dnew, EV.We_bin, EV.We_neg, EV.We_not, EV.We_and, EV.We_or, EV.We_cmp, EV.We_chn, EV.We_ite, EV.We_idx, EV.We_call, EV.We_callK, EV.We_bf, EV.We_mt, EV.We_comp, EV.We_con, EV.Wl_nil, EV.Wl_cons, EV.Wi_itv, EV.Wi_its, EV.Wi_itc, EV.Wi_rng, EV.Wi_enm, EV.Wi_zip, EV.Wt_e, EV.Ws_e, EV.Wo_some, EV.Wv_some, EV.Wob_some, EV.Wtr_some, EV.Woi_some, EV.Ktup_ap, EV.Klst_ap, EV.Kbin_ap, EV.Kbin2_add, EV.Kbin2_sub, EV.Kbin2_mul, EV.Kbin2_mod, EV.Kbin2_fdiv, EV.Kneg_ap, EV.Kbl_ap, EV.Knot_ap, EV.Kand_t, EV.Kand_f, EV.Kor_t, EV.Kor_f, EV.Kcmp_ap, EV.Kcmp2_lt, EV.Kcmp2_le, EV.Kcmp2_gt, EV.Kcmp2_ge, EV.Kcmp2_eq, EV.Kcmp2_ne, EV.Kcmp2_is, EV.Kcmp2_isnot, EV.Kcmp2_isB, EV.Kchn_ap, EV.Kchn2_le, EV.Wch_t, EV.Wch_f, EV.Kife_t, EV.Kife_f, EV.Kidx_ap, EV.Kidx2_T0, EV.Kidx2_T1, EV.Kidx2_T2, EV.Kidx2_Tn, EV.Kidx2_O, EV.Wix_lst, EV.Wix_dK, EV.Wix_lkd, EV.Wix_dT, EV.atI_0, EV.atI_1, EV.atI_2, EV.atI_n, EV.Kcall_ap, EV.KcallK_ap, EV.KcallK2_ap, EV.Wpk_some, EV.Kbf_lenT, EV.Kbf_lenO, EV.Wln_lst, EV.Wln_dK, EV.Wln_dT, EV.Kbf_int, EV.Kbf_intB, EV.Kbf_min, EV.Kbf_max, EV.Kbf_isT, EV.Kbf_isI, EV.Kbf_isB, EV.Kbf_isS, EV.Kbf_isN, EV.Kbf_isO, EV.Wity_lst, EV.Kmt_app, EV.isLs_ap, EV.Kap_ap, EV.Wap_ap, EV.Kcon_tup, EV.Kcon_tupT, EV.Kcon_lst, EV.Kcon_live, EV.Wls_ap, EV.Wr_ctup, EV.Wr_clst, EV.Kc1_ap, EV.Kc2_ap, EV.Ktst_bl, EV.Ktst_tup, EV.Ktst_obj, EV.Wtl_lst, EV.KtstB_ap, EV.Knl_ap, EV.Kvl_ap, EV.Kitv_tup, EV.Kitv_obj, EV.Wlv_ap, EV.Kits_tup, EV.Kits_obj, EV.Wlc_ap, EV.Kenm_tup, EV.Kenm_obj, EV.Kzip_ap, EV.Kzip2_tup, EV.Krng_ap, EV.Krng2_0n, EV.Kasg_ap, EV.Wbd_nm, EV.Wbd_tup, EV.Wbds_nil, EV.Wbds_cons, EV.Kexp_ap, EV.Kret_ap, EV.Kseq_nx, EV.Kseq_rt, EV.Kseq_bk, EV.Kseq_ct, EV.Kif_t, EV.Kif_f, EV.Kset_ap, EV.Kset2_ap, EV.Kwhl_t, EV.Kwhl_f, EV.Kfor_nx, EV.Kfor_ct, EV.Kfor_bk, EV.Kfor_rt, EV.Kout_rt, EV.Kout_nx, EV.hp_get, EV.hp_get0, EV.hp_set, EV.hp_set0, List.getElem?_cons_zero, List.getElem?_cons_succ, List.set_cons_zero, List.set_cons_succ, List.length_cons, List.length_nil, List.length_map, List.getElem?_map, Option.map_some, Option.map_none, List.append_assoc, List.cons_append, List.nil_append, true_and, and_true, false_and, and_false, decide_true, decide_false, Bool.not_true, Bool.not_false, if_true, if_false, EV.isNon, and_self, Nat.zero_add, Bool.true_or, Bool.or_true, Bool.false_or, Bool.or_false, EV.gc_len, reduceIte, eq_self, Nat.reduceAdd, Int.reduceLT, Int.reduceLE, Int.reduceEq, Int.reduceNe, Int.reduceSub, Int.reduceAdd, Int.reduceMul, Int.reduceNeg, Int.reduceToNat, Int.cast_ofNat_Int, List.length_append, Nat.add_assoc, Option.isSome_none, Option.isSome_some, Option.bind_some, Option.bind_none, List.isEmpty_nil, List.isEmpty_cons, *, List.map_append, List.map_cons, List.map_nil])
theorem mul_lst2 {K : KV} {h : PH} {a : Nat} {x : PV} (e : h[a]? = some (.lst false [x])) : Kbin2 K .mul (.obj a) (.int 2) h = K (.obj h.length) (h ++ [.lst false [x, x]]) := by
  unfold Kbin2 binop
  simp only [e]
  rw [if_pos ⟨by decide, by decide, by rw [sizeLine_eq]; show 1 * 2 ≤ 16777216; decide⟩]
  rfl
abbrev z43 : List EV.S := [.asg (.tup [.nm 14, .nm 15]) (.tup [.call 34 [.var 0, .lst [.call 33 [.var 0, .cst (.int 30)], .call 33 [.var 0, .bin .pow (.cst (.int 10)) (.cst (.int 18))], .bin .pow (.cst (.int 10)) (.cst (.int 18))]], .call 33 [.var 0, .idx (.var 1) (.cst (.int 0))]]), .asg (.nm 17) (.call 10 [.var 11, .call 11 [.var 11, .tup [.var 12], .var 14], .tup [.var 15]]), .ret (.call 35 [.lst [.var 17, .call 26 [.var 1, .tup [.tup [.var 14, .var 15]]]], .bin .mul (.lst [.call 40 [.var 1, .tup [.tup [.var 14, .var 15]]]]) (.cst (.int 2))])]
theorem x43z {sc : List Int} {m : St} {G : PH} (mo : m.Ok) (hs : m.spot < 900000000000) (cG : Cg G) {c : Clk} (o : c.Ok) (sm : c.Sm) {N : Nat} (E : c.Ex N) {k : Nat} (hk : 8 ≤ k) {x2 x3 x4 x5 x6 x7 x8 x9 x10 x13 x14 x15 x16 x18 : Option PV} {L : Nat} {K : KV}
    (hgc : ∀ m' u, m'.Ok → m'.spot ≤ m.spot + 4 → K (.bl true) (gc L (.bl true) (M sc m' (G ++ u)))) :
    Wb (P.cc k) z43 [some (.obj 3), some c.pv, x2, x3, x4, x5, x6, x7, x8, x9, x10, some (c.box N).pv, some (nI c.n), x13, x14, x15, x16, none, x18] (M sc m G) (Kout L K) := by
  have bo := Clk.box_ok o sm E
  have n4 := o.n4
  have n1 := o.n1
  (have zz0 := @@pow_18; have zz1 := @@M_app; have zz2 := @@M_len; walk_at "u")
  refine c33 (L := 30) mo (by omega) cG (by omega) (by omega) (by omega) fun d1 m1 hd1 o1 s1 => ?_
  (have zz0 := @@pow_18; have zz1 := @@M_app; have zz2 := @@M_len; walk_at "u")
  refine c33 (L := 1000000000000000000) o1 (by omega) cG (by omega) (by omega) (by omega) fun d2 m2 hd2 o2 s2 => ?_
  (have zz0 := @@pow_18; have zz1 := @@M_app; have zz2 := @@M_len; walk_at "u")
  have cG1 : Cg (G ++ [.lst false [nI d1, nI d2, .int 1000000000000000000]]) := cG.lst rfl
  refine c34 (n := G.length) (xs := [nI d1, nI d2, .int 1000000000000000000]) (fz := false) o2 (by omega) cG1 hp_get0 (by simp) (by simp) (by omega) fun i x m3 hx o3 s3 => ?_
  obtain ⟨wt, hwt, rfl⟩ : ∃ wt : Nat, wt ≤ 1000000000000000000 ∧ x = nI wt := by
    match i, hx with
    | 0, hx => exact ⟨d1, by omega, (Option.some.inj hx).symm⟩
    | 1, hx => exact ⟨d2, by omega, (Option.some.inj hx).symm⟩
    | 2, hx => exact ⟨1000000000000000000, by omega, (Option.some.inj hx).symm⟩
  clear hx
  (have zz0 := @@pow_18; have zz1 := @@M_app; have zz2 := @@M_len; walk_at "u")
  refine c33 (L := c.n) o3 (by omega) cG1 (by omega) (by omega) (by omega) fun v m4 hv o4 s4 => ?_
  have hgc := fun u => hgc m4 u o4 (by omega)
  clear mo o1 o2 o3 s1 s2 s3 hd1 hd2
  generalize hG2 : G ++ [PO.lst false [nI d1, nI d2, .int 1000000000000000000]] = G2 at cG1 ⊢
  have hgc : ∀ u, K (.bl true) (gc L (.bl true) (M sc m4 (G2 ++ u))) := fun u => by rw [← hG2, List.append_assoc]; exact hgc _
  clear hG2 cG
  have cl1 : ∀ t, Fl t → Cl (M sc m4 (G2 ++ t)) := fun t ft => (ft.cg cG1).cl
  have cl2 : Cl (M sc m4 G2) := cG1.cl
  have h00 := Clk.ix0 (c := c) (N := N)
  have hef := Clk.eff_ticks o E h00.1 wt
  rw [h00.2] at hef
  obtain ⟨i1, _⟩ := Clk.run_ticks o E h00.1 wt
  have hsl : c.ix N (c.nm (c.st 0 wt)) < (c.box N).t.length := by show _ < (c.tab N).length; rw [Clk.tab_len]; exact Clk.ix_lt E i1
  have e11 : ∀ K, Wc (P.cc k) 11 [(c.box N).pv, .tup [nI c.n], nI wt] (M sc m4 G2) K = K (nI (c.ix N (c.nm (c.st 0 wt)))) (M sc m4 G2) := fun K => by
    have := c11 (K := K) (k := k) bo (w := [c.n]) ⟨by simp, fun x hx => by rw [List.mem_singleton.mp hx]; show c.n < c.n + 1; omega⟩ hwt cl2 (by omega)
    rw [hef] at this
    exact this
  have hst := (Clk.stp_wait o E h00.1 wt hv).2
  have e10 : ∀ K, Wc (P.cc k) 10 [(c.box N).pv, nI (c.ix N (c.nm (c.st 0 wt))), .tup [nI v]] (M sc m4 G2) K = K (wrdP [(c.stp (c.st 0 wt).1 v).1]) (M sc m4 G2) := fun K => by
    have := c10 (K := K) (k := k) bo hsl (w := [v]) ⟨by simp, fun x hx => by rw [List.mem_singleton.mp hx]; show v < c.n + 1; omega⟩ cl2 (by omega)
    have e : (runR (c.box N).t (c.ix N (c.nm (c.st 0 wt))) [v]).1 = [(c.stp (c.st 0 wt).1 v).1] := by
      show [(Lw.stp (c.box N).t (c.ix N (c.nm (c.st 0 wt))) v).1] = _
      rw [hst]
    rw [e] at this
    exact this
  have hT : TOk c.n [(wt, v)] := ⟨by simp, fun p hp => by rw [List.mem_singleton.mp hp]; exact ⟨by omega, hv⟩⟩
  have e26 : ∀ K, Wc (P.cc k) 26 [c.pv, .tup [.tup [nI wt, nI v]]] (M sc m4 G2) K = K (wrdP [(c.stp (c.st 0 wt).1 v).1]) (M sc m4 G2) := fun K => c26 o hT cl2 (by omega)
  have e40 : ∀ t K, Fl t → Wc (P.cc k) 40 [c.pv, .tup [.tup [nI wt, nI v]]] (M sc m4 (G2 ++ t)) K = K (wrdP [(c.stp (c.st 0 wt).1 v).1]) (M sc m4 (G2 ++ t)) := fun t K ft => c40 o hT (cl1 t ft) (by omega)
  generalize (c.stp (c.st 0 wt).1 v).1 = an at e10 e26 e40
  generalize c.ix N (c.nm (c.st 0 wt)) = s0 at e10 e11
  have f1 : flatL [wrdP [an], wrdP [an]] = true := rfl
  have f2 : flatL [wrdP [an]] = true := rfl
  have e40 := fun K => e40 [.lst false [wrdP [an], wrdP [an]]] K (Fl.nil.lst f1)
  have em : ∀ K, Kbin2 K .mul (.obj (G2.length + 5)) (.int 2) (M sc m4 (G2 ++ [.lst false [wrdP [an], wrdP [an]], .lst false [wrdP [an]]])) = K (.obj (G2.length + 6)) (M sc m4 (G2 ++ [.lst false [wrdP [an], wrdP [an]], .lst false [wrdP [an]], .lst false [wrdP [an], wrdP [an]]])) := fun K => by
    rw [mul_lst2 (x := wrdP [an]) (by show (G2 ++ _)[G2.length + 1]? = _; rw [hp_get]; rfl), M_app, M_len, List.length_append, List.append_assoc]
    rfl
  have fl3 : Fl [.lst false [wrdP [an], wrdP [an]], .lst false [wrdP [an]], .lst false [wrdP [an], wrdP [an]]] := ((Fl.nil.cons f1).cons f2).cons f1
  have e35 : ∀ K, Wc (P.cc k) 35 [.obj (G2.length + 4), .obj (G2.length + 6)] (M sc m4 (G2 ++ [.lst false [wrdP [an], wrdP [an]], .lst false [wrdP [an]], .lst false [wrdP [an], wrdP [an]]])) K = K (.bl true) _ := fun K => c35l (d := 1) (xs := [wrdP [an], wrdP [an]]) (fa := false) (fb := false) (by simp) (fun x hx => by
      have : x = wrdP [an] := by simpa using hx
      rw [this]; exact lik_nats (by simp)) (by show (G2 ++ _)[G2.length]? = _; rw [hp_get0]; rfl) (by show (G2 ++ _)[G2.length + 2]? = _; rw [hp_get]; rfl) (cl1 _ fl3) (by omega)
  have fin := hgc [.lst false [wrdP [an], wrdP [an]], .lst false [wrdP [an]], .lst false [wrdP [an], wrdP [an]]]
  clear hgc fl3 hT hst hsl hef h00 i1 f1 f2 cl1 cl2
  (have zz0 := @@pow_18; have zz1 := @@M_app; have zz2 := @@M_len; walk_at "u")

end Lw
end
section
set_option Elab.async false
set_option linter.all false
set_option maxRecDepth 100000
namespace Lw
open PySem EV
local macro_rules | `(tactic| walk_at "w") => `(tactic| simp -implicitDefEqProofs (disch := first | omega | (simp only [List.length_cons, List.length_nil, List.length_map, List.length_append] <;> omega)) only [EV.Wb_nil, EV.Wb_pass, EV.Wb_asg, EV.Wb_expr, EV.Wb_ret, EV.Wb_retN, EV.Wb_brk, EV.Wb_cnt, EV.Wb_ite, EV.Wb_set, EV.Wb_for, EV.Wb_tryN, EV.We_cst, EV.We_var, EV.We_glb, EV.We_tup, EV.We_lst, EV.We_dnew, EV.We_bin, EV.We_neg, EV.We_not, EV.We_and, EV.We_or, EV.We_cmp, EV.We_chn, EV.We_ite, EV.We_idx, EV.We_call, EV.We_callK, EV.We_bf, EV.We_mt, EV.We_comp, EV.We_con, EV.Wl_nil, EV.Wl_cons, EV.Wi_itv, EV.Wi_its, EV.Wi_itc, EV.Wi_rng, EV.Wi_enm, EV.Wi_zip, EV.Wt_e, EV.Ws_e, EV.Wo_some, EV.Wv_some, EV.Wob_some, EV.Wtr_some, EV.Woi_some, EV.Ktup_ap, EV.Klst_ap, EV.Kbin_ap, EV.Kbin2_add, EV.Kbin2_sub, EV.Kbin2_mul, EV.Kbin2_mod, EV.Kbin2_fdiv, EV.Kneg_ap, EV.Kbl_ap, EV.Knot_ap, EV.Kand_t, EV.Kand_f, EV.Kor_t, EV.Kor_f, EV.Kcmp_ap, EV.Kcmp2_lt, EV.Kcmp2_le, EV.Kcmp2_gt, EV.Kcmp2_ge, EV.Kcmp2_eq, EV.Kcmp2_ne, EV.Kcmp2_is, EV.Kcmp2_isnot, EV.Kcmp2_isB, EV.Kchn_ap, EV.Kchn2_le, EV.Wch_t, EV.Wch_f, EV.Kife_t, EV.Kife_f, EV.Kidx_ap, EV.Kidx2_T0, EV.Kidx2_T1, EV.Kidx2_T2, EV.Kidx2_Tn, EV.Kidx2_O, EV.Wix_lst, EV.Wix_dK, EV.Wix_lkd, EV.Wix_dT, EV.atI_0, EV.atI_1, EV.atI_2, EV.atI_n, EV.Kcall_ap, EV.KcallK_ap, EV.KcallK2_ap, EV.Wpk_some, EV.Kbf_lenT, EV.Kbf_lenO, EV.Wln_lst, EV.Wln_dK, EV.Wln_dT, EV.Kbf_int, EV.Kbf_intB, EV.Kbf_min, EV.Kbf_max, EV.Kbf_isT, EV.Kbf_isI, EV.Kbf_isB, EV.Kbf_isS, EV.Kbf_isN, EV.Kbf_isO, EV.Wity_lst, EV.Kmt_app, EV.isLs_ap, EV.Kap_ap, EV.Wap_ap, EV.Kcon_tup, EV.Kcon_tupT, EV.Kcon_lst, EV.Kcon_live, EV.Wls_ap, EV.Wr_ctup, EV.Wr_clst, EV.Kc1_ap, EV.Kc2_ap, EV.Ktst_bl, EV.Ktst_tup, EV.Ktst_obj, EV.Wtl_lst, EV.KtstB_ap, EV.Knl_ap, EV.Kvl_ap, EV.Kitv_tup, EV.Kitv_obj, EV.Wlv_ap, EV.Kits_tup, EV.Kits_obj, EV.Wlc_ap, EV.Kenm_tup, EV.Kenm_obj, EV.Kzip_ap, EV.Kzip2_tup, EV.Krng_ap, EV.Krng2_0n, EV.Kasg_ap, EV.Wbd_nm, EV.Wbd_tup, EV.Wbds_nil, EV.Wbds_cons, EV.Kexp_ap, EV.Kret_ap, EV.Kseq_nx, EV.Kseq_rt, EV.Kseq_bk, EV.Kseq_ct, EV.Kif_t, EV.Kif_f, EV.Kset_ap, EV.Kset2_ap, EV.Kwhl_t, EV.Kwhl_f, EV.Kfor_nx, EV.Kfor_ct, EV.Kfor_bk, EV.Kfor_rt, EV.Kout_rt, EV.Kout_nx, EV.hp_get, EV.hp_get0, EV.hp_set, EV.hp_set0, List.getElem?_cons_zero, List.getElem?_cons_succ, List.set_cons_zero, List.set_cons_succ, List.length_cons, List.length_nil, List.length_map, List.getElem?_map, Option.map_some, Option.map_none, List.append_assoc, List.cons_append, List.nil_append, true_and, and_true, false_and, and_false, decide_true, decide_false, Bool.not_true, Bool.not_false, if_true, if_false, EV.isNon, and_self, Nat.zero_add, Bool.true_or, Bool.or_true, Bool.false_or, Bool.or_false, EV.gc_len, reduceIte, eq_self, Nat.reduceAdd, Int.reduceLT, Int.reduceLE, Int.reduceEq, Int.reduceNe, Int.reduceSub, Int.reduceAdd, Int.reduceMul, Int.reduceNeg, Int.reduceToNat, Int.cast_ofNat_Int, *])
local macro_rules | `(tactic| walk_at "v") => `(tactic| simp -implicitDefEqProofs (disch := first | omega | (simp only [List.length_cons, List.length_nil, List.length_map, List.length_append] <;> omega)) only [EV.Wb_nil, EV.Wb_pass, EV.Wb_asg, EV.Wb_expr, EV.Wb_ret, EV.Wb_retN, EV.Wb_brk, EV.Wb_cnt, EV.Wb_ite, EV.Wb_set, EV.Wb_for, EV.Wb_tryN, EV.We_cst, EV.We_var, EV.We_glb, EV.We_tup, EV.We_lst, EV.We_dnew, EV.We_bin, EV.We_neg, EV.We_not, EV.We_and, EV.We_or, EV.We_cmp, EV.We_chn, EV.We_ite, EV.We_idx, EV.We_call, EV.We_callK, EV.We_bf, EV.We_mt, EV.We_comp, EV.We_con, EV.Wl_nil, EV.Wl_cons, EV.Wi_itv, EV.Wi_its, EV.Wi_itc, EV.Wi_rng, EV.Wi_enm, EV.Wi_zip, EV.Wt_e, EV.Ws_e, EV.Wo_some, EV.Wv_some, EV.Wob_some, EV.Wtr_some, EV.Woi_some, EV.Ktup_ap, EV.Klst_ap, EV.Kbin_ap, EV.Kbin2_add, EV.Kbin2_sub, EV.Kbin2_mul, EV.Kbin2_mod, EV.Kbin2_fdiv, EV.Kneg_ap, EV.Kbl_ap, EV.Knot_ap, EV.Kand_t, EV.Kand_f, EV.Kor_t, EV.Kor_f, EV.Kcmp_ap, EV.Kcmp2_lt, EV.Kcmp2_le, EV.Kcmp2_gt, EV.Kcmp2_ge, EV.Kcmp2_eq, EV.Kcmp2_ne, EV.Kcmp2_is, EV.Kcmp2_isnot, EV.Kcmp2_isB, EV.Kchn_ap, EV.Kchn2_le, EV.Wch_t, EV.Wch_f, EV.Kife_t, EV.Kife_f, EV.Kidx_ap, EV.Kidx2_T0, EV.Kidx2_T1, EV.Kidx2_T2, EV.Kidx2_Tn, EV.Kidx2_O, EV.Wix_lst, EV.Wix_dK, EV.Wix_lkd, EV.Wix_dT, EV.atI_0, EV.atI_1, EV.atI_2, EV.atI_n, EV.Kcall_ap, EV.KcallK_ap, EV.KcallK2_ap, EV.Wpk_some, EV.Kbf_lenT, EV.Kbf_lenO, EV.Wln_lst, EV.Wln_dK, EV.Wln_dT, EV.Kbf_int, EV.Kbf_intB, EV.Kbf_min, EV.Kbf_max, EV.Kbf_isT, EV.Kbf_isI, EV.Kbf_isB, EV.Kbf_isS, EV.Kbf_isN, EV.Kbf_isO, EV.Wity_lst, EV.Kmt_app, EV.isLs_ap, EV.Kap_ap, EV.Wap_ap, EV.Kcon_tup, EV.Kcon_tupT, EV.Kcon_lst, EV.Kcon_live, EV.Wls_ap, EV.Wr_ctup, EV.Wr_clst, EV.Kc1_ap, EV.Kc2_ap, EV.Ktst_bl, EV.Ktst_tup, EV.Ktst_obj, EV.Wtl_lst, EV.KtstB_ap, EV.Knl_ap, EV.Kvl_ap, EV.Kitv_tup, EV.Kitv_obj, EV.Wlv_ap, EV.Kits_tup, EV.Kits_obj, EV.Wlc_ap, EV.Kenm_tup, EV.Kenm_obj, EV.Kzip_ap, EV.Kzip2_tup, EV.Krng_ap, EV.Krng2_0n, EV.Kasg_ap, EV.Wbd_nm, EV.Wbd_tup, EV.Wbds_nil, EV.Wbds_cons, EV.Kexp_ap, EV.Kret_ap, EV.Kseq_nx, EV.Kseq_rt, EV.Kseq_bk, EV.Kseq_ct, EV.Kif_t, EV.Kif_f, EV.Kset_ap, EV.Kset2_ap, EV.Kwhl_t, EV.Kwhl_f, EV.Kfor_nx, EV.Kfor_ct, EV.Kfor_bk, EV.Kfor_rt, EV.Kout_rt, EV.Kout_nx, EV.hp_get, EV.hp_get0, EV.hp_set, EV.hp_set0, List.getElem?_cons_zero, List.getElem?_cons_succ, List.set_cons_zero, List.set_cons_succ, List.length_cons, List.length_nil, List.length_map, List.getElem?_map, Option.map_some, Option.map_none, List.append_assoc, List.cons_append, List.nil_append, true_and, and_true, false_and, and_false, decide_true, decide_false, Bool.not_true, Bool.not_false, if_true, if_false, EV.isNon, and_self, Nat.zero_add, Bool.true_or, Bool.or_true, Bool.false_or, Bool.or_false, EV.gc_len, reduceIte, eq_self, Nat.reduceAdd, Int.reduceLT, Int.reduceLE, Int.reduceEq, Int.reduceNe, Int.reduceSub, Int.reduceAdd, Int.reduceMul, Int.reduceNeg, Int.reduceToNat, Int.cast_ofNat_Int])
local macro_rules | `(tactic| walk_at "u") => `(tactic| simp -implicitDefEqProofs (disch := first | omega | (simp only [List.length_cons, List.length_nil, List.length_map, List.length_append] <;> omega)) only [EV.Wb_nil, EV.Wb_pass, EV.Wb_asg, EV.Wb_expr, EV.Wb_ret, EV.Wb_retN, EV.Wb_brk, EV.Wb_cnt, EV.Wb_ite, EV.Wb_set, EV.Wb_for, EV.Wb_tryN, EV.We_cst, EV.We_var, EV.We_glb, EV.We_tup, EV.We_lst, EV.We_dnew, EV.We_bin, EV.We_neg, EV.We_not, EV.We_and, EV.We_or, EV.We_cmp, EV.We_chn, EV.We_ite, EV.We_idx, EV.We_call, EV.We_callK, EV.We_bf, EV.We_mt, EV.We_comp, EV.We_con, EV.Wl_nil, EV.Wl_cons, EV.Wi_itv, EV.Wi_its, EV.Wi_itc, EV.Wi_rng, EV.Wi_enm, EV.Wi_zip, EV.Wt_e, EV.Ws_e, EV.Wo_some, EV.Wv_some, EV.Wob_some, EV.Wtr_some, EV.Woi_some, EV.Ktup_ap, EV.Klst_ap, EV.Kbin_ap, EV.Kbin2_add, EV.Kbin2_sub, EV.Kbin2_mul, EV.Kbin2_mod, EV.Kbin2_fdiv, EV.Kneg_ap, EV.Kbl_ap, EV.Knot_ap, EV.Kand_t, EV.Kand_f, EV.Kor_t, EV.Kor_f, EV.Kcmp_ap, EV.Kcmp2_lt, EV.Kcmp2_le, EV.Kcmp2_gt, EV.Kcmp2_ge, EV.Kcmp2_eq, EV.Kcmp2_ne, EV.Kcmp2_is, EV.Kcmp2_isnot, EV.Kcmp2_isB, EV.Kchn_ap, EV.Kchn2_le, EV.Wch_t, EV.Wch_f, EV.Kife_t, EV.Kife_f, EV.Kidx_ap, EV.Kidx2_T0, EV.Kidx2_T1, EV.Kidx2_T2, EV.Kidx2_Tn, EV.Kidx2_O, EV.Wix_lst, EV.Wix_dK, EV.Wix_lkd, EV.Wix_dT, EV.atI_0, EV.atI_1, EV.atI_2, EV.atI_n, EV.Kcall_ap, EV.KcallK_ap, EV.KcallK2_ap, EV.Wpk_some, EV.Kbf_lenT, EV.Kbf_lenO, EV.Wln_lst, EV.Wln_dK, EV.Wln_dT, EV.Kbf_int, EV.Kbf_intB, EV.Kbf_min, EV.Kbf_max, EV.Kbf_isT, EV.Kbf_isI, EV.Kbf_isB, EV.Kbf_isS, EV.Kbf_isN, EV.Kbf_isO, EV.Wity_lst, EV.Kmt_app, EV.isLs_ap, EV.Kap_ap, EV.Wap_ap, EV.Kcon_tup, EV.Kcon_tupT, EV.Kcon_lst, EV.Kcon_live, EV.Wls_ap, EV.Wr_ctup, EV.Wr_clst, EV.Kc1_ap, EV.Kc2_ap, EV.Ktst_bl, EV.Ktst_tup, EV.Ktst_obj, EV.Wtl_lst, EV.KtstB_ap, EV.Knl_ap, EV.Kvl_ap, EV.Kitv_tup, EV.Kitv_obj, EV.Wlv_ap, EV.Kits_tup, EV.Kits_obj, EV.Wlc_ap, EV.Kenm_tup, EV.Kenm_obj, EV.Kzip_ap, EV.Kzip2_tup, EV.Krng_ap, EV.Krng2_0n, EV.Kasg_ap, EV.Wbd_nm, EV.Wbd_tup, EV.Wbds_nil, EV.Wbds_cons, EV.Kexp_ap, EV.Kret_ap, EV.Kseq_nx, EV.Kseq_rt, EV.Kseq_bk, EV.Kseq_ct, EV.Kif_t, EV.Kif_f, EV.Kset_ap, EV.Kset2_ap, EV.Kwhl_t, EV.Kwhl_f, EV.Kfor_nx, EV.Kfor_ct, EV.Kfor_bk, EV.Kfor_rt, EV.Kout_rt, EV.Kout_nx, EV.hp_get, EV.hp_get0, EV.hp_set, EV.hp_set0, List.getElem?_cons_zero, List.getElem?_cons_succ, List.set_cons_zero, List.set_cons_succ, List.length_cons, List.length_nil, List.length_map, List.getElem?_map, Option.map_some, Option.map_none, List.append_assoc, List.cons_append, List.nil_append, true_and, and_true, false_and, and_false, decide_true, decide_false, Bool.not_true, Bool.not_false, if_true, if_false, EV.isNon, and_self, Nat.zero_add, Bool.true_or, Bool.or_true, Bool.false_or, Bool.or_false, EV.gc_len, reduceIte, eq_self, Nat.reduceAdd, Int.reduceLT, Int.reduceLE, Int.reduceEq, Int.reduceNe, Int.reduceSub, Int.reduceAdd, Int.reduceMul, Int.reduceNeg, Int.reduceToNat, Int.cast_ofNat_Int, List.length_append, Nat.add_assoc, Option.isSome_none, Option.isSome_some, Option.bind_some, Option.bind_none, List.isEmpty_nil, List.isEmpty_cons, *, List.map_append, List.map_cons, List.map_nil])
theorem c43 {sc : List Int} {m : St} {g : PH} (mo : m.Ok) (hs : m.spot < 900000000000) (cg : Cg g) {c : Clk} (o : c.Ok) (sm : c.Sm) {w : List (Nat × Nat)} (hw : TOk c.n w) (h12 : ∀ p ∈ w, p.1 < 12) (hl6 : w.length ≤ 6) {K : KV} {k : Nat} (hk : 9 ≤ k)
    (hK : ∀ m', m'.Ok → m'.spot ≤ m.spot + 4 → K (.bl true) (M sc m' g)) : Wc (P.cc k) 43 [.obj 3, c.pv, rowP w, wrdP (c.tas w).1] (M sc m g) K := by
  obtain ⟨N, E⟩ := Clk.ex o sm
  refine w43 (by omega) ?_
  refine x43f (rest := z43) o sm E cg.cl (by omega) hw h12 hl6 fun t x4 x5 x6 x7 x8 x9 x10 x13 x14 x15 x16 x18 ft => ?_
  refine x43z mo hs (ft.cg cg) o sm E (by omega) fun m' u o' s' => ?_
  rw [M_len, List.append_assoc, gcM cg rfl]
  exact hK m' o' s'
theorem clkOk {c : Clk} {S N A ms : Nat} (en : c.n = N) (ea : c.A = A) (er : c.rows.length = S) (hr : ∀ r ∈ c.rows, RowOk S A N ms r) (s1 : 1 ≤ S) (s2 : S ≤ 20) (n1 : 1 ≤ N) (n2 : N ≤ 4) (a1 : 1 ≤ A) (a2 : A ≤ 9) (m2 : ms ≤ 1000000000000000000) : c.Ok where
  n1 := by omega
  n4 := by omega
  a1 := by omega
  a9 := by omega
  t1 := by omega
  t20 := by omega
  row := fun r h => by
    obtain ⟨h1, h2, h3⟩ := hr r h
    rw [en, ea, er]
    exact ⟨h1, h2, fun o ho => by obtain ⟨z1, z2, z3⟩ := h3 o ho; exact ⟨z1, by omega, z3⟩⟩
theorem c36c {sc : List Int} {m : St} {g : PH} (mo : m.Ok) (hs : m.spot < 900000000000) (cg : Cg g) {S N A ms : Nat} (s1 : 1 ≤ S) (s2 : S ≤ 20) (n2 : N ≤ 4) (a1 : 1 ≤ A) (a2 : A ≤ 9) (m1 : 1 ≤ ms) (m2 : ms ≤ 1000000000000000000) {K : KV} {k : Nat} (hk : 3 ≤ k)
    (hK : ∀ (c : Clk) m', c.n = N → c.A = A → c.rows.length = S → (∀ r ∈ c.rows, RowOk S A N ms r) → m'.Ok → m'.spot ≤ m.spot + 220 → K c.pv (M sc m' g)) : Wc (P.cc k) 36 [.obj 3, nI S, nI N, nI A, nI ms] (M sc m g) K :=
  c36 mo hs cg s1 s2 n2 a1 a2 m1 m2 hk fun rows m' h1 h2 h3 h4 => hK ⟨N, A, rows⟩ m' rfl rfl h1 h2 h3 h4
theorem clkSm {c : Clk} {S N A ms : Nat} (o : c.Ok) (en : c.n = N) (er : c.rows.length = S) (hr : ∀ r ∈ c.rows, RowOk S A N ms r) (s2 : S ≤ 5) (n2 : N ≤ 3) (m2 : ms ≤ 6) : c.Sm where
  n3 := by omega
  m5 := by omega
  s6 := fun s u hs hu => by
    obtain ⟨r, h1, h2, _⟩ := Clk.get o hs
    have := ((hr r (List.mem_of_getElem? h1)).2.2 u (by rw [h2, hu])).2.1
    omega
theorem lik_crow {d : Nat} {r : CRow} (h : r.2.length ≤ 1000000) : lik (d + 3) (crowP r) := ⟨by show 2 ≤ _; omega, fun x hx => by
  rcases List.mem_cons.mp hx with e | e
  · rw [e]
    cases r.1 with
    | none => trivial
    | some p => exact lik_pv2
  · rw [List.mem_singleton.mp e]; exact lik_row h⟩
theorem lik_clk {c : Clk} (o : c.Ok) : lik 5 c.pv := ⟨by show 3 ≤ _; omega, fun x hx => by
  rcases List.mem_cons.mp hx with h | h
  · rw [h]; exact lik_int
  rcases List.mem_cons.mp h with h | h
  · rw [h]; exact lik_int
  rw [List.mem_singleton.mp h]
  refine ⟨by rw [List.length_map]; have := o.t20; omega, fun x hx => ?_⟩
  obtain ⟨r, hr, rfl⟩ := List.mem_map.mp hx
  exact lik_crow (by have := (o.row r hr).1; have := o.n4; omega)⟩
/-! ### small clocks -/
abbrev a42 (rest : List EV.S) : List EV.S := .asg (.nm 1) (.call 36 [.var 0, .bin .add (.cst (.int 1)) (.call 33 [.var 0, .cst (.int 5)]), .bin .add (.cst (.int 1)) (.call 33 [.var 0, .cst (.int 3)]), .bin .add (.cst (.int 1)) (.call 33 [.var 0, .cst (.int 3)]), .call 34 [.var 0, .lst [.cst (.int 1), .cst (.int 3), .cst (.int 6)]]]) :: .asg (.nm 2) (.call 33 [.var 0, .bf .len [.idx (.var 1) (.cst (.int 2))]]) :: rest
theorem x42a {sc : List Int} {m : St} {g : PH} (mo : m.Ok) (hs : m.spot < 800000000000) (cg : Cg g) {k : Nat} (hk : 8 ≤ k) {rest : List EV.S} {Q : Rt → Prop}
    (hK : ∀ (c : Clk) (s : Nat) m' t, c.Ok → c.Sm → s < c.rows.length → m'.Ok → m'.spot ≤ m.spot + 230 → Fl t → Wb (P.cc k) rest [some (.obj 3), some c.pv, some (nI s), none, none, none, none, none, none, none, none] (M sc m' (g ++ t)) Q) :
    Wb (P.cc k) (a42 rest) [some (.obj 3), none, none, none, none, none, none, none, none, none, none] (M sc m g) Q := by
  (have zz0 := @@M_app; have zz1 := @@M_len; walk_at "u")
  refine c33 (L := 5) mo (by omega) cg (by omega) (by omega) (by omega) fun d1 m1 hd1 o1 s1 => ?_
  (have zz0 := @@M_app; have zz1 := @@M_len; walk_at "u")
  refine c33 (L := 3) o1 (by omega) cg (by omega) (by omega) (by omega) fun d2 m2 hd2 o2 s2 => ?_
  (have zz0 := @@M_app; have zz1 := @@M_len; walk_at "u")
  refine c33 (L := 3) o2 (by omega) cg (by omega) (by omega) (by omega) fun d3 m3 hd3 o3 s3 => ?_
  (have zz0 := @@M_app; have zz1 := @@M_len; walk_at "u")
  have f1 : Fl [.lst false [.int 1, .int 3, .int 6]] := Fl.nil.cons rfl
  have cg1 := f1.cg cg
  refine c34 (n := g.length) (xs := [.int 1, .int 3, .int 6]) (fz := false) o3 (by omega) cg1 hp_get0 (by simp) (by simp) (by omega) fun i x m4 hx o4 s4 => ?_
  obtain ⟨ms, h1, h6, rfl⟩ : ∃ ms : Nat, 1 ≤ ms ∧ ms ≤ 6 ∧ x = nI ms := by
    match i, hx with
    | 0, hx => exact ⟨1, by omega, by omega, (Option.some.inj hx).symm⟩
    | 1, hx => exact ⟨3, by omega, by omega, (Option.some.inj hx).symm⟩
    | 2, hx => exact ⟨6, by omega, by omega, (Option.some.inj hx).symm⟩
  clear hx
  (have zz0 := @@M_app; have zz1 := @@M_len; walk_at "u")
  refine c36c (S := 1 + d1) (N := 1 + d2) (A := 1 + d3) (ms := ms) o4 (by omega) cg1 (by omega) (by omega) (by omega) (by omega) (by omega) (by omega) (by omega) (by omega) fun c m5 en ea er hr o5 s5 => ?_
  have co : c.Ok := clkOk en ea er hr (by omega) (by omega) (by omega) (by omega) (by omega) (by omega) (by omega)
  have csm : c.Sm := clkSm co en er hr (by omega) (by omega) (by omega)
  have ct := co.t1
  have ct2 := co.t20
  clear en ea er hr
  (have zz0 := @@M_app; have zz1 := @@M_len; walk_at "u")
  refine c33 (L := c.rows.length) o5 (by omega) cg1 (by omega) (by omega) (by omega) fun s m6 hs6 o6 s6 => ?_
  have fin := hK c s m6 _ co csm hs6 o6 (by omega) f1
  clear hK
  (have zz0 := @@M_app; have zz1 := @@M_len; walk_at "u")
abbrev b42a (rest : List EV.S) : List EV.S := .asg (.nm 3) (.call 38 [.var 1, .var 2, .cst (.int 40)]) :: .ite (.or (.not (.call 35 [.comp (.call 24 [.var 1, .var 2, .var 7]) (.nm 7) (.rng (.cst (.int 0)) (.cst (.int 41))) (.cst (.bl true)) [7], .var 3])) (.not (.call 35 [.callK 16 [] [.var 1] [0], .var 1]))) [.ret (.cst (.bl false))] [] :: rest
theorem x42b {h : PH} (cl : Cl h) {c : Clk} (o : c.Ok) {s : Nat} (hs : s < c.rows.length) {k : Nat} (hk : 8 ≤ k) {x0 : Option PV} {rest : List EV.S} {Q : Rt → Prop}
    (hK : ∀ t x3, Fl t → Wb (P.cc k) rest [x0, some c.pv, some (nI s), x3, none, none, none, none, none, none, none] (h ++ t) Q) :
    Wb (P.cc k) (b42a rest) [x0, some c.pv, some (nI s), none, none, none, none, none, none, none, none] h Q := by
  have e38 : ∀ K, Wc (P.cc k) 38 [c.pv, nI s, .int 40] h K = K (.obj h.length) (h ++ [.lst false ((c.sts s 41).map pv2)]) := fun K => c38 (w := 40) o hs (by omega) (by omega)
  have f1 : Fl [.lst false ((c.sts s 41).map pv2)] := Fl.nil.cons flat_pairs
  have f2 : Fl [.lst false ((c.sts s 41).map pv2), .lst false ((c.sts s 41).map pv2)] := f1.cons flat_pairs
  have cl1 := f1.cl cl
  have cl2 := f2.cl cl
  have e24 : ∀ j : Nat, j < 41 → ∀ K, Wc (P.cc k) 24 [c.pv, nI s, .int (0 + (j : Int))] (h ++ [.lst false ((c.sts s 41).map pv2)]) K = K (pv2 (c.st s j)) (h ++ [.lst false ((c.sts s 41).map pv2)]) := fun j hj K => by
    rw [Int.zero_add]
    exact c24 o hs (by omega) cl1 (by omega)
  have e35 : ∀ K, Wc (P.cc k) 35 [.obj (h.length + 1), .obj h.length] (h ++ [.lst false ((c.sts s 41).map pv2), .lst false ((c.sts s 41).map pv2)]) K = K (.bl true) (h ++ [.lst false ((c.sts s 41).map pv2), .lst false ((c.sts s 41).map pv2)]) := fun K => c35l (d := 1) (xs := (c.sts s 41).map pv2) (fa := false) (fb := false) (by rw [List.length_map, Clk.sts_len]; omega) (fun x hx => by obtain ⟨a, _, rfl⟩ := List.mem_map.mp hx; exact lik_pv2) (by rw [hp_get]; rfl) (by rw [hp_get0]; rfl) cl2 (by omega)
  have e16 : ∀ K, Wc (P.cc k) 16 [c.pv] (h ++ [.lst false ((c.sts s 41).map pv2), .lst false ((c.sts s 41).map pv2)]) K = K c.pv (h ++ [.lst false ((c.sts s 41).map pv2), .lst false ((c.sts s 41).map pv2)]) := fun K => c16 o (by omega)
  have e35c : ∀ K, Wc (P.cc k) 35 [c.pv, c.pv] (h ++ [.lst false ((c.sts s 41).map pv2), .lst false ((c.sts s 41).map pv2)]) K = K (.bl true) (h ++ [.lst false ((c.sts s 41).map pv2), .lst false ((c.sts s 41).map pv2)]) := fun K => c35 5 _ (lik_clk o) cl2 (by omega)
  have fin := fun x3 => hK _ x3 f2
  clear hK f1 f2 cl1 cl2
  (have zz0 := @@Krng2_ap; walk_at "u")
  refine Klp_map (l := List.range 41) (f := fun j : Nat => .int (0 + (j : Int))) (g := fun j => pv2 (c.st s j)) (by rw [fuelE, List.length_range]; omega) (by rw [List.length_range]; omega) iw_rng (fun a ha => ?_) ?_
  · have e := e24 a (List.mem_range.mp ha)
    clear e24 fin
    simp only [wipeP]
    walk_at "u"
  have hl : ((List.range 41).map fun j => pv2 (c.st s j)) = (c.sts s 41).map pv2 := by unfold Clk.sts; rw [List.map_map]; rfl
  rw [hl]
  clear e24 hl
  (have zz0 := @@pick1; walk_at "u")
end Lw
end
section
set_option Elab.async false
set_option linter.all false
set_option maxRecDepth 100000
namespace Lw
open PySem EV
local macro_rules | `(tactic| walk_at "w") => `(tactic| simp -implicitDefEqProofs (disch := first | omega | (simp only [List.length_cons, List.length_nil, List.length_map, List.length_append] <;> omega)) only [EV.Wb_nil, EV.Wb_pass, EV.Wb_asg, EV.Wb_expr, EV.Wb_ret, EV.Wb_retN, EV.Wb_brk, EV.Wb_cnt, EV.Wb_ite, EV.Wb_set, EV.Wb_for, EV.Wb_tryN, EV.We_cst, EV.We_var, EV.We_glb, EV.We_tup, EV.We_lst, EV.We_dnew, EV.We_bin, EV.We_neg, EV.We_not, EV.We_and, EV.We_or, EV.We_cmp, EV.We_chn, EV.We_ite, EV.We_idx, EV.We_call, EV.We_callK, EV.We_bf, EV.We_mt, EV.We_comp, EV.We_con, EV.Wl_nil, EV.Wl_cons, EV.Wi_itv, EV.Wi_its, EV.Wi_itc, EV.Wi_rng, EV.Wi_enm, EV.Wi_zip, EV.Wt_e, EV.Ws_e, EV.Wo_some, EV.Wv_some, EV.Wob_some, EV.Wtr_some, EV.Woi_some, EV.Ktup_ap, EV.Klst_ap, EV.Kbin_ap, EV.Kbin2_add, EV.Kbin2_sub, EV.Kbin2_mul, EV.Kbin2_mod, EV.Kbin2_fdiv, EV.Kneg_ap, EV.Kbl_ap, EV.Knot_ap, EV.Kand_t, EV.Kand_f, EV.Kor_t, EV.Kor_f, EV.Kcmp_ap, EV.Kcmp2_lt, EV.Kcmp2_le, EV.Kcmp2_gt, EV.Kcmp2_ge, EV.Kcmp2_eq, EV.Kcmp2_ne, EV.Kcmp2_is, EV.Kcmp2_isnot, EV.Kcmp2_isB, EV.Kchn_ap, EV.Kchn2_le, EV.Wch_t, EV.Wch_f, EV.Kife_t, EV.Kife_f, EV.Kidx_ap, EV.Kidx2_T0, EV.Kidx2_T1, EV.Kidx2_T2, EV.Kidx2_Tn, EV.Kidx2_O, EV.Wix_lst, EV.Wix_dK, EV.Wix_lkd, EV.Wix_dT, EV.atI_0, EV.atI_1, EV.atI_2, EV.atI_n, EV.Kcall_ap, EV.KcallK_ap, EV.KcallK2_ap, EV.Wpk_some, EV.Kbf_lenT, EV.Kbf_lenO, EV.Wln_lst, EV.Wln_dK, EV.Wln_dT, EV.Kbf_int, EV.Kbf_intB, EV.Kbf_min, EV.Kbf_max, EV.Kbf_isT, EV.Kbf_isI, EV.Kbf_isB, EV.Kbf_isS, EV.Kbf_isN, EV.Kbf_isO, EV.Wity_lst, EV.Kmt_app, EV.isLs_ap, EV.Kap_ap, EV.Wap_ap, EV.Kcon_tup, EV.Kcon_tupT, EV.Kcon_lst, EV.Kcon_live, EV.Wls_ap, EV.Wr_ctup, EV.Wr_clst, EV.Kc1_ap, EV.Kc2_ap, EV.Ktst_bl, EV.Ktst_tup, EV.Ktst_obj, EV.Wtl_lst, EV.KtstB_ap, EV.Knl_ap, EV.Kvl_ap, EV.Kitv_tup, EV.Kitv_obj, EV.Wlv_ap, EV.Kits_tup, EV.Kits_obj, EV.Wlc_ap, EV.Kenm_tup, EV.Kenm_obj, EV.Kzip_ap, EV.Kzip2_tup, EV.Krng_ap, EV.Krng2_0n, EV.Kasg_ap, EV.Wbd_nm, EV.Wbd_tup, EV.Wbds_nil, EV.Wbds_cons, EV.Kexp_ap, EV.Kret_ap, EV.Kseq_nx, EV.Kseq_rt, EV.Kseq_bk, EV.Kseq_ct, EV.Kif_t, EV.Kif_f, EV.Kset_ap, EV.Kset2_ap, EV.Kwhl_t, EV.Kwhl_f, EV.Kfor_nx, EV.Kfor_ct, EV.Kfor_bk, EV.Kfor_rt, EV.Kout_rt, EV.Kout_nx, EV.hp_get, EV.hp_get0, EV.hp_set, EV.hp_set0, List.getElem?_cons_zero, List.getElem?_cons_succ, List.set_cons_zero, List.set_cons_succ, List.length_cons, List.length_nil, List.length_map, List.getElem?_map, Option.map_some, Option.map_none, List.append_assoc, List.cons_append, List.nil_append, true_and, and_true, false_and, and_false, decide_true, decide_false, Bool.not_true, Bool.not_false, if_true, if_false, EV.isNon, and_self, Nat.zero_add, Bool.true_or, Bool.or_true, Bool.false_or, Bool.or_false, EV.gc_len, reduceIte, eq_self, Nat.reduceAdd, Int.reduceLT, Int.reduceLE, Int.reduceEq, Int.reduceNe, Int.reduceSub, Int.reduceAdd, Int.reduceMul, Int.reduceNeg, Int.reduceToNat, Int.cast_ofNat_Int, *])
local macro_rules | `(tactic| walk_at "v") => `(tactic| simp -implicitDefEqProofs (disch := first | omega | (simp only [List.length_cons, List.length_nil, List.length_map, List.length_append] <;> omega)) only [EV.Wb_nil, EV.Wb_pass, EV.Wb_asg, EV.Wb_expr, EV.Wb_ret, EV.Wb_retN, EV.Wb_brk, EV.Wb_cnt, EV.Wb_ite, EV.Wb_set, EV.Wb_for, EV.Wb_tryN, EV.We_cst, EV.We_var, EV.We_glb, EV.We_tup, EV.We_lst, EV.We_dnew, EV.We_bin, EV.We_neg, EV.We_not, EV.We_and, EV.We_or, EV.We_cmp, EV.We_chn, EV.We_ite, EV.We_idx, EV.We_call, EV.We_callK, EV.We_bf, EV.We_mt, EV.We_comp, EV.We_con, EV.Wl_nil, EV.Wl_cons, EV.Wi_itv, EV.Wi_its, EV.Wi_itc, EV.Wi_rng, EV.Wi_enm, EV.Wi_zip, EV.Wt_e, EV.Ws_e, EV.Wo_some, EV.Wv_some, EV.Wob_some, EV.Wtr_some, EV.Woi_some, EV.Ktup_ap, EV.Klst_ap, EV.Kbin_ap, EV.Kbin2_add, EV.Kbin2_sub, EV.Kbin2_mul, EV.Kbin2_mod, EV.Kbin2_fdiv, EV.Kneg_ap, EV.Kbl_ap, EV.Knot_ap, EV.Kand_t, EV.Kand_f, EV.Kor_t, EV.Kor_f, EV.Kcmp_ap, EV.Kcmp2_lt, EV.Kcmp2_le, EV.Kcmp2_gt, EV.Kcmp2_ge, EV.Kcmp2_eq, EV.Kcmp2_ne, EV.Kcmp2_is, EV.Kcmp2_isnot, EV.Kcmp2_isB, EV.Kchn_ap, EV.Kchn2_le, EV.Wch_t, EV.Wch_f, EV.Kife_t, EV.Kife_f, EV.Kidx_ap, EV.Kidx2_T0, EV.Kidx2_T1, EV.Kidx2_T2, EV.Kidx2_Tn, EV.Kidx2_O, EV.Wix_lst, EV.Wix_dK, EV.Wix_lkd, EV.Wix_dT, EV.atI_0, EV.atI_1, EV.atI_2, EV.atI_n, EV.Kcall_ap, EV.KcallK_ap, EV.KcallK2_ap, EV.Wpk_some, EV.Kbf_lenT, EV.Kbf_lenO, EV.Wln_lst, EV.Wln_dK, EV.Wln_dT, EV.Kbf_int, EV.Kbf_intB, EV.Kbf_min, EV.Kbf_max, EV.Kbf_isT, EV.Kbf_isI, EV.Kbf_isB, EV.Kbf_isS, EV.Kbf_isN, EV.Kbf_isO, EV.Wity_lst, EV.Kmt_app, EV.isLs_ap, EV.Kap_ap, EV.Wap_ap, EV.Kcon_tup, EV.Kcon_tupT, EV.Kcon_lst, EV.Kcon_live, EV.Wls_ap, EV.Wr_ctup, EV.Wr_clst, EV.Kc1_ap, EV.Kc2_ap, EV.Ktst_bl, EV.Ktst_tup, EV.Ktst_obj, EV.Wtl_lst, EV.KtstB_ap, EV.Knl_ap, EV.Kvl_ap, EV.Kitv_tup, EV.Kitv_obj, EV.Wlv_ap, EV.Kits_tup, EV.Kits_obj, EV.Wlc_ap, EV.Kenm_tup, EV.Kenm_obj, EV.Kzip_ap, EV.Kzip2_tup, EV.Krng_ap, EV.Krng2_0n, EV.Kasg_ap, EV.Wbd_nm, EV.Wbd_tup, EV.Wbds_nil, EV.Wbds_cons, EV.Kexp_ap, EV.Kret_ap, EV.Kseq_nx, EV.Kseq_rt, EV.Kseq_bk, EV.Kseq_ct, EV.Kif_t, EV.Kif_f, EV.Kset_ap, EV.Kset2_ap, EV.Kwhl_t, EV.Kwhl_f, EV.Kfor_nx, EV.Kfor_ct, EV.Kfor_bk, EV.Kfor_rt, EV.Kout_rt, EV.Kout_nx, EV.hp_get, EV.hp_get0, EV.hp_set, EV.hp_set0, List.getElem?_cons_zero, List.getElem?_cons_succ, List.set_cons_zero, List.set_cons_succ, List.length_cons, List.length_nil, List.length_map, List.getElem?_map, Option.map_some, Option.map_none, List.append_assoc, List.cons_append, List.nil_append, true_and, and_true, false_and, and_false, decide_true, decide_false, Bool.not_true, Bool.not_false, if_true, if_false, EV.isNon, and_self, Nat.zero_add, Bool.true_or, Bool.or_true, Bool.false_or, Bool.or_false, EV.gc_len, reduceIte, eq_self, Nat.reduceAdd, Int.reduceLT, Int.reduceLE, Int.reduceEq, Int.reduceNe, Int.reduceSub, Int.reduceAdd, Int.reduceMul, Int.reduceNeg, Int.reduceToNat, Int.cast_ofNat_Int])
local macro_rules | `(tactic| walk_at "u") => `(tactic| simp -implicitDefEqProofs (disch := first | omega | (simp only [List.length_cons, List.length_nil, List.length_map, List.length_append] <;> omega)) only [EV.Wb_nil, EV.Wb_pass, EV.Wb_asg, EV.Wb_expr, EV.Wb_ret, EV.Wb_retN, EV.Wb_brk, EV.Wb_cnt, EV.Wb_ite, EV.Wb_set, EV.Wb_for, EV.Wb_tryN, EV.We_cst, EV.We_var, EV.We_glb, EV.We_tup, EV.We_lst, EV.We_dnew, EV.We_bin, EV.We_neg, EV.We_not, EV.We_and, EV.We_or, EV.We_cmp, EV.We_chn, EV.We_ite, EV.We_idx, EV.We_call, EV.We_callK, EV.We_bf, EV.We_mt, EV.We_comp, EV.We_con, EV.Wl_nil, EV.Wl_cons, EV.Wi_itv, EV.Wi_its, EV.Wi_itc, EV.Wi_rng, EV.Wi_enm, EV.Wi_zip, EV.Wt_e, EV.Ws_e, EV.Wo_some, EV.Wv_some, EV.Wob_some, EV.Wtr_some, EV.Woi_some, EV.Ktup_ap, EV.Klst_ap, EV.Kbin_ap, EV.Kbin2_add, EV.Kbin2_sub, EV.Kbin2_mul, EV.Kbin2_mod, EV.Kbin2_fdiv, EV.Kneg_ap, EV.Kbl_ap, EV.Knot_ap, EV.Kand_t, EV.Kand_f, EV.Kor_t, EV.Kor_f, EV.Kcmp_ap, EV.Kcmp2_lt, EV.Kcmp2_le, EV.Kcmp2_gt, EV.Kcmp2_ge, EV.Kcmp2_eq, EV.Kcmp2_ne, EV.Kcmp2_is, EV.Kcmp2_isnot, EV.Kcmp2_isB, EV.Kchn_ap, EV.Kchn2_le, EV.Wch_t, EV.Wch_f, EV.Kife_t, EV.Kife_f, EV.Kidx_ap, EV.Kidx2_T0, EV.Kidx2_T1, EV.Kidx2_T2, EV.Kidx2_Tn, EV.Kidx2_O, EV.Wix_lst, EV.Wix_dK, EV.Wix_lkd, EV.Wix_dT, EV.atI_0, EV.atI_1, EV.atI_2, EV.atI_n, EV.Kcall_ap, EV.KcallK_ap, EV.KcallK2_ap, EV.Wpk_some, EV.Kbf_lenT, EV.Kbf_lenO, EV.Wln_lst, EV.Wln_dK, EV.Wln_dT, EV.Kbf_int, EV.Kbf_intB, EV.Kbf_min, EV.Kbf_max, EV.Kbf_isT, EV.Kbf_isI, EV.Kbf_isB, EV.Kbf_isS, EV.Kbf_isN, EV.Kbf_isO, EV.Wity_lst, EV.Kmt_app, EV.isLs_ap, EV.Kap_ap, EV.Wap_ap, EV.Kcon_tup, EV.Kcon_tupT, EV.Kcon_lst, EV.Kcon_live, EV.Wls_ap, EV.Wr_ctup, EV.Wr_clst, EV.Kc1_ap, EV.Kc2_ap, EV.Ktst_bl, EV.Ktst_tup, EV.Ktst_obj, EV.Wtl_lst, EV.KtstB_ap, EV.Knl_ap, EV.Kvl_ap, EV.Kitv_tup, EV.Kitv_obj, EV.Wlv_ap, EV.Kits_tup, EV.Kits_obj, EV.Wlc_ap, EV.Kenm_tup, EV.Kenm_obj, EV.Kzip_ap, EV.Kzip2_tup, EV.Krng_ap, EV.Krng2_0n, EV.Kasg_ap, EV.Wbd_nm, EV.Wbd_tup, EV.Wbds_nil, EV.Wbds_cons, EV.Kexp_ap, EV.Kret_ap, EV.Kseq_nx, EV.Kseq_rt, EV.Kseq_bk, EV.Kseq_ct, EV.Kif_t, EV.Kif_f, EV.Kset_ap, EV.Kset2_ap, EV.Kwhl_t, EV.Kwhl_f, EV.Kfor_nx, EV.Kfor_ct, EV.Kfor_bk, EV.Kfor_rt, EV.Kout_rt, EV.Kout_nx, EV.hp_get, EV.hp_get0, EV.hp_set, EV.hp_set0, List.getElem?_cons_zero, List.getElem?_cons_succ, List.set_cons_zero, List.set_cons_succ, List.length_cons, List.length_nil, List.length_map, List.getElem?_map, Option.map_some, Option.map_none, List.append_assoc, List.cons_append, List.nil_append, true_and, and_true, false_and, and_false, decide_true, decide_false, Bool.not_true, Bool.not_false, if_true, if_false, EV.isNon, and_self, Nat.zero_add, Bool.true_or, Bool.or_true, Bool.false_or, Bool.or_false, EV.gc_len, reduceIte, eq_self, Nat.reduceAdd, Int.reduceLT, Int.reduceLE, Int.reduceEq, Int.reduceNe, Int.reduceSub, Int.reduceAdd, Int.reduceMul, Int.reduceNeg, Int.reduceToNat, Int.cast_ofNat_Int, List.length_append, Nat.add_assoc, Option.isSome_none, Option.isSome_some, Option.bind_some, Option.bind_none, List.isEmpty_nil, List.isEmpty_cons, *, List.map_append, List.map_cons, List.map_nil])
abbrev c42a (rest : List EV.S) : List EV.S := .asg (.nm 4) (.con .tuple (.itc (.tup [.call 33 [.var 0, .cst (.int 12)], .call 33 [.var 0, .idx (.var 1) (.cst (.int 0))]]) (.nm 10) (.rng (.cst (.int 0)) (.call 33 [.var 0, .cst (.int 7)])) (.cst (.bl true)) [10])) :: rest
theorem x42c {sc : List Int} {m : St} {g : PH} (mo : m.Ok) (hs : m.spot < 800000000000) (cg : Cg g) {k : Nat} (hk : 8 ≤ k) {c : Clk} (o : c.Ok) {x2 x3 : Option PV} {rest : List EV.S} {Q : Rt → Prop}
    (hK : ∀ (w : List (Nat × Nat)) m', TOk c.n w → (∀ p ∈ w, p.1 < 12) → w.length ≤ 6 → m'.Ok → m'.spot ≤ m.spot + 13 → Wb (P.cc k) rest [some (.obj 3), some c.pv, x2, x3, some (rowP w), none, none, none, none, none, none] (M sc m' g) Q) :
    Wb (P.cc k) (c42a rest) [some (.obj 3), some c.pv, x2, x3, none, none, none, none, none, none, none] (M sc m g) Q := by
  have n1 := o.n1
  have n4 := o.n4
  (have zz0 := @@M_app; have zz1 := @@M_len; walk_at "u")
  refine c33 (L := 7) mo (by omega) cg (by omega) (by omega) (by omega) fun n m1 hn o1 s1 => ?_
  (have zz0 := @@M_app; have zz1 := @@M_len; walk_at "u")
  refine Klp_run (N := n) (fun i acc h' => ∃ (ps : List (Nat × Nat)) (m' : St), ps.length = i ∧ (∀ p ∈ ps, p.1 < 12 ∧ p.2 < c.n) ∧ m'.Ok ∧ m'.spot ≤ m1.spot + 2 * i ∧ acc = ps.map pv2 ∧ h' = M sc m' g) (by rw [fuelE]; omega)
    ⟨[], m1, rfl, (fun p h => by cases h), o1, Nat.le_refl _, rfl, rfl⟩ (fun i acc h' hi ⟨ps, m', z1, z2, z3, z4, z5, z6⟩ => ?_) fun acc h' ⟨ps, m', z1, z2, z3, z4, z5, z6⟩ => ?_
  · subst z5 z6
    refine ⟨by rw [List.length_map]; omega, _, by rw [itAt_rng, if_pos hi], ?_⟩
    simp only [wipeP]
    walk_at "v"
    refine c33 (L := 12) z3 (by omega) cg (by omega) (by omega) (by omega) fun d m1 hd o1 s1' => ?_
    walk_at "v"
    refine c33 (L := c.n) o1 (by omega) cg (by omega) (by omega) (by omega) fun d2 m2 hd2 o2 s2' => ?_
    walk_at "v"
    refine ⟨ps ++ [(d, d2)], m2, by rw [List.length_append, z1]; rfl, fun p hp => ?_, o2, by omega, by rw [List.map_append]; rfl, rfl⟩
    rcases List.mem_append.mp hp with h | h
    · exact z2 p h
    · rw [List.mem_singleton.mp h]; exact ⟨hd, hd2⟩
  · subst z5 z6
    refine ⟨by rw [itAt_rng, if_neg (Nat.lt_irrefl _)], ?_⟩
    have hz : (ps.map pv2).length ≤ 16777216 := by rw [List.length_map]; omega
    have fin := hK ps m' ⟨by omega, fun p hp => ⟨by have := (z2 p hp).1; omega, (z2 p hp).2⟩⟩ (fun p hp => (z2 p hp).1) (by omega) z3 (by omega)
    clear hK
    walk_at "u"
abbrev d42a (rest : List EV.S) : List EV.S := .asg (.tup [.nm 5, .nm 6]) (.tup [.lst [], .cst (.int 0)]) :: .forS (.tup [.nm 7, .nm 8]) (.itv (.var 4)) [.asg (.tup [.nm 9, .nm 6]) (.idx (.idx (.idx (.idx (.var 1) (.cst (.int 2))) (.idx (.idx (.call 38 [.var 1, .var 6, .var 7]) (.neg (.cst (.int 1)))) (.cst (.int 0)))) (.cst (.int 1))) (.var 8)), .expr (.mt .append (.var 5) [.var 9])] :: .ite (.or (.not (.call 35 [.callK 26 [] [.var 4, .var 1] [1, 0], .con .tuple (.its (.var 5))])) (.not (.call 41 [.var 1, .var 2]))) [.ret (.cst (.bl false))] [] :: rest
theorem x42d {h : PH} (cl : Cl h) {c : Clk} (o : c.Ok) {s : Nat} (hs : s < c.rows.length) {w : List (Nat × Nat)} (hw : TOk c.n w) (h12 : ∀ p ∈ w, p.1 < 12) (hl6 : w.length ≤ 6) {k : Nat} (hk : 8 ≤ k) {x0 x3 : Option PV} {rest : List EV.S} {Q : Rt → Prop}
    (hK : ∀ t x6 x7 x8 x9, Fl t → Wb (P.cc k) rest [x0, some c.pv, some (nI s), x3, some (rowP w), some (.obj h.length), x6, x7, x8, x9, none] (h ++ .lst false ((c.tas w).1.map nI) :: t) Q) :
    Wb (P.cc k) (d42a rest) [x0, some c.pv, some (nI s), x3, some (rowP w), none, none, none, none, none, none] h Q := by
  walk_at "u"
  refine Kfors_map (l := w) (f := pv2) (fun u r1 h1 => (∃ t, Fl t ∧ h1 = h ++ .lst false ((c.tas u).1.map nI) :: t) ∧ ∃ x7 x8 x9, r1 = [x0, some c.pv, some (nI s), x3, some (rowP w), some (.obj h.length), some (nI (c.tas u).2), x7, x8, x9, none]) (by rw [fuelE]; omega) ⟨⟨[], .nil, rfl⟩, _, _, _, rfl⟩ (fun pre a post r1 h1 hx ⟨⟨t, ft, z1⟩, x7, x8, x9, z2⟩ => ?_) fun r1 h1 ⟨⟨t, ft, z1⟩, x7, x8, x9, z2⟩ => ?_
  · subst z1 z2
    clear hK
    have hpre : ∀ p ∈ pre, p.2 < c.n := fun x m => (hw.2 x (by rw [hx]; exact List.mem_append_left _ m)).2
    have ham : a ∈ w := by rw [hx]; exact List.mem_append_right _ List.mem_cons_self
    have ha : a.2 < c.n := (hw.2 a ham).2
    have ha12 := h12 a ham
    have hst := Clk.tas_lt o hpre
    have hrl := Clk.tas_len o hpre
    have hpl : pre.length ≤ w.length := by rw [hx, List.length_append]; omega
    obtain ⟨row, q1, _, q3, _⟩ := Clk.get o (Clk.st_ok o hst a.1)
    have q4 := q3 a.2 ha
    have hz : ((c.tas pre).1.map nI).length ≤ 16777215 := by rw [List.length_map, hrl]; omega
    have e3 : ∀ H K, Wc (P.cc k) 38 [c.pv, nI (c.tas pre).2, nI a.1] H K = K (.obj H.length) (H ++ [.lst false ((c.sts (c.tas pre).2 (a.1 + 1)).map pv2)]) := fun H K => c38 o hst (by omega) (by omega)
    have e4 := Clk.sts_last (c := c) (s := (c.tas pre).2) (n := a.1)
    have f1 : Fl (t ++ [.lst false ((c.sts (c.tas pre).2 (a.1 + 1)).map pv2)]) := ft.lst flat_pairs
    have e5 : (c.tas (pre ++ [a])).1.map nI = (c.tas pre).1.map nI ++ [nI (c.stp (c.st (c.tas pre).2 a.1).1 a.2).1] := by rw [Clk.tas_snoc]; show List.map nI (_ ++ _) = _; rw [List.map_append]; rfl
    have e6 : (c.tas (pre ++ [a])).2 = (c.stp (c.st (c.tas pre).2 a.1).1 a.2).2 := by rw [Clk.tas_snoc]; rfl
    walk_at "u"
    exact ⟨⟨_, f1, rfl⟩, _, _, _, rfl⟩
  · subst z1 z2
    have hrl := Clk.tas_len o (w := w) fun p m => (hw.2 p m).2
    have hz : ((c.tas w).1.map nI).length ≤ 16777216 := by rw [List.length_map, hrl]; omega
    have f1 : Fl (.lst false ((c.tas w).1.map nI) :: t) := ft.cons flat_nI
    have cl1 := f1.cl cl
    have e26 : ∀ K, Wc (P.cc k) 26 [c.pv, rowP w] (h ++ .lst false ((c.tas w).1.map nI) :: t) K = K (wrdP (c.tas w).1) _ := fun K => c26 o hw cl1 (by omega)
    have e35 : ∀ K, Wc (P.cc k) 35 [wrdP (c.tas w).1, wrdP (c.tas w).1] (h ++ .lst false ((c.tas w).1.map nI) :: t) K = K (.bl true) _ := fun K => c35 1 _ (lik_nats (by omega)) cl1 (by omega)
    have e41 : ∀ K, Wc (P.cc k) 41 [c.pv, nI s] (h ++ .lst false ((c.tas w).1.map nI) :: t) K = K (.bl true) _ := fun K => c41 o hs cl1 (by omega)
    have fin := fun x6 x7 x8 x9 => hK t x6 x7 x8 x9 ft
    clear hK f1 cl1
    (have zz0 := @@pick2; walk_at "u")
theorem c42 {sc : List Int} {m : St} (mo : m.Ok) (hs : m.spot < 700000000000) {g : PH} (cg : Cg g) {K : KV} {k : Nat} (hk : 10 ≤ k)
    (hK : ∀ m', m'.Ok → m'.spot ≤ m.spot + 300 → K (.bl true) (M sc m' g)) : Wc (P.cc k) 42 [.obj 3] (M sc m g) K := by
  refine w42 (by omega) ?_
  refine x42a (rest := b42a (c42a (d42a [.ret (.call 43 [.var 0, .var 1, .var 4, .con .tuple (.its (.var 5))])]))) mo (by omega) cg (by omega) fun c s m1 t1 o sm hs1 o1 s1 f1 => ?_
  refine x42b (f1.cg cg).cl o hs1 (by omega) fun t2 x3 f2 => ?_
  rw [M_app]
  have cg2 := f2.cg (f1.cg cg)
  refine x42c o1 (by omega) cg2 (by omega) o fun w m2 hw h12 hl6 o2 s2 => ?_
  refine x42d cg2.cl o hs1 hw h12 hl6 (by omega) fun t3 x6 x7 x8 x9 f3 => ?_
  rw [M_app]
  have cg3 : Cg (g ++ t1 ++ t2 ++ .lst false ((c.tas w).1.map nI) :: t3) := (f3.cons (xs := (c.tas w).1.map nI) (fz := false) flat_nI).cg cg2
  have hrl := Clk.tas_len o (w := w) fun p m => (hw.2 p m).2
  have hz : ((c.tas w).1.map nI).length ≤ 16777216 := by rw [List.length_map, hrl]; omega
  have e5 : (M sc m2 (g ++ t1 ++ t2 ++ .lst false ((c.tas w).1.map nI) :: t3))[(M sc m2 (g ++ t1 ++ t2)).length]? = some (.lst false ((c.tas w).1.map nI)) := by
    show (g ++ t1 ++ t2 ++ _)[(g ++ t1 ++ t2).length]? = _
    rw [hp_get0]; rfl
  generalize (M sc m2 (g ++ t1 ++ t2)).length = n5 at e5
  have e43 := fun K hK => c43 (K := K) (k := k - 1) (m := m2) (sc := sc) o2 (by omega) cg3 o sm hw h12 hl6 (by omega) hK
  have hgc : ∀ m' : St, gc (g.length + 4) (.bl true) (M sc m' (g ++ t1 ++ t2 ++ .lst false ((c.tas w).1.map nI) :: t3)) = M sc m' g := fun m' => by rw [List.append_assoc, List.append_assoc, gcM cg rfl]
  generalize (g ++ t1 ++ t2 ++ .lst false ((c.tas w).1.map nI) :: t3) = G at *
  have hK := fun m' o' s' => hK m' o' s'
  clear cg2 cg3 hw h12 hl6 hrl
  have hK2 : ∀ m', m'.Ok → m'.spot ≤ m2.spot + 4 → Kret (Kout (g.length + 4) K) (.bl true) (M sc m' G) := fun m' o' s' => by
    show K (.bl true) (gc (g.length + 4) (.bl true) (M sc m' G))
    rw [hgc]
    exact hK m' o' (by omega)
  have e43 := e43 (Kret (Kout (g.length + 4) K)) hK2
  clear hK hK2 hgc
  (have zz0 := @@M_len; walk_at "u")
end Lw
end
section
set_option Elab.async false
set_option linter.all false
set_option maxRecDepth 100000
namespace Lw
open PySem EV
local macro_rules | `(tactic| walk_at "w") => `(tactic| simp -implicitDefEqProofs (disch := first | omega | (simp only [List.length_cons, List.length_nil, List.length_map, List.length_append] <;> omega)) only [EV.Wb_nil, EV.Wb_pass, EV.Wb_asg, EV.Wb_expr, EV.Wb_ret, EV.Wb_retN, EV.Wb_brk, EV.Wb_cnt, EV.Wb_ite, EV.Wb_set, EV.Wb_for, EV.Wb_tryN, EV.We_cst, EV.We_var, EV.We_glb, EV.We_tup, EV.We_lst, EV.We_dnew, EV.We_bin, EV.We_neg, EV.We_not, EV.We_and, EV.We_or, EV.We_cmp, EV.We_chn, EV.We_ite, EV.We_idx, EV.We_call, EV.We_callK, EV.We_bf, EV.We_mt, EV.We_comp, EV.We_con, EV.Wl_nil, EV.Wl_cons, EV.Wi_itv, EV.Wi_its, EV.Wi_itc, EV.Wi_rng, EV.Wi_enm, EV.Wi_zip, EV.Wt_e, EV.Ws_e, EV.Wo_some, EV.Wv_some, EV.Wob_some, EV.Wtr_some, EV.Woi_some, EV.Ktup_ap, EV.Klst_ap, EV.Kbin_ap, EV.Kbin2_add, EV.Kbin2_sub, EV.Kbin2_mul, EV.Kbin2_mod, EV.Kbin2_fdiv, EV.Kneg_ap, EV.Kbl_ap, EV.Knot_ap, EV.Kand_t, EV.Kand_f, EV.Kor_t, EV.Kor_f, EV.Kcmp_ap, EV.Kcmp2_lt, EV.Kcmp2_le, EV.Kcmp2_gt, EV.Kcmp2_ge, EV.Kcmp2_eq, EV.Kcmp2_ne, EV.Kcmp2_is, EV.Kcmp2_isnot, EV.Kcmp2_isB, EV.Kchn_ap, EV.Kchn2_le, EV.Wch_t, EV.Wch_f, EV.Kife_t, EV.Kife_f, EV.Kidx_ap, EV.Kidx2_T0, EV.Kidx2_T1, EV.Kidx2_T2, EV.Kidx2_Tn, EV.Kidx2_O, EV.Wix_lst, EV.Wix_dK, EV.Wix_lkd, EV.Wix_dT, EV.atI_0, EV.atI_1, EV.atI_2, EV.atI_n, EV.Kcall_ap, EV.KcallK_ap, EV.KcallK2_ap, EV.Wpk_some, EV.Kbf_lenT, EV.Kbf_lenO, EV.Wln_lst, EV.Wln_dK, EV.Wln_dT, EV.Kbf_int, EV.Kbf_intB, EV.Kbf_min, EV.Kbf_max, EV.Kbf_isT, EV.Kbf_isI, EV.Kbf_isB, EV.Kbf_isS, EV.Kbf_isN, EV.Kbf_isO, EV.Wity_lst, EV.Kmt_app, EV.isLs_ap, EV.Kap_ap, EV.Wap_ap, EV.Kcon_tup, EV.Kcon_tupT, EV.Kcon_lst, EV.Kcon_live, EV.Wls_ap, EV.Wr_ctup, EV.Wr_clst, EV.Kc1_ap, EV.Kc2_ap, EV.Ktst_bl, EV.Ktst_tup, EV.Ktst_obj, EV.Wtl_lst, EV.KtstB_ap, EV.Knl_ap, EV.Kvl_ap, EV.Kitv_tup, EV.Kitv_obj, EV.Wlv_ap, EV.Kits_tup, EV.Kits_obj, EV.Wlc_ap, EV.Kenm_tup, EV.Kenm_obj, EV.Kzip_ap, EV.Kzip2_tup, EV.Krng_ap, EV.Krng2_0n, EV.Kasg_ap, EV.Wbd_nm, EV.Wbd_tup, EV.Wbds_nil, EV.Wbds_cons, EV.Kexp_ap, EV.Kret_ap, EV.Kseq_nx, EV.Kseq_rt, EV.Kseq_bk, EV.Kseq_ct, EV.Kif_t, EV.Kif_f, EV.Kset_ap, EV.Kset2_ap, EV.Kwhl_t, EV.Kwhl_f, EV.Kfor_nx, EV.Kfor_ct, EV.Kfor_bk, EV.Kfor_rt, EV.Kout_rt, EV.Kout_nx, EV.hp_get, EV.hp_get0, EV.hp_set, EV.hp_set0, List.getElem?_cons_zero, List.getElem?_cons_succ, List.set_cons_zero, List.set_cons_succ, List.length_cons, List.length_nil, List.length_map, List.getElem?_map, Option.map_some, Option.map_none, List.append_assoc, List.cons_append, List.nil_append, true_and, and_true, false_and, and_false, decide_true, decide_false, Bool.not_true, Bool.not_false, if_true, if_false, EV.isNon, and_self, Nat.zero_add, Bool.true_or, Bool.or_true, Bool.false_or, Bool.or_false, EV.gc_len, reduceIte, eq_self, Nat.reduceAdd, Int.reduceLT, Int.reduceLE, Int.reduceEq, Int.reduceNe, Int.reduceSub, Int.reduceAdd, Int.reduceMul, Int.reduceNeg, Int.reduceToNat, Int.cast_ofNat_Int, *])
local macro_rules | `(tactic| walk_at "v") => `(tactic| simp -implicitDefEqProofs (disch := first | omega | (simp only [List.length_cons, List.length_nil, List.length_map, List.length_append] <;> omega)) only [EV.Wb_nil, EV.Wb_pass, EV.Wb_asg, EV.Wb_expr, EV.Wb_ret, EV.Wb_retN, EV.Wb_brk, EV.Wb_cnt, EV.Wb_ite, EV.Wb_set, EV.Wb_for, EV.Wb_tryN, EV.We_cst, EV.We_var, EV.We_glb, EV.We_tup, EV.We_lst, EV.We_dnew, EV.We_bin, EV.We_neg, EV.We_not, EV.We_and, EV.We_or, EV.We_cmp, EV.We_chn, EV.We_ite, EV.We_idx, EV.We_call, EV.We_callK, EV.We_bf, EV.We_mt, EV.We_comp, EV.We_con, EV.Wl_nil, EV.Wl_cons, EV.Wi_itv, EV.Wi_its, EV.Wi_itc, EV.Wi_rng, EV.Wi_enm, EV.Wi_zip, EV.Wt_e, EV.Ws_e, EV.Wo_some, EV.Wv_some, EV.Wob_some, EV.Wtr_some, EV.Woi_some, EV.Ktup_ap, EV.Klst_ap, EV.Kbin_ap, EV.Kbin2_add, EV.Kbin2_sub, EV.Kbin2_mul, EV.Kbin2_mod, EV.Kbin2_fdiv, EV.Kneg_ap, EV.Kbl_ap, EV.Knot_ap, EV.Kand_t, EV.Kand_f, EV.Kor_t, EV.Kor_f, EV.Kcmp_ap, EV.Kcmp2_lt, EV.Kcmp2_le, EV.Kcmp2_gt, EV.Kcmp2_ge, EV.Kcmp2_eq, EV.Kcmp2_ne, EV.Kcmp2_is, EV.Kcmp2_isnot, EV.Kcmp2_isB, EV.Kchn_ap, EV.Kchn2_le, EV.Wch_t, EV.Wch_f, EV.Kife_t, EV.Kife_f, EV.Kidx_ap, EV.Kidx2_T0, EV.Kidx2_T1, EV.Kidx2_T2, EV.Kidx2_Tn, EV.Kidx2_O, EV.Wix_lst, EV.Wix_dK, EV.Wix_lkd, EV.Wix_dT, EV.atI_0, EV.atI_1, EV.atI_2, EV.atI_n, EV.Kcall_ap, EV.KcallK_ap, EV.KcallK2_ap, EV.Wpk_some, EV.Kbf_lenT, EV.Kbf_lenO, EV.Wln_lst, EV.Wln_dK, EV.Wln_dT, EV.Kbf_int, EV.Kbf_intB, EV.Kbf_min, EV.Kbf_max, EV.Kbf_isT, EV.Kbf_isI, EV.Kbf_isB, EV.Kbf_isS, EV.Kbf_isN, EV.Kbf_isO, EV.Wity_lst, EV.Kmt_app, EV.isLs_ap, EV.Kap_ap, EV.Wap_ap, EV.Kcon_tup, EV.Kcon_tupT, EV.Kcon_lst, EV.Kcon_live, EV.Wls_ap, EV.Wr_ctup, EV.Wr_clst, EV.Kc1_ap, EV.Kc2_ap, EV.Ktst_bl, EV.Ktst_tup, EV.Ktst_obj, EV.Wtl_lst, EV.KtstB_ap, EV.Knl_ap, EV.Kvl_ap, EV.Kitv_tup, EV.Kitv_obj, EV.Wlv_ap, EV.Kits_tup, EV.Kits_obj, EV.Wlc_ap, EV.Kenm_tup, EV.Kenm_obj, EV.Kzip_ap, EV.Kzip2_tup, EV.Krng_ap, EV.Krng2_0n, EV.Kasg_ap, EV.Wbd_nm, EV.Wbd_tup, EV.Wbds_nil, EV.Wbds_cons, EV.Kexp_ap, EV.Kret_ap, EV.Kseq_nx, EV.Kseq_rt, EV.Kseq_bk, EV.Kseq_ct, EV.Kif_t, EV.Kif_f, EV.Kset_ap, EV.Kset2_ap, EV.Kwhl_t, EV.Kwhl_f, EV.Kfor_nx, EV.Kfor_ct, EV.Kfor_bk, EV.Kfor_rt, EV.Kout_rt, EV.Kout_nx, EV.hp_get, EV.hp_get0, EV.hp_set, EV.hp_set0, List.getElem?_cons_zero, List.getElem?_cons_succ, List.set_cons_zero, List.set_cons_succ, List.length_cons, List.length_nil, List.length_map, List.getElem?_map, Option.map_some, Option.map_none, List.append_assoc, List.cons_append, List.nil_append, true_and, and_true, false_and, and_false, decide_true, decide_false, Bool.not_true, Bool.not_false, if_true, if_false, EV.isNon, and_self, Nat.zero_add, Bool.true_or, Bool.or_true, Bool.false_or, Bool.or_false, EV.gc_len, reduceIte, eq_self, Nat.reduceAdd, Int.reduceLT, Int.reduceLE, Int.reduceEq, Int.reduceNe, Int.reduceSub, Int.reduceAdd, Int.reduceMul, Int.reduceNeg, Int.reduceToNat, Int.cast_ofNat_Int])
local macro_rules | `(tactic| walk_at "u") => `(tactic| simp -implicitDefEqProofs (disch := first | omega | (simp only [List.length_cons, List.length_nil, List.length_map, List.length_append] <;> omega)) only [EV.Wb_nil, EV.Wb_pass, EV.Wb_asg, EV.Wb_expr, EV.Wb_ret, EV.Wb_retN, EV.Wb_brk, EV.Wb_cnt, EV.Wb_ite, EV.Wb_set, EV.Wb_for, EV.Wb_tryN, EV.We_cst, EV.We_var, EV.We_glb, EV.We_tup, EV.We_lst, EV.We_dnew, EV.We_bin, EV.We_neg, EV.We_not, EV.We_and, EV.We_or, EV.We_cmp, EV.We_chn, EV.We_ite, EV.We_idx, EV.We_call, EV.We_callK, EV.We_bf, EV.We_mt, EV.We_comp, EV.We_con, EV.Wl_nil, EV.Wl_cons, EV.Wi_itv, EV.Wi_its, EV.Wi_itc, EV.Wi_rng, EV.Wi_enm, EV.Wi_zip, EV.Wt_e, EV.Ws_e, EV.Wo_some, EV.Wv_some, EV.Wob_some, EV.Wtr_some, EV.Woi_some, EV.Ktup_ap, EV.Klst_ap, EV.Kbin_ap, EV.Kbin2_add, EV.Kbin2_sub, EV.Kbin2_mul, EV.Kbin2_mod, EV.Kbin2_fdiv, EV.Kneg_ap, EV.Kbl_ap, EV.Knot_ap, EV.Kand_t, EV.Kand_f, EV.Kor_t, EV.Kor_f, EV.Kcmp_ap, EV.Kcmp2_lt, EV.Kcmp2_le, EV.Kcmp2_gt, EV.Kcmp2_ge, EV.Kcmp2_eq, EV.Kcmp2_ne, EV.Kcmp2_is, EV.Kcmp2_isnot, EV.Kcmp2_isB, EV.Kchn_ap, EV.Kchn2_le, EV.Wch_t, EV.Wch_f, EV.Kife_t, EV.Kife_f, EV.Kidx_ap, EV.Kidx2_T0, EV.Kidx2_T1, EV.Kidx2_T2, EV.Kidx2_Tn, EV.Kidx2_O, EV.Wix_lst, EV.Wix_dK, EV.Wix_lkd, EV.Wix_dT, EV.atI_0, EV.atI_1, EV.atI_2, EV.atI_n, EV.Kcall_ap, EV.KcallK_ap, EV.KcallK2_ap, EV.Wpk_some, EV.Kbf_lenT, EV.Kbf_lenO, EV.Wln_lst, EV.Wln_dK, EV.Wln_dT, EV.Kbf_int, EV.Kbf_intB, EV.Kbf_min, EV.Kbf_max, EV.Kbf_isT, EV.Kbf_isI, EV.Kbf_isB, EV.Kbf_isS, EV.Kbf_isN, EV.Kbf_isO, EV.Wity_lst, EV.Kmt_app, EV.isLs_ap, EV.Kap_ap, EV.Wap_ap, EV.Kcon_tup, EV.Kcon_tupT, EV.Kcon_lst, EV.Kcon_live, EV.Wls_ap, EV.Wr_ctup, EV.Wr_clst, EV.Kc1_ap, EV.Kc2_ap, EV.Ktst_bl, EV.Ktst_tup, EV.Ktst_obj, EV.Wtl_lst, EV.KtstB_ap, EV.Knl_ap, EV.Kvl_ap, EV.Kitv_tup, EV.Kitv_obj, EV.Wlv_ap, EV.Kits_tup, EV.Kits_obj, EV.Wlc_ap, EV.Kenm_tup, EV.Kenm_obj, EV.Kzip_ap, EV.Kzip2_tup, EV.Krng_ap, EV.Krng2_0n, EV.Kasg_ap, EV.Wbd_nm, EV.Wbd_tup, EV.Wbds_nil, EV.Wbds_cons, EV.Kexp_ap, EV.Kret_ap, EV.Kseq_nx, EV.Kseq_rt, EV.Kseq_bk, EV.Kseq_ct, EV.Kif_t, EV.Kif_f, EV.Kset_ap, EV.Kset2_ap, EV.Kwhl_t, EV.Kwhl_f, EV.Kfor_nx, EV.Kfor_ct, EV.Kfor_bk, EV.Kfor_rt, EV.Kout_rt, EV.Kout_nx, EV.hp_get, EV.hp_get0, EV.hp_set, EV.hp_set0, List.getElem?_cons_zero, List.getElem?_cons_succ, List.set_cons_zero, List.set_cons_succ, List.length_cons, List.length_nil, List.length_map, List.getElem?_map, Option.map_some, Option.map_none, List.append_assoc, List.cons_append, List.nil_append, true_and, and_true, false_and, and_false, decide_true, decide_false, Bool.not_true, Bool.not_false, if_true, if_false, EV.isNon, and_self, Nat.zero_add, Bool.true_or, Bool.or_true, Bool.false_or, Bool.or_false, EV.gc_len, reduceIte, eq_self, Nat.reduceAdd, Int.reduceLT, Int.reduceLE, Int.reduceEq, Int.reduceNe, Int.reduceSub, Int.reduceAdd, Int.reduceMul, Int.reduceNeg, Int.reduceToNat, Int.cast_ofNat_Int, List.length_append, Nat.add_assoc, Option.isSome_none, Option.isSome_some, Option.bind_some, Option.bind_none, List.isEmpty_nil, List.isEmpty_cons, *, List.map_append, List.map_cons, List.map_nil])
theorem Clk.st_age {c : Clk} {s : Nat} : ∀ w, (c.st s w).2 ≤ w ∧ c.st s (w - (c.st s w).2) = ((c.st s w).1, 0)
  | 0 => ⟨Nat.le_refl _, rfl⟩
  | w + 1 => by
    obtain ⟨h1, h2⟩ := Clk.st_age (c := c) (s := s) w
    have e : c.st s (w + 1) = c.tk (c.st s w) := rfl
    have key : c.tk (c.st s w) = ((c.st s w).1, (c.st s w).2 + 1) ∨ (c.tk (c.st s w)).2 = 0 := by
      unfold Clk.tk
      cases c.out (c.st s w).1 with
      | none => exact .inl rfl
      | some u =>
        simp only
        split
        · exact .inl rfl
        · exact .inr rfl
    rcases key with k | k
    · rw [e, k]
      refine ⟨by simp only; omega, ?_⟩
      simp only
      rw [show w + 1 - ((c.st s w).2 + 1) = w - (c.st s w).2 by omega, h2]
    · refine ⟨by rw [e, k]; omega, ?_⟩
      rw [e, k, Nat.sub_zero, e]
      exact Prod.ext rfl k
theorem ne_pair {K : KV} {h : PH} {p : Nat × Nat} : Kcmp2 K .ne (pv2 p) (pv2 p) h = K (.bl false) h := by
  unfold Kcmp2
  have : cmpop .ne (pv2 p) (pv2 p) h = some false := by
    show (pyEq h (pv2 p) (pv2 p)).map (!·) = _
    unfold pyEq
    have e := dat_pair.toD h 60 p (by decide)
    have e2 := dat_pair.eqv p p
    rw [show toD h 60 (pv2 p) = _ from e]
    simp only [e2]
    simp
  rw [this]; rfl
/-! ### great clocks -/
abbrev a44 (rest : List EV.S) : List EV.S := .asg (.nm 1) (.call 34 [.var 0, .lst [.cst (.int 2), .cst (.int 3), .cst (.int 5), .cst (.int 20)]]) :: .asg (.nm 2) (.call 36 [.var 0, .var 1, .bin .add (.cst (.int 1)) (.call 33 [.var 0, .cst (.int 4)]), .bin .add (.cst (.int 2)) (.call 33 [.var 0, .cst (.int 8)]), .call 34 [.var 0, .lst [.bin .pow (.cst (.int 10)) (.cst (.int 6)), .bin .pow (.cst (.int 10)) (.cst (.int 18))]]]) :: rest
theorem x44a {sc : List Int} {m : St} {g : PH} (mo : m.Ok) (hs : m.spot < 800000000000) (cg : Cg g) {k : Nat} (hk : 8 ≤ k) {rest : List EV.S} {Q : Rt → Prop}
    (hK : ∀ (c : Clk) m' t, c.Ok → m'.Ok → m'.spot ≤ m.spot + 230 → Fl t → Wb (P.cc k) rest [some (.obj 3), some (nI c.rows.length), some c.pv, none, none, none, none, none, none, none, none, none, none, none] (M sc m' (g ++ t)) Q) :
    Wb (P.cc k) (a44 rest) [some (.obj 3), none, none, none, none, none, none, none, none, none, none, none, none, none] (M sc m g) Q := by
  (have zz0 := @@M_app; have zz1 := @@M_len; walk_at "u")
  have f1 : Fl [.lst false [.int 2, .int 3, .int 5, .int 20]] := Fl.nil.cons rfl
  have cg1 := f1.cg cg
  refine c34 (n := g.length) (xs := [.int 2, .int 3, .int 5, .int 20]) (fz := false) mo (by omega) cg1 hp_get0 (by simp) (by simp) (by omega) fun i x m1 hx o1 s1 => ?_
  obtain ⟨S, h1, h20, rfl⟩ : ∃ S : Nat, 1 ≤ S ∧ S ≤ 20 ∧ x = nI S := by
    match i, hx with
    | 0, hx => exact ⟨2, by omega, by omega, (Option.some.inj hx).symm⟩
    | 1, hx => exact ⟨3, by omega, by omega, (Option.some.inj hx).symm⟩
    | 2, hx => exact ⟨5, by omega, by omega, (Option.some.inj hx).symm⟩
    | 3, hx => exact ⟨20, by omega, by omega, (Option.some.inj hx).symm⟩
  clear hx
  (have zz0 := @@M_app; have zz1 := @@M_len; walk_at "u")
  refine c33 (L := 4) o1 (by omega) cg1 (by omega) (by omega) (by omega) fun d2 m2 hd2 o2 s2 => ?_
  (have zz0 := @@M_app; have zz1 := @@M_len; walk_at "u")
  refine c33 (L := 8) o2 (by omega) cg1 (by omega) (by omega) (by omega) fun d3 m3 hd3 o3 s3 => ?_
  have f2 : Fl [.lst false [.int 2, .int 3, .int 5, .int 20], .lst false [.int 1000000, .int 1000000000000000000]] := (Fl.nil.cons rfl).cons rfl
  have cg2 := f2.cg cg
  (have zz0 := @@M_app; have zz1 := @@M_len; have zz2 := @@pow_6; have zz3 := @@pow_18; walk_at "u")
  refine c34 (n := g.length + 1) (xs := [.int 1000000, .int 1000000000000000000]) (fz := false) o3 (by omega) cg2 (by rw [hp_get]; rfl) (by simp) (by simp) (by omega) fun i x m4 hx o4 s4 => ?_
  obtain ⟨ms, h1', h6, rfl⟩ : ∃ ms : Nat, 1 ≤ ms ∧ ms ≤ 1000000000000000000 ∧ x = nI ms := by
    match i, hx with
    | 0, hx => exact ⟨1000000, by omega, by omega, (Option.some.inj hx).symm⟩
    | 1, hx => exact ⟨1000000000000000000, by omega, by omega, (Option.some.inj hx).symm⟩
  clear hx
  (have zz0 := @@M_app; have zz1 := @@M_len; walk_at "u")
  refine c36c (S := S) (N := 1 + d2) (A := 2 + d3) (ms := ms) o4 (by omega) cg2 (by omega) (by omega) (by omega) (by omega) (by omega) (by omega) (by omega) (by omega) fun c m5 en ea er hr o5 s5 => ?_
  have co : c.Ok := clkOk en ea er hr (by omega) (by omega) (by omega) (by omega) (by omega) (by omega) (by omega)
  have fin := hK c m5 _ co o5 (by omega) f2
  rw [er] at fin
  clear hK en ea er hr
  (have zz0 := @@M_app; have zz1 := @@M_len; walk_at "u")
abbrev e44 : EV.E := .tup [.tup [.bin .add (.cst (.int 1)) (.call 33 [.var 0, .bin .pow (.cst (.int 10)) (.cst (.int 18))]), .bin .mod (.bf .int [.bin .add (.var 5) (.cst (.int 1))]) (.var 1)], .idx (.idx (.idx (.var 2) (.cst (.int 2))) (.var 5)) (.cst (.int 1))]
abbrev b44b (rest : List EV.S) : List EV.S := .ite (.cmp .eq (.call 33 [.var 0, .cst (.int 2)]) (.cst (.int 0))) [.asg (.nm 3) (.comp e44 (.nm 5) (.rng (.cst (.int 0)) (.var 1)) (.cst (.bl true)) [5]), .asg (.nm 2) (.tup [.idx (.var 2) (.cst (.int 0)), .idx (.var 2) (.cst (.int 1)), .con .tuple (.its (.var 3))])] [] :: rest
theorem x44b {sc : List Int} {m : St} {g : PH} (mo : m.Ok) (hs : m.spot < 800000000000) (cg : Cg g) {k : Nat} (hk : 8 ≤ k) {c : Clk} (o : c.Ok) {rest : List EV.S} {Q : Rt → Prop}
    (hK : ∀ (c : Clk) m' t x3, c.Ok → m'.Ok → m'.spot ≤ m.spot + 21 → Fl t → Wb (P.cc k) rest [some (.obj 3), some (nI c.rows.length), some c.pv, x3, none, none, none, none, none, none, none, none, none, none] (M sc m' (g ++ t)) Q) :
    Wb (P.cc k) (b44b rest) [some (.obj 3), some (nI c.rows.length), some c.pv, none, none, none, none, none, none, none, none, none, none, none] (M sc m g) Q := by
  have t1 := o.t1
  have t20 := o.t20
  (have zz0 := @@M_app; have zz1 := @@M_len; walk_at "u")
  refine c33 (L := 2) mo (by omega) cg (by omega) (by omega) (by omega) fun d m1 hd o1 s1 => ?_
  by_cases hd0 : d = 0
  · have q : (d : Int) = 0 := by omega
    (have zz0 := @@M_app; have zz1 := @@M_len; walk_at "u")
    refine Klp_run (N := c.rows.length) (fun i acc h' => ∃ (rows : List CRow) (m' : St), rows.length = i ∧ (∀ r ∈ rows, RowOk c.rows.length c.A c.n 1000000000000000000 r) ∧ m'.Ok ∧ m'.spot ≤ m1.spot + i ∧ acc = rows.map crowP ∧ h' = M sc m' g) (by rw [fuelE]; omega)
      ⟨[], m1, rfl, (fun p h => by cases h), o1, Nat.le_refl _, rfl, rfl⟩ (fun i acc h' hi ⟨rows, m', z1, z2, z3, z4, z5, z6⟩ => ?_) fun acc h' ⟨rows, m', z1, z2, z3, z4, z5, z6⟩ => ?_
    · subst z5 z6
      refine ⟨by rw [List.length_map]; omega, _, by rw [itAt_rng, if_pos hi], ?_⟩
      obtain ⟨r, e, hl, hr, _⟩ := crow_get o hi
      have hi0 : (0 : Int) + (i : Int) = (i : Int) := by omega
      have hm : ((i : Int) + 1) % (c.rows.length : Int) = (((i + 1) % c.rows.length : Nat) : Int) := rfl
      have hml := Nat.mod_lt (i + 1) (show 0 < c.rows.length by omega)
      have hcl : (0 : Int) < (c.rows.length : Int) := by omega
      rw [hi0]
      simp only [wipeP]
      clear hi0 q
      (have zz0 := @@pow_18; walk_at "u")
      refine c33 (L := 1000000000000000000) z3 (by omega) cg (by omega) (by omega) (by omega) fun d2 m2 hd2 o2 s2' => ?_
      (have zz0 := @@pow_18; walk_at "u")
      refine ⟨rows ++ [(some (1 + d2, (i + 1) % c.rows.length), r.2)], m2, by rw [List.length_append, z1]; rfl, fun r' hp => ?_, o2, by omega, by rw [List.map_append]; rfl, rfl⟩
      rcases List.mem_append.mp hp with h | h
      · exact z2 r' h
      · rw [List.mem_singleton.mp h]; exact ⟨hl, hr, fun u hu => by cases hu; exact ⟨by omega, by omega, hml⟩⟩
    · subst z5 z6
      refine ⟨by rw [itAt_rng, if_neg (Nat.lt_irrefl _)], ?_⟩
      have hz : (rows.map crowP).length ≤ 16777216 := by rw [List.length_map]; omega
      have fin := fun x3 => hK ⟨c.n, c.A, rows⟩ m' [.lst false (rows.map crowP)] x3 (clkOk (c := ⟨c.n, c.A, rows⟩) rfl rfl z1 z2 t1 t20 o.n1 o.n4 o.a1 o.a9 (Nat.le_refl _)) z3 (by omega) (Fl.nil.cons flat_crows)
      simp only [z1] at fin
      clear hK
      (have zz0 := @@M_app; have zz1 := @@M_len; have zz2 := @@M_get; walk_at "u")
  · have q : ¬ (d : Int) = 0 := by omega
    have fin := hK c m1 [] none o o1 (by omega) Fl.nil
    rw [List.append_nil] at fin
    clear hK
    (have zz0 := @@M_app; have zz1 := @@M_len; walk_at "u")
end Lw
end
section
set_option Elab.async false
set_option linter.all false
set_option maxRecDepth 100000
namespace Lw
open PySem EV
local macro_rules | `(tactic| walk_at "w") => `(tactic| simp -implicitDefEqProofs (disch := first | omega | (simp only [List.length_cons, List.length_nil, List.length_map, List.length_append] <;> omega)) only [EV.Wb_nil, EV.Wb_pass, EV.Wb_asg, EV.Wb_expr, EV.Wb_ret, EV.Wb_retN, EV.Wb_brk, EV.Wb_cnt, EV.Wb_ite, EV.Wb_set, EV.Wb_for, EV.Wb_tryN, EV.We_cst, EV.We_var, EV.We_glb, EV.We_tup, EV.We_lst, EV.We_dnew, EV.We_bin, EV.We_neg, EV.We_not, EV.We_and, EV.We_or, EV.We_cmp, EV.We_chn, EV.We_ite, EV.We_idx, EV.We_call, EV.We_callK, EV.We_bf, EV.We_mt, EV.We_comp, EV.We_con, EV.Wl_nil, EV.Wl_cons, EV.Wi_itv, EV.Wi_its, EV.Wi_itc, EV.Wi_rng, EV.Wi_enm, EV.Wi_zip, EV.Wt_e, EV.Ws_e, EV.Wo_some, EV.Wv_some, EV.Wob_some, EV.Wtr_some, EV.Woi_some, EV.Ktup_ap, EV.Klst_ap, EV.Kbin_ap, EV.Kbin2_add, EV.Kbin2_sub, EV.Kbin2_mul, EV.Kbin2_mod, EV.Kbin2_fdiv, EV.Kneg_ap, EV.Kbl_ap, EV.Knot_ap, EV.Kand_t, EV.Kand_f, EV.Kor_t, EV.Kor_f, EV.Kcmp_ap, EV.Kcmp2_lt, EV.Kcmp2_le, EV.Kcmp2_gt, EV.Kcmp2_ge, EV.Kcmp2_eq, EV.Kcmp2_ne, EV.Kcmp2_is, EV.Kcmp2_isnot, EV.Kcmp2_isB, EV.Kchn_ap, EV.Kchn2_le, EV.Wch_t, EV.Wch_f, EV.Kife_t, EV.Kife_f, EV.Kidx_ap, EV.Kidx2_T0, EV.Kidx2_T1, EV.Kidx2_T2, EV.Kidx2_Tn, EV.Kidx2_O, EV.Wix_lst, EV.Wix_dK, EV.Wix_lkd, EV.Wix_dT, EV.atI_0, EV.atI_1, EV.atI_2, EV.atI_n, EV.Kcall_ap, EV.KcallK_ap, EV.KcallK2_ap, EV.Wpk_some, EV.Kbf_lenT, EV.Kbf_lenO, EV.Wln_lst, EV.Wln_dK, EV.Wln_dT, EV.Kbf_int, EV.Kbf_intB, EV.Kbf_min, EV.Kbf_max, EV.Kbf_isT, EV.Kbf_isI, EV.Kbf_isB, EV.Kbf_isS, EV.Kbf_isN, EV.Kbf_isO, EV.Wity_lst, EV.Kmt_app, EV.isLs_ap, EV.Kap_ap, EV.Wap_ap, EV.Kcon_tup, EV.Kcon_tupT, EV.Kcon_lst, EV.Kcon_live, EV.Wls_ap, EV.Wr_ctup, EV.Wr_clst, EV.Kc1_ap, EV.Kc2_ap, EV.Ktst_bl, EV.Ktst_tup, EV.Ktst_obj, EV.Wtl_lst, EV.KtstB_ap, EV.Knl_ap, EV.Kvl_ap, EV.Kitv_tup, EV.Kitv_obj, EV.Wlv_ap, EV.Kits_tup, EV.Kits_obj, EV.Wlc_ap, EV.Kenm_tup, EV.Kenm_obj, EV.Kzip_ap, EV.Kzip2_tup, EV.Krng_ap, EV.Krng2_0n, EV.Kasg_ap, EV.Wbd_nm, EV.Wbd_tup, EV.Wbds_nil, EV.Wbds_cons, EV.Kexp_ap, EV.Kret_ap, EV.Kseq_nx, EV.Kseq_rt, EV.Kseq_bk, EV.Kseq_ct, EV.Kif_t, EV.Kif_f, EV.Kset_ap, EV.Kset2_ap, EV.Kwhl_t, EV.Kwhl_f, EV.Kfor_nx, EV.Kfor_ct, EV.Kfor_bk, EV.Kfor_rt, EV.Kout_rt, EV.Kout_nx, EV.hp_get, EV.hp_get0, EV.hp_set, EV.hp_set0, List.getElem?_cons_zero, List.getElem?_cons_succ, List.set_cons_zero, List.set_cons_succ, List.length_cons, List.length_nil, List.length_map, List.getElem?_map, Option.map_some, Option.map_none, List.append_assoc, List.cons_append, List.nil_append, true_and, and_true, false_and, and_false, decide_true, decide_false, Bool.not_true, Bool.not_false, if_true, if_false, EV.isNon, and_self, Nat.zero_add, Bool.true_or, Bool.or_true, Bool.false_or, Bool.or_false, EV.gc_len, reduceIte, eq_self, Nat.reduceAdd, Int.reduceLT, Int.reduceLE, Int.reduceEq, Int.reduceNe, Int.reduceSub, Int.reduceAdd, Int.reduceMul, Int.reduceNeg, Int.reduceToNat, Int.cast_ofNat_Int, *])
local macro_rules | `(tactic| walk_at "v") => `(tactic| simp -implicitDefEqProofs (disch := first | omega | (simp only [List.length_cons, List.length_nil, List.length_map, List.length_append] <;> omega)) only [EV.Wb_nil, EV.Wb_pass, EV.Wb_asg, EV.Wb_expr, EV.Wb_ret, EV.Wb_retN, EV.Wb_brk, EV.Wb_cnt, EV.Wb_ite, EV.Wb_set, EV.Wb_for, EV.Wb_tryN, EV.We_cst, EV.We_var, EV.We_glb, EV.We_tup, EV.We_lst, EV.We_dnew, EV.We_bin, EV.We_neg, EV.We_not, EV.We_and, EV.We_or, EV.We_cmp, EV.We_chn, EV.We_ite, EV.We_idx, EV.We_call, EV.We_callK, EV.We_bf, EV.We_mt, EV.We_comp, EV.We_con, EV.Wl_nil, EV.Wl_cons, EV.Wi_itv, EV.Wi_its, EV.Wi_itc, EV.Wi_rng, EV.Wi_enm, EV.Wi_zip, EV.Wt_e, EV.Ws_e, EV.Wo_some, EV.Wv_some, EV.Wob_some, EV.Wtr_some, EV.Woi_some, EV.Ktup_ap, EV.Klst_ap, EV.Kbin_ap, EV.Kbin2_add, EV.Kbin2_sub, EV.Kbin2_mul, EV.Kbin2_mod, EV.Kbin2_fdiv, EV.Kneg_ap, EV.Kbl_ap, EV.Knot_ap, EV.Kand_t, EV.Kand_f, EV.Kor_t, EV.Kor_f, EV.Kcmp_ap, EV.Kcmp2_lt, EV.Kcmp2_le, EV.Kcmp2_gt, EV.Kcmp2_ge, EV.Kcmp2_eq, EV.Kcmp2_ne, EV.Kcmp2_is, EV.Kcmp2_isnot, EV.Kcmp2_isB, EV.Kchn_ap, EV.Kchn2_le, EV.Wch_t, EV.Wch_f, EV.Kife_t, EV.Kife_f, EV.Kidx_ap, EV.Kidx2_T0, EV.Kidx2_T1, EV.Kidx2_T2, EV.Kidx2_Tn, EV.Kidx2_O, EV.Wix_lst, EV.Wix_dK, EV.Wix_lkd, EV.Wix_dT, EV.atI_0, EV.atI_1, EV.atI_2, EV.atI_n, EV.Kcall_ap, EV.KcallK_ap, EV.KcallK2_ap, EV.Wpk_some, EV.Kbf_lenT, EV.Kbf_lenO, EV.Wln_lst, EV.Wln_dK, EV.Wln_dT, EV.Kbf_int, EV.Kbf_intB, EV.Kbf_min, EV.Kbf_max, EV.Kbf_isT, EV.Kbf_isI, EV.Kbf_isB, EV.Kbf_isS, EV.Kbf_isN, EV.Kbf_isO, EV.Wity_lst, EV.Kmt_app, EV.isLs_ap, EV.Kap_ap, EV.Wap_ap, EV.Kcon_tup, EV.Kcon_tupT, EV.Kcon_lst, EV.Kcon_live, EV.Wls_ap, EV.Wr_ctup, EV.Wr_clst, EV.Kc1_ap, EV.Kc2_ap, EV.Ktst_bl, EV.Ktst_tup, EV.Ktst_obj, EV.Wtl_lst, EV.KtstB_ap, EV.Knl_ap, EV.Kvl_ap, EV.Kitv_tup, EV.Kitv_obj, EV.Wlv_ap, EV.Kits_tup, EV.Kits_obj, EV.Wlc_ap, EV.Kenm_tup, EV.Kenm_obj, EV.Kzip_ap, EV.Kzip2_tup, EV.Krng_ap, EV.Krng2_0n, EV.Kasg_ap, EV.Wbd_nm, EV.Wbd_tup, EV.Wbds_nil, EV.Wbds_cons, EV.Kexp_ap, EV.Kret_ap, EV.Kseq_nx, EV.Kseq_rt, EV.Kseq_bk, EV.Kseq_ct, EV.Kif_t, EV.Kif_f, EV.Kset_ap, EV.Kset2_ap, EV.Kwhl_t, EV.Kwhl_f, EV.Kfor_nx, EV.Kfor_ct, EV.Kfor_bk, EV.Kfor_rt, EV.Kout_rt, EV.Kout_nx, EV.hp_get, EV.hp_get0, EV.hp_set, EV.hp_set0, List.getElem?_cons_zero, List.getElem?_cons_succ, List.set_cons_zero, List.set_cons_succ, List.length_cons, List.length_nil, List.length_map, List.getElem?_map, Option.map_some, Option.map_none, List.append_assoc, List.cons_append, List.nil_append, true_and, and_true, false_and, and_false, decide_true, decide_false, Bool.not_true, Bool.not_false, if_true, if_false, EV.isNon, and_self, Nat.zero_add, Bool.true_or, Bool.or_true, Bool.false_or, Bool.or_false, EV.gc_len, reduceIte, eq_self, Nat.reduceAdd, Int.reduceLT, Int.reduceLE, Int.reduceEq, Int.reduceNe, Int.reduceSub, Int.reduceAdd, Int.reduceMul, Int.reduceNeg, Int.reduceToNat, Int.cast_ofNat_Int])
local macro_rules | `(tactic| walk_at "u") => `(tactic| simp -implicitDefEqProofs (disch := first | omega | (simp only [List.length_cons, List.length_nil, List.length_map, List.length_append] <;> omega)) only [EV.Wb_nil, EV.Wb_pass, EV.Wb_asg, EV.Wb_expr, EV.Wb_ret, EV.Wb_retN, EV.Wb_brk, EV.Wb_cnt, EV.Wb_ite, EV.Wb_set, EV.Wb_for, EV.Wb_tryN, EV.We_cst, EV.We_var, EV.We_glb, EV.We_tup, EV.We_lst, EV.We_dnew, EV.We_bin, EV.We_neg, EV.We_not, EV.We_and, EV.We_or, EV.We_cmp, EV.We_chn, EV.We_ite, EV.We_idx, EV.We_call, EV.We_callK, EV.We_bf, EV.We_mt, EV.We_comp, EV.We_con, EV.Wl_nil, EV.Wl_cons, EV.Wi_itv, EV.Wi_its, EV.Wi_itc, EV.Wi_rng, EV.Wi_enm, EV.Wi_zip, EV.Wt_e, EV.Ws_e, EV.Wo_some, EV.Wv_some, EV.Wob_some, EV.Wtr_some, EV.Woi_some, EV.Ktup_ap, EV.Klst_ap, EV.Kbin_ap, EV.Kbin2_add, EV.Kbin2_sub, EV.Kbin2_mul, EV.Kbin2_mod, EV.Kbin2_fdiv, EV.Kneg_ap, EV.Kbl_ap, EV.Knot_ap, EV.Kand_t, EV.Kand_f, EV.Kor_t, EV.Kor_f, EV.Kcmp_ap, EV.Kcmp2_lt, EV.Kcmp2_le, EV.Kcmp2_gt, EV.Kcmp2_ge, EV.Kcmp2_eq, EV.Kcmp2_ne, EV.Kcmp2_is, EV.Kcmp2_isnot, EV.Kcmp2_isB, EV.Kchn_ap, EV.Kchn2_le, EV.Wch_t, EV.Wch_f, EV.Kife_t, EV.Kife_f, EV.Kidx_ap, EV.Kidx2_T0, EV.Kidx2_T1, EV.Kidx2_T2, EV.Kidx2_Tn, EV.Kidx2_O, EV.Wix_lst, EV.Wix_dK, EV.Wix_lkd, EV.Wix_dT, EV.atI_0, EV.atI_1, EV.atI_2, EV.atI_n, EV.Kcall_ap, EV.KcallK_ap, EV.KcallK2_ap, EV.Wpk_some, EV.Kbf_lenT, EV.Kbf_lenO, EV.Wln_lst, EV.Wln_dK, EV.Wln_dT, EV.Kbf_int, EV.Kbf_intB, EV.Kbf_min, EV.Kbf_max, EV.Kbf_isT, EV.Kbf_isI, EV.Kbf_isB, EV.Kbf_isS, EV.Kbf_isN, EV.Kbf_isO, EV.Wity_lst, EV.Kmt_app, EV.isLs_ap, EV.Kap_ap, EV.Wap_ap, EV.Kcon_tup, EV.Kcon_tupT, EV.Kcon_lst, EV.Kcon_live, EV.Wls_ap, EV.Wr_ctup, EV.Wr_clst, EV.Kc1_ap, EV.Kc2_ap, EV.Ktst_bl, EV.Ktst_tup, EV.Ktst_obj, EV.Wtl_lst, EV.KtstB_ap, EV.Knl_ap, EV.Kvl_ap, EV.Kitv_tup, EV.Kitv_obj, EV.Wlv_ap, EV.Kits_tup, EV.Kits_obj, EV.Wlc_ap, EV.Kenm_tup, EV.Kenm_obj, EV.Kzip_ap, EV.Kzip2_tup, EV.Krng_ap, EV.Krng2_0n, EV.Kasg_ap, EV.Wbd_nm, EV.Wbd_tup, EV.Wbds_nil, EV.Wbds_cons, EV.Kexp_ap, EV.Kret_ap, EV.Kseq_nx, EV.Kseq_rt, EV.Kseq_bk, EV.Kseq_ct, EV.Kif_t, EV.Kif_f, EV.Kset_ap, EV.Kset2_ap, EV.Kwhl_t, EV.Kwhl_f, EV.Kfor_nx, EV.Kfor_ct, EV.Kfor_bk, EV.Kfor_rt, EV.Kout_rt, EV.Kout_nx, EV.hp_get, EV.hp_get0, EV.hp_set, EV.hp_set0, List.getElem?_cons_zero, List.getElem?_cons_succ, List.set_cons_zero, List.set_cons_succ, List.length_cons, List.length_nil, List.length_map, List.getElem?_map, Option.map_some, Option.map_none, List.append_assoc, List.cons_append, List.nil_append, true_and, and_true, false_and, and_false, decide_true, decide_false, Bool.not_true, Bool.not_false, if_true, if_false, EV.isNon, and_self, Nat.zero_add, Bool.true_or, Bool.or_true, Bool.false_or, Bool.or_false, EV.gc_len, reduceIte, eq_self, Nat.reduceAdd, Int.reduceLT, Int.reduceLE, Int.reduceEq, Int.reduceNe, Int.reduceSub, Int.reduceAdd, Int.reduceMul, Int.reduceNeg, Int.reduceToNat, Int.cast_ofNat_Int, List.length_append, Nat.add_assoc, Option.isSome_none, Option.isSome_some, Option.bind_some, Option.bind_none, List.isEmpty_nil, List.isEmpty_cons, *, List.map_append, List.map_cons, List.map_nil])
abbrev c44b : List EV.S := [.asg (.tup [.nm 5, .nm 6]) (.tup [.call 33 [.var 0, .var 1], .call 34 [.var 0, .lst [.call 33 [.var 0, .bin .pow (.cst (.int 10)) (.cst (.int 18))], .bin .pow (.cst (.int 10)) (.cst (.int 40)), .call 33 [.var 0, .bin .pow (.cst (.int 10)) (.cst (.int 39))], .bin .pow (.cst (.int 10)) (.cst (.int 18))]]]), .asg (.tup [.nm 7, .nm 8]) (.call 39 [.var 2, .var 5, .var 6]), .asg (.nm 9) (.lst [.var 6, .bf .max [.cst (.int 0), .bin .sub (.var 6) (.var 8)], .bf .max [.cst (.int 0), .bin .sub (.bin .sub (.var 6) (.var 8)) (.cst (.int 1))]]), .asg (.nm 10) (.comp (.callK 24 [] [.var 12, .var 5, .var 2] [2, 1, 0]) (.nm 12) (.itv (.var 9)) (.cst (.bl true)) [12]), .ite (.not (.call 35 [.var 10, .comp (.call 39 [.var 2, .var 5, .var 12]) (.nm 12) (.itv (.var 9)) (.cst (.bl true)) [12]])) [.ret (.cst (.bl false))] [], .ite (.and (.cmp .ge (.var 6) (.var 8)) (.cmp .ne (.idx (.var 10) (.cst (.int 1))) (.tup [.var 7, .cst (.int 0)]))) [.ret (.cst (.bl false))] []]
/-- one lap, once its numbers are drawn -/
theorem x44l {h : PH} (cl : Cl h) {c : Clk} (o : c.Ok) {s wt : Nat} (hs : s < c.rows.length) (hw : wt ≤ 10000000000000000000000000000000000000000) {k : Nat} (hk : 8 ≤ k) {x0 x1 x3 x4 x7 x8 x9 x10 x11 x12 x13 : Option PV} {ss : List EV.S} {Q : Rt → Prop} {J : EV.Env → PH → Prop}
    (hJ : ∀ t x7 x8 x9 x10, Fl t → J [x0, x1, some c.pv, x3, x4, some (nI s), some (nI wt), x7, x8, x9, x10, x11, x12, x13] (h ++ t)) :
    Wb (P.cc k) [.asg (.tup [.nm 7, .nm 8]) (.call 39 [.var 2, .var 5, .var 6]), .asg (.nm 9) (.lst [.var 6, .bf .max [.cst (.int 0), .bin .sub (.var 6) (.var 8)], .bf .max [.cst (.int 0), .bin .sub (.bin .sub (.var 6) (.var 8)) (.cst (.int 1))]]), .asg (.nm 10) (.comp (.callK 24 [] [.var 12, .var 5, .var 2] [2, 1, 0]) (.nm 12) (.itv (.var 9)) (.cst (.bl true)) [12]), .ite (.not (.call 35 [.var 10, .comp (.call 39 [.var 2, .var 5, .var 12]) (.nm 12) (.itv (.var 9)) (.cst (.bl true)) [12]])) [.ret (.cst (.bl false))] [], .ite (.and (.cmp .ge (.var 6) (.var 8)) (.cmp .ne (.idx (.var 10) (.cst (.int 1))) (.tup [.var 7, .cst (.int 0)]))) [.ret (.cst (.bl false))] []]
      [x0, x1, some c.pv, x3, x4, some (nI s), some (nI wt), x7, x8, x9, x10, x11, x12, x13] h (Kfor (P.cc k) ss Q J) := by
  obtain ⟨a1, a2⟩ := Clk.st_age (c := c) (s := s) wt
  have e39 : ∀ H w K, Cl H → Wc (P.cc k) 39 [c.pv, nI s, nI w] H K = K (pv2 (c.st s w)) H := fun H w K cl => c39 o hs cl (by omega)
  have e24 : ∀ H w K, Cl H → w ≤ wt → Wc (P.cc k) 24 [c.pv, nI s, nI w] H K = K (pv2 (c.st s w)) H := fun H w K cl hle => c24 o hs (by omega) cl (by omega)
  have hne : ∀ H K, Kcmp2 K .ne (pv2 (c.st s (wt - (c.st s wt).2))) (.tup [nI (c.st s wt).1, .int 0]) H = K (.bl false) H := fun H K => by
    rw [a2]
    exact ne_pair (p := ((c.st s wt).1, 0))
  have e39a := fun K => e39 h wt K cl
  have mx1 : (if (wt : Int) - ((c.st s wt).2 : Int) > 0 then (wt : Int) - ((c.st s wt).2 : Int) else 0) = ((wt - (c.st s wt).2 : Nat) : Int) := by split <;> omega
  have mx2 : (if (wt : Int) - ((c.st s wt).2 : Int) - 1 > 0 then (wt : Int) - ((c.st s wt).2 : Int) - 1 else 0) = ((wt - (c.st s wt).2 - 1 : Nat) : Int) := by split <;> omega
  have qa : ((c.st s wt).2 : Int) ≤ (wt : Int) := by omega
  have f1 : Fl [.lst false ([wt, wt - (c.st s wt).2, wt - (c.st s wt).2 - 1].map nI)] := Fl.nil.cons flat_nI
  have f2 : Fl [.lst false ([wt, wt - (c.st s wt).2, wt - (c.st s wt).2 - 1].map nI), .lst false (([wt, wt - (c.st s wt).2, wt - (c.st s wt).2 - 1].map (c.st s)).map pv2)] := (Fl.nil.cons flat_pairs).cons flat_nI
  have f3 : Fl [.lst false ([wt, wt - (c.st s wt).2, wt - (c.st s wt).2 - 1].map nI), .lst false (([wt, wt - (c.st s wt).2, wt - (c.st s wt).2 - 1].map (c.st s)).map pv2), .lst false (([wt, wt - (c.st s wt).2, wt - (c.st s wt).2 - 1].map (c.st s)).map pv2)] := ((Fl.nil.cons flat_pairs).cons flat_pairs).cons flat_nI
  have hle : ∀ w ∈ [wt, wt - (c.st s wt).2, wt - (c.st s wt).2 - 1], w ≤ wt := fun w hw => by
    rcases List.mem_cons.mp hw with h | h
    · omega
    rcases List.mem_cons.mp h with h | h
    · omega
    rw [List.mem_singleton.mp h]; omega
  have hl1 : ([wt, wt - (c.st s wt).2, wt - (c.st s wt).2 - 1].map (c.st s)).map pv2 = [pv2 (c.st s wt), pv2 (c.st s (wt - (c.st s wt).2)), pv2 (c.st s (wt - (c.st s wt).2 - 1))] := rfl
  have hl0 : [PV.int (wt : Int), PV.int ((wt - (c.st s wt).2 : Nat) : Int), PV.int ((wt - (c.st s wt).2 - 1 : Nat) : Int)] = [wt, wt - (c.st s wt).2, wt - (c.st s wt).2 - 1].map nI := rfl
  have hlen : [wt, wt - (c.st s wt).2, wt - (c.st s wt).2 - 1].length = 3 := rfl
  have e35 : ∀ K, Wc (P.cc k) 35 [.obj (h.length + 1), .obj (h.length + 2)] (h ++ [.lst false ([wt, wt - (c.st s wt).2, wt - (c.st s wt).2 - 1].map nI), .lst false (([wt, wt - (c.st s wt).2, wt - (c.st s wt).2 - 1].map (c.st s)).map pv2), .lst false (([wt, wt - (c.st s wt).2, wt - (c.st s wt).2 - 1].map (c.st s)).map pv2)]) K = K (.bl true) _ := fun K => c35l (d := 1) (xs := ([wt, wt - (c.st s wt).2, wt - (c.st s wt).2 - 1].map (c.st s)).map pv2) (fa := false) (fb := false) (by rw [List.length_map, List.length_map, hlen]; omega) (fun x hx => by obtain ⟨a, _, rfl⟩ := List.mem_map.mp hx; exact lik_pv2) (by rw [hp_get]; rfl) (by rw [hp_get]; rfl) (f3.cl cl) (by omega)
  have fin := fun x7 x8 x9 x10 => hJ _ x7 x8 x9 x10 f3
  have hl2 : (([wt, wt - (c.st s wt).2, wt - (c.st s wt).2 - 1].map (c.st s)).map pv2)[1]? = some (pv2 (c.st s (wt - (c.st s wt).2))) := rfl
  have cl1 := f1.cl cl
  have cl2 := f2.cl cl
  generalize [wt, wt - (c.st s wt).2, wt - (c.st s wt).2 - 1] = ws at *
  clear hJ f1 f2 f3 hl1 a2
  have e24 := fun (w : Nat) (hm : w ∈ ws) K => e24 (h ++ [.lst false (ws.map nI)]) w K cl1 (hle w hm)
  have e39b := fun (w : Nat) K => e39 (h ++ [.lst false (ws.map nI), .lst false ((ws.map (c.st s)).map pv2)]) w K cl2
  have hmm : ws.map (fun w => pv2 (c.st s w)) = (ws.map (c.st s)).map pv2 := by rw [List.map_map]; rfl
  clear e39 hle cl1 cl2 hs
  walk_at "u"
  refine Klp_map (l := ws) (f := nI) (g := fun w => pv2 (c.st s w)) (by rw [fuelE]; omega) (by omega) (iw_live hp_get0) (fun w hm => ?_) ?_
  · have e := e24 w hm
    clear e24 fin hl0 mx1 mx2 e39b
    simp only [wipeP]
    (have zz0 := @@pick3; walk_at "u")
  rw [hmm]
  clear e24
  walk_at "u"
  refine Klp_map (l := ws) (f := nI) (g := fun w => pv2 (c.st s w)) (by rw [fuelE]; omega) (by omega) (iw_live hp_get0) (fun w hm => ?_) ?_
  · clear fin hl0 mx1 mx2
    simp only [wipeP]
    walk_at "u"
  rw [hmm]
  clear e39b hmm hl0
  walk_at "u"
theorem x44c {sc : List Int} {m : St} {g : PH} (mo : m.Ok) (hs : m.spot < 800000000000) (cg : Cg g) {k : Nat} (hk : 8 ≤ k) {c : Clk} (o : c.Ok) {x3 : Option PV} {rest : List EV.S} {Q : Rt → Prop}
    (hK : ∀ m' t x4 x5 x6 x7 x8 x9 x10, m'.Ok → m'.spot ≤ m.spot + 16 → Fl t → Wb (P.cc k) rest [some (.obj 3), some (nI c.rows.length), some c.pv, x3, x4, x5, x6, x7, x8, x9, x10, none, none, none] (M sc m' (g ++ t)) Q) :
    Wb (P.cc k) (.forS (.nm 4) (.rng (.cst (.int 0)) (.cst (.int 4))) c44b :: rest) [some (.obj 3), some (nI c.rows.length), some c.pv, x3, none, none, none, none, none, none, none, none, none, none] (M sc m g) Q := by
  have t1 := o.t1
  have t20 := o.t20
  (have zz0 := @@Krng2_ap; walk_at "u")
  refine Kfors_rng (lo := 0) (n := 4) (fun i r1 h1 => ∃ m' t x4 x5 x6 x7 x8 x9 x10, m'.Ok ∧ m'.spot ≤ m.spot + 4 * i ∧ Fl t ∧ h1 = M sc m' (g ++ t) ∧ r1 = [some (.obj 3), some (nI c.rows.length), some c.pv, x3, x4, x5, x6, x7, x8, x9, x10, none, none, none]) (by rw [fuelE]; omega)
    ⟨m, [], _, _, _, _, _, _, _, mo, Nat.le_refl _, Fl.nil, by rw [List.append_nil], rfl⟩ (fun i r1 h1 hi ⟨m', t, x4, x5, x6, x7, x8, x9, x10, o', s', ft, z1, z2⟩ => ?_) fun r1 h1 ⟨m', t, x4, x5, x6, x7, x8, x9, x10, o', s', ft, z1, z2⟩ => ?_
  · subst z1 z2
    clear hK
    have cg0 := ft.cg cg
    generalize hG : g ++ t = G at cg0 ⊢
    (have zz0 := @@M_app; have zz1 := @@M_len; walk_at "u")
    refine c33 (L := c.rows.length) o' (by omega) cg0 (by omega) (by omega) (by omega) fun s m1 hs1 o1 s1 => ?_
    (have zz0 := @@M_app; have zz1 := @@M_len; have zz2 := @@pow_18; walk_at "u")
    refine c33 (L := 1000000000000000000) o1 (by omega) cg0 (by omega) (by omega) (by omega) fun d1 m2 hd1 o2 s2 => ?_
    (have zz0 := @@M_app; have zz1 := @@M_len; have zz2 := @@pow_18; have zz3 := @@pow_40; have zz4 := @@pow_39; walk_at "u")
    refine c33 (L := 1000000000000000000000000000000000000000) o2 (by omega) cg0 (by omega) (by omega) (by omega) fun d2 m3 hd2 o3 s3 => ?_
    have f1 : Fl [.lst false [nI d1, .int 10000000000000000000000000000000000000000, nI d2, .int 1000000000000000000]] := Fl.nil.cons rfl
    have cg1 := f1.cg cg0
    (have zz0 := @@M_app; have zz1 := @@M_len; have zz2 := @@pow_18; have zz3 := @@pow_40; have zz4 := @@pow_39; walk_at "u")
    refine c34 (n := G.length) (xs := [nI d1, .int 10000000000000000000000000000000000000000, nI d2, .int 1000000000000000000]) (fz := false) o3 (by omega) cg1 hp_get0 (by simp) (by simp) (by omega) fun i x m4 hx o4 s4 => ?_
    obtain ⟨wt, hwt, rfl⟩ : ∃ wt : Nat, wt ≤ 10000000000000000000000000000000000000000 ∧ x = nI wt := by
      match i, hx with
      | 0, hx => exact ⟨d1, by omega, (Option.some.inj hx).symm⟩
      | 1, hx => exact ⟨10000000000000000000000000000000000000000, by omega, (Option.some.inj hx).symm⟩
      | 2, hx => exact ⟨d2, by omega, (Option.some.inj hx).symm⟩
      | 3, hx => exact ⟨1000000000000000000, by omega, (Option.some.inj hx).symm⟩
    clear hx
    rw [Kc1_ap, Wl_nil, Kc2_ap, Kc2_ap, Ktup_ap (by simp)]
    simp only [Kasg_ap, Wbd_tup, Wbds_cons, Wbds_nil, Wbd_nm, List.set_cons_zero, List.set_cons_succ]
    refine x44l cg1.cl o hs1 hwt hk fun t' x7 x8 x9 x10 ft' => ?_
    refine ⟨m4, t ++ (_ ++ t'), _, _, _, _, _, _, _, o4, by omega, ft.app (f1.app ft'), ?_, rfl⟩
    rw [M_app, ← hG, List.append_assoc, List.append_assoc]
  · subst z1 z2
    have fin := hK m' t x4 x5 x6 x7 x8 x9 x10 o' (by omega) ft
    clear hK
    exact fin
abbrev s44d (rest : List EV.S) : List EV.S := .asg (.nm 11) (.con .tuple (.itc (.tup [.call 33 [.var 0, .bin .pow (.cst (.int 10)) (.cst (.int 39))], .call 33 [.var 0, .idx (.var 2) (.cst (.int 0))]]) (.nm 13) (.rng (.cst (.int 0)) (.call 34 [.var 0, .lst [.cst (.int 3), .cst (.int 200)]])) (.cst (.bl true)) [13])) :: rest
theorem x44d {sc : List Int} {m : St} {g : PH} (mo : m.Ok) (hs : m.spot < 800000000000) (cg : Cg g) {k : Nat} (hk : 8 ≤ k) {c : Clk} (o : c.Ok) {x1 x3 x4 x5 x6 x7 x8 x9 x10 x12 : Option PV} {rest : List EV.S} {Q : Rt → Prop}
    (hK : ∀ (w : List (Nat × Nat)) m' t, TOk c.n w → m'.Ok → m'.spot ≤ m.spot + 401 → Fl t → Wb (P.cc k) rest [some (.obj 3), x1, some c.pv, x3, x4, x5, x6, x7, x8, x9, x10, some (rowP w), x12, none] (M sc m' (g ++ t)) Q) :
    Wb (P.cc k) (s44d rest) [some (.obj 3), x1, some c.pv, x3, x4, x5, x6, x7, x8, x9, x10, none, x12, none] (M sc m g) Q := by
  have n1 := o.n1
  have n4 := o.n4
  have f1 : Fl [.lst false [.int 3, .int 200]] := Fl.nil.cons rfl
  have cg1 := f1.cg cg
  (have zz0 := @@M_app; have zz1 := @@M_len; walk_at "u")
  refine c34 (n := g.length) (xs := [.int 3, .int 200]) (fz := false) mo (by omega) cg1 hp_get0 (by simp) (by simp) (by omega) fun i x m1 hx o1 s1 => ?_
  obtain ⟨n, hn, rfl⟩ : ∃ n : Nat, n ≤ 200 ∧ x = nI n := by
    match i, hx with
    | 0, hx => exact ⟨3, by omega, (Option.some.inj hx).symm⟩
    | 1, hx => exact ⟨200, by omega, (Option.some.inj hx).symm⟩
  clear hx
  (have zz0 := @@M_app; have zz1 := @@M_len; walk_at "u")
  refine Klp_run (N := n) (fun i acc h' => ∃ (ps : List (Nat × Nat)) (m' : St), ps.length = i ∧ (∀ p ∈ ps, p.1 < 1000000000000000000000000000000000000000 ∧ p.2 < c.n) ∧ m'.Ok ∧ m'.spot ≤ m1.spot + 2 * i ∧ acc = ps.map pv2 ∧ h' = M sc m' (g ++ [.lst false [.int 3, .int 200]])) (by rw [fuelE]; omega)
    ⟨[], m1, rfl, (fun p h => by cases h), o1, Nat.le_refl _, rfl, rfl⟩ (fun i acc h' hi ⟨ps, m', z1, z2, z3, z4, z5, z6⟩ => ?_) fun acc h' ⟨ps, m', z1, z2, z3, z4, z5, z6⟩ => ?_
  · subst z5 z6
    refine ⟨by rw [List.length_map]; omega, _, by rw [itAt_rng, if_pos hi], ?_⟩
    clear hK
    simp only [wipeP]
    (have zz0 := @@pow_39; walk_at "u")
    refine c33 (L := 1000000000000000000000000000000000000000) z3 (by omega) cg1 (by omega) (by omega) (by omega) fun d m1 hd o1 s1' => ?_
    (have zz0 := @@pow_39; walk_at "u")
    refine c33 (L := c.n) o1 (by omega) cg1 (by omega) (by omega) (by omega) fun d2 m2 hd2 o2 s2' => ?_
    (have zz0 := @@pow_39; walk_at "u")
    refine ⟨ps ++ [(d, d2)], m2, by rw [List.length_append, z1]; rfl, fun p hp => ?_, o2, by omega, by rw [List.map_append]; rfl, rfl⟩
    rcases List.mem_append.mp hp with h | h
    · exact z2 p h
    · rw [List.mem_singleton.mp h]; exact ⟨hd, hd2⟩
  · subst z5 z6
    refine ⟨by rw [itAt_rng, if_neg (Nat.lt_irrefl _)], ?_⟩
    have hz : (ps.map pv2).length ≤ 16777216 := by rw [List.length_map]; omega
    have fin := hK ps m' _ ⟨by omega, fun p hp => ⟨by have := (z2 p hp).1; omega, (z2 p hp).2⟩⟩ z3 (by omega) f1
    clear hK
    walk_at "u"
theorem c44 {sc : List Int} {m : St} (mo : m.Ok) (hs : m.spot < 700000000000) {g : PH} (cg : Cg g) {K : KV} {k : Nat} (hk : 10 ≤ k)
    (hK : ∀ m', m'.Ok → K (.bl true) (M sc m' g)) : Wc (P.cc k) 44 [.obj 3] (M sc m g) K := by
  refine w44 (by omega) ?_
  refine x44a (rest := b44b (.forS (.nm 4) (.rng (.cst (.int 0)) (.cst (.int 4))) c44b :: s44d [.ret (.and (.call 35 [.call 26 [.var 2, .var 11], .call 40 [.var 2, .var 11]]) (.call 41 [.var 2, .cst (.int 0)]))])) mo (by omega) cg (by omega) fun c m1 t1 o o1 s1 f1 => ?_
  refine x44b o1 (by omega) (f1.cg cg) (by omega) o fun c m2 t2 x3 o o2 s2 f2 => ?_
  have cg2 := f2.cg (f1.cg cg)
  refine x44c o2 (by omega) cg2 (by omega) o fun m3 t3 x4 x5 x6 x7 x8 x9 x10 o3 s3 f3 => ?_
  have cg3 := f3.cg cg2
  refine x44d o3 (by omega) cg3 (by omega) o fun w m4 t4 hw o4 s4 f4 => ?_
  have cg4 := f4.cg cg3
  have hK := hK m4 o4
  have hgc : gc (g.length + 4) (.bl true) (M sc m4 (g ++ t1 ++ t2 ++ t3 ++ t4)) = M sc m4 g := by rw [List.append_assoc, List.append_assoc, List.append_assoc, gcM cg rfl]
  generalize (g ++ t1 ++ t2 ++ t3 ++ t4) = G at *
  have hrl := Clk.tas_len o (w := w) fun p m => (hw.2 p m).2
  have hwl := hw.1
  have e26 : ∀ K, Wc (P.cc (k - 1)) 26 [c.pv, rowP w] (M sc m4 G) K = K (wrdP (c.tas w).1) _ := fun K => c26 o hw cg4.cl (by omega)
  have e40 : ∀ K, Wc (P.cc (k - 1)) 40 [c.pv, rowP w] (M sc m4 G) K = K (wrdP (c.tas w).1) _ := fun K => c40 o hw cg4.cl (by omega)
  have e35 : ∀ K, Wc (P.cc (k - 1)) 35 [wrdP (c.tas w).1, wrdP (c.tas w).1] (M sc m4 G) K = K (.bl true) _ := fun K => c35 1 _ (lik_nats (by omega)) cg4.cl (by omega)
  have e41 : ∀ K, Wc (P.cc (k - 1)) 41 [c.pv, .int 0] (M sc m4 G) K = K (.bl true) _ := fun K => c41 (s := 0) o o.t1 cg4.cl (by omega)
  clear cg2 cg3 cg4 hw
  (have zz0 := @@M_len; walk_at "u")
theorem cTop {ns : List Int} (hn : ns.length ≤ 63) {k : Nat} (hk : 11 ≤ k) : Wc (P.cc k) 45 [.obj 0] [.lst true (ns.map .int)] fun v _ => v = .bl true := by
  refine w45 (by omega) ?_
  unfold b45
  walk_at "u"
  refine c32 hn (by omega) fun m mo hs => ?_
  (have zz0 := @@Krng2_ap; walk_at "u")
  refine Kfors_rng (lo := 0) (n := 2) (fun i r1 h1 => ∃ m' x2, m'.Ok ∧ m'.spot ≤ 300 * i ∧ h1 = M ns m' [] ∧ r1 = [some (.obj 0), some (.obj 3), x2]) (by rw [fuelE]; omega)
    ⟨m, _, mo, by omega, rfl, rfl⟩ (fun i r1 h1 hi ⟨m', x2, o', s', z1, z2⟩ => ?_) fun r1 h1 ⟨m', x2, o', s', z1, z2⟩ => ?_
  · subst z1 z2
    walk_at "u"
    refine c42 o' (by omega) .nil (by omega) fun m2 o2 s2 => ?_
    walk_at "u"
    exact ⟨m2, _, o2, by omega, rfl, rfl⟩
  · subst z1 z2
    walk_at "u"
    refine c44 o' (by omega) .nil (by omega) fun m2 o2 => ?_
    rfl
theorem main (ns : List Int) (hn : ns.length ≤ 63) : ∃ h', callF P 40 45 [.obj 0] [.lst true (ns.map .int)] = .ok (.bl true) h' := by
  have q := cTop hn (k := 40) (by omega)
  unfold Wc at q
  revert q
  show Wr (callF P 40 45 [.obj 0] [.lst true (ns.map .int)]) _ → _
  cases callF P 40 45 [.obj 0] [.lst true (ns.map .int)] with
  | ok v h => intro q; exact ⟨h, by rw [show v = .bl true from q]⟩
  | ex k v h => exact fun q => q.elim
  | no => exact fun q => q.elim
end Lw
end
section
set_option Elab.async false
set_option linter.all false
set_option maxRecDepth 100000
set_option maxHeartbeats 0
namespace Lw
open PySem PySem.Spec PyProof.Rows L2
theorem hb : ∀ (K : PySem.W.Frag) (fa : Addr) (fd : FuncData), FunD K d45.x d45.qual d45.params d45.body d45.scope [] [] fa fd → ∀ (s : Shared) (u : Value), BindsTo s fd ⟨[u], []⟩ [("script", u)] := fun K fa fd F s u =>
  FunD.bindsA (ps := ["script"]) F (fun _ _ _ _ _ _ us hl => match us, hl with | [_], _ => rfl) s [u] rfl
def lo0_ : List Str := ["ElseError", "TooGreat", "BadBox", "BadWord", "BadState", "BadTurns", "BadInput", "MOST_INPUTS", "MOST_ANSWERS", "MOST_STATES", "MOST_WORD", "MOST_TURNS", "is_integer", "is_within", "is_step", "need_row", "need_box", "need_state", "need_word_of", "way_of", "need_asked", "answers_of", "answers_from", "end_behind", "BadAnswer", "BadClock", "BadWait", "MOST_CLOCK", "MOST_TICKS", "MOST_WAIT"]
def lo1_ : List Str := ["MOST_TIMED", "outer_fault", "steps_fault", "is_out", "clock_fault", "need_clock", "need_clock_state", "need_clock_input", "need_timed", "stay_of", "course_of", "round_of", "stand_after", "clock_stands", "answers_timed", "clock_answers", "tick_of", "ticked_rows", "ticked_box", "first_wait", "_law_mixed", "_law_begin", "_law_draw", "_law_of", "_law_like", "_law_clock", "_law_tick", "_law_ticks", "_law_stands", "_law_timed_answers"]
def lo2_ : List Str := ["_law_first_right", "_law_small_right", "_law_ticked_right", "_law_great_right"]
def lo : List Str := lo0_ ++ lo1_ ++ lo2_
abbrev R : PySem.W.OpenRow := PySem.W.OpenLaw.row PySem.Challenge.rw_whatelse_k80_waits_and_first_times
abbrev hk : PySem.W.Hook := EV.hookL 5 S.fa S.fn
def ob (s : PySem.W.SharedT) : Bool × He.AlD := EV.obsL 5 S.fa S.fn (HandSHeadRun.getT s)
theorem ob_eq (s : PySem.W.SharedT) : ob s = hk.obs s.abs := EV.obsL_eq (HandSHeadRun.getT_eq s)
theorem run (w : World) : HandSHeadRun.RunEq R (PySem.W.view R.prog [69]) hk ob 6000 lo w := by
  intro os
  kernel_rfl
end Lw
open PySem PySem.W PySem.Calls PyProof.Rows
theorem PySem.Challenge.cw_whatelse_k80_waits_and_first_times_holds : PySem.Challenge.rw_whatelse_k80_waits_and_first_times.Holds := by
  w_on; o_law
  refine HandSHeadRun.head_any (r := OpenLaw.row PySem.Challenge.rw_whatelse_k80_waits_and_first_times) (q := view (OpenLaw.row PySem.Challenge.rw_whatelse_k80_waits_and_first_times).prog [69]) (H := Lw.hk) (ob := Lw.ob) (M := 6000) (loose := Lw.lo) (d := HandSHeadRun.topDef (OpenLaw.row PySem.Challenge.rw_whatelse_k80_waits_and_first_times).prog 69) (kwd := []) Lw.ob_eq
    (by kernel_rfl) (fun s => by kernel_rfl) Lw.run (by kernel_rfl) (by kernel_rfl) (by kernel_rfl) (by rfl) (by first | assumption | decide +kernel) (by decide +kernel) ⟨rfl, rfl, rfl, rfl, rfl, by decide +kernel⟩ ?hw ?hc
  case hw => w_witness2
  case hc =>
    exact EV.law_end (l := PySem.Challenge.rw_whatelse_k80_waits_and_first_times) (n := 63) (k := 40) (f := 45) (m := 0) (x := "script") (S := Lw.S) (dl := Lw.d45) rfl (by decide) (by kernel_rfl) ⟨rfl, by decide, by decide⟩ Lw.fx Lw.kx (by decide +kernel) rfl (by kernel_rfl) rfl Lw.hb Lw.main
end
