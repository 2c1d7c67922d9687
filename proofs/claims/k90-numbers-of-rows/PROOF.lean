import PyProof.Rows.All
import Wide.All
import OpenK.AllK
import Wide.FinOn
import HandS.ForMost
import HandS.Exc
import HandS.TryOnly
import HandS.Evl
import HandS.TupAny
import HandS.IsInst
import HandS.Style
import HandS.Conv
import HandS.Deep
import HandS.Replace
import KE.DataCmp
import KE.SortData
import HandS.Dict
import HandS.Gcd
import HandS.Walk
import HandS.TupLen
import HandS.Words
import HandS.WordsExc
import HandS.Rev
import HandS.DictComp
import HandS.Ends
import HandS.ExcOwn
import HandS.ExcInit
import KE.KExcSuper
import HandS.ExcField
import KE.SortKeyHeap
import HandS.SortKw
import HandS.Sort
import KE.DataMinMax
import PySem.Challenge.RW_readapart_k90_numbers_of_rows
set_option Elab.async false
set_option linter.all false
set_option maxRecDepth 100000
set_option maxHeartbeats 4000000
set_option autoImplicit false
/-! Plain data, a core language with numbered slots, its meaning. Written for this claim; nothing of Python's model is used here. -/
namespace PF
/-- a text: its code points -/
abbrev Tx := List Nat
/-- a key of a dict -/
inductive Ke where
  | i (n : Int) | s (t : Tx)
deriving DecidableEq
/-- plain data; of a dict: whether it may be changed no more, keys, values -/
inductive D where
  | non | bl (b : Bool) | int (i : Int) | str (s : Tx) | tup (ds : List D) | lst (ds : List D) | dct (lk : Bool) (ks : List Ke) (vs : List D) | dtt (lk : Bool) (ks : List (List Ke)) (vs : List D) | scr (ns : List Int)
deriving Inhabited
/-- stuck | a value | an exception: its class, what it keeps -/
inductive R (α : Type) where
  | stuck | ok (a : α) | exc (c : Nat) (d : D)
namespace R
def bind {α β : Type} (x : R α) (f : α → R β) : R β := match x with
  | stuck => stuck
  | ok a => f a
  | exc c d => exc c d
instance : Monad R where
  pure := ok
  bind := bind
theorem ok_bind {α β : Type} (a : α) (f : α → R β) : (R.ok a >>= f) = f a := rfl
theorem stuck_bind {α β : Type} (f : α → R β) : ((R.stuck : R α) >>= f) = R.stuck := rfl
theorem exc_bind {α β : Type} (c : Nat) (d : D) (f : α → R β) : ((R.exc c d : R α) >>= f) = R.exc c d := rfl
theorem pure_eq {α : Type} (a : α) : (pure a : R α) = R.ok a := rfl
end R
def lift {α : Type} : Option α → R α
  | some a => .ok a
  | none => .stuck
/-- within a comprehension nothing may be raised -/
def calm {α : Type} : R α → R α
  | .ok a => .ok a
  | _ => .stuck
def SZ : Nat := 100000
/-! ### equality and order of data -/
mutual
def D.eqv : D → D → Bool
  | .non, .non => true
  | .bl a, .bl b => a == b
  | .bl a, .int j => (if a then 1 else 0) == j
  | .int i, .bl b => i == (if b then 1 else 0)
  | .int i, .int j => i == j
  | .str x, .str y => x == y
  | .lst xs, .lst ys => D.eqvs xs ys
  | .tup xs, .tup ys => D.eqvs xs ys
  | _, _ => false
def D.eqvs : List D → List D → Bool
  | [], [] => true
  | x :: xs, y :: ys => D.eqv x y && D.eqvs xs ys
  | _, _ => false
end
/-- flat: no object of the heap -/
def D.flat : D → Bool
  | .non => true | .bl _ => true | .int _ => true | .str _ => true | _ => false
def D.sameScal : D → D → Bool
  | .non, .non => true | .bl _, .bl _ => true | .int _, .int _ => true | .str _, .str _ => true | _, _ => false
def txOk (s : Tx) : Bool := s.all (· < 0x110000)
mutual
/-- nested data that == may look at; n bounds the depth -/
def D.eqOk : Nat → D → Bool
  | _, .non => true | _, .bl _ => true | _, .int _ => true | _, .str s => txOk s
  | n + 1, .tup ds => D.eqOks n ds
  | n + 1, .lst ds => D.eqOks n ds
  | _, _ => false
def D.eqOks : Nat → List D → Bool
  | _, [] => true
  | n, d :: ds => D.eqOk n d && D.eqOks n ds
end
def eqD (a b : D) : Option Bool := if D.sameScal a b || (D.eqOk 60 a && D.eqOk 60 b) then some (D.eqv a b) else none
/-- each once -/
def ddI (ns : List Int) : List Int := ns.foldl (fun L v => if L.any (· == v) then L else L ++ [v]) []
/-- every c-th, from i on -/
def everyL {α : Type} (c i : Nat) (xs : List α) : List α := (List.range (if i < xs.length then (xs.length - i + c - 1) / c else 0)).filterMap fun k => xs[i + c * k]?
/-! ### dicts -/
def Ke.d : Ke → D
  | .i n => .int n
  | .s t => .str t
def D.key : D → Option Ke
  | .int n => some (.i n)
  | .str t => some (.s t)
  | _ => none
section
variable {α : Type}
def getL (kvs : List (Ke × α)) (k : Ke) : Option α := (kvs.find? fun kv => decide (kv.1 = k)).map (·.2)
/-- in its place, or at the end -/
def putL (kvs : List (Ke × α)) (k : Ke) (v : α) : List (Ke × α) :=
  if kvs.any (fun kv => decide (kv.1 = k)) then kvs.map (fun kv => if kv.1 = k then (kv.1, v) else kv) else kvs ++ [(k, v)]
end
/-- a flat tuple as a key -/
def keysOf : List D → Option (List Ke)
  | [] => some []
  | d :: ds => d.key.bind fun k => (keysOf ds).map (k :: ·)
def D.tkey : D → Option (List Ke)
  | .tup ds => keysOf ds
  | _ => none
def Tk.d (k : List Ke) : D := .tup (k.map Ke.d)
section
variable {α κ : Type} [DecidableEq κ]
def getG (kvs : List (κ × α)) (k : κ) : Option α := (kvs.find? fun kv => decide (kv.1 = k)).map (·.2)
def putG (kvs : List (κ × α)) (k : κ) (v : α) : List (κ × α) :=
  if kvs.any (fun kv => decide (kv.1 = k)) then kvs.map (fun kv => if kv.1 = k then (kv.1, v) else kv) else kvs ++ [(k, v)]
end
def dttD (lk : Bool) (kvs : List (List Ke × D)) : D := .dtt lk (kvs.map (·.1)) (kvs.map (·.2))
def dicD (lk : Bool) (kvs : List (Ke × D)) : D := .dct lk (kvs.map (·.1)) (kvs.map (·.2))
/-- d[k], if it is there -/
def getD' : D → D → Option (Option D)
  | .dct _ ks vs, k => k.key.map fun k => getL (ks.zip vs) k
  | .dtt _ ks vs, k => k.tkey.map fun k => getG (ks.zip vs) k
  | _, _ => none
def putD : D → D → D → Option D
  | .dct false ks vs, k, v => if ks.length < SZ then k.key.map fun k => dicD false (putL (ks.zip vs) k v) else none
  | .dtt false ks vs, k, v => if ks.length < SZ then k.tkey.map fun k => dttD false (putG (ks.zip vs) k v) else none
  | _, _, _ => none
/-- d[k] of a dict with tuples as keys -/
def idxTD : D → D → Option D
  | .dtt _ ks vs, k => (k.tkey.map fun k => getG (ks.zip vs) k).bind id
  | _, _ => none
def dctOn : D → Option Unit
  | .dct _ _ _ => some ()
  | .dtt _ _ _ => some ()
  | _ => none
def D.isI : D → Bool
  | .int _ => true
  | _ => false
/-- == of dicts with ints as values -/
def sameD : D → D → Option Bool
  | .dct _ ks vs, .dct _ ls ws => if (decide (ks.length = vs.length) && decide (ls.length = ws.length)) && (vs.all D.isI && ws.all D.isI) then some (ks.length == ls.length && (ks.zip vs).all fun p => match getL (ls.zip ws) p.1 with
    | none => false
    | some d => D.eqv p.2 d) else none
  | _, _ => none
/-- from now on it is only read -/
def lockD : D → D
  | .dct _ ks vs => .dct true ks vs
  | .dtt _ ks vs => .dtt true ks vs
  | d => d
/-! ### operators -/
inductive BOp where
  | add | sub | mul | fdiv | mod | pow | shl | shr | band
inductive COp where
  | eq | ne | lt | le | gt | ge | is_ | isnt | in_ | notin
/-- whose object a value is: nobody's alone | new | a name's -/
inductive Fl where
  | pl | fr | bo
deriving DecidableEq
def Fl.isBo : Fl → Bool
  | .bo => true | _ => false
abbrev Res := Fl × D
def binop : BOp → D → D → Option Res
  | .add, .int i, .int j => some (.pl, .int (i + j))
  | .add, .str s, .str t => if s.length + t.length ≤ SZ then some (.pl, .str (s ++ t)) else none
  | .add, .tup s, .tup t => if s.length + t.length ≤ SZ then some (.pl, .tup (s ++ t)) else none
  | .add, .lst s, .lst t => if s.length + t.length ≤ SZ then some (.fr, .lst (s ++ t)) else none
  | .sub, .int i, .int j => some (.pl, .int (i - j))
  | .mul, .int i, .int j => if (-(2 ^ 64) < i ∧ i < 2 ^ 64) ∨ (-(2 ^ 64) < j ∧ j < 2 ^ 64) then some (.pl, .int (i * j)) else none
  | .mul, .str s, .int j => if j ≤ 1000 ∧ -1000 ≤ j ∧ s.length * j.toNat ≤ SZ then some (.pl, .str (List.replicate j.toNat s).flatten) else none
  | .mul, .lst s, .int j => if j ≤ 1000 ∧ -1000 ≤ j ∧ s.length * j.toNat ≤ SZ then some (.fr, .lst (List.replicate j.toNat s).flatten) else none
  | .fdiv, .int i, .int j => if 0 < j ∧ j < 1073741824 then some (.pl, .int (i / j)) else none
  | .mod, .int i, .int j => if 0 < j then some (.pl, .int (i % j)) else none
  | .pow, .int i, .int j => if 0 ≤ j ∧ j ≤ 1000 ∧ i.natAbs < 2 ^ 64 then some (.pl, .int (i ^ j.toNat)) else none
  | .shl, .int i, .int j => if 0 ≤ j ∧ j ≤ 1000 ∧ i.natAbs < 2 ^ 64 then some (.pl, .int (i * 2 ^ j.toNat)) else none
  | .shr, .int i, .int j => if 0 ≤ j ∧ j ≤ 1000 then some (.pl, .int (i / 2 ^ j.toNat)) else none
  | .band, .int i, .int j => if j = 1 then some (.pl, .int (i % 2)) else none
  | _, _, _ => none
def ltTx (s t : Tx) : Bool := decide (s < t)
def subTx (s t : Tx) : Bool := (List.range (t.length + 1)).any fun k => decide (k + s.length ≤ t.length) && (t.drop k).take s.length == s
def inD (x : D) (c : D) : Option Bool := match c with
  | .tup ds => if (x.flat && ds.all D.flat) || (D.eqOk 58 x && D.eqOks 58 ds) then some (ds.any fun y => D.eqv y x) else none
  | .lst ds => if (x.flat && ds.all D.flat) || (D.eqOk 58 x && D.eqOks 58 ds) then some (ds.any fun y => D.eqv y x) else none
  | .str t => match x with
    | .str [c] => some (decide (c ∈ t))
    | .str s => if s.length ≤ SZ ∧ t.length ≤ SZ then some (subTx s t) else none
    | _ => none
  | .dct lk ks vs => (getD' (.dct lk ks vs) x).map Option.isSome
  | .dtt lk ks vs => (getD' (.dtt lk ks vs) x).map Option.isSome
  | _ => none
def isD : D → D → Option Bool
  | .non, .non => some true
  | .bl _, .non => some false
  | .int _, .non => some false
  | .str _, .non => some false
  | .tup _, .non => some false
  | .lst _, .non => some false
  | .dct _ _ _, .non => some false
  | .dtt _ _ _, .non => some false
  | .bl a, .bl b => some (decide (a = b))
  | _, _ => none
mutual
/-- data that can be compared, place by place -/
def D.alike : D → D → Bool
  | .bl _, .bl _ => true
  | .int _, .int _ => true
  | .str _, .str _ => true
  | .lst xs, .lst ys => D.alikes xs ys
  | .tup xs, .tup ys => D.alikes xs ys
  | _, _ => false
def D.alikes : List D → List D → Bool
  | x :: xs, y :: ys => D.alike x y && D.alikes xs ys
  | [], _ => true
  | _ :: _, [] => true
end
mutual
/-- x < y, for data that can be compared -/
def D.lt : D → D → Bool
  | .bl a, .bl b => !a && b
  | .int i, .int j => decide (i < j)
  | .str s, .str t => ltTx s t
  | .lst xs, .lst ys => D.lts xs ys
  | .tup xs, .tup ys => D.lts xs ys
  | _, _ => false
def D.lts : List D → List D → Bool
  | x :: xs, y :: ys => if D.eqv x y then D.lts xs ys else D.lt x y
  | [], _ :: _ => true
  | _, [] => false
end
def ltD : D → D → Option Bool
  | .int i, .int j => some (decide (i < j))
  | .str s, .str t => some (ltTx s t)
  | .tup xs, .tup ys => if D.eqOks 59 xs && D.eqOks 59 ys && D.alikes xs ys then some (D.lts xs ys) else none
  | .lst xs, .lst ys => if D.eqOks 59 xs && D.eqOks 59 ys && D.alikes xs ys then some (D.lts xs ys) else none
  | _, _ => none
/-- a tuple that is not empty -/
def D.isRow : D → Bool
  | .tup (_ :: _) => true
  | _ => false
def D.le (a b : D) : Bool := !D.lt b a
/-- a list -/
def D.isLst : D → Bool
  | .lst _ => true
  | _ => false
def sortD (ds : List D) : Option (List D) := if ds.length ≤ 1 then some ds else if (ds.all D.isRow || ds.all D.isLst) && ds.all (D.eqOk 59) && ds.all (fun d => ds.all (D.alike d)) then some (ds.mergeSort D.le) else none
def cmpD : COp → D → D → Option Bool
  | .eq, a, b => eqD a b
  | .ne, a, b => (eqD a b).map (!·)
  | .lt, a, b => ltD a b
  | .gt, a, b => ltD b a
  | .le, a, b => (ltD b a).map (!·)
  | .ge, a, b => (ltD a b).map (!·)
  | .is_, a, b => isD a b
  | .isnt, a, b => (isD a b).map (!·)
  | .in_, a, b => inD a b
  | .notin, a, b => (inD a b).map (!·)
/-! ### places and cuts -/
def ixN (n : Nat) (i : Int) : Option Nat := if 0 ≤ i then (if i < n then some i.toNat else none) else if -(n : Int) ≤ i then some (i + n).toNat else none
def atI {α : Type} (xs : List α) (i : Int) : Option α := (ixN xs.length i).bind fun j => xs[j]?
def sIx (n d : Nat) : Option Int → Nat
  | none => d
  | some v => if v < 0 then (v + n).toNat else min v.toNat n
def cut {α : Type} (xs : List α) (lo hi : Option Int) : List α := (xs.drop (sIx xs.length 0 lo)).take (sIx xs.length xs.length hi - sIx xs.length 0 lo)
def idxD : D → D → Option D
  | .dct lk ks vs, k => (getD' (.dct lk ks vs) k).bind id
  | .lst ds, .int i => atI ds i
  | .tup ds, .int i => atI ds i
  | .scr ns, .int i => (atI ns i).map .int
  | .str s, .int i => if s.length ≤ SZ then (atI s i).map fun c => .str [c] else none
  | _, _ => none
def slcD : D → Option Int → Option Int → Option Res
  | .lst ds, lo, hi => some (.fr, .lst (cut ds lo hi))
  | .tup ds, lo, hi => some (.pl, .tup (cut ds lo hi))
  | .str s, lo, hi => if s.length ≤ SZ then some (.pl, .str (cut s lo hi)) else none
  | _, _, _ => none
def revD : D → Option Res
  | .lst ds => some (.fr, .lst ds.reverse)
  | .str s => if s.length ≤ SZ then some (.pl, .str s.reverse) else none
  | _ => none
/-! ### built-in functions -/
inductive Ty where
  | int | bool | str | list | tuple | dict | any
deriving DecidableEq
inductive Bi where
  | len | abs | int | list | tuple | sum | max | min | sorted | any | all | str | isin (t : Ty) | sortK | best (mx : Bool) | bestd (mx : Bool) | gcd
def intsOf : List D → Option (List Int)
  | [] => some []
  | .int i :: r => (intsOf r).map (i :: ·)
  | _ :: _ => none
def strsOf : List D → Option (List Tx)
  | [] => some []
  | .str s :: r => (strsOf r).map (s :: ·)
  | _ :: _ => none
def blsOf : List D → Option (List Bool)
  | [] => some []
  | .bl b :: r => (blsOf r).map (b :: ·)
  | _ :: _ => none
def maxI : List Int → Option Int
  | [] => none
  | [x] => some x
  | x :: r => (maxI r).map fun m => if m > x then m else x
def minI : List Int → Option Int
  | [] => none
  | [x] => some x
  | x :: r => (minI r).map fun m => if m < x then m else x
def isTy : Ty → D → Option Bool
  | .int, .int _ => some true | .int, .bl _ => some true | .int, .scr _ => none | .int, .dct _ _ _ => none | .int, .dtt _ _ _ => none | .int, _ => some false
  | .bool, .bl _ => some true | .bool, .scr _ => none | .bool, .dct _ _ _ => none | .bool, .dtt _ _ _ => none | .bool, _ => some false
  | .str, .str _ => some true | .str, .scr _ => none | .str, .dct _ _ _ => none | .str, .dtt _ _ _ => none | .str, _ => some false
  | .list, .lst _ => some true | .list, .scr _ => none | .list, .dct _ _ _ => none | .list, .dtt _ _ _ => none | .list, _ => some false
  | .dict, .dct _ _ _ => none | .dict, .dtt _ _ _ => none | .dict, .scr _ => none | .dict, _ => some false
  | .any, _ => none
  | .tuple, .tup _ => some true | .tuple, .scr _ => none | .tuple, .dct _ _ _ => none | .tuple, .dtt _ _ _ => none | .tuple, _ => some false
/-- by length, then by letters -/
def leK (a b : Tx) : Bool := decide (a.length < b.length) || (decide (a.length = b.length) && decide (a ≤ b))
/-- the first of the greatest, of the least -/
def bestT (mx : Bool) : List Tx → Option Tx
  | [] => none
  | x :: r => some (r.foldl (fun a y => if (if mx then ltTx a y else ltTx y a) then y else a) x)
def bestD (mx : Bool) (ds : List D) : Option D := match intsOf ds with
  | some ns => (if mx then maxI ns else minI ns).map .int
  | none => (strsOf ds).bind fun xs => (bestT mx xs).map .str
def builtin : Bi → List D → Option Res
  | .gcd, [.int i, .int j] => some (.pl, .int (Nat.gcd i.natAbs j.natAbs : Nat))
  | .best mx, [.lst ds] => (bestD mx ds).map fun d => (.pl, d)
  | .best mx, [.tup ds] => (bestD mx ds).map fun d => (.pl, d)
  | .bestd mx, [.lst ds, x] => if ds.isEmpty then (if x.flat then some (.pl, x) else none) else (bestD mx ds).map fun d => (.pl, d)
  | .len, [.lst ds] => some (.pl, .int ds.length)
  | .len, [.tup ds] => some (.pl, .int ds.length)
  | .len, [.scr ns] => some (.pl, .int ns.length)
  | .len, [.dct _ ks _] => some (.pl, .int ks.length)
  | .len, [.dtt _ ks _] => some (.pl, .int ks.length)
  | .len, [.str s] => if s.length ≤ SZ then some (.pl, .int s.length) else none
  | .abs, [.int i] => some (.pl, .int (if i < 0 then -i else i))
  | .int, [.int i] => some (.pl, .int i)
  | .int, [.bl b] => some (.pl, .int (if b then 1 else 0))
  | .list, [.lst ds] => some (.fr, .lst ds)
  | .list, [.tup ds] => some (.fr, .lst ds)
  | .list, [.dct _ ks _] => some (.fr, .lst (ks.map Ke.d))
  | .list, [.dtt _ ks _] => some (.fr, .lst (ks.map Tk.d))
  | .tuple, [.lst ds] => some (.pl, .tup ds)
  | .tuple, [.tup ds] => some (.pl, .tup ds)
  | .sum, [.lst ds] => (intsOf ds).map fun ns => (.pl, .int ns.sum)
  | .sum, [.scr ns] => some (.pl, .int ns.sum)
  | .max, [.lst ds] => ((intsOf ds).bind maxI).map fun m => (.pl, .int m)
  | .min, [.lst ds] => ((intsOf ds).bind minI).map fun m => (.pl, .int m)
  | .max, [.int i, .int j] => some (.pl, .int (if j > i then j else i))
  | .min, [.int i, .int j] => some (.pl, .int (if j < i then j else i))
  | .any, [.lst ds] => (blsOf ds).map fun bs => (.pl, .bl (bs.any id))
  | .all, [.lst ds] => (blsOf ds).map fun bs => (.pl, .bl (bs.all id))
  | .isin t, [d] => (isTy t d).map fun b => (.pl, .bl b)
  | .sorted, [.lst ds] => match intsOf ds with
    | some ns => some (.fr, .lst ((ns.mergeSort fun a b => decide (a ≤ b)).map .int))
    | none => match strsOf ds with
      | some xs => some (.fr, .lst ((xs.mergeSort fun a b => decide (a ≤ b)).map .str))
      | none => (sortD ds).map fun es => (.fr, .lst es)
  | .sorted, [.tup ds] => match intsOf ds with
    | some ns => some (.fr, .lst ((ns.mergeSort fun a b => decide (a ≤ b)).map .int))
    | none => match strsOf ds with
      | some xs => some (.fr, .lst ((xs.mergeSort fun a b => decide (a ≤ b)).map .str))
      | none => (sortD ds).map fun es => (.fr, .lst es)
  | .sortK, [.lst ds] => (strsOf ds).bind fun xs => if xs.all (fun x => decide (x.length ≤ SZ)) then some (.fr, .lst ((xs.mergeSort leK).map .str)) else none
  | _, _ => none
inductive Mt where
  | join | sindex | lindex
def joinTx (sep : Tx) : List Tx → Tx
  | [] => []
  | [x] => x
  | x :: r => x ++ sep ++ joinTx sep r
def firstAt (x : D) : List D → Option Nat
  | [] => none
  | y :: r => if D.eqv y x then some 0 else (firstAt x r).map (· + 1)
/-- whose method it is -/
def mtOn : Mt → D → Option Unit
  | .lindex, .lst _ => some ()
  | .lindex, _ => none
  | _, .str _ => some ()
  | _, _ => none
def method : Mt → D → List D → Option Res
  | .join, .str s, [.lst ds] => (strsOf ds).bind fun xs => if (xs.map List.length).sum + xs.length * s.length ≤ SZ then some (.pl, .str (joinTx s xs)) else none
  | .join, .str s, [.tup ds] => (strsOf ds).bind fun xs => if (xs.map List.length).sum + xs.length * s.length ≤ SZ then some (.pl, .str (joinTx s xs)) else none
  | .sindex, .str [97, 98, 99], [.str [c]] => if c = 97 then some (.pl, .int 0) else if c = 98 then some (.pl, .int 1) else if c = 99 then some (.pl, .int 2) else none
  | .lindex, .lst ds, [x] => if x.flat && ds.all D.flat then (firstAt x ds).map fun i => (.pl, .int i) else none
  | _, _, _ => none
/-! ### the core language: expressions -/
mutual
inductive CE where
  | var (i : Nat)
  | cst (d : D)
  | bin (o : BOp) (a b : CE)
  | neg (a : CE)
  | cmp (o : COp) (a b : CE)
  | chain (o p : COp) (a b c : CE)
  | not (a : CE)
  | and (a b : CE)
  | or (a b : CE)
  | ite (c a b : CE)
  | tup (es : List CE)
  | lst (es : List CE)
  | idx (a b : CE)
  | slc (a : CE) (lo hi : CO)
  | revl (a : CE)
  | stpl (a : CE) (lo : CO) (c : Nat)
  | lenset (a : CE)
  | revs (a : CE)
  | call (f : Nat) (es : List CE)
  | bi (f : Bi) (es : List CE)
  | mt (m : Mt) (o : CE) (es : List CE)
  | lc (t : List Nat) (it : CI) (c : CO) (e : CE)
  | dnew
  | dnewT
  | dct1 (k v : CE)
  | dgt (a k x : CE)
  | dc (t : List Nat) (it : CI) (c : CO) (k e : CE)
  | lkE (e : CE)
  | deq (a b : CE)
  | idxT (a b : CE)
  | lrg (a b : CE)
  | quiet (c : CE)
/-- a part that may be left out -/
inductive CO where
  | no
  | yes (e : CE)
/-- what is walked -/
inductive CI where
  | seq (t : Ty) (e : CE)
  | rg1 (a : CE)
  | rg2 (a b : CE)
  | rg3 (a b c : CE)
  | rvd (e : CE)
  | quietI (c : CI)
end
abbrev Slot := Bool × D
abbrev Env := List (Option Slot)
/-- the values of a range -/
def rangeI (lo : Int) (n : Nat) : List D := (List.range n).map fun i => .int (lo + (i : Nat))
def rangeC (lo c : Int) (n : Nat) : List D := (List.range n).map fun i => .int (lo + (i : Nat) * c)
def rgN (i j c : Int) : Nat := if c > 0 then (if i < j then ((j - i - 1) / c + 1).toNat else 0) else (if i > j then ((i - j - 1) / (-c) + 1).toNat else 0)
def rgOk (i : Int) : Bool := decide (-1000000 ≤ i) && decide (i ≤ 1000000)
def asInt : Res → R Int
  | (_, .int i) => .ok i
  | _ => .stuck
def asBl : Res → R Bool
  | (_, .bl b) => .ok b
  | _ => .stuck
def escV : Res → R D := fun p => if p.1.isBo then .stuck else .ok p.2
/-- what is walked: the items -/
def itemsOf : Ty → D → R (List D)
  | .list, .lst ds => .ok ds
  | .tuple, .tup ds => .ok ds
  | .list, .scr ns => .ok (ns.map .int)
  | .dict, .dct true ks _ => .ok (ks.map Ke.d)
  | .dict, .dtt true ks _ => .ok (ks.map Tk.d)
  | .any, .lst ds => .ok ds
  | .any, .tup ds => .ok ds
  | .str, .str s => .ok (s.map fun c => .str [c])
  | _, _ => .stuck
/-- names of a block forgotten -/
def wipeE (env : Env) : List Nat → Env
  | [] => env
  | j :: js => (wipeE env js).set j none
def setSlots : List Nat → List D → Env → Env
  | j :: js, d :: ds, env => setSlots js ds (env.set j (some (false, d)))
  | _, _, env => env
/-- the target of a loop or of an assignment: one name, or several for a tuple -/
def bindT : List Nat → D → Env → R Env
  | [j], d, env => if j < env.length then .ok (env.set j (some (false, d))) else .stuck
  | js, .tup ds, env => if ds.length = js.length ∧ (js.all fun j => decide (j < env.length)) then .ok (setSlots js ds env) else .stuck
  | _, _, _ => .stuck
/-- the loop of a comprehension -/
def lcGo {α : Type} (g : D → R (Option α)) : List D → R (List α)
  | [] => .ok []
  | x :: r => do
    let y ← g x
    let ys ← lcGo g r
    pure (match y with | some d => d :: ys | none => ys)
section
variable (Φ : Nat → List D → R (Bool × D))
mutual
def evalE : CE → Env → R Res
  | .var i, env => match env[i]? with
    | some (some (true, d)) => .ok (.bo, d)
    | some (some (false, d)) => .ok (.pl, d)
    | _ => .stuck
  | .cst d, _ => .ok (.pl, d)
  | .bin o a b, env => do
    let x ← evalE a env
    let y ← evalE b env
    lift (binop o x.2 y.2)
  | .neg a, env => do
    let x ← evalE a env
    let i ← asInt x
    pure (.pl, .int (-i))
  | .cmp o a b, env => do
    let x ← evalE a env
    let y ← evalE b env
    let r ← lift (cmpD o x.2 y.2)
    pure (.pl, .bl r)
  | .chain o p a b c, env => do
    let x ← evalE a env
    let y ← evalE b env
    let r ← lift (cmpD o x.2 y.2)
    if r then do
      let z ← evalE c env
      let r2 ← lift (cmpD p y.2 z.2)
      pure (.pl, .bl r2)
    else pure (.pl, .bl false)
  | .not a, env => do
    let x ← evalE a env
    let r ← asBl x
    pure (.pl, .bl (!r))
  | .and a b, env => do
    let x ← evalE a env
    let r ← asBl x
    if r then evalE b env else pure (.pl, .bl false)
  | .or a b, env => do
    let x ← evalE a env
    let r ← asBl x
    if r then pure (.pl, .bl true) else evalE b env
  | .ite c a b, env => do
    let x ← evalE c env
    let r ← asBl x
    if r then evalE a env else evalE b env
  | .tup es, env => do
    let xs ← evalEs es env
    pure (.pl, .tup xs)
  | .lst es, env => do
    let xs ← evalEs es env
    pure (.fr, .lst xs)
  | .idx a b, env => do
    let x ← evalE a env
    let y ← evalE b env
    let d ← lift (idxD x.2 y.2)
    pure (.pl, d)
  | .slc a lo hi, env => do
    let x ← evalE a env
    let l ← evalO lo env
    let h ← evalO hi env
    lift (slcD x.2 l h)
  | .lenset a, env => do
    let x ← evalE a env
    match x.2 with
    | .lst ds => match intsOf ds with
      | some ns => if ns.length ≤ 4000 then .ok (.pl, .int (ddI ns).length) else .stuck
      | none => .stuck
    | _ => .stuck
  | .stpl a lo c, env => do
    let x ← evalE a env
    let l ← evalO lo env
    match x.2, l with
    | .lst ds, some i => if 0 ≤ i ∧ 0 < c then .ok (.fr, .lst (everyL c i.toNat ds)) else .stuck
    | _, _ => .stuck
  | .revl a, env => do
    let x ← evalE a env
    match x.2 with
    | .lst ds => pure (.fr, .lst ds.reverse)
    | _ => .stuck
  | .revs a, env => do
    let x ← evalE a env
    match x.2 with
    | .str s => if s.length ≤ SZ then pure (.pl, .str s.reverse) else .stuck
    | _ => .stuck
  | .call f es, env => do
    let xs ← evalAs es env
    let r ← Φ f (xs.map (·.2))
    if xs.any (·.1.isBo) && !r.2.flat then .stuck else pure (if r.1 then .fr else .pl, r.2)
  | .bi f es, env => do
    let xs ← evalAs es env
    lift (builtin f (xs.map (·.2)))
  | .mt m o es, env => do
    let x ← evalE o env
    let _ ← lift (mtOn m x.2)
    let xs ← evalAs es env
    lift (method m x.2 (xs.map (·.2)))
  | .lc t it c e, env => do
    let w ← evalI it env
    let xs := w.2
    let _ ← lift (if xs.length ≤ SZ then some () else none)
    let ys ← lcGo (fun x => calm (do
      let env' ← bindT t x (wipeE env t)
      let k ← evalC c env'
      if k then do
        let y ← evalE e env'
        let d ← escV y
        pure (some d)
      else pure none)) xs
    pure (.fr, .lst ys)
  | .dnew, _ => .ok (.fr, .dct false [] [])
  | .dnewT, _ => .ok (.fr, .dtt false [] [])
  | .dct1 k v, env => do
    let x ← evalE k env
    let y ← evalE v env
    let d ← escV y
    let q ← lift x.2.key
    pure (.fr, .dct false [q] [d])
  | .dgt a k e, env => do
    let x ← evalE a env
    let _ ← lift (dctOn x.2)
    let y ← evalE k env
    let z ← evalE e env
    let w ← escV z
    let r ← lift (getD' x.2 y.2)
    pure (.pl, r.getD w)
  | .dc t it c k e, env => do
    let w ← evalI it env
    let xs := w.2
    let _ ← lift (if xs.length ≤ SZ then some () else none)
    let ys ← lcGo (fun x => calm (do
      let env' ← bindT t x (wipeE env t)
      let b ← evalC c env'
      if b then do
        let q ← evalE k env'
        let y ← evalE e env'
        let q ← lift q.2.key
        let d ← escV y
        pure (some (q, d))
      else pure none)) xs
    pure (.fr, dicD false (ys.foldl (fun kvs p => putL kvs p.1 p.2) []))
  | .quiet c, env => calm (evalE c env)
  | .lrg a b, env => do
    let x ← evalE a env
    let i ← asInt x
    let y ← evalE b env
    let j ← asInt y
    if rgOk i && rgOk j then pure (.fr, .lst (rangeI i (j - i).toNat)) else .stuck
  | .lkE e, env => do
    let x ← evalE e env
    if x.1 = .fr then pure (.fr, lockD x.2) else if x.1 = .pl then pure (.pl, x.2) else .stuck
  | .idxT a b, env => do
    let x ← evalE a env
    let y ← evalE b env
    let d ← lift (idxTD x.2 y.2)
    pure (.pl, d)
  | .deq a b, env => do
    let x ← evalE a env
    let y ← evalE b env
    let r ← lift (sameD x.2 y.2)
    pure (.pl, .bl r)
/-- items that are kept: none may be a name's own -/
def evalEs : List CE → Env → R (List D)
  | [], _ => .ok []
  | e :: es, env => do
    let x ← evalE e env
    let d ← escV x
    let ds ← evalEs es env
    pure (d :: ds)
/-- arguments: a name's own may be lent -/
def evalAs : List CE → Env → R (List Res)
  | [], _ => .ok []
  | e :: es, env => do
    let x ← evalE e env
    let xs ← evalAs es env
    pure (x :: xs)
def evalO : CO → Env → R (Option Int)
  | .no, _ => .ok none
  | .yes e, env => do
    let x ← evalE e env
    let i ← asInt x
    pure (some i)
def evalC : CO → Env → R Bool
  | .no, _ => .ok true
  | .yes e, env => do
    let x ← evalE e env
    asBl x
def evalI : CI → Env → R (Bool × List D)
  | .seq t e, env => do
    let x ← evalE e env
    let ds ← itemsOf t x.2
    pure (x.1.isBo, ds)
  | .rg1 a, env => do
    let x ← evalE a env
    let j ← asInt x
    if rgOk j then .ok (false, rangeI 0 j.toNat) else .stuck
  | .rg2 a b, env => do
    let x ← evalE a env
    let i ← asInt x
    let y ← evalE b env
    let j ← asInt y
    if rgOk i && rgOk j then .ok (false, rangeI i (j - i).toNat) else .stuck
  | .rg3 a b c, env => do
    let x ← evalE a env
    let i ← asInt x
    let y ← evalE b env
    let j ← asInt y
    let z ← evalE c env
    let k ← asInt z
    if rgOk i && rgOk j && rgOk k && decide (k ≠ 0) then .ok (false, rangeC i k (rgN i j k)) else .stuck
  | .quietI c, env => calm (evalI c env)
  | .rvd e, env => do
    let x ← evalE e env
    match x.2 with
    | .lst ds => .ok (x.1.isBo, ds.reverse)
    | _ => .stuck
end
end
/-! ### the core language: statements -/
inductive CS where
  | fz (js : List Nat) (s : CS)
  | asg (j : Nat) (e : CE)
  | asgT (js : List Nat) (e : CE)
  | setI (j : Nat) (i e : CE)
  | setD (j : Nat) (k e : CE)
  | lk (j : Nat) (s : CS)
  | app (j : Nat) (e : CE)
  | ext (j : Nat) (e : CE)
  | pop (t : List Nat) (j : Nat) (i : CO)
  | rvs (j : Nat)
  | drop (e : CE)
  | ret (e : CE)
  | retV (j : Nat)
  | retN
  | ife (c : CE) (a b : List CS)
  | for_ (t : List Nat) (it : CI) (b : List CS)
  | whl (c : CE) (b : List CS)
  | forPop (t : List Nat) (r j : Nat) (b : List CS)
  | asgPop (i f : Nat) (e : CE) (j : Nat)
  | raise (c : Nat) (e : CO)
  | qS (s : CS)
  | tryR (i : Nat) (es : List CE) (k : Nat) (h : List CS)
  | tryF (i : Nat) (es : List CE) (k : Nat) (g : D → D)
  | tryW (i : Nat) (es : List CE) (fr : Bool) (h : D → D) (g : Nat → D → Option D)
  | pass
  | brk
  | cnt
inductive Out where
  | nx (env : Env) | ret (fr : Bool) (d : D) (env : Env) | brk (env : Env) | cnt (env : Env)
/-- the name's own object becomes everybody's -/
def freeze (env : Env) (j : Nat) : Env := match env[j]? with
  | some (some (true, d)) => env.set j (some (false, d))
  | _ => env
def forGo (g : D → Env → R Out) : List D → Env → R Out
  | [], env => .ok (.nx env)
  | x :: r, env => do
    let o ← g x env
    match o with
    | .nx env' => forGo g r env'
    | .cnt env' => forGo g r env'
    | .brk env' => pure (.nx env')
    | .ret fr d env' => pure (.ret fr d env')
def whlGo (c : Env → R Bool) (g : Env → R Out) : Nat → Env → R Out
  | 0, _ => .stuck
  | n + 1, env => do
    let k ← c env
    if k then do
      let o ← g env
      match o with
      | .nx env' => whlGo c g n env'
      | .cnt env' => whlGo c g n env'
      | .brk env' => pure (.nx env')
      | .ret fr d env' => pure (.ret fr d env')
    else pure (.nx env)
def ownL (env : Env) (j : Nat) : R (List D) := match env[j]? with
  | some (some (true, .lst ds)) => .ok ds
  | _ => .stuck
/-- the last item taken out of a name's own list -/
def popL (j : Nat) (env : Env) : R (D × Env) := do
  let ds ← ownL env j
  match ds[ds.length - 1]? with
  | some d => .ok (d, env.set j (some (true, .lst (ds.eraseIdx (ds.length - 1)))))
  | none => .stuck
section
variable (Φ : Nat → List D → R (Bool × D)) (W : Nat)
mutual
def exec : CS → Env → R Out
  | .fz js s, env => exec s (js.foldl freeze env)
  | .asg j e, env => do
    let x ← evalE Φ e env
    if x.1.isBo || !decide (j < env.length) then .stuck else pure (.nx (env.set j (some (decide (x.1 = .fr), x.2))))
  | .asgT js e, env => do
    let x ← evalE Φ e env
    if x.1.isBo || js.length < 2 then .stuck else do
      let env' ← bindT js x.2 env
      pure (.nx env')
  | .setI j i e, env => do
    let x ← evalE Φ e env
    let d ← escV x
    let ds ← ownL env j
    let y ← evalE Φ i env
    let k ← asInt y
    match ixN ds.length k with
    | some n => pure (.nx (env.set j (some (true, .lst (ds.set n d)))))
    | none => .stuck
  | .setD j k e, env => do
    let x ← evalE Φ e env
    let d ← escV x
    match env[j]? with
    | some (some (true, o)) => do
      let y ← evalE Φ k env
      let o' ← lift (putD o y.2 d)
      pure (.nx (env.set j (some (true, o'))))
    | _ => .stuck
  | .lk j s, env => match env[j]? with
    | some (some (true, d)) => exec s (env.set j (some (true, lockD d)))
    | some (some (false, _)) => exec s env
    | _ => .stuck
  | .app j e, env => do
    let ds ← ownL env j
    let x ← evalE Φ e env
    let d ← escV x
    if ds.length < SZ then pure (.nx (env.set j (some (true, .lst (ds ++ [d]))))) else .stuck
  | .ext j e, env => do
    let ds ← ownL env j
    let x ← evalE Φ e env
    match x.2 with
    | .lst es => if ds.length + es.length ≤ SZ then pure (.nx (env.set j (some (true, .lst (ds ++ es))))) else .stuck
    | _ => .stuck
  | .pop t j i, env => do
    let ds ← ownL env j
    let k ← evalO Φ i env
    match (match k with | none => (if ds.length = 0 then none else some (ds.length - 1)) | some k => (if -1000000 ≤ k ∧ k ≤ 1000000 then ixN ds.length k else none)) with
    | some n => match ds[n]? with
      | some d => do
        let env1 := env.set j (some (true, .lst (ds.eraseIdx n)))
        if t = [] then pure (.nx env1) else do
          let env' ← bindT t d env1
          pure (.nx env')
      | none => .stuck
    | none => .stuck
  | .rvs j, env => do
    let ds ← ownL env j
    pure (.nx (env.set j (some (true, .lst ds.reverse))))
  | .drop e, env => do
    let _ ← evalE Φ e env
    pure (.nx env)
  | .ret e, env => do
    let x ← evalE Φ e env
    if x.1.isBo then .stuck else pure (.ret (decide (x.1 = .fr)) x.2 env)
  | .retV j, env => match env[j]? with
    | some (some (o, d)) => pure (.ret o d env)
    | _ => .stuck
  | .retN, env => pure (.ret false .non env)
  | .ife c a b, env => do
    let x ← evalE Φ c env
    let k ← asBl x
    if k then execs a env else execs b env
  | .for_ t it b, env => do
    let w ← evalI Φ it env
    let xs ← (if w.1 then .stuck else .ok w.2 : R (List D))
    forGo (fun x env => do
      let env' ← bindT t x env
      execs b env') xs env
  | .forPop t r j b, env => do
    let x ← evalE Φ (.var r) env
    let p ← popL j env
    let y ← lift (idxD x.2 p.1)
    let xs ← itemsOf .tuple y
    if x.1.isBo then .stuck else
    forGo (fun x env => do
      let env' ← bindT t x env
      execs b env') xs p.2
  | .asgPop i f e j, env => do
    let x ← evalE Φ e env
    let p ← popL j env
    if x.1 = .pl then do
      let r ← Φ f [x.2, p.1]
      if i < p.2.length then .ok (.nx (p.2.set i (some (r.1, r.2)))) else .stuck
    else .stuck
  | .whl c b, env => whlGo (fun env => do
      let x ← evalE Φ c env
      asBl x) (fun env => execs b env) W env
  | .raise c .no, env => .exc c .non
  | .raise c (.yes e), env => do
    let x ← evalE Φ e env
    let d ← escV x
    .exc c d
  | .qS s, env => calm (exec s env)
  | .tryR i es k h, env => do
    let ds ← evalEs Φ es env
    match Φ i ds with
    | .ok r => pure (.ret r.1 r.2 env)
    | .exc c _ => if c = k then execs h env else .stuck
    | .stuck => .stuck
  | .tryF i es k g, env => do
    let ds ← evalEs Φ es env
    match Φ i ds with
    | .ok r => pure (.ret r.1 r.2 env)
    | .exc c d => if c = k then pure (.ret false (g d) env) else .stuck
    | .stuck => .stuck
  | .tryW i es fr h g, env => do
    let ds ← evalEs Φ es env
    match Φ i ds with
    | .ok r => if r.1 then .stuck else pure (.ret fr (h r.2) env)
    | .exc c d => match g c d with
      | some e => pure (.ret false e env)
      | none => .stuck
    | .stuck => .stuck
  | .pass, env => pure (.nx env)
  | .brk, env => pure (.brk env)
  | .cnt, env => pure (.cnt env)
def execs : List CS → Env → R Out
  | [], env => .ok (.nx env)
  | s :: r, env => do
    let o ← exec s env
    match o with
    | .nx env' => execs r env'
    | o => pure o
end
end
/-- a def: the number of its parameters and of its slots, its body -/
structure FnD where
  np : Nat
  ns : Nat
  body : List CS
def startEnv (f : FnD) (args : List D) : Env := args.map (fun d => some (false, d)) ++ List.replicate (f.ns - args.length) none
def runBody (Φ : Nat → List D → R (Bool × D)) (W : Nat) (f : FnD) (args : List D) : R (Bool × D) :=
  if args.length = f.np ∧ f.np ≤ f.ns then do
    let o ← execs Φ W f.body (startEnv f args)
    match o with
    | .nx _ => pure (false, .non)
    | .ret fr d _ => pure (fr, d)
    | _ => .stuck
  else .stuck
/-- what a call of a def gives, k calls deep -/
def den (prog : List FnD) (W : Nat) : Nat → Nat → List D → R (Bool × D)
  | 0, _, _ => .stuck
  | k + 1, f, args => match prog[f]? with
    | some fd => runBody (den prog W k) W fd args
    | none => .stuck
end PF

/-! How plain data lies in the abstract heap. -/
namespace PF
open PySem PySem.Spec PyProof.Rows L2
abbrev Ex := Evl.Ex
/-- a text of the model -/
def S (t : Tx) : PySem.Str := ⟨t.toArray⟩
theorem S_cps (t : Tx) : (S t).cps.toList = t := by unfold S; simp
theorem S_len (t : Tx) : (S t).length = t.length := by unfold S PySem.Str.length; simp
theorem S_app (a b : Tx) : S a ++ S b = S (a ++ b) := by
  show (⟨a.toArray ++ b.toArray⟩ : PySem.Str) = ⟨(a ++ b).toArray⟩
  simp
theorem S_inj {a b : Tx} (h : S a = S b) : a = b := by
  have := congrArg (fun s : PySem.Str => s.cps.toList) h
  simpa [S] using this
theorem S_of (s : PySem.Str) : S s.cps.toList = s := by
  obtain ⟨c⟩ := s
  unfold S
  simp
def kk : Ke → L2.Key
  | .i n => .inl n
  | .s t => .inr (S t)
theorem kk_inj {a b : Ke} (h : kk a = kk b) : a = b := by
  cases a <;> cases b <;> simp only [kk] at h
  · rw [Sum.inl.inj h]
  · cases h
  · cases h
  · rw [S_inj (Sum.inr.inj h)]
/-- a dict's object: open, or shut -/
def hoT : Bool → Obj → List (List L2.Key × V) → HO
  | false, _, kvs => .dT kvs
  | true, o, kvs => .frz o (.dT kvs)
def hoD : Bool → Obj → List (L2.Key × V) → HO
  | false, _, kvs => .dK kvs
  | true, o, kvs => .frz o (.dK kvs)
mutual
/-- v stands for d in the heap F -/
inductive VRep (K : PySem.W.Frag) (F : Hp) : V → D → Prop
  | non : VRep K F .non .non
  | bl (b : Bool) : VRep K F (.bl b) (.bl b)
  | int (i : Int) : VRep K F (.int i) (.int i)
  | str (s : Tx) : VRep K F (.str (S s)) (.str s)
  | tup {a : Addr} {vs : List V} {ds : List D} : F a = some (.tup vs) → VReps K F vs ds → VRep K F (.ref a) (.tup ds)
  | lst {a : Addr} {vs : List V} {ds : List D} : F a = some (.lst vs) → VReps K F vs ds → VRep K F (.ref a) (.lst ds)
  | dct {a : Addr} {kvs : List (L2.Key × V)} {lk : Bool} {ks : List Ke} {ds : List D} {o : Obj} : F a = some (hoD lk o kvs) → kvs.map (·.1) = ks.map kk → VReps K F (kvs.map (·.2)) ds → VRep K F (.ref a) (.dct lk ks ds)
  | dtt {a : Addr} {kvs : List (List L2.Key × V)} {lk : Bool} {ks : List (List Ke)} {ds : List D} {o : Obj} : F a = some (hoT lk o kvs) → kvs.map (·.1) = ks.map (List.map kk) → VReps K F (kvs.map (·.2)) ds → VRep K F (.ref a) (.dtt lk ks ds)
  | scr {a : Addr} {ns : List Int} : SqL K F a (ns.map V.int) → VRep K F (.ref a) (.scr ns)
inductive VReps (K : PySem.W.Frag) (F : Hp) : List V → List D → Prop
  | nil : VReps K F [] []
  | cons {v : V} {vs : List V} {d : D} {ds : List D} : VRep K F v d → VReps K F vs ds → VReps K F (v :: vs) (d :: ds)
end
section
variable {K : PySem.W.Frag} {F F' H H' : Hp}
mutual
theorem VRep.mono (e : Ex F F') : ∀ {d : D} {v : V}, VRep K F v d → VRep K F' v d
  | .non, _, h => by cases h; exact .non
  | .bl b, _, h => by cases h; exact .bl b
  | .int i, _, h => by cases h; exact .int i
  | .str s, _, h => by cases h; exact .str s
  | .tup ds, _, h => by
    cases h with
    | tup h1 h2 => exact .tup (e _ _ h1) (VReps.mono e h2)
  | .lst ds, _, h => by
    cases h with
    | lst h1 h2 => exact .lst (e _ _ h1) (VReps.mono e h2)
  | .scr ns, _, h => by
    cases h with
    | scr h1 => exact .scr (Evl.ex_l e h1)
  | .dct _ _ _, _, h => by
    cases h with
    | dct h1 h2 h3 => exact .dct (e _ _ h1) h2 (VReps.mono e h3)
  | .dtt _ _ _, _, h => by
    cases h with
    | dtt h1 h2 h3 => exact .dtt (e _ _ h1) h2 (VReps.mono e h3)
theorem VReps.mono (e : Ex F F') : ∀ {ds : List D} {vs : List V}, VReps K F vs ds → VReps K F' vs ds
  | [], _, h => by cases h; exact .nil
  | d :: ds, _, h => by
    cases h with
    | cons h1 h2 => exact .cons (VRep.mono e h1) (VReps.mono e h2)
end
theorem VReps.length : ∀ {ds : List D} {vs : List V}, VReps K F vs ds → vs.length = ds.length
  | [], _, h => by cases h; rfl
  | d :: ds, _, h => by
    cases h with
    | cons h1 h2 => simp [VReps.length h2]
theorem VReps.append : ∀ {ds : List D} {vs : List V} {es : List D} {us : List V}, VReps K F vs ds → VReps K F us es → VReps K F (vs ++ us) (ds ++ es)
  | [], _, _, _, h, h' => by cases h; exact h'
  | d :: ds, _, _, _, h, h' => by
    cases h with
    | cons h1 h2 => exact .cons h1 (VReps.append h2 h')
theorem VReps.get : ∀ {ds : List D} {vs : List V} {i : Nat} {d : D}, VReps K F vs ds → ds[i]? = some d → ∃ v, vs[i]? = some v ∧ VRep K F v d
  | [], _, _, _, h, e => by simp at e
  | d :: ds, _, 0, _, h, e => by
    cases h with
    | cons h1 h2 =>
      simp at e
      subst e
      exact ⟨_, rfl, h1⟩
  | d :: ds, _, i + 1, _, h, e => by
    cases h with
    | cons h1 h2 =>
      obtain ⟨v, h3, h4⟩ := VReps.get (i := i) h2 (by simpa using e)
      exact ⟨v, by simpa using h3, h4⟩
theorem VReps.getV : ∀ {ds : List D} {vs : List V} {i : Nat} {v : V}, VReps K F vs ds → vs[i]? = some v → ∃ d, ds[i]? = some d ∧ VRep K F v d
  | [], _, _, _, h, e => by cases h; simp at e
  | d :: ds, _, 0, _, h, e => by
    cases h with
    | cons h1 h2 =>
      simp at e
      subst e
      exact ⟨_, rfl, h1⟩
  | d :: ds, _, i + 1, _, h, e => by
    cases h with
    | cons h1 h2 =>
      obtain ⟨v, h3, h4⟩ := VReps.getV (i := i) h2 (by simpa using e)
      exact ⟨v, by simpa using h3, h4⟩
theorem VReps.drop : ∀ {ds : List D} {vs : List V} (n : Nat), VReps K F vs ds → VReps K F (vs.drop n) (ds.drop n)
  | _, _, 0, h => h
  | [], _, _ + 1, h => by cases h; exact .nil
  | d :: ds, _, n + 1, h => by
    cases h with
    | cons h1 h2 => exact VReps.drop n h2
theorem VReps.take : ∀ {ds : List D} {vs : List V} (n : Nat), VReps K F vs ds → VReps K F (vs.take n) (ds.take n)
  | _, _, 0, h => .nil
  | [], _, _ + 1, h => by cases h; exact .nil
  | d :: ds, _, n + 1, h => by
    cases h with
    | cons h1 h2 => exact .cons h1 (VReps.take n h2)
theorem VReps.reverse {ds : List D} {vs : List V} (h : VReps K F vs ds) : VReps K F vs.reverse ds.reverse := by
  induction ds generalizing vs with
  | nil => cases h; exact .nil
  | cons d ds ih =>
    cases h with
    | cons h1 h2 =>
      rw [List.reverse_cons, List.reverse_cons]
      exact (ih h2).append (.cons h1 .nil)
theorem VReps.set : ∀ {ds : List D} {vs : List V} {d : D} {v : V} (n : Nat), VReps K F vs ds → VRep K F v d → VReps K F (vs.set n v) (ds.set n d)
  | [], _, _, _, _, h, _ => by cases h; exact .nil
  | d :: ds, _, _, _, 0, h, r => by
    cases h with
    | cons h1 h2 => exact .cons r h2
  | d :: ds, _, _, _, n + 1, h, r => by
    cases h with
    | cons h1 h2 => exact .cons h1 (VReps.set n h2 r)
theorem VReps.erase : ∀ {ds : List D} {vs : List V} (n : Nat), VReps K F vs ds → VReps K F (vs.eraseIdx n) (ds.eraseIdx n)
  | [], _, _, h => by cases h; exact .nil
  | d :: ds, _, 0, h => by
    cases h with
    | cons h1 h2 => exact h2
  | d :: ds, _, n + 1, h => by
    cases h with
    | cons h1 h2 => exact .cons h1 (VReps.erase n h2)
theorem VReps.rep {ds : List D} {vs : List V} (h : VReps K F vs ds) : ∀ k : Nat, VReps K F (List.replicate k vs).flatten (List.replicate k ds).flatten
  | 0 => .nil
  | k + 1 => by
    rw [List.replicate_succ, List.replicate_succ, List.flatten_cons, List.flatten_cons]
    exact h.append (VReps.rep h k)
theorem VReps.ints : ∀ {ds : List D} {vs : List V} {ns : List Int}, VReps K F vs ds → intsOf ds = some ns → vs = ns.map V.int
  | [], _, ns, h, e => by
    cases h
    simp [intsOf] at e
    subst e
    rfl
  | d :: ds, _, ns, h, e => by
    cases h with
    | cons h1 h2 =>
      cases d with
      | int i =>
        simp only [intsOf] at e
        obtain ⟨r, h3, h4⟩ := Option.map_eq_some_iff.mp e
        subst h4
        cases h1
        rw [VReps.ints h2 h3]
        rfl
      | _ => simp [intsOf] at e
theorem VReps.strs : ∀ {ds : List D} {vs : List V} {ns : List Tx}, VReps K F vs ds → strsOf ds = some ns → vs = (ns.map S).map V.str
  | [], _, ns, h, e => by
    cases h
    simp [strsOf] at e
    subst e
    rfl
  | d :: ds, _, ns, h, e => by
    cases h with
    | cons h1 h2 =>
      cases d with
      | str i =>
        simp only [strsOf] at e
        obtain ⟨r, h3, h4⟩ := Option.map_eq_some_iff.mp e
        subst h4
        cases h1
        rw [VReps.strs h2 h3]
        rfl
      | _ => simp [strsOf] at e
theorem VReps.bls : ∀ {ds : List D} {vs : List V} {ns : List Bool}, VReps K F vs ds → blsOf ds = some ns → vs = ns.map V.bl
  | [], _, ns, h, e => by
    cases h
    simp [blsOf] at e
    subst e
    rfl
  | d :: ds, _, ns, h, e => by
    cases h with
    | cons h1 h2 =>
      cases d with
      | bl i =>
        simp only [blsOf] at e
        obtain ⟨r, h3, h4⟩ := Option.map_eq_some_iff.mp e
        subst h4
        cases h1
        rw [VReps.bls h2 h3]
        rfl
      | _ => simp [blsOf] at e
theorem VRep.flatD {d : D} {v : V} (h : VRep K F v d) (hf : d.flat = true) : VRep K F' v d := by
  cases h with
  | non => exact .non
  | bl b => exact .bl b
  | int i => exact .int i
  | str s => exact .str s
  | tup _ _ => simp [D.flat] at hf
  | lst _ _ => simp [D.flat] at hf
  | dct _ _ _ => simp [D.flat] at hf
  | dtt _ _ _ => simp [D.flat] at hf
  | scr _ => simp [D.flat] at hf
/-! ### dicts: look-up, storing -/
theorem get_V : ∀ {kvs : List (L2.Key × V)} {ks : List Ke} {ds : List D} (k : Ke), kvs.map (·.1) = ks.map kk → VReps K F (kvs.map (·.2)) ds →
    (∀ d, getL (ks.zip ds) k = some d → ∃ v, valV kvs (kk k) = some v ∧ VRep K F v d) ∧ (getL (ks.zip ds) k = none → valV kvs (kk k) = none)
  | [], ks, ds, k, h, r => by
    have e : ks = [] := by simpa using h.symm
    subst e
    exact ⟨fun d hd => by simp [getL] at hd, fun _ => rfl⟩
  | (q, v) :: kvs, [], ds, k, h, r => by cases h
  | (q, v) :: kvs, k0 :: ks, [], k, h, r => by cases r
  | (q, v) :: kvs, k0 :: ks, d0 :: ds, k, h, r => by
    rw [List.map_cons, List.map_cons] at h
    injection h with h1 h2
    cases r with
    | cons r1 r2 =>
      obtain ⟨i1, i2⟩ := get_V k h2 r2
      by_cases e : k0 = k
      · subst e
        rw [valV_pos (show (q, v).1 = kk k0 from h1)]
        refine ⟨fun d hd => ?_, fun hd => ?_⟩
        · simp [getL] at hd
          subst hd
          exact ⟨v, rfl, r1⟩
        · simp [getL] at hd
      · rw [valV_neg (show ¬ (q, v).1 = kk k from fun z => e (kk_inj ((show q = kk k0 from h1).symm.trans z)))]
        have e2 : getL ((k0 :: ks).zip (d0 :: ds)) k = getL (ks.zip ds) k := by simp [getL, e]
        rw [e2]
        exact ⟨i1, i2⟩
theorem get_isSome {kvs : List (L2.Key × V)} {ks : List Ke} {ds : List D} (k : Ke) (h : kvs.map (·.1) = ks.map kk) (r : VReps K F (kvs.map (·.2)) ds) : (valV kvs (kk k)).isSome = (getL (ks.zip ds) k).isSome := by
  obtain ⟨i1, i2⟩ := get_V k h r
  cases e : getL (ks.zip ds) k with
  | none => rw [i2 e]; rfl
  | some d =>
    obtain ⟨v, h1, _⟩ := i1 d e
    rw [h1]
    rfl
theorem map_V : ∀ {kvs : List (L2.Key × V)} {ks : List Ke} {ds : List D} (k : Ke) {v : V} {d : D}, kvs.map (·.1) = ks.map kk → VReps K F (kvs.map (·.2)) ds → VRep K F v d →
    (kvs.map fun p => if p.1 = kk k then (p.1, v) else p).map (·.1) = ((ks.zip ds).map fun p => if p.1 = k then (p.1, d) else p).map (fun p => kk p.1) ∧
      VReps K F ((kvs.map fun p => if p.1 = kk k then (p.1, v) else p).map (·.2)) (((ks.zip ds).map fun p => if p.1 = k then (p.1, d) else p).map (·.2))
  | [], ks, ds, k, v, d, h, r, rv => by
    have e : ks = [] := by simpa using h.symm
    subst e
    exact ⟨rfl, .nil⟩
  | (q, w) :: kvs, [], ds, k, v, d, h, r, rv => by cases h
  | (q, w) :: kvs, k0 :: ks, [], k, v, d, h, r, rv => by cases r
  | (q, w) :: kvs, k0 :: ks, d0 :: ds, k, v, d, h, r, rv => by
    rw [List.map_cons, List.map_cons] at h
    injection h with h1 h2
    have h1 : q = kk k0 := h1
    subst h1
    cases r with
    | cons r1 r2 =>
      obtain ⟨i1, i2⟩ := map_V k h2 r2 rv
      by_cases e : k0 = k
      · subst e
        simp only [List.map_cons, List.zip_cons_cons, if_true]
        exact ⟨by rw [i1], .cons rv i2⟩
      · have e' : ¬ kk k0 = kk k := fun z => e (kk_inj z)
        simp only [List.map_cons, List.zip_cons_cons, if_neg e, if_neg e']
        exact ⟨by rw [i1], .cons r1 i2⟩
theorem any_V {kvs : List (L2.Key × V)} {ks : List Ke} {ds : List D} (k : Ke) (h : kvs.map (·.1) = ks.map kk) (r : VReps K F (kvs.map (·.2)) ds) : (kvs.any fun p => decide (p.1 = kk k)) = (ks.zip ds).any fun p => decide (p.1 = k) := by
  rw [valV_any, get_isSome k h r]
  unfold getL
  rw [Option.isSome_map]
  generalize ks.zip ds = l
  induction l with
  | nil => rfl
  | cons p l ih =>
    rw [List.any_cons, List.find?_cons]
    cases decide (p.1 = k) with
    | true => rfl
    | false => rw [Bool.false_or]; exact ih
theorem zip_fst {α β : Type} : ∀ {ks : List α} {ds : List β}, ks.length = ds.length → (ks.zip ds).map (·.1) = ks
  | [], _, _ => by simp
  | _ :: _, [], h => by simp at h
  | k :: ks, d :: ds, h => by
    rw [List.zip_cons_cons, List.map_cons, zip_fst (by simpa using h)]
theorem zip_snd {α β : Type} : ∀ {ks : List α} {ds : List β}, ks.length = ds.length → (ks.zip ds).map (·.2) = ds
  | [], [], _ => by simp
  | [], _ :: _, h => by simp at h
  | _ :: _, [], h => by simp at h
  | k :: ks, d :: ds, h => by
    rw [List.zip_cons_cons, List.map_cons, zip_snd (by simpa using h)]
theorem put_V {kvs : List (L2.Key × V)} {ks : List Ke} {ds : List D} (k : Ke) {v : V} {d : D} (h : kvs.map (·.1) = ks.map kk) (r : VReps K F (kvs.map (·.2)) ds) (rv : VRep K F v d) :
    (putK kvs (kk k) v).map (·.1) = ((putL (ks.zip ds) k d).map (·.1)).map kk ∧ VReps K F ((putK kvs (kk k) v).map (·.2)) ((putL (ks.zip ds) k d).map (·.2)) := by
  have hl : ks.length = ds.length := by
    have h1 := congrArg List.length h
    have h2 := r.length
    simp at h1 h2
    omega
  unfold putK putL
  rw [any_V k h r]
  by_cases hc : ((ks.zip ds).any fun p => decide (p.1 = k)) = true
  · rw [if_pos hc, if_pos hc]
    obtain ⟨i1, i2⟩ := map_V k h r rv
    exact ⟨by rw [i1, List.map_map (f := fun p : Ke × D => p.1)]; rfl, i2⟩
  · rw [if_neg hc, if_neg hc]
    simp only [List.map_append, List.map_cons, List.map_nil, zip_fst hl, zip_snd hl]
    exact ⟨by rw [h], r.append (.cons rv .nil)⟩
theorem kks_inj : ∀ {a b : List Ke}, a.map kk = b.map kk → a = b
  | [], [], _ => rfl
  | [], _ :: _, h => by cases h
  | _ :: _, [], h => by cases h
  | x :: a, y :: b, h => by
    rw [List.map_cons, List.map_cons] at h
    injection h with h1 h2
    rw [kk_inj h1, kks_inj h2]
theorem get_Tk : ∀ {kvs : List (List L2.Key × V)} {ks : List (List Ke)} {ds : List D} (k : List Ke), kvs.map (·.1) = ks.map (List.map kk) → VReps K F (kvs.map (·.2)) ds →
    (∀ d, getG (ks.zip ds) k = some d → ∃ v, valV kvs (k.map kk) = some v ∧ VRep K F v d) ∧ (getG (ks.zip ds) k = none → valV kvs (k.map kk) = none)
  | [], ks, ds, k, h, r => by
    have e : ks = [] := by simpa using h.symm
    subst e
    exact ⟨fun d hd => by simp [getG] at hd, fun _ => rfl⟩
  | (q, v) :: kvs, [], ds, k, h, r => by cases h
  | (q, v) :: kvs, k0 :: ks, [], k, h, r => by cases r
  | (q, v) :: kvs, k0 :: ks, d0 :: ds, k, h, r => by
    rw [List.map_cons, List.map_cons] at h
    injection h with h1 h2
    cases r with
    | cons r1 r2 =>
      obtain ⟨i1, i2⟩ := get_Tk k h2 r2
      by_cases e : k0 = k
      · subst e
        rw [valV_pos (show (q, v).1 = k0.map kk from h1)]
        refine ⟨fun d hd => ?_, fun hd => ?_⟩
        · simp [getG] at hd
          subst hd
          exact ⟨v, rfl, r1⟩
        · simp [getG] at hd
      · rw [valV_neg (show ¬ (q, v).1 = k.map kk from fun z => e (kks_inj ((show q = k0.map kk from h1).symm.trans z)))]
        have e2 : getG ((k0 :: ks).zip (d0 :: ds)) k = getG (ks.zip ds) k := by simp [getG, e]
        rw [e2]
        exact ⟨i1, i2⟩
theorem getT_isSome {kvs : List (List L2.Key × V)} {ks : List (List Ke)} {ds : List D} (k : List Ke) (h : kvs.map (·.1) = ks.map (List.map kk)) (r : VReps K F (kvs.map (·.2)) ds) : (valV kvs (k.map kk)).isSome = (getG (ks.zip ds) k).isSome := by
  obtain ⟨i1, i2⟩ := get_Tk k h r
  cases e : getG (ks.zip ds) k with
  | none => rw [i2 e]; rfl
  | some d =>
    obtain ⟨v, h1, _⟩ := i1 d e
    rw [h1]
    rfl
theorem map_T : ∀ {kvs : List (List L2.Key × V)} {ks : List (List Ke)} {ds : List D} (k : List Ke) {v : V} {d : D}, kvs.map (·.1) = ks.map (List.map kk) → VReps K F (kvs.map (·.2)) ds → VRep K F v d →
    (kvs.map fun p => if p.1 = k.map kk then (p.1, v) else p).map (·.1) = ((ks.zip ds).map fun p => if p.1 = k then (p.1, d) else p).map (fun p => p.1.map kk) ∧
      VReps K F ((kvs.map fun p => if p.1 = k.map kk then (p.1, v) else p).map (·.2)) (((ks.zip ds).map fun p => if p.1 = k then (p.1, d) else p).map (·.2))
  | [], ks, ds, k, v, d, h, r, rv => by
    have e : ks = [] := by simpa using h.symm
    subst e
    exact ⟨rfl, .nil⟩
  | (q, w) :: kvs, [], ds, k, v, d, h, r, rv => by cases h
  | (q, w) :: kvs, k0 :: ks, [], k, v, d, h, r, rv => by cases r
  | (q, w) :: kvs, k0 :: ks, d0 :: ds, k, v, d, h, r, rv => by
    rw [List.map_cons, List.map_cons] at h
    injection h with h1 h2
    have h1 : q = k0.map kk := h1
    subst h1
    cases r with
    | cons r1 r2 =>
      obtain ⟨i1, i2⟩ := map_T k h2 r2 rv
      by_cases e : k0 = k
      · subst e
        simp only [List.map_cons, List.zip_cons_cons, if_true]
        exact ⟨by rw [i1], .cons rv i2⟩
      · have e' : ¬ k0.map kk = k.map kk := fun z => e (kks_inj z)
        simp only [List.map_cons, List.zip_cons_cons, if_neg e, if_neg e']
        exact ⟨by rw [i1], .cons r1 i2⟩
theorem any_Tk {kvs : List (List L2.Key × V)} {ks : List (List Ke)} {ds : List D} (k : List Ke) (h : kvs.map (·.1) = ks.map (List.map kk)) (r : VReps K F (kvs.map (·.2)) ds) : (kvs.any fun p => decide (p.1 = k.map kk)) = (ks.zip ds).any fun p => decide (p.1 = k) := by
  rw [valV_any, getT_isSome k h r]
  unfold getG
  rw [Option.isSome_map]
  generalize ks.zip ds = l
  induction l with
  | nil => rfl
  | cons p l ih =>
    rw [List.any_cons, List.find?_cons]
    cases decide (p.1 = k) with
    | true => rfl
    | false => rw [Bool.false_or]; exact ih
theorem put_TT {kvs : List (List L2.Key × V)} {ks : List (List Ke)} {ds : List D} (k : List Ke) {v : V} {d : D} (h : kvs.map (·.1) = ks.map (List.map kk)) (r : VReps K F (kvs.map (·.2)) ds) (rv : VRep K F v d) :
    (putK kvs (k.map kk) v).map (·.1) = ((putG (ks.zip ds) k d).map (·.1)).map (List.map kk) ∧ VReps K F ((putK kvs (k.map kk) v).map (·.2)) ((putG (ks.zip ds) k d).map (·.2)) := by
  have hl : ks.length = ds.length := by
    have h1 := congrArg List.length h
    have h2 := r.length
    simp at h1 h2
    omega
  unfold putK putG
  rw [any_Tk k h r]
  by_cases hc : ((ks.zip ds).any fun p => decide (p.1 = k)) = true
  · rw [if_pos hc, if_pos hc]
    obtain ⟨i1, i2⟩ := map_T k h r rv
    exact ⟨by rw [i1, List.map_map (f := fun p : List Ke × D => p.1)]; rfl, i2⟩
  · rw [if_neg hc, if_neg hc]
    simp only [List.map_append, List.map_cons, List.map_nil, zip_fst hl, zip_snd hl]
    exact ⟨by rw [h], r.append (.cons rv .nil)⟩
/-- a flat tuple's values, as the kit names keys -/
theorem keysOf_V : ∀ {ds : List D} {vs : List V} {k : List Ke}, VReps K F vs ds → keysOf ds = some k → vs = (k.map kk).map kV ∧ ds = k.map Ke.d
  | [], vs, k, h, e => by
    cases h
    cases e
    exact ⟨rfl, rfl⟩
  | d :: ds, vs, k, h, e => by
    cases h with
    | cons h1 h2 =>
      simp only [keysOf] at e
      obtain ⟨q, hq, e⟩ := Option.bind_eq_some_iff.mp e
      obtain ⟨r, hr, rfl⟩ := Option.map_eq_some_iff.mp e
      obtain ⟨i1, i2⟩ := keysOf_V h2 hr
      cases d <;> simp only [D.key] at hq <;> try cases hq
      · cases h1; exact ⟨by rw [i1]; rfl, by rw [i2]; rfl⟩
      · cases h1; exact ⟨by rw [i1]; rfl, by rw [i2]; rfl⟩
/-! ### a name's own, results, growth -/
/-- an object's body: a list, a dict -/
inductive Bd (K : PySem.W.Frag) (F : Hp) : HO → D → Prop
  | lst {vs : List V} {ds : List D} : VReps K F vs ds → Bd K F (.lst vs) (.lst ds)
  | dct {kvs : List (L2.Key × V)} {lk : Bool} {ks : List Ke} {ds : List D} {o : Obj} : kvs.map (·.1) = ks.map kk → VReps K F (kvs.map (·.2)) ds → Bd K F (hoD lk o kvs) (.dct lk ks ds)
  | dtt {kvs : List (List L2.Key × V)} {lk : Bool} {ks : List (List Ke)} {ds : List D} {o : Obj} : kvs.map (·.1) = ks.map (List.map kk) → VReps K F (kvs.map (·.2)) ds → Bd K F (hoT lk o kvs) (.dtt lk ks ds)
theorem Bd.mono {u : HO} {d : D} (h : Bd K F u d) (e : Ex F F') : Bd K F' u d := by
  cases h with
  | lst h1 => exact .lst (h1.mono e)
  | dct h1 h2 => exact .dct h1 (h2.mono e)
  | dtt h1 h2 => exact .dtt h1 (h2.mono e)
theorem Bd.rep {u : HO} {d : D} {a : Addr} (h : Bd K F u d) (e : Ex F H) (ha : H a = some u) : VRep K H (.ref a) d := by
  cases h with
  | lst h1 => exact .lst ha (h1.mono e)
  | dct h1 h2 => exact .dct ha h1 (h2.mono e)
  | dtt h1 h2 => exact .dtt ha h1 (h2.mono e)
/-- a list, a dict: no tuple -/
theorem Bd.notT {u : HO} {d : D} (h : Bd K F u d) (xs : List V) : u ≠ .tup xs := by
  cases h with
  | lst _ => exact fun z => by cases z
  | @dct _ lk _ _ _ _ _ => cases lk <;> exact fun z => by cases z
  | @dtt _ lk _ _ _ _ _ => cases lk <;> exact fun z => by cases z
/-- the object at v is tracked in H, not in F: its owner may change it -/
def Own (K : PySem.W.Frag) (F H : Hp) (v : V) (d : D) : Prop := ∃ a u, v = .ref a ∧ F a = none ∧ H a = some u ∧ Bd K F u d
/-- a result; a new one was not there in G -/
def RRep (K : PySem.W.Frag) (G F H : Hp) (r : Res) (v : V) : Prop := match r.1 with
  | .pl => VRep K F v r.2
  | .bo => Own K F H v r.2
  | .fr => Own K F H v r.2 ∧ ∃ a, v = .ref a ∧ G a = none
/-- every tuple of the heap is among the frozen -/
def TupIn (F H : Hp) : Prop := ∀ q vs, H q = some (.tup vs) → F q = some (.tup vs)
theorem TupIn.up {F F' H : Hp} (t : TupIn F H) (e : Ex F F') : TupIn F' H := fun q vs h => e _ _ (t q vs h)
structure Grow (F H F' H' : Hp) : Prop where
  ff : Ex F F'
  hh : Ex H H'
  fh : Ex F' H'
  new : ∀ a, H a ≠ none → F' a = F a
  tp : TupIn F H → TupIn F' H'
theorem exNone {F H : Hp} (e : Ex F H) {a : Addr} (h : H a = Option.none) : F a = Option.none := by
  cases q : F a with
  | none => rfl
  | some o => rw [e a o q] at h; cases h
theorem Grow.refl (h : Ex F H) : Grow F H F H := ⟨Evl.Ex.refl F, Evl.Ex.refl H, h, fun _ _ => rfl, id⟩
theorem Grow.trans {F1 H1 F2 H2 : Hp} (a : Grow F H F1 H1) (b : Grow F1 H1 F2 H2) : Grow F H F2 H2 :=
  ⟨a.ff.trans b.ff, a.hh.trans b.hh, b.fh, fun x hx => by
    have h1 : H1 x ≠ none := by
      cases q : H x with
      | none => exact absurd q hx
      | some o => rw [a.hh x o q]; simp
    rw [b.new x h1, a.new x hx], fun t => b.tp (a.tp t)⟩
theorem exUpd {F : Hp} {p : Addr} {o : HO} (h : F p = none) : Ex F (upd F p o) := Evl.Ex.new h
/-- a new object, everybody's -/
theorem Grow.pub {p : Addr} {o : HO} (e : Ex F H) (h : H p = none) : Grow F H (upd F p o) (upd H p o) := by
  have hf : F p = none := exNone e h
  refine ⟨exUpd hf, exUpd h, fun a u q => ?_, fun a ha => ?_, fun t a vs q => ?_⟩
  · by_cases hb : a = p
    · subst hb
      rw [upd_same] at q ⊢
      exact q
    · rw [upd_ne hb] at q ⊢
      exact e a u q
  · have : a ≠ p := fun z => ha (z ▸ h)
    exact upd_ne this
  · by_cases hb : a = p
    · subst hb
      rw [upd_same] at q ⊢
      exact q
    · rw [upd_ne hb] at q ⊢
      exact t a vs q
/-- a new object of one's own -/
theorem TupIn.own {F H : Hp} {p : Addr} {o : HO} (t : TupIn F H) (no : ∀ xs, o ≠ .tup xs) : TupIn F (upd H p o) := fun a vs q => by
  by_cases hb : a = p
  · subst hb
    rw [upd_same] at q
    exact absurd (Option.some.inj q) (no vs)
  · rw [upd_ne hb] at q
    exact t a vs q
theorem Grow.own {p : Addr} {o : HO} (e : Ex F H) (h : H p = none) (no : ∀ xs, o ≠ .tup xs := by intro xs z; cases z) : Grow F H F (upd H p o) :=
  ⟨Evl.Ex.refl F, exUpd h, fun a u q => by
    have : a ≠ p := fun z => by
      have hf : F p = none := exNone e h
      rw [z, hf] at q
      cases q
    rw [upd_ne this]
    exact e a u q, fun _ _ => rfl, fun t => t.own no⟩
/-- the frozen part, with every tuple of the heap -/
def withT (F H : Hp) : Hp := fun a => match H a with
  | some (.tup vs) => some (.tup vs)
  | _ => F a
theorem Grow.withT {F H H' : Hp} (t : TupIn F H) (e : Ex F H) (hh : Ex H H') : Grow F H (PF.withT F H') H' := by
  have old : ∀ a o, F a = some o → PF.withT F H' a = some o := fun a o q => by
    unfold PF.withT
    split
    · rename_i vs hv
      have := hh a o (e a o q)
      rw [hv] at this
      exact this
    · exact q
  refine ⟨old, hh, fun a o q => ?_, fun a ha => ?_, fun _ a vs q => by unfold PF.withT; rw [q]⟩
  · unfold PF.withT at q
    split at q
    · rename_i vs hv
      rw [hv]
      exact q
    · exact hh a o (e a o q)
  · cases hq : H a with
    | none => exact absurd hq ha
    | some o =>
      unfold PF.withT
      split
      · rename_i vs hv
        have := hh a o hq
        rw [hv] at this
        cases this
        exact (t a vs hq).symm
      · rfl
theorem Own.grow {F' H' : Hp} {v : V} {d : D} (o : Own K F H v d) (g : Grow F H F' H') : Own K F' H' v d := by
  obtain ⟨a, u, rfl, h1, h2, h3⟩ := o
  exact ⟨a, u, rfl, by rw [g.new a (by rw [h2]; simp), h1], g.hh a _ h2, h3.mono g.ff⟩
theorem RRep.grow {G F' H' : Hp} {r : Res} {v : V} (o : RRep K G F H r v) (g : Grow F H F' H') : RRep K G F' H' r v := by
  obtain ⟨fl, d⟩ := r
  cases fl with
  | pl => exact VRep.mono g.ff o
  | bo => exact Own.grow o g
  | fr => exact ⟨Own.grow o.1 g, o.2⟩
theorem RRep.older {G G' : Hp} {r : Res} {v : V} (o : RRep K G' F H r v) (g : Ex G G') : RRep K G F H r v := by
  obtain ⟨fl, d⟩ := r
  cases fl with
  | pl => exact o
  | bo => exact o
  | fr =>
    obtain ⟨h, a, e, q⟩ := o
    exact ⟨h, a, e, exNone g q⟩
/-- read in the whole heap -/
theorem RRep.weak {G : Hp} {r : Res} {v : V} (o : RRep K G F H r v) (e : Ex F H) : VRep K H v r.2 := by
  obtain ⟨fl, d⟩ := r
  have own : Own K F H v d → VRep K H v d := fun ⟨a, u, h1, _, h3, h4⟩ => by
    subst h1
    exact h4.rep e h3
  cases fl with
  | pl => exact VRep.mono e o
  | bo => exact own o
  | fr => exact own o.1
theorem RRep.int {G : Hp} {fl : Fl} {i : Int} {v : V} (o : RRep K G F H (fl, .int i) v) : v = .int i := by
  cases fl with
  | pl => cases o; rfl
  | bo => obtain ⟨_, _, _, _, _, h⟩ := o; cases h
  | fr => obtain ⟨⟨_, _, _, _, _, h⟩, _⟩ := o; cases h
theorem RRep.bl {G : Hp} {fl : Fl} {i : Bool} {v : V} (o : RRep K G F H (fl, .bl i) v) : v = .bl i := by
  cases fl with
  | pl => cases o; rfl
  | bo => obtain ⟨_, _, _, _, _, h⟩ := o; cases h
  | fr => obtain ⟨⟨_, _, _, _, _, h⟩, _⟩ := o; cases h
theorem RRep.non {G : Hp} {fl : Fl} {v : V} (o : RRep K G F H (fl, .non) v) : v = .non := by
  cases fl with
  | pl => cases o; rfl
  | bo => obtain ⟨_, _, _, _, _, h⟩ := o; cases h
  | fr => obtain ⟨⟨_, _, _, _, _, h⟩, _⟩ := o; cases h
theorem RRep.str {G : Hp} {fl : Fl} {s : Tx} {v : V} (o : RRep K G F H (fl, .str s) v) : v = .str (S s) := by
  cases fl with
  | pl => cases o; rfl
  | bo => obtain ⟨_, _, _, _, _, h⟩ := o; cases h
  | fr => obtain ⟨⟨_, _, _, _, _, h⟩, _⟩ := o; cases h
theorem RRep.scr {G : Hp} {fl : Fl} {ns : List Int} {v : V} (o : RRep K G F H (fl, .scr ns) v) : ∃ a, v = .ref a ∧ SqL K F a (ns.map V.int) := by
  cases fl with
  | pl => cases o with | scr h => exact ⟨_, rfl, h⟩
  | bo => obtain ⟨_, _, _, _, _, h⟩ := o; cases h
  | fr => obtain ⟨⟨_, _, _, _, _, h⟩, _⟩ := o; cases h
theorem RRep.tup {G : Hp} {fl : Fl} {ds : List D} {v : V} (o : RRep K G F H (fl, .tup ds) v) : ∃ a vs, v = .ref a ∧ SqT K F a vs ∧ VReps K F vs ds := by
  cases fl with
  | pl => cases o with | tup h1 h2 => exact ⟨_, _, rfl, SqT.of h1, h2⟩
  | bo => obtain ⟨_, _, _, _, _, h⟩ := o; cases h
  | fr => obtain ⟨⟨_, _, _, _, _, h⟩, _⟩ := o; cases h
theorem RRep.tupF {G : Hp} {fl : Fl} {ds : List D} {v : V} (o : RRep K G F H (fl, .tup ds) v) : ∃ a vs, v = .ref a ∧ F a = some (.tup vs) ∧ VReps K F vs ds := by
  cases fl with
  | pl => cases o with | tup h1 h2 => exact ⟨_, _, rfl, h1, h2⟩
  | bo => obtain ⟨_, _, _, _, _, h⟩ := o; cases h
  | fr => obtain ⟨⟨_, _, _, _, _, h⟩, _⟩ := o; cases h
theorem RRep.lst {G : Hp} {fl : Fl} {ds : List D} {v : V} (o : RRep K G F H (fl, .lst ds) v) (e : Ex F H) : ∃ a vs, v = .ref a ∧ H a = some (.lst vs) ∧ VReps K F vs ds := by
  have own : Own K F H v (.lst ds) → ∃ a vs, v = .ref a ∧ H a = some (.lst vs) ∧ VReps K F vs ds := fun ⟨a, u, h1, _, h3, h4⟩ => by
    cases h4 with
    | lst h4 => exact ⟨a, _, h1, h3, h4⟩
  cases fl with
  | pl => cases o with | lst h1 h2 => exact ⟨_, _, rfl, e _ _ h1, h2⟩
  | bo => exact own o
  | fr => exact own o.1
theorem RRep.dct {G : Hp} {fl : Fl} {lk : Bool} {ks : List Ke} {ds : List D} {v : V} (r : RRep K G F H (fl, .dct lk ks ds) v) (e : Ex F H) : ∃ a kvs o, v = .ref a ∧ H a = some (hoD lk o kvs) ∧ kvs.map (·.1) = ks.map kk ∧ VReps K F (kvs.map (·.2)) ds := by
  have own : Own K F H v (.dct lk ks ds) → ∃ a kvs o, v = .ref a ∧ H a = some (hoD lk o kvs) ∧ kvs.map (·.1) = ks.map kk ∧ VReps K F (kvs.map (·.2)) ds := fun ⟨a, u, h1, _, h3, h4⟩ => by
    generalize hd : D.dct lk ks ds = d at h4
    cases h4 with
    | lst h4 => cases hd
    | dct h4 h5 =>
      cases hd
      exact ⟨a, _, _, h1, h3, h4, h5⟩
    | dtt h4 h5 => cases hd
  cases fl with
  | pl => cases r with | dct h1 h2 h3 => exact ⟨_, _, _, rfl, e _ _ h1, h2, h3⟩
  | bo => exact own r
  | fr => exact own r.1
theorem RRep.dtt {G : Hp} {fl : Fl} {lk : Bool} {ks : List (List Ke)} {ds : List D} {v : V} (r : RRep K G F H (fl, .dtt lk ks ds) v) (e : Ex F H) : ∃ a kvs o, v = .ref a ∧ H a = some (hoT lk o kvs) ∧ kvs.map (·.1) = ks.map (List.map kk) ∧ VReps K F (kvs.map (·.2)) ds := by
  have own : Own K F H v (.dtt lk ks ds) → ∃ a kvs o, v = .ref a ∧ H a = some (hoT lk o kvs) ∧ kvs.map (·.1) = ks.map (List.map kk) ∧ VReps K F (kvs.map (·.2)) ds := fun ⟨a, u, h1, _, h3, h4⟩ => by
    generalize hd : D.dtt lk ks ds = d at h4
    cases h4 with
    | lst h4 => cases hd
    | dct h4 h5 => cases hd
    | dtt h4 h5 =>
      cases hd
      exact ⟨a, _, _, h1, h3, h4, h5⟩
  cases fl with
  | pl => cases r with | dtt h1 h2 h3 => exact ⟨_, _, _, rfl, e _ _ h1, h2, h3⟩
  | bo => exact own r
  | fr => exact own r.1
/-- a result is made everybody's -/
theorem RRep.settle {G : Hp} {r : Res} {v : V} (o : RRep K G F H r v) (e : Ex F H) (nb : r.1.isBo = false) (hg : Ex G H) :
    ∃ F', Ex F F' ∧ Ex F' H ∧ (∀ a, G a ≠ none → F' a = F a) ∧ VRep K F' v r.2 := by
  obtain ⟨fl, d⟩ := r
  cases fl with
  | pl => exact ⟨F, Evl.Ex.refl F, e, fun _ _ => rfl, o⟩
  | bo => cases nb
  | fr =>
    obtain ⟨⟨a, w, h1, h2, h4, h5⟩, b, h6, h7⟩ := o
    subst h1
    cases h6
    refine ⟨upd F a w, exUpd h2, fun x u q => ?_, fun x hx => ?_, h5.rep (exUpd h2) upd_same⟩
    · by_cases hb : x = a
      · subst hb
        rw [upd_same] at q
        rw [h4]
        exact q
      · rw [upd_ne hb] at q
        exact e x u q
    · have : x ≠ a := fun z => hx (z ▸ h7)
      exact upd_ne this
end
/-! ### data of the model -/
mutual
def toPy : D → PyData
  | .non => .none
  | .bl b => .bool b
  | .int i => .int i
  | .str s => .str (S s)
  | .tup ds => .tuple (toPys ds)
  | .lst ds => .list (toPys ds)
  | .dct _ _ _ => .none
  | .dtt _ _ _ => .none
  | .scr _ => .none
def toPys : List D → List PyData
  | [] => []
  | d :: ds => toPy d :: toPys ds
end
mutual
theorem eqv_py : ∀ (m n : Nat) (a b : D), D.eqOk m a = true → D.eqOk n b = true → PyData.eqv (toPy a) (toPy b) = D.eqv a b
  | m, n, .non, b, _, hb => by cases b <;> simp [toPy, PyData.eqv, D.eqv, D.eqOk] at hb ⊢
  | m, n, .bl x, b, _, hb => by cases b <;> simp [toPy, PyData.eqv, D.eqv, D.eqOk] at hb ⊢
  | m, n, .int x, b, _, hb => by cases b <;> simp [toPy, PyData.eqv, D.eqv, D.eqOk] at hb ⊢
  | m, n, .str x, b, _, hb => by
    cases b <;> simp [toPy, PyData.eqv, D.eqv, D.eqOk] at hb ⊢
    rename_i y
    by_cases h : x = y
    · subst h; simp
    · have : S x ≠ S y := fun z => h (S_inj z)
      rw [beq_eq_false_iff_ne.mpr h, beq_eq_false_iff_ne.mpr this]
  | 0, n, .tup xs, b, ha, hb => by simp [D.eqOk] at ha
  | m + 1, 0, .tup xs, b, ha, hb => by cases b <;> simp [toPy, PyData.eqv, D.eqv, D.eqOk] at hb ⊢
  | m + 1, n + 1, .tup xs, b, ha, hb => by
    cases b <;> simp [toPy, PyData.eqv, D.eqv, D.eqOk] at ha hb ⊢
    exact eqvs_py m n _ _ ha hb
  | 0, n, .lst xs, b, ha, hb => by simp [D.eqOk] at ha
  | m + 1, 0, .lst xs, b, ha, hb => by cases b <;> simp [toPy, PyData.eqv, D.eqv, D.eqOk] at hb ⊢
  | m + 1, n + 1, .lst xs, b, ha, hb => by
    cases b <;> simp [toPy, PyData.eqv, D.eqv, D.eqOk] at ha hb ⊢
    exact eqvs_py m n _ _ ha hb
  | m, n, .dct _ _ _, b, ha, _ => by cases m <;> simp [D.eqOk] at ha
  | m, n, .dtt _ _ _, b, ha, _ => by cases m <;> simp [D.eqOk] at ha
  | m, n, .scr _, b, ha, _ => by cases m <;> simp [D.eqOk] at ha
theorem eqvs_py : ∀ (m n : Nat) (a b : List D), D.eqOks m a = true → D.eqOks n b = true → PyData.eqvAll (toPys a) (toPys b) = D.eqvs a b
  | m, n, [], b, _, _ => by cases b <;> simp [toPys, PyData.eqvAll, D.eqvs]
  | m, n, x :: xs, [], _, _ => by simp [toPys, PyData.eqvAll, D.eqvs]
  | m, n, x :: xs, y :: ys, ha, hb => by
    simp only [D.eqOks, Bool.and_eq_true] at ha hb
    simp only [toPys, PyData.eqvAll, D.eqvs]
    rw [eqv_py m n x y ha.1 hb.1, eqvs_py m n xs ys ha.2 hb.2]
end
mutual
theorem alike_py : ∀ (a b : D), D.alike a b = true → PySem.W.alike (toPy a) (toPy b) = true
  | .bl _, b, h => by cases b <;> simp [D.alike] at h; rfl
  | .int _, b, h => by cases b <;> simp [D.alike] at h; rfl
  | .str _, b, h => by cases b <;> simp [D.alike] at h; rfl
  | .tup xs, b, h => by
    cases b <;> simp [D.alike] at h
    simp only [toPy, PySem.W.alike]
    exact alikes_py _ _ h
  | .lst xs, b, h => by
    cases b <;> simp [D.alike] at h
    simp only [toPy, PySem.W.alike]
    exact alikes_py _ _ h
  | .non, b, h => by cases b <;> simp [D.alike] at h
  | .dct _ _ _, b, h => by cases b <;> simp [D.alike] at h
  | .dtt _ _ _, b, h => by cases b <;> simp [D.alike] at h
  | .scr _, b, h => by cases b <;> simp [D.alike] at h
theorem alikes_py : ∀ (a b : List D), D.alikes a b = true → PySem.W.alikeAll (toPys a) (toPys b) = true
  | [], b, _ => by simp [toPys, PySem.W.alikeAll]
  | x :: xs, [], _ => by simp [toPys, PySem.W.alikeAll]
  | x :: xs, y :: ys, h => by
    simp only [D.alikes, Bool.and_eq_true] at h
    simp only [toPys, PySem.W.alikeAll, Bool.and_eq_true]
    exact ⟨alike_py x y h.1, alikes_py xs ys h.2⟩
end
mutual
theorem lt_py : ∀ (m n : Nat) (a b : D), D.eqOk m a = true → D.eqOk n b = true → D.alike a b = true → PySem.W.dataLt (toPy a) (toPy b) = D.lt a b
  | m, n, .bl x, b, _, _, h => by
    cases b with
    | bl y =>
      simp only [toPy, D.lt, PySem.W.dataLt_bool]
      cases x <;> cases y <;> decide
    | _ => simp [D.alike] at h
  | m, n, .int x, b, _, _, h => by
    cases b <;> simp [D.alike] at h
    simp only [toPy, D.lt, PySem.W.dataLt_int]
  | m, n, .str x, b, _, _, h => by
    cases b <;> simp [D.alike] at h
    simp only [toPy, D.lt, PySem.W.dataLt_str, S_cps]
    rfl
  | 0, n, .tup xs, b, ha, _, h => by simp [D.eqOk] at ha
  | m + 1, n, .tup xs, b, ha, hb, h => by
    cases b <;> simp [D.alike] at h
    cases n <;> simp [D.eqOk] at ha hb
    simp only [toPy, D.lt, PySem.W.dataLt_tuple]
    exact lts_py m _ _ _ ha hb h
  | 0, n, .lst xs, b, ha, _, h => by simp [D.eqOk] at ha
  | m + 1, n, .lst xs, b, ha, hb, h => by
    cases b <;> simp [D.alike] at h
    cases n <;> simp [D.eqOk] at ha hb
    simp only [toPy, D.lt, PySem.W.dataLt_list]
    exact lts_py m _ _ _ ha hb h
  | m, n, .non, b, _, _, h => by cases b <;> simp [D.alike] at h
  | m, n, .dct _ _ _, b, _, _, h => by cases b <;> simp [D.alike] at h
  | m, n, .dtt _ _ _, b, _, _, h => by cases b <;> simp [D.alike] at h
  | m, n, .scr _, b, _, _, h => by cases b <;> simp [D.alike] at h
theorem lts_py : ∀ (m n : Nat) (a b : List D), D.eqOks m a = true → D.eqOks n b = true → D.alikes a b = true → PyProof.Rows.lexLt PyProof.Rows.itemOrd (PySem.W.keyToksAll (toPys a)) (PySem.W.keyToksAll (toPys b)) = D.lts a b
  | m, n, [], [], _, _, _ => by decide
  | m, n, [], y :: ys, _, _, _ => by
    simp only [toPys, D.lts, PySem.W.keyToksAll]
    exact (PyProof.Rows.lex_diff (O := PyProof.Rows.itemOrd) (by decide)).trans (by decide)
  | m, n, x :: xs, [], _, _, _ => by
    simp only [toPys, D.lts, PySem.W.keyToksAll]
    exact (PyProof.Rows.lex_diff (O := PyProof.Rows.itemOrd) (by decide)).trans (by decide)
  | m, n, x :: xs, y :: ys, ha, hb, h => by
    simp only [D.eqOks, Bool.and_eq_true] at ha hb
    simp only [D.alikes, Bool.and_eq_true] at h
    simp only [toPys, D.lts]
    rw [PySem.W.dataLt_cons (alike_py x y h.1), eqv_py m n x y ha.1 hb.1, lts_py m n xs ys ha.2 hb.2 h.2, lt_py m n x y ha.1 hb.1 h.1]
end
theorem strOk_S {s : Tx} (h : txOk s = true) : PyData.strOk (S s) = true := by
  unfold PyData.strOk S
  unfold txOk at h
  simpa using h
mutual
theorem lay_py : ∀ (m : Nat) (a : D), D.eqOk m a = true → (toPy a).canLay0 = true
  | m, .non, _ => by simp [toPy, PyData.canLay0]
  | m, .bl x, _ => by simp [toPy, PyData.canLay0]
  | m, .int x, _ => by simp [toPy, PyData.canLay0]
  | m, .str x, h => by
    simp only [D.eqOk] at h
    simp only [toPy, PyData.canLay0]
    exact strOk_S h
  | 0, .tup xs, h => by simp [D.eqOk] at h
  | m + 1, .tup xs, h => by
    simp only [D.eqOk] at h
    simp only [toPy, PyData.canLay0]
    exact lays_py m xs h
  | 0, .lst xs, h => by simp [D.eqOk] at h
  | m + 1, .lst xs, h => by
    simp only [D.eqOk] at h
    simp only [toPy, PyData.canLay0]
    exact lays_py m xs h
  | m, .dct _ _ _, h => by cases m <;> simp [D.eqOk] at h
  | m, .dtt _ _ _, h => by cases m <;> simp [D.eqOk] at h
  | m, .scr _, h => by cases m <;> simp [D.eqOk] at h
theorem lays_py : ∀ (m : Nat) (a : List D), D.eqOks m a = true → PyData.canLayAll0 (toPys a) = true
  | m, [], _ => by simp [toPys, PyData.canLayAll0]
  | m, x :: xs, h => by
    simp only [D.eqOks, Bool.and_eq_true] at h
    simp only [toPys, PyData.canLayAll0, Bool.and_eq_true]
    exact ⟨lay_py m x h.1, lays_py m xs h.2⟩
end
mutual
theorem depth_py : ∀ (m : Nat) (a : D), D.eqOk m a = true → (toPy a).depth ≤ m
  | m, .non, _ => by simp [toPy, PyData.depth]
  | m, .bl x, _ => by simp [toPy, PyData.depth]
  | m, .int x, _ => by simp [toPy, PyData.depth]
  | m, .str x, _ => by simp [toPy, PyData.depth]
  | 0, .tup xs, h => by simp [D.eqOk] at h
  | m + 1, .tup xs, h => by
    simp only [D.eqOk] at h
    simp only [toPy, PyData.depth]
    have := depths_py m xs h
    omega
  | 0, .lst xs, h => by simp [D.eqOk] at h
  | m + 1, .lst xs, h => by
    simp only [D.eqOk] at h
    simp only [toPy, PyData.depth]
    have := depths_py m xs h
    omega
  | m, .dct _ _ _, h => by cases m <;> simp [D.eqOk] at h
  | m, .dtt _ _ _, h => by cases m <;> simp [D.eqOk] at h
  | m, .scr _, h => by cases m <;> simp [D.eqOk] at h
theorem depths_py : ∀ (m : Nat) (a : List D), D.eqOks m a = true → PyData.depthAll (toPys a) ≤ m
  | m, [], _ => by simp [toPys, PyData.depthAll]
  | m, x :: xs, h => by
    simp only [D.eqOks, Bool.and_eq_true] at h
    simp only [toPys, PyData.depthAll]
    have h1 := depth_py m x h.1
    have h2 := depths_py m xs h.2
    omega
end
theorem shaped_py {a : D} (h : D.eqOk 60 a = true) : SeqAt.shaped (toPy a) = true := by
  unfold SeqAt.shaped
  rw [lay_py 60 a h]
  have := depth_py 60 a h
  simp
  omega
section
variable {K : PySem.W.Frag} {H : Hp}
mutual
theorem VRep.dp : ∀ {m : Nat} {d : D} {v : V}, VRep K H v d → D.eqOk m d = true → Dp K H v (toPy d)
  | m, .non, _, h, _ => by cases h; simp only [toPy]; exact .non
  | m, .bl b, _, h, _ => by cases h; simp only [toPy]; exact .bl b
  | m, .int i, _, h, _ => by cases h; simp only [toPy]; exact .int i
  | m, .str s, _, h, _ => by cases h; simp only [toPy]; exact .str _
  | 0, .tup ds, _, h, e => by simp [D.eqOk] at e
  | m + 1, .tup ds, _, h, e => by
    cases h with
    | tup h1 h2 =>
      simp only [toPy]
      exact .tup (SqT.of h1) (VReps.dp (m := m) h2 (by simpa [D.eqOk] using e))
  | 0, .lst ds, _, h, e => by simp [D.eqOk] at e
  | m + 1, .lst ds, _, h, e => by
    cases h with
    | lst h1 h2 =>
      simp only [toPy]
      exact .lst (SqL.of h1) (VReps.dp (m := m) h2 (by simpa [D.eqOk] using e))
  | m, .dct _ _ _, _, _, e => by cases m <;> simp [D.eqOk] at e
  | m, .dtt _ _ _, _, _, e => by cases m <;> simp [D.eqOk] at e
  | m, .scr _, _, _, e => by cases m <;> simp [D.eqOk] at e
theorem VReps.dp : ∀ {m : Nat} {ds : List D} {vs : List V}, VReps K H vs ds → D.eqOks m ds = true → DpAll K H vs (toPys ds)
  | m, [], _, h, _ => by cases h; simp only [toPys]; exact .nil
  | m, d :: ds, _, h, e => by
    cases h with
    | cons h1 h2 =>
      simp only [D.eqOks, Bool.and_eq_true] at e
      simp only [toPys]
      exact .cons (VRep.dp h1 e.1) (VReps.dp h2 e.2)
end
end
end PF

/-! The operators, by plain data. -/
namespace PF
open PySem PySem.Spec PyProof.Rows L2
theorem szLine {n : Nat} (h : n ≤ SZ) : n ≤ sizeLine := Nat.le_trans h (by rw [sizeLine_eq]; decide)
/-- what follows a result -/
def Then (K : PySem.W.Frag) (F H : Hp) (r : Res) (Q : VK) : Prop := ∀ w F' H', Grow F H F' H' → RRep K H F' H' r w → Q w H'
section
variable {K : PySem.W.Frag} {F H : Hp} {Q : VK}
theorem Then.int {i : Int} (h : Then K F H (.pl, .int i) Q) (e : Ex F H) : Q (.int i) H := h _ _ _ (Grow.refl e) (show VRep K F (.int i) (.int i) from .int i)
theorem Then.bl {i : Bool} (h : Then K F H (.pl, .bl i) Q) (e : Ex F H) : Q (.bl i) H := h _ _ _ (Grow.refl e) (show VRep K F (.bl i) (.bl i) from .bl i)
theorem Then.str {i : Tx} (h : Then K F H (.pl, .str i) Q) (e : Ex F H) : Q (.str (S i)) H := h _ _ _ (Grow.refl e) (show VRep K F (.str (S i)) (.str i) from .str i)
theorem Then.pl {d : D} {v : V} (h : Then K F H (.pl, d) Q) (e : Ex F H) (r : VRep K F v d) : Q v H := h _ _ _ (Grow.refl e) r
theorem Then.newT {vs : List V} {ds : List D} (h : Then K F H (.pl, .tup ds) Q) (e : Ex F H) (r : VReps K F vs ds) : ∀ p, H p = none → Q (.ref p) (upd H p (.tup vs)) := fun p hp =>
  h _ _ _ (Grow.pub e hp) (show VRep K (upd F p (.tup vs)) (.ref p) (.tup ds) from .tup upd_same (r.mono (exUpd (exNone e hp))))
theorem Then.newL {vs : List V} {ds : List D} (h : Then K F H (.fr, .lst ds) Q) (e : Ex F H) (r : VReps K F vs ds) : ∀ p, H p = none → Q (.ref p) (upd H p (.lst vs)) := fun p hp =>
  h _ _ _ (Grow.own e hp) ⟨⟨p, _, rfl, exNone e hp, upd_same, .lst r⟩, p, rfl, hp⟩
end
/-- an operator of two values, by plain data -/
def OpOk (X : Cx) (f : Value → Value → Sem Value) (g : D → D → Option Res) : Prop :=
  ∀ (pins : List (Addr × Obj)) (s : Shared) (σ : L2.St) (F H G1 G2 : Hp) (x y : Res) (vx vy : V) (ux uy : Value) (r : Res) (Q : VK), Inv X pins σ H s → Ex F H → RRep X.K G1 F H x vx → RRep X.K G2 F H y vy → RelV vx ux → RelV vy uy →
    g x.2 y.2 = some r → Then X.K F H r Q → wpAny (model X.prog X.w) X.A (f ux uy) (EP X pins σ Q) X.xe s
def opOf : BOp → Operator
  | .add => .Add | .sub => .Sub | .mul => .Mult | .fdiv => .FloorDiv | .mod => .Mod | .pow => .Pow | .shl => .LShift | .shr => .RShift | .band => .BitAnd
theorem flat_eq (k : Nat) (x : Tx) : ((List.replicate k (S x).cps).foldl (· ++ ·) #[]) = ((List.replicate k x).flatten).toArray := by
  have h : ∀ (k : Nat) (acc : Tx), (List.replicate k (S x).cps).foldl (· ++ ·) acc.toArray = (acc ++ (List.replicate k x).flatten).toArray := by
    intro k
    induction k with
    | zero => intro acc; simp
    | succ k ih =>
      intro acc
      rw [List.replicate_succ, List.foldl_cons, List.replicate_succ, List.flatten_cons]
      have e : acc.toArray ++ (S x).cps = (acc ++ x).toArray := by unfold S; simp
      rw [e, ih, List.append_assoc]
  have := h k []
  simpa using this
theorem txt_mul (x : Tx) (j : Int) : Txt.mul (S x) j = S (List.replicate j.toNat x).flatten := by
  unfold Txt.mul
  by_cases h : j < 1
  · rw [if_pos h]
    have : j.toNat = 0 := by omega
    rw [this]
    rfl
  · rw [if_neg h]
    by_cases h2 : (j == 1 || (S x).length == 0) = true
    · rw [if_pos h2]
      simp only [Bool.or_eq_true, beq_iff_eq] at h2
      rcases h2 with h2 | h2
      · subst h2
        simp
      · rw [S_len] at h2
        have : x = [] := List.length_eq_zero_iff.mp h2
        subst this
        simp
    · rw [if_neg h2, flat_eq]
      rfl
section
variable {X : Cx}
theorem add_ok : OpOk X (binaryOp .Add) (binop .add) := by
  intro pins s σ F H G1 G2 x y vx vy ux uy r Q I e rx ry qx qy hg h
  obtain ⟨fx, x⟩ := x
  obtain ⟨fy, y⟩ := y
  simp only at hg
  cases x <;> cases y <;> simp only [binop] at hg <;> try cases hg
  · cases rx.int; cases ry.int
    exact op_add pins s σ H _ _ _ _ Q I qx qy ⟨_, _, rfl, rfl, h.int e⟩
  · rename_i a b
    cases rx.str; cases ry.str
    split at hg
    · rename_i hz
      cases hg
      refine op_add_str pins s σ H _ _ _ _ Q I qx qy ⟨_, _, rfl, rfl, by rw [S_len, S_len]; exact szLine hz, ?_⟩
      rw [S_app]
      exact h.str e
    · cases hg
  · rename_i a b
    obtain ⟨p, xs, rfl, h1, h2⟩ := rx.tupF
    obtain ⟨q, ys, rfl, h3, h4⟩ := ry.tupF
    split at hg
    · rename_i hz
      cases hg
      have l1 := h2.length
      have l2 := h4.length
      refine op_catA pins s σ H _ _ _ _ Q I qx qy ⟨p, q, xs, ys, rfl, rfl, SqT.of (e _ _ h1), SqT.of (e _ _ h3), by rw [l1, l2]; exact szLine hz, fun z => ?_, fun _ z => ?_, fun _ _ => h.newT e (h2.append h4)⟩
      · subst z
        cases h2
        exact h.pl e (.tup h3 h4)
      · subst z
        cases h4
        rw [List.append_nil] at h
        exact h.pl e (.tup h1 h2)
    · cases hg
  · rename_i a b
    obtain ⟨p, xs, rfl, h1, h2⟩ := rx.lst e
    obtain ⟨q, ys, rfl, h3, h4⟩ := ry.lst e
    split at hg
    · rename_i hz
      cases hg
      have l1 := h2.length
      have l2 := h4.length
      exact op_cat pins s σ H _ _ _ _ Q I qx qy ⟨p, q, xs, ys, rfl, rfl, h1, h3, by rw [l1, l2]; exact szLine hz, h.newL e (h2.append h4)⟩
    · cases hg
theorem sub_ok : OpOk X (binaryOp .Sub) (binop .sub) := by
  intro pins s σ F H G1 G2 x y vx vy ux uy r Q I e rx ry qx qy hg h
  obtain ⟨fx, x⟩ := x
  obtain ⟨fy, y⟩ := y
  simp only at hg
  cases x <;> cases y <;> simp only [binop] at hg <;> try cases hg
  cases rx.int; cases ry.int
  exact op_sub pins s σ H _ _ _ _ Q I qx qy ⟨_, _, rfl, rfl, h.int e⟩
theorem mul_ok : OpOk X (binaryOp .Mult) (binop .mul) := by
  intro pins s σ F H G1 G2 x y vx vy ux uy r Q I e rx ry qx qy hg h
  obtain ⟨fx, x⟩ := x
  obtain ⟨fy, y⟩ := y
  simp only at hg
  cases x <;> cases y <;> simp only [binop] at hg <;> try cases hg
  · cases rx.int; cases ry.int
    split at hg
    · rename_i hc
      cases hg
      exact op_mul pins s σ H _ _ _ _ Q I qx qy ⟨_, _, rfl, rfl, hc, h.int e⟩
    · cases hg
  · rename_i a j
    cases rx.str; cases ry.int
    split at hg
    · rename_i hc
      obtain ⟨h1, h2, h3⟩ := hc
      cases hg
      obtain ⟨t, rfl⟩ := qx
      obtain ⟨u, rfl⟩ := qy
      have hok : MulOk (S a) j := by
        refine ⟨?_, fun _ _ => ?_, fun _ _ => ?_⟩
        · rw [decide_eq_false (by omega), decide_eq_false (by omega)]
          rfl
        · rw [S_len]
          have hj : 0 < j := by omega
          have h4 : (a.length : Int) * j ≤ 100000 := by
            have h5 : ((a.length * j.toNat : Nat) : Int) ≤ ((100000 : Nat) : Int) := Int.ofNat_le.mpr h3
            rw [Int.natCast_mul, Int.toNat_of_nonneg (by omega)] at h5
            exact h5
          have h6 : (a.length : Int) ≤ (2 ^ 63 - 1) / j := by
            rw [Int.le_ediv_iff_mul_le hj]
            omega
          omega
        · rw [S_len]
          have := szLine h3
          unfold PySem.Builtin.Str.tooLong
          simp
          omega
      refine SB.mul hok fun t' k => ⟨.str (Txt.mul (S a) j), H, I.tok k, ⟨t', rfl⟩, ?_⟩
      rw [txt_mul]
      exact h.str e
    · cases hg
  · rename_i a j
    obtain ⟨p, xs, rfl, h1, h2⟩ := rx.lst e
    cases ry.int
    split at hg
    · rename_i hc
      obtain ⟨c1, c2, c3⟩ := hc
      cases hg
      have l1 := h2.length
      exact op_rep pins s σ H _ _ _ _ Q I qx qy ⟨p, j, xs, rfl, rfl, h1, by omega, by omega, by rw [l1]; exact szLine c3, h.newL e (h2.rep _)⟩
    · cases hg
theorem fdiv_ok : OpOk X (binaryOp .FloorDiv) (binop .fdiv) := by
  intro pins s σ F H G1 G2 x y vx vy ux uy r Q I e rx ry qx qy hg h
  obtain ⟨fx, x⟩ := x
  obtain ⟨fy, y⟩ := y
  simp only at hg
  cases x <;> cases y <;> simp only [binop] at hg <;> try cases hg
  cases rx.int; cases ry.int
  split at hg
  · rename_i hc
    cases hg
    exact op_fdiv pins s σ H _ _ _ _ Q I qx qy ⟨_, _, rfl, rfl, hc, h.int e⟩
  · cases hg
theorem mod_ok : OpOk X (binaryOp .Mod) (binop .mod) := by
  intro pins s σ F H G1 G2 x y vx vy ux uy r Q I e rx ry qx qy hg h
  obtain ⟨fx, x⟩ := x
  obtain ⟨fy, y⟩ := y
  simp only at hg
  cases x <;> cases y <;> simp only [binop] at hg <;> try cases hg
  cases rx.int; cases ry.int
  split at hg
  · rename_i hc
    cases hg
    exact op_mod pins s σ H _ _ _ _ Q I qx qy ⟨_, _, rfl, rfl, hc, h.int e⟩
  · cases hg
theorem pow_ok : OpOk X (binaryOp .Pow) (binop .pow) := by
  intro pins s σ F H G1 G2 x y vx vy ux uy r Q I e rx ry qx qy hg h
  obtain ⟨fx, x⟩ := x
  obtain ⟨fy, y⟩ := y
  simp only at hg
  cases x <;> cases y <;> simp only [binop] at hg <;> try cases hg
  cases rx.int; cases ry.int
  split at hg
  · rename_i hc
    cases hg
    exact op_pow pins s σ H _ _ _ _ Q I qx qy ⟨_, _, rfl, rfl, ⟨hc.1, by omega, hc.2.2⟩, h.int e⟩
  · cases hg
theorem shl_ok : OpOk X (binaryOp .LShift) (binop .shl) := by
  intro pins s σ F H G1 G2 x y vx vy ux uy r Q I e rx ry qx qy hg h
  obtain ⟨fx, x⟩ := x
  obtain ⟨fy, y⟩ := y
  simp only at hg
  cases x <;> cases y <;> simp only [binop] at hg <;> try cases hg
  cases rx.int; cases ry.int
  split at hg
  · rename_i hc
    cases hg
    exact op_shl pins s σ H _ _ _ _ Q I qx qy ⟨_, _, rfl, rfl, ⟨hc.1, by omega, hc.2.2⟩, h.int e⟩
  · cases hg
theorem shr_ok : OpOk X (binaryOp .RShift) (binop .shr) := by
  intro pins s σ F H G1 G2 x y vx vy ux uy r Q I e rx ry qx qy hg h
  obtain ⟨fx, x⟩ := x
  obtain ⟨fy, y⟩ := y
  simp only at hg
  cases x <;> cases y <;> simp only [binop] at hg <;> try cases hg
  cases rx.int; cases ry.int
  split at hg
  · rename_i hc
    cases hg
    exact op_shr pins s σ H _ _ _ _ Q I qx qy ⟨_, _, rfl, rfl, hc.1, h.int e⟩
  · cases hg
theorem band_ok : OpOk X (binaryOp .BitAnd) (binop .band) := by
  intro pins s σ F H G1 G2 x y vx vy ux uy r Q I e rx ry qx qy hg h
  obtain ⟨fx, x⟩ := x
  obtain ⟨fy, y⟩ := y
  simp only at hg
  cases x <;> cases y <;> simp only [binop] at hg <;> try cases hg
  cases rx.int; cases ry.int
  split at hg
  · rename_i i j hc
    cases hg
    subst hc
    refine op_and pins s σ H _ _ _ _ Q I qx qy ⟨_, _, rfl, rfl, ?_⟩
    have e1 : Builtin.bitAnd i 1 = i % 2 := PySem.W.kbt_mask i 1
    show Q (.int (Builtin.bitAnd i 1)) H
    rw [e1]
    exact h.int e
  · cases hg
theorem bin_ok : ∀ o : BOp, OpOk X (binaryOp (opOf o)) (binop o)
  | .add => add_ok | .sub => sub_ok | .mul => mul_ok | .fdiv => fdiv_ok | .mod => mod_ok | .pow => pow_ok | .shl => shl_ok | .shr => shr_ok | .band => band_ok
end
end PF

/-! Comparisons, places, cuts, by plain data. -/
namespace PF
open PySem PySem.Spec PyProof.Rows L2
def cmpOf : COp → CmpOp
  | .eq => .Eq | .ne => .NotEq | .lt => .Lt | .le => .LtE | .gt => .Gt | .ge => .GtE | .is_ => .Is | .isnt => .IsNot | .in_ => .In | .notin => .NotIn
def cmpR (o : COp) (a b : D) : Option Res := (cmpD o a b).map fun k => (.pl, .bl k)
theorem cmpR_of {o : COp} {a b : D} {r : Res} (h : cmpR o a b = some r) : ∃ k, cmpD o a b = some k ∧ r = (.pl, .bl k) := by
  unfold cmpR at h
  obtain ⟨k, h1, h2⟩ := Option.map_eq_some_iff.mp h
  exact ⟨k, h1, h2.symm⟩
theorem dec_S (a b : Tx) : decide (V.str (S a) = V.str (S b)) = (a == b) := by
  by_cases h : a = b
  · subst h; simp
  · have h2 : ¬ V.str (S a) = V.str (S b) := fun z => h (S_inj (V.str.inj z))
    rw [decide_eq_false h2]
    exact (beq_eq_false_iff_ne.mpr h).symm
theorem scal_of {K : PySem.W.Frag} {F : Hp} {a b : D} {x y : V} (h : D.sameScal a b = true) (hx : VRep K F x a) (hy : VRep K F y b) : scal x y = true ∧ decide (x = y) = D.eqv a b := by
  cases a <;> cases b <;> simp [D.sameScal] at h
  · cases hx; cases hy; exact ⟨rfl, rfl⟩
  · cases hx; cases hy; exact ⟨rfl, by simp only [D.eqv]; exact dec_bl⟩
  · cases hx; cases hy; exact ⟨rfl, by simp only [D.eqv]; exact dec_int⟩
  · cases hx; cases hy; exact ⟨rfl, by simp only [D.eqv]; exact dec_S _ _⟩
section
variable {X : Cx}
theorem eq_ok (hu : X.A.units + 70 < cLine) : OpOk X (compareOp .Eq) (cmpR .eq) := by
  intro pins s σ F H G1 G2 x y vx vy ux uy r Q I e rx ry qx qy hg h
  obtain ⟨k, hk, rfl⟩ := cmpR_of hg
  have wx := rx.weak e
  have wy := ry.weak e
  simp only [cmpD, eqD] at hk
  split at hk
  · rename_i hc
    cases hk
    by_cases hs : D.sameScal x.2 y.2 = true
    · obtain ⟨h1, h2⟩ := scal_of hs wx wy
      refine op_eq pins s σ H _ _ _ _ Q I qx qy ⟨h1, ?_⟩
      rw [h2]
      exact h.bl e
    · have hc2 : D.eqOk 60 x.2 = true ∧ D.eqOk 60 y.2 = true := by
        rw [Bool.or_eq_true, Bool.and_eq_true] at hc
        exact hc.resolve_left hs
      refine op_eqD (by omega) pins s σ H _ _ _ _ Q I qx qy ⟨toPy x.2, toPy y.2, wx.dp hc2.1, wy.dp hc2.2, shaped_py hc2.1, shaped_py hc2.2, ?_⟩
      rw [eqv_py 60 60 _ _ hc2.1 hc2.2]
      exact h.bl e
  · cases hk
theorem ne_ok (hu : X.A.units + 70 < cLine) : OpOk X (compareOp .NotEq) (cmpR .ne) := by
  intro pins s σ F H G1 G2 x y vx vy ux uy r Q I e rx ry qx qy hg h
  obtain ⟨k, hk, rfl⟩ := cmpR_of hg
  have wx := rx.weak e
  have wy := ry.weak e
  simp only [cmpD] at hk
  obtain ⟨k', hk2, ek⟩ := Option.map_eq_some_iff.mp hk
  subst ek
  simp only [eqD] at hk2
  split at hk2
  · rename_i hc
    have ek2 := Option.some.inj hk2
    subst ek2
    by_cases hs : D.sameScal x.2 y.2 = true
    · obtain ⟨h1, h2⟩ := scal_of hs wx wy
      refine op_ne pins s σ H _ _ _ _ Q I qx qy ⟨h1, ?_⟩
      rw [h2]
      exact h.bl e
    · have hc2 : D.eqOk 60 x.2 = true ∧ D.eqOk 60 y.2 = true := by
        rw [Bool.or_eq_true, Bool.and_eq_true] at hc
        exact hc.resolve_left hs
      refine op_neD (by omega) pins s σ H _ _ _ _ Q I qx qy ⟨toPy x.2, toPy y.2, wx.dp hc2.1, wy.dp hc2.2, shaped_py hc2.1, shaped_py hc2.2, ?_⟩
      rw [eqv_py 60 60 _ _ hc2.1 hc2.2]
      exact h.bl e
  · cases hk2
/-- what ltD says, on values -/
inductive LtCase (K : PySem.W.Frag) (F H : Hp) (x y : D) (vx vy : V) (k : Bool) : Prop where
  | int (i j : Int) (ex : vx = .int i) (ey : vy = .int j) (ek : k = decide (i < j)) : LtCase K F H x y vx vy k
  | str (s t : Tx) (ex : vx = .str (S s)) (ey : vy = .str (S t)) (ek : k = ltTx s t) : LtCase K F H x y vx vy k
  | data (h1 : D.eqOk 60 x = true) (h2 : D.eqOk 60 y = true) (h3 : D.alike x y = true) (h4 : toPy x ≠ .none) (h4' : toPy y ≠ .none) (h5 : D.alike y x = true) (ek : k = D.lt x y) : LtCase K F H x y vx vy k
theorem alike_sym (x y : D) (h : D.alike x y = true) : PySem.W.alike (toPy y) (toPy x) = true := by
  rw [PySem.W.alike_comm]
  exact alike_py x y h
mutual
theorem D.alike_comm : ∀ x y : D, D.alike x y = D.alike y x
  | .bl _, y => by cases y <;> simp [D.alike]
  | .int _, y => by cases y <;> simp [D.alike]
  | .str _, y => by cases y <;> simp [D.alike]
  | .non, y => by cases y <;> simp [D.alike]
  | .dct _ _ _, y => by cases y <;> simp [D.alike]
  | .dtt _ _ _, y => by cases y <;> simp [D.alike]
  | .scr _, y => by cases y <;> simp [D.alike]
  | .tup xs, y => by
    cases y <;> simp only [D.alike]
    exact D.alikes_comm _ _
  | .lst xs, y => by
    cases y <;> simp only [D.alike]
    exact D.alikes_comm _ _
theorem D.alikes_comm : ∀ xs ys : List D, D.alikes xs ys = D.alikes ys xs
  | [], [] => rfl
  | [], y :: ys => by simp [D.alikes]
  | x :: xs, [] => by simp [D.alikes]
  | x :: xs, y :: ys => by
    simp only [D.alikes]
    rw [D.alike_comm x y, D.alikes_comm xs ys]
end
theorem ltCase {K : PySem.W.Frag} {F H G1 G2 : Hp} {fx fy : Fl} {x y : D} {vx vy : V} {k : Bool} (hk : ltD x y = some k) (rx : RRep K G1 F H (fx, x) vx) (ry : RRep K G2 F H (fy, y) vy) : LtCase K F H x y vx vy k := by
  cases x <;> cases y <;> simp only [ltD] at hk <;> try cases hk
  · exact .int _ _ rx.int ry.int rfl
  · exact .str _ _ rx.str ry.str rfl
  · split at hk
    · rename_i xs ys h
      cases hk
      rw [Bool.and_eq_true, Bool.and_eq_true] at h
      exact .data (by simpa only [D.eqOk] using h.1.1) (by simpa only [D.eqOk] using h.1.2) (by simpa only [D.alike] using h.2) (by simp [toPy]) (by simp [toPy]) (by rw [D.alike_comm]; simpa only [D.alike] using h.2) (by simp only [D.lt])
    · cases hk
  · split at hk
    · rename_i xs ys h
      cases hk
      rw [Bool.and_eq_true, Bool.and_eq_true] at h
      exact .data (by simpa only [D.eqOk] using h.1.1) (by simpa only [D.eqOk] using h.1.2) (by simpa only [D.alike] using h.2) (by simp [toPy]) (by simp [toPy]) (by rw [D.alike_comm]; simpa only [D.alike] using h.2) (by simp only [D.lt])
    · cases hk
theorem depth_min {x y : D} (h : D.eqOk 60 x = true) : min (toPy x).depth (toPy y).depth ≤ 60 := Nat.le_trans (Nat.min_le_left _ _) (depth_py 60 x h)
theorem lt_ok (hu : X.A.units + 70 < cLine) : OpOk X (compareOp .Lt) (cmpR .lt) := by
  intro pins s σ F H G1 G2 x y vx vy ux uy r Q I e rx ry qx qy hg h
  obtain ⟨k, hk, rfl⟩ := cmpR_of hg
  obtain ⟨fx, x⟩ := x
  obtain ⟨fy, y⟩ := y
  simp only [cmpD] at hk
  cases ltCase hk rx ry with
  | int i j ex ey ek =>
    subst ex ey ek
    exact op_lt pins s σ H _ _ _ _ Q I qx qy ⟨_, _, rfl, rfl, h.bl e⟩
  | str a b ex ey ek =>
    subst ex ey ek
    refine op_lt_str pins s σ H _ _ _ _ Q I qx qy ⟨_, _, rfl, rfl, ?_⟩
    rw [S_cps, S_cps]
    exact h.bl e
  | data h1 h2 h3 h4 h4' h5 ek =>
    subst ek
    obtain ⟨as, r1⟩ := Dp.reads I _ _ _ ((rx.weak e).dp h1) qx
    obtain ⟨bs, r2⟩ := Dp.reads I _ _ _ ((ry.weak e).dp h2) qy
    refine PySem.W.lt_data r1 r2 (alike_py _ _ h3) h4 (by
      have q := depth_min (y := y) h1
      show X.A.units + min (toPy x).depth (toPy y).depth < cLine
      omega) ⟨.bl _, H, I, rfl, ?_⟩
    rw [lt_py 60 60 _ _ h1 h2 h3]
    exact h.bl e
theorem gt_ok (hu : X.A.units + 70 < cLine) : OpOk X (compareOp .Gt) (cmpR .gt) := by
  intro pins s σ F H G1 G2 x y vx vy ux uy r Q I e rx ry qx qy hg h
  obtain ⟨k, hk, rfl⟩ := cmpR_of hg
  obtain ⟨fx, x⟩ := x
  obtain ⟨fy, y⟩ := y
  simp only [cmpD] at hk
  cases ltCase hk ry rx with
  | int i j ex ey ek =>
    subst ex ey ek
    exact op_gt pins s σ H _ _ _ _ Q I qx qy ⟨_, _, rfl, rfl, h.bl e⟩
  | str a b ex ey ek =>
    subst ex ey ek
    refine op_gt_str pins s σ H _ _ _ _ Q I qx qy ⟨_, _, rfl, rfl, ?_⟩
    rw [S_cps, S_cps]
    exact h.bl e
  | data h1 h2 h3 h4 h4' h5 ek =>
    subst ek
    obtain ⟨as, r1⟩ := Dp.reads I _ _ _ ((rx.weak e).dp h2) qx
    obtain ⟨bs, r2⟩ := Dp.reads I _ _ _ ((ry.weak e).dp h1) qy
    refine PySem.W.gt_data r1 r2 (alike_py _ _ h5) h4' (by
      have q := depth_min (y := y) h2
      show X.A.units + min (toPy x).depth (toPy y).depth < cLine
      omega) ⟨.bl _, H, I, rfl, ?_⟩
    rw [lt_py 60 60 _ _ h1 h2 h3]
    exact h.bl e
theorem le_ok (hu : X.A.units + 70 < cLine) : OpOk X (compareOp .LtE) (cmpR .le) := by
  intro pins s σ F H G1 G2 x y vx vy ux uy r Q I e rx ry qx qy hg h
  obtain ⟨k, hk, rfl⟩ := cmpR_of hg
  obtain ⟨fx, x⟩ := x
  obtain ⟨fy, y⟩ := y
  simp only [cmpD] at hk
  obtain ⟨k', hk', ek'⟩ := Option.map_eq_some_iff.mp hk
  subst ek'
  cases ltCase hk' ry rx with
  | int j i ex ey ek =>
    subst ex ey ek
    refine op_le pins s σ H _ _ _ _ Q I qx qy ⟨_, _, rfl, rfl, ?_⟩
    have e1 : decide (i ≤ j) = !decide (j < i) := by
      by_cases hh : j < i
      · rw [decide_eq_true hh, decide_eq_false (by omega)]; rfl
      · rw [decide_eq_false hh, decide_eq_true (by omega)]; rfl
    show Q (.bl (decide (i ≤ j))) H
    rw [e1]
    exact h.bl e
  | str a b ex ey ek =>
    subst ex ey ek
    refine op_le_str pins s σ H _ _ _ _ Q I qx qy ⟨_, _, rfl, rfl, ?_⟩
    rw [S_cps, S_cps]
    exact h.bl e
  | data h1 h2 h3 h4 h4' h5 ek =>
    subst ek
    obtain ⟨as, r1⟩ := Dp.reads I _ _ _ ((rx.weak e).dp h2) qx
    obtain ⟨bs, r2⟩ := Dp.reads I _ _ _ ((ry.weak e).dp h1) qy
    refine PySem.W.le_data r1 r2 (alike_py _ _ h5) h4' (by
      have q := depth_min (y := y) h2
      show X.A.units + min (toPy x).depth (toPy y).depth < cLine
      omega) ⟨.bl _, H, I, rfl, ?_⟩
    rw [lt_py 60 60 _ _ h1 h2 h3]
    exact h.bl e
theorem ge_ok (hu : X.A.units + 70 < cLine) : OpOk X (compareOp .GtE) (cmpR .ge) := by
  intro pins s σ F H G1 G2 x y vx vy ux uy r Q I e rx ry qx qy hg h
  obtain ⟨k, hk, rfl⟩ := cmpR_of hg
  obtain ⟨fx, x⟩ := x
  obtain ⟨fy, y⟩ := y
  simp only [cmpD] at hk
  obtain ⟨k', hk', ek'⟩ := Option.map_eq_some_iff.mp hk
  subst ek'
  cases ltCase hk' rx ry with
  | int i j ex ey ek =>
    subst ex ey ek
    refine op_ge pins s σ H _ _ _ _ Q I qx qy ⟨_, _, rfl, rfl, ?_⟩
    have e1 : decide (j ≤ i) = !decide (i < j) := by
      by_cases hh : i < j
      · rw [decide_eq_true hh, decide_eq_false (by omega)]; rfl
      · rw [decide_eq_false hh, decide_eq_true (by omega)]; rfl
    show Q (.bl (decide (j ≤ i))) H
    rw [e1]
    exact h.bl e
  | str a b ex ey ek =>
    subst ex ey ek
    refine op_ge_str pins s σ H _ _ _ _ Q I qx qy ⟨_, _, rfl, rfl, ?_⟩
    rw [S_cps, S_cps]
    exact h.bl e
  | data h1 h2 h3 h4 h4' h5 ek =>
    subst ek
    obtain ⟨as, r1⟩ := Dp.reads I _ _ _ ((rx.weak e).dp h1) qx
    obtain ⟨bs, r2⟩ := Dp.reads I _ _ _ ((ry.weak e).dp h2) qy
    refine PySem.W.ge_data r1 r2 (alike_py _ _ h3) h4 (by
      have q := depth_min (y := y) h1
      show X.A.units + min (toPy x).depth (toPy y).depth < cLine
      omega) ⟨.bl _, H, I, rfl, ?_⟩
    rw [lt_py 60 60 _ _ h1 h2 h3]
    exact h.bl e
def nonB : D → Bool
  | .non => true
  | _ => false
theorem isNon {K : PySem.W.Frag} {F : Hp} {d : D} {v : V} (h : VRep K F v d) : decide (v = .non) = nonB d := by
  cases h <;> rfl
theorem isD_non {d : D} {k : Bool} (h : isD d .non = some k) : k = nonB d := by
  cases d <;> simp [isD, nonB] at h ⊢ <;> exact h
theorem is_ok : OpOk X (compareOp .Is) (cmpR .is_) := by
  intro pins s σ F H G1 G2 x y vx vy ux uy r Q I e rx ry qx qy hg h
  obtain ⟨k, hk, rfl⟩ := cmpR_of hg
  have wx := rx.weak e
  have wy := ry.weak e
  simp only [cmpD] at hk
  obtain ⟨fx, x⟩ := x
  obtain ⟨fy, y⟩ := y
  by_cases hy : y = .non
  · subst hy
    cases ry.non
    refine op_isN pins s σ H _ _ _ _ Q I qx qy ⟨rfl, ?_⟩
    rw [isNon wx, ← isD_non hk]
    exact h.bl e
  · cases x <;> cases y <;> simp only [isD] at hk <;> first | exact absurd rfl hy | cases hk
    cases wx; cases wy
    exact op_isBl pins s σ H _ _ _ _ Q I qx qy ⟨_, _, rfl, rfl, h.bl e⟩
theorem isnt_ok : OpOk X (compareOp .IsNot) (cmpR .isnt) := by
  intro pins s σ F H G1 G2 x y vx vy ux uy r Q I e rx ry qx qy hg h
  obtain ⟨k, hk, rfl⟩ := cmpR_of hg
  have wx := rx.weak e
  have wy := ry.weak e
  simp only [cmpD] at hk
  obtain ⟨k', hk2, ek⟩ := Option.map_eq_some_iff.mp hk
  subst ek
  clear hk
  obtain ⟨fx, x⟩ := x
  obtain ⟨fy, y⟩ := y
  by_cases hy : y = .non
  · subst hy
    cases ry.non
    refine op_notN pins s σ H _ _ _ _ Q I qx qy ⟨rfl, ?_⟩
    rw [isNon wx, ← isD_non hk2]
    exact h.bl e
  · cases x <;> cases y <;> simp only [isD] at hk2 <;> first | exact absurd rfl hy | cases hk2
    cases wx; cases wy
    exact op_notBl pins s σ H _ _ _ _ Q I qx qy ⟨_, _, rfl, rfl, h.bl e⟩
theorem flat_V {K : PySem.W.Frag} {F : Hp} {d : D} {v : V} (h : VRep K F v d) (hf : d.flat = true) : flatV v = true := by
  cases h <;> first | rfl | (simp [D.flat] at hf)
theorem flats_V {K : PySem.W.Frag} {F : Hp} : ∀ {ds : List D} {vs : List V}, VReps K F vs ds → ds.all D.flat = true → vs.all flatV = true
  | [], _, h, _ => by cases h; rfl
  | d :: ds, _, h, hf => by
    cases h with
    | cons h1 h2 =>
      simp only [List.all_cons, Bool.and_eq_true] at hf ⊢
      exact ⟨flat_V h1 hf.1, flats_V h2 hf.2⟩
theorem eqV_D {K : PySem.W.Frag} {F : Hp} {a b : D} {x y : V} (h : VRep K F x a) (h' : VRep K F y b) (hf : a.flat = true) (hf' : b.flat = true) : eqV x y = D.eqv a b := by
  have es : ∀ s t : Tx, (S s == S t) = (s == t) := fun s t => by
    by_cases hh : s = t
    · subst hh; simp
    · have : S s ≠ S t := fun z => hh (S_inj z)
      rw [beq_eq_false_iff_ne.mpr hh, beq_eq_false_iff_ne.mpr this]
  cases h <;> cases h' <;> first | (simp only [eqV, D.eqv]; done) | (simp only [eqV, D.eqv]; exact es _ _) | (simp [D.flat] at hf; done) | (simp [D.flat] at hf'; done)
theorem inV_D {K : PySem.W.Frag} {F : Hp} {a : D} {x : V} (h : VRep K F x a) (hf : a.flat = true) : ∀ {ds : List D} {vs : List V}, VReps K F vs ds → ds.all D.flat = true → inV x vs = ds.any fun y => D.eqv y a
  | [], _, h', _ => by cases h'; rfl
  | d :: ds, _, h', hf' => by
    cases h' with
    | cons h1 h2 =>
      simp only [List.all_cons, Bool.and_eq_true] at hf'
      have ih := inV_D h hf h2 hf'.2
      unfold inV at ih ⊢
      rw [List.any_cons, List.any_cons, ih, eqV_D h1 h hf'.1 hf]
theorem any_py (m n : Nat) (x : D) (hx : D.eqOk m x = true) : ∀ (ds : List D), D.eqOks n ds = true → ((toPys ds).any fun z => PyData.eqv z (toPy x)) = ds.any fun y => D.eqv y x
  | [], _ => rfl
  | d :: ds, h => by
    simp only [D.eqOks, Bool.and_eq_true] at h
    simp only [toPys, List.any_cons]
    rw [eqv_py n m d x h.1 hx, any_py m n x hx ds h.2]
/-- in, not in, together -/
theorem inGen (neg : Bool) (hu : X.A.units + 70 < cLine) (pins : List (Addr × Obj)) (s : Shared) (σ : L2.St) (F H G1 G2 : Hp) (x y : Res) (vx vy : V) (ux uy : Value) (k : Bool) (Q : VK) (I : Inv X pins σ H s) (e : Ex F H)
    (rx : RRep X.K G1 F H x vx) (ry : RRep X.K G2 F H y vy) (qx : RelV vx ux) (qy : RelV vy uy) (hg : inD x.2 y.2 = some k) (h : Q (.bl (if neg then !k else k)) H) :
    wpAny (model X.prog X.w) X.A (compareOp (if neg then .NotIn else .In) ux uy) (EP X pins σ Q) X.xe s := by
  obtain ⟨fx, x⟩ := x
  obtain ⟨fy, y⟩ := y
  have wx := rx.weak e
  simp only at hg wx
  have seq : ∀ (p : Addr) (xs : List V) (ds : List D), vy = .ref p → (SqL X.K H p xs ∨ SqT X.K H p xs) → VReps X.K H xs ds → x.flat = true → ds.all D.flat = true → (ds.any fun z => D.eqv z x) = k →
      wpAny (model X.prog X.w) X.A (compareOp (if neg then .NotIn else .In) ux uy) (EP X pins σ Q) X.xe s := fun p xs ds ep hq hv f1 f2 ek => by
    have e1 := inV_D wx f1 hv f2
    cases neg with
    | false => exact op_in_seq pins s σ H _ _ _ _ Q I qx qy ⟨p, xs, ep, hq, flat_V wx f1, flats_V hv f2, by rw [e1, ek]; exact h⟩
    | true => exact op_notIn_seq pins s σ H _ _ _ _ Q I qx qy ⟨p, xs, ep, hq, flat_V wx f1, flats_V hv f2, by rw [e1, ek]; exact h⟩
  cases y <;> simp only [inD] at hg <;> try cases hg
  rotate_right
  · -- a dict with tuples as keys
    rename_i lk ks ds
    obtain ⟨p, kvs, o, rfl, h1, h2, h3⟩ := ry.dtt e
    obtain ⟨g, hg1, hg2⟩ := Option.map_eq_some_iff.mp hg
    simp only [getD'] at hg1
    obtain ⟨q, hq1, hq2⟩ := Option.map_eq_some_iff.mp hg1
    obtain rfl : uy = Value.ref p := qy
    have ek : (valV kvs (q.map kk)).isSome = k := by rw [getT_isSome q h2 h3, hq2, hg2]
    have rd : L2.Rd H p (.dT kvs) := by
      cases lk with
      | false => exact .inl h1
      | true => exact .inr ⟨o, h1⟩
    cases x <;> simp only [D.tkey] at hq1 <;> try cases hq1
    rename_i xs
    obtain ⟨b, vs, rfl, k1, k2⟩ := rx.tupF
    obtain ⟨k3, _⟩ := keysOf_V k2 hq1
    rw [k3] at k1
    have dg : DGet H p (.ref b) (valV kvs (q.map kk)) := .inr ⟨kvs, q.map kk, b, rd, rfl, e _ _ k1, rfl⟩
    cases neg with
    | false => exact d_in (by omega) I dg qx fun s' I' => ⟨_, H, I', by rw [ek]; rfl, h⟩
    | true => exact d_notIn (by omega) I dg qx fun s' I' => ⟨_, H, I', by rw [ek]; rfl, h⟩
  rotate_right
  · -- a dict
    rename_i lk ks ds
    obtain ⟨p, kvs, o, rfl, h1, h2, h3⟩ := ry.dct e
    obtain ⟨g, hg1, hg2⟩ := Option.map_eq_some_iff.mp hg
    simp only [getD'] at hg1
    obtain ⟨q, hq1, hq2⟩ := Option.map_eq_some_iff.mp hg1
    obtain rfl : uy = Value.ref p := qy
    have ek : (valV kvs (kk q)).isSome = k := by rw [get_isSome q h2 h3, hq2, hg2]
    have rd : L2.Rd H p (.dK kvs) := by
      cases lk with
      | false => exact .inl h1
      | true => exact .inr ⟨o, h1⟩
    have ex : vx = kV (kk q) := by
      cases x <;> simp only [D.key] at hq1 <;> try cases hq1
      · cases rx.int; rfl
      · cases rx.str; rfl
    obtain ⟨z, hd, vs, rel, dd⟩ := dk_rd I.hok rd
    have hv := (rel.val (kk q)).isSome_eq
    rw [ek] at hv
    cases neg with
    | false =>
      refine wpAny_in_of (kV_is (by rw [← ex]; exact qx)) hd dd.mapOf ⟨_, H, I.tok _, ?_, h⟩
      rw [← hv]; rfl
    | true =>
      refine wpAny_notIn_of (kV_is (by rw [← ex]; exact qx)) hd dd.mapOf ⟨_, H, I.tok _, ?_, h⟩
      rw [← hv]; rfl
  · -- a text
    rename_i t
    cases ry.str
    cases x <;> try cases hg
    rename_i st
    have wx2 := rx.str
    subst wx2
    have multi : (if st.length ≤ SZ ∧ t.length ≤ SZ then some (subTx st t) else none) = some k →
        wpAny (model X.prog X.w) X.A (compareOp (if neg then .NotIn else .In) ux uy) (EP X pins σ Q) X.xe s := fun hg => by
      split at hg
      · cases hg
        have ek : (!(Builtin.Str.occurrences (S t) (S st) 0 (S t).length 1).isEmpty) = subTx st t := by
          rw [Bool.eq_iff_iff, StrLaws.found_iff]
          unfold subTx
          rw [List.any_eq_true]
          constructor
          · rintro ⟨i, h1, h2⟩
            rw [S_len, S_len] at h1
            rw [StrLaws.subAt_eq, S_len, S_cps, S_cps] at h2
            exact ⟨i, List.mem_range.mpr (by omega), by rw [Bool.and_eq_true]; exact ⟨decide_eq_true (by omega), h2⟩⟩
          · rintro ⟨i, h1, h2⟩
            rw [Bool.and_eq_true] at h2
            refine ⟨i, by rw [S_len, S_len]; have := of_decide_eq_true h2.1; omega, ?_⟩
            rw [StrLaws.subAt_eq, S_len, S_cps, S_cps]
            exact h2.2
        cases neg with
        | false => exact op_in_str pins s σ H _ _ _ _ Q I qx qy ⟨_, _, rfl, rfl, by rw [ek]; exact h⟩
        | true => exact L2.op_notin_str pins s σ H _ _ _ _ Q I qx qy ⟨_, _, rfl, rfl, by rw [ek]; exact h⟩
      · cases hg
    match st, hg with
    | [], hg => exact multi hg
    | [c], hg =>
      cases hg
      cases neg with
      | false => exact op_in_sign pins s σ H _ _ _ _ Q I qx qy ⟨c, S t, rfl, rfl, by rw [S_cps]; exact h⟩
      | true => exact op_notIn_sign pins s σ H _ _ _ _ Q I qx qy ⟨c, S t, rfl, rfl, by rw [S_cps]; exact h⟩
    | _ :: _ :: _, hg => exact multi hg
  · -- a tuple
    rename_i ds
    obtain ⟨p, xs, rfl, h1, h2⟩ := ry.tup
    split at hg
    · rename_i hc
      cases hg
      rw [Bool.or_eq_true] at hc
      by_cases hf : (x.flat && ds.all D.flat) = true
      · rw [Bool.and_eq_true] at hf
        exact seq p xs ds rfl (.inr (Evl.ex_t e h1)) (h2.mono e) hf.1 hf.2 rfl
      · have hc2 := hc.resolve_left hf
        rw [Bool.and_eq_true] at hc2
        have dx := wx.dp hc2.1
        obtain ⟨as, r1⟩ := Dp.reads I _ _ _ dx qx
        obtain ⟨bs, r2⟩ := Dp.reads I _ _ _ (Dp.tup (Evl.ex_t e h1) ((h2.mono e).dp hc2.2)) qy
        have l1 := lays_py 58 ds hc2.2
        have l2 := lay_py 58 x hc2.1
        have d2 := depth_py 58 x hc2.1
        have ek := any_py 58 58 x hc2.1 ds hc2.2
        cases neg with
        | false => exact SeqAt.in_tuple_reads r2 r1 l1 l2 (by omega) ⟨.bl _, H, I, rfl, by rw [ek]; exact h⟩
        | true => exact SeqAt.notIn_tuple_reads r2 r1 l1 l2 (by omega) ⟨.bl _, H, I, rfl, by rw [ek]; exact h⟩
    · cases hg
  · -- a list
    rename_i ds
    obtain ⟨p, xs, rfl, h1, h2⟩ := ry.lst e
    split at hg
    · rename_i hc
      cases hg
      rw [Bool.or_eq_true] at hc
      by_cases hf : (x.flat && ds.all D.flat) = true
      · rw [Bool.and_eq_true] at hf
        exact seq p xs ds rfl (.inl (SqL.of h1)) (h2.mono e) hf.1 hf.2 rfl
      · have hc2 := hc.resolve_left hf
        rw [Bool.and_eq_true] at hc2
        have dx := wx.dp hc2.1
        obtain ⟨as, r1⟩ := Dp.reads I _ _ _ dx qx
        obtain ⟨bs, r2⟩ := Dp.reads I _ _ _ (Dp.lst (SqL.of h1) ((h2.mono e).dp hc2.2)) qy
        have l1 := lays_py 58 ds hc2.2
        have l2 := lay_py 58 x hc2.1
        have d2 := depth_py 58 x hc2.1
        have ek := any_py 58 58 x hc2.1 ds hc2.2
        cases neg with
        | false => exact SeqAt.in_list_reads r2 r1 l1 l2 (by omega) ⟨.bl _, H, I, rfl, by rw [ek]; exact h⟩
        | true => exact SeqAt.notIn_list_reads r2 r1 l1 l2 (by omega) ⟨.bl _, H, I, rfl, by rw [ek]; exact h⟩
    · cases hg
theorem in_ok (hu : X.A.units + 70 < cLine) : OpOk X (compareOp .In) (cmpR .in_) := by
  intro pins s σ F H G1 G2 x y vx vy ux uy r Q I e rx ry qx qy hg h
  obtain ⟨k, hk, rfl⟩ := cmpR_of hg
  simp only [cmpD] at hk
  exact inGen false hu pins s σ F H G1 G2 x y vx vy ux uy k Q I e rx ry qx qy hk (h.bl e)
theorem notin_ok (hu : X.A.units + 70 < cLine) : OpOk X (compareOp .NotIn) (cmpR .notin) := by
  intro pins s σ F H G1 G2 x y vx vy ux uy r Q I e rx ry qx qy hg h
  obtain ⟨k, hk, rfl⟩ := cmpR_of hg
  simp only [cmpD] at hk
  obtain ⟨k', hk2, ek⟩ := Option.map_eq_some_iff.mp hk
  subst ek
  exact inGen true hu pins s σ F H G1 G2 x y vx vy ux uy k' Q I e rx ry qx qy hk2 (h.bl e)
theorem cmp_ok (hu : X.A.units + 70 < cLine) : ∀ o : COp, OpOk X (compareOp (cmpOf o)) (cmpR o)
  | .eq => eq_ok hu | .ne => ne_ok hu | .lt => lt_ok hu | .le => le_ok hu | .gt => gt_ok hu | .ge => ge_ok hu | .is_ => is_ok | .isnt => isnt_ok | .in_ => in_ok hu | .notin => notin_ok hu
end
end PF

/-! Places, cuts, built-in functions and methods, by plain data. -/
namespace PF
open PySem PySem.Spec PyProof.Rows L2
theorem atI_eq {α : Type} (xs : List α) (i : Int) : L2.atI xs i = PF.atI xs i := rfl
theorem VReps.atI {K : PySem.W.Frag} {F : Hp} {ds : List D} {vs : List V} {i : Int} {d : D} (h : VReps K F vs ds) (e : PF.atI ds i = some d) : ∃ v, L2.atI vs i = some v ∧ VRep K F v d := by
  unfold PF.atI at e
  obtain ⟨j, h1, h2⟩ := Option.bind_eq_some_iff.mp e
  obtain ⟨v, h3, h4⟩ := h.get h2
  refine ⟨v, ?_, h4⟩
  rw [atI_eq]
  unfold PF.atI
  rw [h.length, h1]
  exact h3
def ixR (a b : D) : Option Res := (idxD a b).map fun d => (.pl, d)
section
variable {X : Cx}
theorem ix_ok (value slice : PySem.Expr) (pins : List (Addr × Obj)) (s : Shared) (σ : L2.St) (F H G1 G2 : Hp) (x y : Res) (vx vy : V) (ux uy : Value) (r : Res) (Q : VK) (I : Inv X pins σ H s) (e : Ex F H)
    (rx : RRep X.K G1 F H x vx) (ry : RRep X.K G2 F H y vy) (qx : RelV vx ux) (qy : RelV vy uy) (hg : ixR x.2 y.2 = some r) (h : Then X.K F H r Q) (hs : subscripted slice false ux uy = operate [ux, uy] (getItem ux uy)) :
    wpAny (model X.prog X.w) X.A (subscriptTail value slice ux uy) (EP X pins σ Q) X.xe s := by
  obtain ⟨fx, x⟩ := x
  obtain ⟨fy, y⟩ := y
  unfold ixR at hg
  obtain ⟨d, hd, ed⟩ := Option.map_eq_some_iff.mp hg
  subst ed
  clear hg
  by_cases hdc : ∃ lk ks vs, x = .dct lk ks vs
  · obtain ⟨lk, ks, ds, rfl⟩ := hdc
    obtain ⟨p, kvs, o, rfl, h1, h2, h3⟩ := rx.dct e
    simp only [idxD, getD'] at hd
    obtain ⟨g, hg1, hg2⟩ := Option.bind_eq_some_iff.mp hd
    obtain ⟨q, hq1, hq2⟩ := Option.map_eq_some_iff.mp hg1
    have hg2 : g = some d := hg2
    subst hg2
    obtain ⟨v, hv, rv⟩ := (get_V q h2 h3).1 d hq2
    obtain rfl : ux = Value.ref p := qx
    have rd : L2.Rd H p (.dK kvs) := by
      cases lk with
      | false => exact .inl h1
      | true => exact .inr ⟨o, h1⟩
    have ey : vy = kV (kk q) := by
      cases y <;> simp only [D.key] at hq1 <;> try cases hq1
      · cases ry.int; rfl
      · cases ry.str; rfl
    obtain ⟨z, hd, vs, rel, dd⟩ := dk_rd I.hok rd
    obtain ⟨w, hw, rw'⟩ := RelO.some_of (v := v) (o := valueAt vs (kk q)) (by rw [← hv]; exact rel.val _)
    have fin : ∀ tk, EP X pins σ Q w { s with toks := tk } := fun tk => ⟨v, H, I.tok _, rw', h.pl e rv⟩
    refine subscriptTail_builtinR (x := w) dd.typeIs PySem.F.slot_dict_getitem.lookup ?_ hs
    exact wpAny_getItem_of (kV_is (by rw [← ey]; exact qy)) dd.mapOf hw ⟨rfl, fin _⟩
  cases x <;> cases y <;> simp only [idxD] at hd <;> first | (cases hd; done) | (exact absurd ⟨_, _, _, rfl⟩ hdc) | skip
  · rename_i t i
    cases rx.str; cases ry.int
    split at hd
    · rename_i hz
      obtain ⟨c, h1, h2⟩ := Option.map_eq_some_iff.mp hd
      subst h2
      refine ix_str value slice pins s σ H _ _ _ _ Q I qx qy ⟨S t, i, c, rfl, rfl, by rw [S_len]; exact szLine hz, by rw [S_cps]; exact h1, ?_⟩ hs
      exact h.str e
    · cases hd
  · rename_i ds i
    obtain ⟨a, vs, rfl, h1, h2⟩ := rx.tup
    cases ry.int
    obtain ⟨v, h3, h4⟩ := h2.atI hd
    exact ix_tup value slice pins s σ H _ _ _ _ Q I qx qy ⟨a, vs, i, v, rfl, rfl, Evl.ex_t e h1, h3, h.pl e h4⟩ hs
  · rename_i ds i
    obtain ⟨a, vs, rfl, h1, h2⟩ := rx.lst e
    cases ry.int
    obtain ⟨v, h3, h4⟩ := h2.atI hd
    exact ix_list value slice pins s σ H _ _ _ _ Q I qx qy ⟨a, vs, i, v, rfl, rfl, SqL.of h1, h3, h.pl e h4⟩ hs
  · rename_i ns i
    obtain ⟨a, rfl, h1⟩ := rx.scr
    cases ry.int
    obtain ⟨n, h2, h3⟩ := Option.map_eq_some_iff.mp hd
    subst h3
    refine ix_list value slice pins s σ H _ _ _ _ Q I qx qy ⟨a, ns.map V.int, i, .int n, rfl, rfl, Evl.ex_l e h1, ?_, h.int e⟩ hs
    rw [atI_eq]
    unfold PF.atI at h2 ⊢
    rw [List.length_map]
    obtain ⟨j, h4, h5⟩ := Option.bind_eq_some_iff.mp h2
    rw [h4]
    show (ns.map V.int)[j]? = _
    rw [List.getElem?_map, h5]
    rfl
theorem sIx_eq (n d : Nat) (o : Option Int) : HT.sIx n d o = PF.sIx n d o := by
  cases o <;> rfl
theorem cut_V {K : PySem.W.Frag} {F : Hp} {ds : List D} {vs : List V} (h : VReps K F vs ds) (lo hi : Option Int) : VReps K F (cutV vs lo hi) (cut ds lo hi) := by
  unfold cutV cut
  rw [h.length, sIx_eq, sIx_eq]
  exact (h.drop _).take _
theorem cut_S (t : Tx) (lo hi : Option Int) : cutS (S t) lo hi = S (cut t lo hi) := by
  unfold cutS cut
  rw [S_len, S_cps, sIx_eq, sIx_eq]
  rfl
theorem slc_ok (x : Res) (r : Res) (lo hi : Option Int) (F G1 : Hp) (pins : List (Addr × Obj)) (s : Shared) (σ : L2.St) (H : Hp) (vx : V) (v vl vu : Value) (sl : Addr) (Q : VK) (I : Inv X pins σ H s) (e : Ex F H)
    (rx : RRep X.K G1 F H x vx) (qx : RelV vx v) (hs : s.heap.IsSliceOf sl vl vu .none) (pl : IsPart vl lo) (pu : IsPart vu hi) (hg : slcD x.2 lo hi = some r) (h : Then X.K F H r Q) :
    ∃ T id, typeLookup (.type T) "__getitem__" = pure (some (.builtin id)) ∧ s.TypeIs v T ∧ wpAny (model X.prog X.w) X.A (getItem v (.ref sl)) (EP X pins σ Q) X.xe s := by
  obtain ⟨fx, x⟩ := x
  cases x <;> simp only [slcD] at hg <;> try cases hg
  · rename_i t
    cases rx.str
    split at hg
    · rename_i hz
      have er := Option.some.inj hg
      subst er
      refine sl_str pins s σ H _ v vl vu lo hi sl Q I qx hs pl pu ⟨S t, rfl, by rw [S_len]; exact szLine hz, ?_⟩
      rw [cut_S]
      exact h.str e
    · cases hg
  · rename_i ds
    obtain ⟨a, vs, rfl, h1, h2⟩ := rx.tupF
    refine sl_tupA pins s σ H _ v vl vu lo hi sl Q I qx hs pl pu ⟨a, vs, rfl, SqT.of (e _ _ h1), fun hw => ?_, fun _ => h.newT e (cut_V h2 lo hi)⟩
    have ec : cut ds lo hi = ds := by
      unfold cut
      rw [← sIx_eq, ← sIx_eq, ← h2.length, hw.1, hw.2]
      simp [h2.length]
    rw [ec] at h
    exact h.pl e (.tup h1 h2)
  · rename_i ds
    obtain ⟨a, vs, rfl, h1, h2⟩ := rx.lst e
    exact sl_list pins s σ H _ v vl vu lo hi sl Q I qx hs pl pu ⟨a, vs, rfl, SqL.of h1, h.newL e (cut_V h2 lo hi)⟩
end
/-! ### arguments -/
inductive RReps (K : PySem.W.Frag) (G F H : Hp) : List Res → List V → Prop
  | nil : RReps K G F H [] []
  | cons {r : Res} {rs : List Res} {v : V} {vs : List V} : RRep K G F H r v → RReps K G F H rs vs → RReps K G F H (r :: rs) (v :: vs)
theorem RReps.grow {K : PySem.W.Frag} {G F H F' H' : Hp} {rs : List Res} {vs : List V} (h : RReps K G F H rs vs) (g : Grow F H F' H') : RReps K G F' H' rs vs := by
  induction h with
  | nil => exact .nil
  | cons h1 _ ih => exact .cons (h1.grow g) ih
theorem RReps.older {K : PySem.W.Frag} {G G' F H : Hp} {rs : List Res} {vs : List V} (h : RReps K G' F H rs vs) (g : Ex G G') : RReps K G F H rs vs := by
  induction h with
  | nil => exact .nil
  | cons h1 _ ih => exact .cons (h1.older g) ih
theorem maxI_spec : ∀ {ns : List Int} {m : Int}, maxI ns = some m → m ∈ ns ∧ ∀ y ∈ ns, y ≤ m
  | [], m, h => by simp [maxI] at h
  | [x], m, h => by simp [maxI] at h; subst h; simp
  | x :: z :: r, m, h => by
    simp only [maxI] at h
    obtain ⟨m', h1, h2⟩ := Option.map_eq_some_iff.mp h
    obtain ⟨h3, h4⟩ := maxI_spec (ns := z :: r) h1
    by_cases hx : m' > x
    · rw [if_pos hx] at h2
      subst h2
      refine ⟨List.mem_cons_of_mem _ h3, fun y hy => ?_⟩
      rcases List.mem_cons.mp hy with e | hy
      · omega
      · exact h4 y hy
    · rw [if_neg hx] at h2
      subst h2
      refine ⟨List.mem_cons_self, fun y hy => ?_⟩
      rcases List.mem_cons.mp hy with e | hy
      · omega
      · have := h4 y hy; omega
theorem minI_spec : ∀ {ns : List Int} {m : Int}, minI ns = some m → m ∈ ns ∧ ∀ y ∈ ns, m ≤ y
  | [], m, h => by simp [minI] at h
  | [x], m, h => by simp [minI] at h; subst h; simp
  | x :: z :: r, m, h => by
    simp only [minI] at h
    obtain ⟨m', h1, h2⟩ := Option.map_eq_some_iff.mp h
    obtain ⟨h3, h4⟩ := minI_spec (ns := z :: r) h1
    by_cases hx : m' < x
    · rw [if_pos hx] at h2
      subst h2
      refine ⟨List.mem_cons_of_mem _ h3, fun y hy => ?_⟩
      rcases List.mem_cons.mp hy with e | hy
      · omega
      · exact h4 y hy
    · rw [if_neg hx] at h2
      subst h2
      refine ⟨List.mem_cons_self, fun y hy => ?_⟩
      rcases List.mem_cons.mp hy with e | hy
      · omega
      · have := h4 y hy; omega
/-! ### dicts: read, open or shut -/
theorem rd_hoT {H : Hp} {a : Addr} {lk : Bool} {o : Obj} {kvs : List (List L2.Key × V)} (h : H a = some (hoT lk o kvs)) : L2.Rd H a (.dT kvs) := by
  cases lk with
  | false => exact .inl h
  | true => exact .inr ⟨o, h⟩
theorem tk_V {K : PySem.W.Frag} {F : Hp} : ∀ k : List Ke, VReps K F ((k.map kk).map kV) (k.map Ke.d)
  | [] => .nil
  | .i n :: k => .cons (.int n) (tk_V k)
  | .s t :: k => .cons (.str t) (tk_V k)
theorem keysT_V {K : PySem.W.Frag} {F H : Hp} (tp : TupIn F H) : ∀ {kvs : List (List L2.Key × V)} {bs : List Addr} {ks : List (List Ke)}, IsKeys H kvs bs → kvs.map (·.1) = ks.map (List.map kk) → VReps K F (bs.map V.ref) (ks.map Tk.d)
  | [], bs, ks, h, e => by
    have e2 : ks = [] := by simpa using e.symm
    subst e2
    cases h
    exact .nil
  | (q, v) :: kvs, bs, [], h, e => by cases e
  | (q, v) :: kvs, bs, k :: ks, h, e => by
    rw [List.map_cons, List.map_cons] at e
    injection e with e1 e2
    cases h with
    | cons h1 h2 =>
      have h1 : H _ = some (.tup (q.map kV)) := h1
      rw [show q = k.map kk from e1] at h1
      exact .cons (.tup (tp _ _ h1) (tk_V k)) (keysT_V tp h2 e2)
theorem rd_hoD {H : Hp} {a : Addr} {lk : Bool} {o : Obj} {kvs : List (L2.Key × V)} (h : H a = some (hoD lk o kvs)) : L2.Rd H a (.dK kvs) := by
  cases lk with
  | false => exact .inl h
  | true => exact .inr ⟨o, h⟩
theorem keys_V (ks : List Ke) {K : PySem.W.Frag} {F : Hp} : VReps K F ((ks.map kk).map kV) (ks.map Ke.d) := by
  induction ks with
  | nil => exact .nil
  | cons k ks ih =>
    cases k with
    | i n => exact .cons (.int n) ih
    | s t => exact .cons (.str t) ih
section
variable {X : Cx} {pins : List (Addr × Obj)} {s : Shared} {σ : L2.St} {H : Hp} {a : Addr} {kvs : List (L2.Key × V)} {Q : VK}
/-- list(d), whether the dict is open or shut -/
theorem listD_ok (hc : X.calm = true) (I : Inv X pins σ H s) (e : L2.Rd H a (.dK kvs)) (h : ∀ q, H q = none → Q (.ref q) (upd H q (.lst ((kvs.map (·.1)).map kV)))) :
    wpAny (model X.prog X.w) X.A (call (.type "list") [.ref a]) (EP X pins σ Q) X.xe s := by
  obtain ⟨hz, hs, vs, rel, dof⟩ := dk_rd I.hok e
  obtain ⟨ep, dat⟩ := dof.dictAt
  have hl := rel.length
  have hz' : vs.length ≤ sizeLine := hl ▸ hz
  have src := PySem.W.kdl_dict (prog := X.prog) (w := X.w) (knd := mixKind X.prog X.w) (kvs := vs) (ep := ep) hs
  refine PySem.W.kdl_call src (I.ok.hd hc) dat hz' fun h' tk acc cap keep isl got => ?_
  have fresh : H s.heap.objs.size = none := I.hok.fresh (Nat.le_refl _)
  have el : acc.toList.length = acc.size := by simp
  have hv : Vals ((kvs.map (·.1)).map kV) acc.toList := by
    refine vals_of_at (by rw [List.length_map, List.length_map, el, got.1, hl]) fun j x u hx hu => ?_
    obtain ⟨k, y, hky, hi⟩ := got.2 j u (by rw [← Array.getElem?_toList]; exact hu)
    rw [rel.keys, List.getElem?_map, List.getElem?_map, hky] at hx
    cases hx
    exact keyIs_rel hi
  have obj : ObjOk X.prog X.w (upd H s.heap.objs.size (.lst ((kvs.map (·.1)).map kV))) h' s.heap.objs.size (.lst ((kvs.map (·.1)).map kV)) := by
    refine ⟨by rw [List.length_map, List.length_map]; exact hz, acc.toList, cap, hv, ?_⟩
    rw [Array.toArray_toList]
    exact isl
  exact ⟨.ref s.heap.objs.size, _, I.laid keep (Nat.le_refl _) obj, rfl, h _ fresh⟩
theorem lenD_ok (I : Inv X pins σ H s) (e : L2.Rd H a (.dK kvs)) (h : Q (.int kvs.length) H) : wpAny (model X.prog X.w) X.A (call (.builtin "len") [.ref a]) (EP X pins σ Q) X.xe s :=
  d_len I e fun t s' I' => ⟨.int kvs.length, H, I', ⟨t, rfl⟩, h⟩
end
section
variable {X : Cx} {pins : List (Addr × Obj)} {σ : L2.St} {H : Hp} {s : Shared} {a : Addr} {Q : VK}
theorem lenT_ok {kvs : List (List L2.Key × V)} (I : Inv X pins σ H s) (e : L2.Rd H a (.dT kvs)) (h : Q (.int kvs.length) H) : wpAny (model X.prog X.w) X.A (call (.builtin "len") [.ref a]) (EP X pins σ Q) X.xe s := by
  obtain ⟨small, notSys, zs, pairs, held⟩ := dt_rd I.hok e
  have same : kvs.length = zs.length := Paired.length pairs
  have fits : (zs.length : Int) < 2 ^ 63 := by
    have := small
    rw [sizeLine_eq, same] at this
    omega
  refine call_len_dictH notSys held fits ?_
  exact ⟨.int (kvs.length : Nat), H, I.tok _, ⟨_, by rw [same]⟩, h⟩
end
/-- the built-in function as a value; isinstance has its own form -/
def biVal : Bi → Value
  | .len => .builtin "len" | .abs => .builtin "abs" | .int => .type "int" | .list => .type "list" | .tuple => .type "tuple" | .sum => .builtin "sum" | .max => .builtin "max" | .min => .builtin "min"
  | .sorted => .builtin "sorted" | .any => .builtin "any" | .all => .builtin "all" | .str => .type "str" | .isin _ => .none | .sortK => .none | .best _ => .none | .bestd _ => .none | .gcd => .builtin "math.gcd"
def Bi.plain : Bi → Bool
  | .isin _ => false | .sorted => false | .sortK => false | .best _ => false | .bestd _ => false | _ => true
section
variable {X : Cx}
theorem one_arg {K : PySem.W.Frag} {G F H : Hp} {r : Res} {vs : List V} (h : RReps K G F H [r] vs) : ∃ v, vs = [v] ∧ RRep K G F H r v := by
  cases h with
  | cons h1 h2 => cases h2; exact ⟨_, rfl, h1⟩
theorem two_args {K : PySem.W.Frag} {G F H : Hp} {r r' : Res} {vs : List V} (h : RReps K G F H [r, r'] vs) : ∃ v v', vs = [v, v'] ∧ RRep K G F H r v ∧ RRep K G F H r' v' := by
  cases h with
  | cons h1 h2 =>
    obtain ⟨v', rfl, h3⟩ := one_arg h2
    exact ⟨_, _, rfl, h1, h3⟩
theorem bi_one (hc : X.calm = true) (f : Bi) (hp : f.plain = true) (pins : List (Addr × Obj)) (s : Shared) (σ : L2.St) (F H G : Hp) (x : Res) (vx : V) (us : List Value) (r : Res) (Q : VK) (I : Inv X pins σ H s) (e : Ex F H) (tp : TupIn F H)
    (rx : RRep X.K G F H x vx) (qx : Vals [vx] us) (hg : builtin f [x.2] = some r) (h : Then X.K F H r Q) : wpAny (model X.prog X.w) X.A (call (biVal f) us) (EP X pins σ Q) X.xe s := by
  obtain ⟨fx, x⟩ := x
  simp only at hg
  cases f <;> first | (cases hp; done) | skip
  all_goals (cases x <;> simp only [builtin] at hg <;> try cases hg)
  · -- len of a text
    rename_i t
    cases rx.str
    split at hg
    · rename_i hz
      have er := Option.some.inj hg
      subst er
      refine call_len_str pins s σ H _ us Q I qx ⟨S t, rfl, by rw [S_len]; exact szLine hz, ?_⟩
      rw [S_len]
      exact h.int e
    · cases hg
  · obtain ⟨a, vs, rfl, h1, h2⟩ := rx.tup
    refine call_len_seq pins s σ H _ us Q I qx ⟨a, vs, rfl, .inr (Evl.ex_t e h1), ?_⟩
    rw [h2.length]
    exact h.int e
  · obtain ⟨a, vs, rfl, h1, h2⟩ := rx.lst e
    refine call_len_seq pins s σ H _ us Q I qx ⟨a, vs, rfl, .inl (SqL.of h1), ?_⟩
    rw [h2.length]
    exact h.int e
  · obtain ⟨a, kvs, o, rfl, h1, h2, h3⟩ := rx.dct e
    obtain ⟨u, rfl, ru⟩ := vals1 qx
    cases ru
    refine lenD_ok I (rd_hoD h1) ?_
    have hl := congrArg List.length h2
    rw [List.length_map, List.length_map] at hl
    rw [hl]
    exact h.int e
  · obtain ⟨a, kvs, o, rfl, h1, h2, h3⟩ := rx.dtt e
    obtain ⟨u, rfl, ru⟩ := vals1 qx
    cases ru
    refine lenT_ok I (rd_hoT h1) ?_
    have hl := congrArg List.length h2
    rw [List.length_map, List.length_map] at hl
    rw [hl]
    exact h.int e
  · obtain ⟨a, rfl, h1⟩ := rx.scr
    refine call_len_seq pins s σ H _ us Q I qx ⟨a, _, rfl, .inl (Evl.ex_l e h1), ?_⟩
    rw [List.length_map]
    exact h.int e
  · cases rx.int
    exact call_abs pins s σ H _ us Q I qx ⟨_, rfl, h.int e⟩
  · cases rx.bl
    exact call_int1 pins s σ H _ us Q I qx (.inr ⟨_, rfl, h.int e⟩)
  · cases rx.int
    exact call_int1 pins s σ H _ us Q I qx (.inl ⟨_, rfl, h.int e⟩)
  · obtain ⟨a, vs, rfl, h1, h2⟩ := rx.tup
    exact call_list_of pins s σ H _ us Q I qx ⟨a, vs, rfl, .inr (Evl.ex_t e h1), h.newL e h2⟩
  · obtain ⟨a, vs, rfl, h1, h2⟩ := rx.lst e
    exact call_list_of pins s σ H _ us Q I qx ⟨a, vs, rfl, .inl (SqL.of h1), h.newL e h2⟩
  · obtain ⟨a, kvs, o, rfl, h1, h2, h3⟩ := rx.dct e
    obtain ⟨u, rfl, ru⟩ := vals1 qx
    cases ru
    refine listD_ok hc I (rd_hoD h1) ?_
    rw [h2]
    exact h.newL e (keys_V _)
  · obtain ⟨a, kvs, o, rfl, h1, h2, h3⟩ := rx.dtt e
    refine call_list_dT hc pins s σ H _ us Q I qx ⟨a, kvs, rfl, rd_hoT h1, fun p bs hp hk => ?_⟩
    exact h.newL e (keysT_V tp hk h2) p hp
  · obtain ⟨a, vs, rfl, h1, h2⟩ := rx.tupF
    exact call_tuple_of pins s σ H _ us Q I qx ⟨a, vs, rfl, .inr ⟨SqT.of (e _ _ h1), h.pl e (.tup h1 h2)⟩⟩
  · obtain ⟨a, vs, rfl, h1, h2⟩ := rx.lst e
    exact call_tuple_of pins s σ H _ us Q I qx ⟨a, vs, rfl, .inl ⟨SqL.of h1, h.newT e h2⟩⟩
  · obtain ⟨a, vs, rfl, h1, h2⟩ := rx.lst e
    obtain ⟨ns, h3, h4⟩ := Option.map_eq_some_iff.mp hg
    subst h4
    have ev := h2.ints h3
    subst ev
    exact cr_sum hc pins s σ H _ us Q I qx ⟨a, ns, rfl, SqL.of h1, h.int e⟩
  · obtain ⟨a, rfl, h1⟩ := rx.scr
    exact cr_sum hc pins s σ H _ us Q I qx ⟨a, _, rfl, Evl.ex_l e h1, h.int e⟩
  · obtain ⟨a, vs, rfl, h1, h2⟩ := rx.lst e
    obtain ⟨m, h3, h4⟩ := Option.map_eq_some_iff.mp hg
    obtain ⟨ns, h5, h6⟩ := Option.bind_eq_some_iff.mp h3
    subst h4
    have ev := h2.ints h5
    subst ev
    obtain ⟨h7, h8⟩ := maxI_spec h6
    refine cr_max hc pins s σ H _ us Q I qx ⟨a, ns, rfl, SqL.of h1, List.length_pos_of_mem h7, fun m' hm hle => ?_⟩
    have em : m' = m := Int.le_antisymm (h8 m' hm) (hle m h7)
    rw [em]
    exact h.int e
  · obtain ⟨a, vs, rfl, h1, h2⟩ := rx.lst e
    obtain ⟨m, h3, h4⟩ := Option.map_eq_some_iff.mp hg
    obtain ⟨ns, h5, h6⟩ := Option.bind_eq_some_iff.mp h3
    subst h4
    have ev := h2.ints h5
    subst ev
    obtain ⟨h7, h8⟩ := minI_spec h6
    refine cr_min hc pins s σ H _ us Q I qx ⟨a, ns, rfl, SqL.of h1, List.length_pos_of_mem h7, fun m' hm hle => ?_⟩
    have em : m' = m := Int.le_antisymm (hle m h7) (h8 m' hm)
    rw [em]
    exact h.int e
  · obtain ⟨a, vs, rfl, h1, h2⟩ := rx.lst e
    obtain ⟨ns, h3, h4⟩ := Option.map_eq_some_iff.mp hg
    subst h4
    have ev := h2.bls h3
    subst ev
    exact cr_any hc pins s σ H _ us Q I qx ⟨a, ns, rfl, SqL.of h1, h.bl e⟩
  · obtain ⟨a, vs, rfl, h1, h2⟩ := rx.lst e
    obtain ⟨ns, h3, h4⟩ := Option.map_eq_some_iff.mp hg
    subst h4
    have ev := h2.bls h3
    subst ev
    exact cr_all hc pins s σ H _ us Q I qx ⟨a, ns, rfl, SqL.of h1, h.bl e⟩
theorem bi_two (hc : X.calm = true) (f : Bi) (hp : f.plain = true) (pins : List (Addr × Obj)) (s : Shared) (σ : L2.St) (F H G : Hp) (x y : Res) (vx vy : V) (us : List Value) (r : Res) (Q : VK) (I : Inv X pins σ H s) (e : Ex F H)
    (rx : RRep X.K G F H x vx) (ry : RRep X.K G F H y vy) (qx : Vals [vx, vy] us) (hg : builtin f [x.2, y.2] = some r) (h : Then X.K F H r Q) : wpAny (model X.prog X.w) X.A (call (biVal f) us) (EP X pins σ Q) X.xe s := by
  obtain ⟨fx, x⟩ := x
  obtain ⟨fy, y⟩ := y
  simp only at hg
  cases f <;> first | (cases hp; done) | skip
  all_goals (cases x <;> cases y <;> simp only [builtin] at hg <;> try cases hg)
  · cases rx.int; cases ry.int
    exact call_max2 hc pins s σ H _ us Q I qx ⟨_, _, rfl, h.int e⟩
  · cases rx.int; cases ry.int
    exact call_min2 hc pins s σ H _ us Q I qx ⟨_, _, rfl, h.int e⟩
  · cases rx.int; cases ry.int
    exact cr_gcd pins s σ H _ us Q I qx ⟨_, _, rfl, h.int e⟩
theorem bi_ok (hc : X.calm = true) (f : Bi) (hp : f.plain = true) (pins : List (Addr × Obj)) (s : Shared) (σ : L2.St) (F H G : Hp) (rs : List Res) (vs : List V) (us : List Value) (r : Res) (Q : VK) (I : Inv X pins σ H s) (e : Ex F H) (tp : TupIn F H)
    (rx : RReps X.K G F H rs vs) (qx : Vals vs us) (hg : builtin f (rs.map (·.2)) = some r) (h : Then X.K F H r Q) : wpAny (model X.prog X.w) X.A (call (biVal f) us) (EP X pins σ Q) X.xe s := by
  match rs, rx with
  | [], _ => cases f <;> simp [builtin] at hg
  | [x], rx =>
    obtain ⟨v, rfl, h1⟩ := one_arg rx
    exact bi_one hc f hp pins s σ F H G x v us r Q I e tp h1 qx hg h
  | [x, y], rx =>
    obtain ⟨v, v', rfl, h1, h2⟩ := two_args rx
    exact bi_two hc f hp pins s σ F H G x y v v' us r Q I e h1 h2 qx hg h
  | x :: y :: z :: w, _ => cases f <;> simp [builtin] at hg
def tyName : Ty → String
  | .int => "int" | .bool => "bool" | .str => "str" | .list => "list" | .tuple => "tuple" | .dict => "dict" | .any => ""
def dTy : D → String
  | .non => "NoneType" | .bl _ => "bool" | .int _ => "int" | .str _ => "str" | .tup _ => "tuple" | .lst _ => "list" | .dct _ _ _ => "" | .dtt _ _ _ => "" | .scr _ => ""
theorem tyX_of {K : PySem.W.Frag} {H : Hp} {d : D} {v : V} (h : VRep K H v d) (h0 : dTy d ≠ "") : TyX K H v (.type (dTy d)) := by
  cases h with
  | non => exact .base .non
  | bl b => exact .base (.bl b)
  | int i => exact .base (.int i)
  | str s => exact .base (.str _)
  | tup h1 _ => exact .base (.tup h1)
  | lst h1 _ => exact .base (.lst h1)
  | @dct a kvs lk ks ds o h1 _ _ => exact absurd rfl h0
  | @dtt a kvs lk ks ds o h1 _ _ => exact absurd rfl h0
  | scr _ => exact absurd rfl h0
/-- isinstance(x, T) -/
theorem isin_ok (t : Ty) (pins : List (Addr × Obj)) (s : Shared) (σ : L2.St) (F H G : Hp) (x : Res) (vx : V) (us : List Value) (r : Res) (Q : VK) (I : Inv X pins σ H s) (e : Ex F H)
    (rx : RRep X.K G F H x vx) (qx : Vals [vx, .ty (tyName t)] us) (hg : builtin (.isin t) [x.2] = some r) (h : Then X.K F H r Q) : wpAny (model X.prog X.w) X.A (call (.builtin "isinstance") us) (EP X pins σ Q) X.xe s := by
  have wx := rx.weak e
  obtain ⟨fx, x⟩ := x
  simp only [builtin] at hg wx
  obtain ⟨k, h1, h2⟩ := Option.map_eq_some_iff.mp hg
  subst h2
  cases t <;> cases x <;> simp only [isTy] at h1 <;> first
    | (cases h1
       refine call_isi pins s σ H _ us Q I qx ⟨vx, _, _, _, _, rfl, .ty _, tyX_of wx (by simp only [dTy]; decide), kit_ty ?_, h.bl e⟩
       simp only [dTy, tyName]
       decide +kernel)
    | (cases h1; done)
end
end PF

/-! Methods, by plain data. -/
namespace PF
open PySem PySem.Spec PyProof.Rows L2
theorem join_S (sep : Tx) : ∀ xs : List Tx, PySem.Str.join (S sep) (xs.map S) = S (joinTx sep xs)
  | [] => rfl
  | [x] => rfl
  | x :: y :: r => by
    show S x ++ S sep ++ PySem.Str.join (S sep) ((y :: r).map S) = S (x ++ sep ++ joinTx sep (y :: r))
    rw [join_S sep (y :: r), S_app, S_app]
theorem firstAt_spec {x : D} : ∀ {ds : List D} {j : Nat}, firstAt x ds = some j → (∃ z, ds[j]? = some z ∧ D.eqv z x = true) ∧ ∀ (m : Nat) (z : D), m < j → ds[m]? = some z → D.eqv z x = false
  | [], j, h => by simp [firstAt] at h
  | y :: r, j, h => by
    simp only [firstAt] at h
    by_cases hy : D.eqv y x = true
    · rw [if_pos hy] at h
      cases h
      exact ⟨⟨y, rfl, hy⟩, fun m z hm => absurd hm (Nat.not_lt_zero _)⟩
    · rw [if_neg hy] at h
      obtain ⟨k, h1, h2⟩ := Option.map_eq_some_iff.mp h
      subst h2
      obtain ⟨⟨z, h3, h4⟩, h5⟩ := firstAt_spec h1
      refine ⟨⟨z, by simpa using h3, h4⟩, fun m z hm hz => ?_⟩
      cases m with
      | zero =>
        simp at hz
        subst hz
        simpa using hy
      | succ m => exact h5 m z (by omega) (by simpa using hz)
def mtName : Mt → PySem.Str
  | .join => "join" | .sindex => "index" | .lindex => "index"
section
variable {X : Cx}
theorem join_ok (pins : List (Addr × Obj)) (s : Shared) (σ : L2.St) (F H G1 G2 : Hp) (x y : Res) (vx vy : V) (v : Value) (us : List Value) (r : Res) (Q : VK) (I : Inv X pins σ H s) (e : Ex F H)
    (rx : RRep X.K G1 F H x vx) (ry : RRep X.K G2 F H y vy) (qx : RelV vx v) (qy : Vals [vy] us) (hg : method .join x.2 [y.2] = some r) (h : Then X.K F H r Q) :
    (∃ a, vx = .str a) ∧ wpAny (model X.prog X.w) X.A (call (.builtin "str.join") (v :: us)) (EP X pins σ Q) X.xe s := by
  obtain ⟨fx, x⟩ := x
  obtain ⟨fy, y⟩ := y
  cases x <;> cases y <;> simp only [method] at hg <;> try cases hg
  · rename_i sep ds
    cases rx.str
    obtain ⟨a, vs, rfl, h1, h2⟩ := ry.tup
    obtain ⟨xs, h3, h4⟩ := Option.bind_eq_some_iff.mp hg
    split at h4
    · rename_i hz
      have er := Option.some.inj h4
      subst er
      have ev := h2.strs h3
      subst ev
      refine ⟨⟨_, rfl⟩, mt_join pins s σ H _ _ v us Q I qx qy ⟨S sep, a, xs.map S, rfl, rfl, .inr (Evl.ex_t e h1), ?_, ?_⟩⟩
      · have e1 : (xs.map S).map (·.length) = xs.map List.length := by
          rw [List.map_map]
          exact List.map_congr_left fun t _ => S_len t
        rw [e1, List.length_map, S_len]
        have := szLine hz
        rw [sizeLine_eq] at this
        exact this
      · have e2 : Txt.join (S sep) (xs.map S) = S (joinTx sep xs) := by
          show PySem.Builtin.Str.glued (S sep) (xs.map S) = _
          rw [PySem.StrLaws.glued_eq_join, join_S]
        rw [e2]
        exact h.str e
    · cases h4
  · rename_i sep ds
    cases rx.str
    obtain ⟨a, vs, rfl, h1, h2⟩ := ry.lst e
    obtain ⟨xs, h3, h4⟩ := Option.bind_eq_some_iff.mp hg
    split at h4
    · rename_i hz
      have er := Option.some.inj h4
      subst er
      have ev := h2.strs h3
      subst ev
      refine ⟨⟨_, rfl⟩, mt_join pins s σ H _ _ v us Q I qx qy ⟨S sep, a, xs.map S, rfl, rfl, .inl (SqL.of h1), ?_, ?_⟩⟩
      · have e1 : (xs.map S).map (·.length) = xs.map List.length := by
          rw [List.map_map]
          exact List.map_congr_left fun t _ => S_len t
        rw [e1, List.length_map, S_len]
        have := szLine hz
        rw [sizeLine_eq] at this
        exact this
      · have e2 : Txt.join (S sep) (xs.map S) = S (joinTx sep xs) := by
          show PySem.Builtin.Str.glued (S sep) (xs.map S) = _
          rw [PySem.StrLaws.glued_eq_join, join_S]
        rw [e2]
        exact h.str e
    · cases h4
theorem occ_abc : ∀ c : Nat, c = 97 ∨ c = 98 ∨ c = 99 → Builtin.Str.occurrences (S [97, 98, 99]) (S [c]) 0 (S [97, 98, 99]).length 1 = [c - 97] := by
  rintro c (rfl | rfl | rfl) <;> decide +kernel
theorem sindex_ok (pins : List (Addr × Obj)) (s : Shared) (σ : L2.St) (F H G1 G2 : Hp) (x y : Res) (vx vy : V) (v : Value) (us : List Value) (r : Res) (Q : VK) (I : Inv X pins σ H s) (e : Ex F H)
    (rx : RRep X.K G1 F H x vx) (ry : RRep X.K G2 F H y vy) (qx : RelV vx v) (qy : Vals [vy] us) (hg : method .sindex x.2 [y.2] = some r) (h : Then X.K F H r Q) :
    (∃ a, vx = .str a) ∧ wpAny (model X.prog X.w) X.A (call (.builtin "str.index") (v :: us)) (EP X pins σ Q) X.xe s := by
  obtain ⟨fx, x⟩ := x
  obtain ⟨fy, y⟩ := y
  unfold method at hg
  split at hg <;> first | cases hg | skip
  all_goals (rename_i e1 e2 e3)
  all_goals first | (cases e1; done) | skip
  · rename_i c
    simp only at e2 e3
    subst e2
    cases e3
    cases rx.str; cases ry.str
    have fin : ∀ k : Nat, c = k + 97 → (c = 97 ∨ c = 98 ∨ c = 99) → Then X.K F H (.pl, .int (k : Nat)) Q → wpAny (model X.prog X.w) X.A (call (.builtin "str.index") (v :: us)) (EP X pins σ Q) X.xe s := fun k hk h3 h => by
      refine mt_sindex pins s σ H _ _ v us Q I qx qy ⟨_, _, k, [], rfl, rfl, ?_, h.int e⟩
      rw [occ_abc c h3, hk, Nat.add_sub_cancel]
    refine ⟨⟨_, rfl⟩, ?_⟩
    split at hg
    · rename_i h1
      cases hg
      exact fin 0 h1 (.inl h1) h
    · split at hg
      · rename_i h1
        cases hg
        exact fin 1 h1 (.inr (.inl h1)) h
      · split at hg
        · rename_i h1
          cases hg
          exact fin 2 h1 (.inr (.inr h1)) h
        · cases hg
end
end PF

/-! The frame: names' data against slots and heap; readings of the core language. -/
namespace PF
open PySem PySem.Spec PyProof.Rows L2
abbrev SlotOk (K : PySem.W.Frag) (H0 F H : Hp) (v : V) : Bool → D → Prop
  | true, d => Own K F H v d ∧ ∃ a, v = .ref a ∧ H0 a = none
  | false, d => VRep K F v d
structure FrI (K : PySem.W.Frag) (F0 H0 F H : Hp) (env : Env) (σ : L2.St) : Prop where
  gr : Grow F0 H0 F H
  len : env.length = σ.length
  sl : ∀ (i : Nat) (o : Bool) (d : D), env[i]? = some (some (o, d)) → ∃ v, σ[i]? = some (some v) ∧ SlotOk K H0 F H v o d
  ds : ∀ (i j : Nat) (di dj : D) (v : V), i ≠ j → env[i]? = some (some (true, di)) → env[j]? = some (some (true, dj)) → σ[i]? = some (some v) → σ[j]? ≠ some (some v)
  tp0 : TupIn F0 H0
section
variable {K : PySem.W.Frag} {F0 H0 F H F' H' G : Hp} {env env' : Env} {σ σ' : L2.St}
theorem SlotOk.grow {v : V} {o : Bool} {d : D} (h : SlotOk K H0 F H v o d) (g : Grow F H F' H') : SlotOk K H0 F' H' v o d := by
  cases o with
  | true => exact ⟨h.1.grow g, h.2⟩
  | false => exact VRep.mono g.ff h
theorem FrI.tp (f : FrI K F0 H0 F H env σ) : TupIn F H := f.gr.tp f.tp0
theorem FrI.ex (f : FrI K F0 H0 F H env σ) : Ex F H := f.gr.fh
theorem FrI.grow (f : FrI K F0 H0 F H env σ) (g : Grow F H F' H') : FrI K F0 H0 F' H' env σ :=
  ⟨f.gr.trans g, f.len, fun i o d h => let ⟨v, h1, h2⟩ := f.sl i o d h; ⟨v, h1, h2.grow g⟩, f.ds, f.tp0⟩
theorem FrI.var (f : FrI K F0 H0 F H env σ) {i : Nat} {o : Bool} {d : D} (h : env[i]? = some (some (o, d))) : ∃ v, σ[i]? = some (some v) ∧ RRep K G F H (if o then .bo else .pl, d) v := by
  obtain ⟨v, h1, h2⟩ := f.sl i o d h
  refine ⟨v, h1, ?_⟩
  cases o with
  | true => exact h2.1
  | false => exact h2
/-- a slot forgotten -/
theorem FrI.wipe1 (f : FrI K F0 H0 F H env σ) (j : Nat) : FrI K F0 H0 F H (env.set j none) (σ.set j none) := by
  refine ⟨f.gr, by simp [f.len], fun i o d h => ?_, fun i k di dk v hik hi hk hv => ?_, f.tp0⟩
  · by_cases e : j = i
    · subst e
      rw [List.getElem?_set] at h
      simp at h
    · rw [List.getElem?_set_ne e] at h ⊢
      exact f.sl i o d h
  · have ei : j ≠ i := fun e => by
      subst e
      rw [List.getElem?_set] at hi
      simp at hi
    have ek : j ≠ k := fun e => by
      subst e
      rw [List.getElem?_set] at hk
      simp at hk
    rw [List.getElem?_set_ne ei] at hi hv
    rw [List.getElem?_set_ne ek] at hk ⊢
    exact f.ds i k di dk v hik hi hk hv
theorem FrI.wipe (f : FrI K F0 H0 F H env σ) : ∀ js : List Nat, FrI K F0 H0 F H (wipeE env js) (wipe σ js)
  | [] => f
  | j :: js => (FrI.wipe f js).wipe1 j
/-- everybody's object stored -/
theorem FrI.setP (f : FrI K F0 H0 F H env σ) {j : Nat} {d : D} {v : V} (r : VRep K F v d) : FrI K F0 H0 F H (env.set j (some (false, d))) (σ.set j (some v)) := by
  refine ⟨f.gr, by simp [f.len], fun i o d' h => ?_, fun i k di dk u hik hi hk hv => ?_, f.tp0⟩
  · by_cases e : j = i
    · subst e
      rw [List.getElem?_set] at h
      simp at h
      obtain ⟨h1, h2, h3⟩ := h
      subst h2 h3
      refine ⟨v, ?_, r⟩
      rw [List.getElem?_set]
      simp [← f.len, h1]
    · rw [List.getElem?_set_ne e] at h ⊢
      exact f.sl i o d' h
  · have ei : j ≠ i := fun e => by
      subst e
      rw [List.getElem?_set] at hi
      simp at hi
    have ek : j ≠ k := fun e => by
      subst e
      rw [List.getElem?_set] at hk
      simp at hk
    rw [List.getElem?_set_ne ei] at hi hv
    rw [List.getElem?_set_ne ek] at hk ⊢
    exact f.ds i k di dk u hik hi hk hv
/-- a new object stored -/
theorem FrI.setN (f : FrI K F0 H0 F H env σ) (g : Grow F H F' H') {j : Nat} {d : D} {v : V} (r : RRep K H F' H' (.fr, d) v) : FrI K F0 H0 F' H' (env.set j (some (true, d))) (σ.set j (some v)) := by
  have f' := f.grow g
  obtain ⟨ro, a, rfl, ra⟩ := r
  have old : ∀ (i : Nat) (di : D), env[i]? = some (some (true, di)) → σ[i]? ≠ some (some (.ref a)) := fun i di hi hv => by
    obtain ⟨u, h1, ⟨b, w, rfl, _, hb, _⟩, _⟩ := f.sl i true di hi
    rw [h1] at hv
    cases hv
    rw [hb] at ra
    cases ra
  refine ⟨f'.gr, by simp [f.len], fun i o d' h => ?_, fun i k di dk u hik hi hk hv => ?_, f.tp0⟩
  · by_cases e : j = i
    · subst e
      rw [List.getElem?_set] at h
      simp at h
      obtain ⟨h1, h2, h3⟩ := h
      subst h2 h3
      refine ⟨.ref a, ?_, ro, a, rfl, exNone f.gr.hh ra⟩
      rw [List.getElem?_set]
      simp [← f.len, h1]
    · rw [List.getElem?_set_ne e] at h ⊢
      exact f'.sl i o d' h
  · by_cases ei : j = i
    · subst ei
      have ek : j ≠ k := hik
      rw [List.getElem?_set_ne ek] at hk ⊢
      rw [List.getElem?_set] at hv
      simp at hv
      obtain ⟨_, rfl⟩ := hv
      exact old k dk hk
    · rw [List.getElem?_set_ne ei] at hi hv
      by_cases ek : j = k
      · subst ek
        rw [List.getElem?_set]
        intro z
        simp at z
        obtain ⟨_, rfl⟩ := z
        exact old i di hi hv
      · rw [List.getElem?_set_ne ek] at hk ⊢
        exact f.ds i k di dk u hik hi hk hv
theorem FrI.setR (f : FrI K F0 H0 F H env σ) (g : Grow F H F' H') {j : Nat} {x : Res} {v : V} (r : RRep K H F' H' x v) (nb : x.1.isBo = false) : FrI K F0 H0 F' H' (env.set j (some (decide (x.1 = .fr), x.2))) (σ.set j (some v)) := by
  obtain ⟨fl, d⟩ := x
  cases fl with
  | pl => exact (f.grow g).setP r
  | bo => cases nb
  | fr => exact f.setN g r
/-- a name's own made everybody's -/
theorem FrI.freeze1 (f : FrI K F0 H0 F H env σ) (j : Nat) : ∃ F', FrI K F0 H0 F' H (freeze env j) σ ∧ Ex F F' := by
  unfold freeze
  split
  · rename_i d he
    obtain ⟨v, h1, ⟨a, w, rfl, h2, h3, h4⟩, b, h5, h6⟩ := f.sl j true d he
    cases h5
    have eF : Ex F (upd F a w) := exUpd h2
    have eH : Ex (upd F a w) H := fun x u q => by
      by_cases hb : x = a
      · subst hb
        rw [upd_same] at q
        rw [h3]
        exact q
      · rw [upd_ne hb] at q
        exact f.ex x u q
    refine ⟨upd F a w, ⟨⟨f.gr.ff.trans eF, f.gr.hh, eH, fun x hx => ?_, fun t => (f.gr.tp t).up eF⟩, by simp [f.len], fun i o d' h => ?_, fun i k di dk u hik hi hk hv => ?_, f.tp0⟩, eF⟩
    · have : x ≠ a := fun z => hx (z ▸ h6)
      rw [upd_ne this]
      exact f.gr.new x hx
    · by_cases e : j = i
      · subst e
        rw [List.getElem?_set] at h
        simp at h
        obtain ⟨_, h7, h8⟩ := h
        subst h7 h8
        exact ⟨.ref a, h1, h4.rep eF upd_same⟩
      · rw [List.getElem?_set_ne e] at h
        obtain ⟨u, h7, h8⟩ := f.sl i o d' h
        refine ⟨u, h7, ?_⟩
        cases o with
        | false => exact VRep.mono eF h8
        | true =>
          obtain ⟨⟨b, us, rfl, g2, g3, g4⟩, g5⟩ := h8
          have hba : b ≠ a := fun z => by
            subst z
            exact f.ds j i _ _ _ e he h h1 h7
          exact ⟨⟨b, us, rfl, by rw [upd_ne hba]; exact g2, g3, g4.mono eF⟩, g5⟩
    · have ei : j ≠ i := fun e => by
        subst e
        rw [List.getElem?_set] at hi
        simp at hi
      have ek : j ≠ k := fun e => by
        subst e
        rw [List.getElem?_set] at hk
        simp at hk
      rw [List.getElem?_set_ne ei] at hi
      rw [List.getElem?_set_ne ek] at hk
      exact f.ds i k di dk u hik hi hk hv
  · exact ⟨F, f, Evl.Ex.refl F⟩
theorem FrI.freezes : ∀ (js : List Nat) {F : Hp} {env : Env}, FrI K F0 H0 F H env σ → ∃ F', FrI K F0 H0 F' H (js.foldl freeze env) σ ∧ Ex F F'
  | [], F, env, f => ⟨F, f, Evl.Ex.refl F⟩
  | j :: js, F, env, f =>
    let ⟨F1, f1, e1⟩ := f.freeze1 j
    let ⟨F2, f2, e2⟩ := FrI.freezes js f1
    ⟨F2, f2, e1.trans e2⟩
/-- a name's own, written -/
theorem FrI.mutB (f : FrI K F0 H0 F H env σ) {j : Nat} {d : D} (he : env[j]? = some (some (true, d))) :
    ∃ a u, σ[j]? = some (some (.ref a)) ∧ F a = none ∧ H a = some u ∧ Bd K F u d ∧ ∀ u' d', Bd K F u' d' → FrI K F0 H0 F (upd H a u') (env.set j (some (true, d'))) σ := by
  obtain ⟨v, h1, ⟨a, u, rfl, h2, h3, h4⟩, b, h5, h6⟩ := f.sl j true _ he
  cases h5
  refine ⟨a, u, h1, h2, h3, h4, fun u' d2 hv' => ?_⟩
  have eH : Ex F (upd H a u') := fun x w q => by
    have hb : x ≠ a := fun z => by
      rw [z, h2] at q
      cases q
    rw [upd_ne hb]
    exact f.ex x w q
  refine ⟨⟨f.gr.ff, fun x w q => ?_, eH, f.gr.new, fun t => (f.gr.tp t).own (hv'.notT)⟩, by simp [f.len], fun i o d' h => ?_, fun i k di dk w hik hi hk hv => ?_, f.tp0⟩
  · have hb : x ≠ a := fun z => by
      rw [z, h6] at q
      cases q
    rw [upd_ne hb]
    exact f.gr.hh x w q
  · by_cases e : j = i
    · subst e
      rw [List.getElem?_set] at h
      simp at h
      obtain ⟨_, h7, h8⟩ := h
      subst h7 h8
      exact ⟨.ref a, h1, ⟨a, u', rfl, h2, upd_same, hv'⟩, a, rfl, h6⟩
    · rw [List.getElem?_set_ne e] at h
      obtain ⟨w, h7, h8⟩ := f.sl i o d' h
      refine ⟨w, h7, ?_⟩
      cases o with
      | false => exact h8
      | true =>
        obtain ⟨⟨b, us, rfl, g2, g3, g4⟩, g5⟩ := h8
        have hba : b ≠ a := fun z => by
          subst z
          exact f.ds j i _ _ _ e he h h1 h7
        exact ⟨⟨b, us, rfl, g2, by rw [upd_ne hba]; exact g3, g4⟩, g5⟩
  · have key : ∀ (m : Nat) (dm : D), (env.set j (some (true, d2)))[m]? = some (some (true, dm)) → ∃ d0, env[m]? = some (some (true, d0)) := fun m dm hm => by
      by_cases e : j = m
      · subst e
        exact ⟨_, he⟩
      · rw [List.getElem?_set_ne e] at hm
        exact ⟨dm, hm⟩
    obtain ⟨d1, k1⟩ := key i di hi
    obtain ⟨d2, k2⟩ := key k dk hk
    exact f.ds i k d1 d2 w hik k1 k2 hv
theorem FrI.mut (f : FrI K F0 H0 F H env σ) {j : Nat} {ds ds' : List D} (he : env[j]? = some (some (true, .lst ds))) :
    ∃ a vs, σ[j]? = some (some (.ref a)) ∧ H a = some (.lst vs) ∧ VReps K F vs ds ∧ ∀ vs' , VReps K F vs' ds' → FrI K F0 H0 F (upd H a (.lst vs')) (env.set j (some (true, .lst ds'))) σ := by
  obtain ⟨a, u, h1, h2, h3, h4, h5⟩ := f.mutB he
  cases h4 with
  | lst h4 => exact ⟨a, _, h1, h3, h4, fun vs' hv => h5 _ _ (.lst hv)⟩
end
/-! ### readings -/
def Rd {α : Type} (m : R α) (P : α → Prop) (E : Nat → D → Prop) : Prop := match m with
  | .ok a => P a
  | .exc c d => E c d
  | .stuck => False
theorem Rd.bind {α β : Type} {m : R α} {f : α → R β} {P : β → Prop} {E : Nat → D → Prop} (h : Rd (m >>= f) P E) : Rd m (fun a => Rd (f a) P E) E := by
  cases m with
  | stuck => exact h
  | ok a => exact h
  | exc c d => exact h
theorem Rd.mono {α : Type} {m : R α} {P P' : α → Prop} {E : Nat → D → Prop} (h : Rd m P E) (g : ∀ a, P a → P' a) : Rd m P' E := by
  cases m with
  | stuck => exact h
  | ok a => exact g a h
  | exc c d => exact h
theorem Rd.lift {α : Type} {o : Option α} {P : α → Prop} {E : Nat → D → Prop} (h : Rd (lift o) P E) : ∃ a, o = some a ∧ P a := by
  cases o with
  | none => exact h.elim
  | some a => exact ⟨a, rfl, h⟩
theorem Rd.calm {α : Type} {m : R α} {P : α → Prop} {E E' : Nat → D → Prop} (h : Rd (calm m) P E) : Rd m P E' := by
  cases m with
  | stuck => exact h
  | ok a => exact h
  | exc c d => exact h.elim
theorem Rd.asInt {x : Res} {P : Int → Prop} {E : Nat → D → Prop} (h : Rd (asInt x) P E) : ∃ fl i, x = (fl, .int i) ∧ P i := by
  obtain ⟨fl, d⟩ := x
  cases d <;> first | exact h.elim | exact ⟨fl, _, rfl, h⟩
theorem Rd.asBl {x : Res} {P : Bool → Prop} {E : Nat → D → Prop} (h : Rd (asBl x) P E) : ∃ fl i, x = (fl, .bl i) ∧ P i := by
  obtain ⟨fl, d⟩ := x
  cases d <;> first | exact h.elim | exact ⟨fl, _, rfl, h⟩
theorem Rd.escV {x : Res} {P : D → Prop} {E : Nat → D → Prop} (h : Rd (escV x) P E) : x.1.isBo = false ∧ P x.2 := by
  obtain ⟨fl, d⟩ := x
  cases fl <;> first | exact h.elim | exact ⟨rfl, h⟩
/-- what a body reads by: the entry's frozen part and heap, the calls, the wish about exceptions -/
structure Ctx where
  F0 : Hp
  H0 : Hp
  Φ : Nat → List D → R (Bool × D)
  W : Nat
  E : Nat → D → Prop
abbrev Ctx.noE (C : Ctx) : Ctx := { C with E := fun _ _ => False }
section
variable (K : PySem.W.Frag) (C : Ctx)
def tD (c : CE) : TE := fun σ H Q => ∃ F env, FrI K C.F0 C.H0 F H env σ ∧ Rd (evalE C.Φ c env) (fun r => Then K F H r Q) C.E
def tT (c : CE) : TT := fun σ H Q => ∃ F env, FrI K C.F0 C.H0 F H env σ ∧ Rd (evalE C.Φ c env >>= asBl) (fun b => ∀ F' H', Grow F H F' H' → Q b H') C.E
def tC' (c : CO) : TT := fun σ H Q => ∃ F env, FrI K C.F0 C.H0 F H env σ ∧ Rd (evalC C.Φ c env) (fun b => ∀ F' H', Grow F H F' H' → Q b H') C.E
def tO (c : CO) : TO := fun σ H Q => ∃ F env, FrI K C.F0 C.H0 F H env σ ∧ Rd (evalO C.Φ c env) (fun b => ∀ F' H', Grow F H F' H' → Q b H') C.E
def tA (es : List CE) : TA := fun σ H Q => ∃ F env, FrI K C.F0 C.H0 F H env σ ∧ Rd (evalAs C.Φ es env) (fun rs => ∀ vs F' H', Grow F H F' H' → RReps K H F' H' rs vs → Q vs H') C.E
def tEs (es : List CE) : TA := fun σ H Q => ∃ F env, FrI K C.F0 C.H0 F H env σ ∧ Rd (evalEs C.Φ es env) (fun ds => ∀ vs F' H', Grow F H F' H' → VReps K F' vs ds → Q vs H') C.E
/-- what a walk gives, from the base B -/
def WalkD (B F : Hp) (J : It) (ds : List D) : Prop := ∃ (G : Hp → Prop) (Y : Nat → Hp → V → Hp → Prop), Walk J ds.length G Y ∧ (∀ H, Ex B H → G H) ∧
  ∀ (F1 H1 : Hp) (i : Nat) (x : V) (H2 : Hp), Ex F F1 → Ex F1 H1 → TupIn F1 H1 → Ex B H1 → i < ds.length → Y i H1 x H2 → ∃ F2, Grow F1 H1 F2 H2 ∧ ∀ d, ds[i]? = some d → VRep K F2 x d
def tI (c : CI) : TI := fun σ H R => ∃ F env, FrI K C.F0 C.H0 F H env σ ∧ Rd (evalI C.Φ c env) (fun w => ∀ J F' H', Grow F H F' H' → WalkD K (if w.1 then H' else F') F' J w.2 → R J H') C.E
def EndS (D : Ends) (F : Hp) : Out → Prop
  | .nx env => ∀ σ F' H', FrI K C.F0 C.H0 F' H' env σ → Ex F F' → D.nx σ H'
  | .brk env => ∀ σ F' H', FrI K C.F0 C.H0 F' H' env σ → Ex F F' → D.bk σ H'
  | .cnt env => ∀ σ F' H', FrI K C.F0 C.H0 F' H' env σ → Ex F F' → D.ct σ H'
  | .ret fr d env => ∀ v F' H', Grow C.F0 C.H0 F' H' → RRep K C.H0 F' H' (if fr then .fr else .pl, d) v → D.rt v H'
def tS (c : CS) : TS := fun D σ H => ∃ F env, FrI K C.F0 C.H0 F H env σ ∧ Rd (exec C.Φ C.W c env) (EndS K C D F) C.E
def tSs (cs : List CS) : TS := fun D σ H => ∃ F env, FrI K C.F0 C.H0 F H env σ ∧ Rd (execs C.Φ C.W cs env) (EndS K C D F) C.E
end
abbrev DE (X : Cx) (C : Ctx) (e : PySem.Expr) (c : CE) : Prop := PE X e (tD X.K C c)
abbrev DT (X : Cx) (C : Ctx) (e : PySem.Expr) (c : CE) : Prop := PT X e (tT X.K C c)
abbrev DW (X : Cx) (C : Ctx) (e : PySem.Expr) (c : CE) : Prop := PW X e (tT X.K C c)
abbrev DC (X : Cx) (C : Ctx) (es : List PySem.Expr) (c : CO) : Prop := PTs X es (tC' X.K C c)
abbrev DO (X : Cx) (C : Ctx) (e : Option PySem.Expr) (c : CO) : Prop := PO X e (tO X.K C c)
abbrev DA (X : Cx) (C : Ctx) (es : List PySem.Expr) (cs : List CE) : Prop := PA X es (tA X.K C cs)
abbrev DEs (X : Cx) (C : Ctx) (es : List PySem.Expr) (cs : List CE) : Prop := PA X es (tEs X.K C cs)
abbrev DI (X : Cx) (C : Ctx) (tg e : PySem.Expr) (c : CI) : Prop := PI X tg e (tI X.K C c)
abbrev DS (X : Cx) (C : Ctx) (s : PySem.Stmt) (c : CS) : Prop := PS X s (tS X.K C c)
abbrev DSs (X : Cx) (C : Ctx) (ss : List PySem.Stmt) (cs : List CS) : Prop := PSs X ss (tSs X.K C cs)
theorem PE.weak {X : Cx} {e : PySem.Expr} {t t' : TE} (h : PE X e t) (w : ∀ σ H Q, t' σ H Q → t σ H Q) : PE X e t' := ⟨fun pins s σ H Q I q => h.run pins s σ H Q I (w σ H Q q)⟩
theorem Then.later {K : PySem.W.Frag} {F H F' H' : Hp} {r : Res} {Q : VK} (h : Then K F H r Q) (g : Grow F H F' H') : Then K F' H' r Q := fun w F2 H2 g2 rr => h w F2 H2 (g.trans g2) (rr.older g.hh)
section
variable {X : Cx} {C : Ctx} {pins : List (Addr × Obj)} {s : Shared} {σ : L2.St} {F H : Hp} {env : Env}
theorem DE.go {e : PySem.Expr} {c : CE} (h : DE X C e c) (I : Inv X pins σ H s) (f : FrI X.K C.F0 C.H0 F H env σ) {P : Res → Prop} (hp : Rd (evalE C.Φ c env) P C.E) :
    wpAny (model X.prog X.w) X.A (eval e X.env) (fun u s1 => ∃ v H1 F1 x, Inv X pins σ H1 s1 ∧ RelV v u ∧ Grow F H F1 H1 ∧ RRep X.K H F1 H1 x v ∧ P x) X.xe s :=
  thn (h.run pins s σ H (fun v H1 => ∃ F1 x, Grow F H F1 H1 ∧ RRep X.K H F1 H1 x v ∧ P x) I ⟨F, env, f, hp.mono fun x px w F' H' g r => ⟨F', x, g, r, px⟩⟩)
    fun u s1 ⟨v, H1, I1, r1, F1, x, g, rr, px⟩ => ⟨v, H1, F1, x, I1, r1, g, rr, px⟩
theorem DT.go {e : PySem.Expr} {c : CE} (h : DT X C e c) (I : Inv X pins σ H s) (f : FrI X.K C.F0 C.H0 F H env σ) {P : Bool → Prop} (hp : Rd (evalE C.Φ c env >>= asBl) P C.E) :
    wpAny (model X.prog X.w) X.A (isTrue e X.env (eval e X.env)) (fun b s1 => ∃ H1 F1, Inv X pins σ H1 s1 ∧ Grow F H F1 H1 ∧ P b) X.xe s :=
  thn (h.run pins s σ H (fun b H1 => ∃ F1, Grow F H F1 H1 ∧ P b) I ⟨F, env, f, hp.mono fun x px F' H' g => ⟨F', g, px⟩⟩) fun u s1 ⟨H1, I1, F1, g, px⟩ => ⟨H1, F1, I1, g, px⟩
end
/-- settle a result among the frozen -/
theorem Grow.settle {K : PySem.W.Frag} {F H F1 H1 : Hp} {x : Res} {v : V} (g : Grow F H F1 H1) (r : RRep K H F1 H1 x v) (nb : x.1.isBo = false) : ∃ F2, Grow F H F2 H1 ∧ Ex F1 F2 ∧ VRep K F2 v x.2 := by
  obtain ⟨F2, h1, h2, h3, h4⟩ := r.settle g.fh nb g.hh
  exact ⟨F2, ⟨g.ff.trans h1, g.hh, h2, fun a ha => by rw [h3 a ha, g.new a ha], fun t => (g.tp t).up h1⟩, h1, h4⟩
end PF

/-! Expressions of the core language: each form keeps its reading. -/
namespace PF
open PySem PySem.Spec PyProof.Rows L2
section
variable {X : Cx} {C : Ctx} {a b c e : PySem.Expr} {ca cb cc ce : CE} {pos p : Pos} {es : List PySem.Expr} {cs : List CE}
theorem de_var (i : Nat) {x : Str} (hN : X.N[i]? = some x := by rfl) (hv : Vis X.env.scope x := by first | exact Or.inl rfl | exact Or.inr (Or.inl rfl) | exact Or.inr (Or.inr rfl)) (hd : (x == ("__debug__" : Str)) = false := by decide)
    (hcd : (x == ("__classdict__" : Str)) = false := by decide) : DE X C (.Name x pos) (.var i) := PE.weak (pe_var hN hv hd hcd) fun σ H Q ⟨F, env, f, h⟩ => by
  simp only [evalE] at h
  split at h
  · rename_i d he
    obtain ⟨v, h1, h2⟩ := f.var (G := H) he
    exact ⟨v, h1, h v F H (Grow.refl f.ex) h2⟩
  · rename_i d he
    obtain ⟨v, h1, h2⟩ := f.var (G := H) he
    exact ⟨v, h1, h v F H (Grow.refl f.ex) h2⟩
  · exact h.elim
theorem de_cst {d : D} {v : V} {t : TE} (h : PE X e (L2.tC v)) (r : ∀ K F, VRep K F v d) : DE X C e (.cst d) := PE.weak h fun σ H Q ⟨F, env, f, h⟩ => by
  simp only [evalE] at h
  exact h v F H (Grow.refl f.ex) (show VRep X.K F v d from r _ _)
theorem de_int {i : Int} {j : Nat} : DE X C (.Constant (.int i) j pos) (.cst (.int i)) := de_cst (t := fun _ _ _ => True) pe_int fun _ _ => .int i
theorem de_bl {i : Bool} {j : Nat} : DE X C (.Constant (.bool i) j pos) (.cst (.bl i)) := de_cst (t := fun _ _ _ => True) pe_bl fun _ _ => .bl i
theorem de_non {j : Nat} : DE X C (.Constant .none j pos) (.cst .non) := de_cst (t := fun _ _ _ => True) pe_non fun _ _ => .non
theorem de_str {x : Str} {t : Tx} {j : Nat} (h : S t = x := by rfl) : DE X C (.Constant (.str x) j pos) (.cst (.str t)) := by
  subst h
  exact de_cst (t := fun _ _ _ => True) pe_str fun _ _ => .str t
theorem de_bin (o : BOp) (ha : DE X C a ca) (hb : DE X C b cb) : DE X C (.BinOp a (opOf o) b pos) (.bin o ca cb) := by
  refine ⟨fun pins s σ H Q I ⟨F, env, f, h⟩ => ?_⟩
  simp only [evalE] at h
  refine wpAny_BinOp (thn (ha.go I f h.bind) fun u s1 ⟨vx, H1, F1, x, I1, q1, g1, r1, h1⟩ => thn (hb.go I1 (f.grow g1) h1.bind) fun w s2 ⟨vy, H2, F2, y, I2, q2, g2, r2, h2⟩ => ?_)
  obtain ⟨res, er, h3⟩ := h2.lift
  exact bin_ok o pins s2 σ F2 H2 _ _ x y vx vy u w res Q I2 g2.fh (r1.grow g2) r2 q1 q2 er (h3.later (g1.trans g2))
theorem de_neg (ha : DE X C a ca) : DE X C (.UnaryOp .USub a pos) (.neg ca) := PE.weak (pe_un un_neg ha) fun σ H Q ⟨F, env, f, h⟩ => by
  simp only [evalE] at h
  refine ⟨F, env, f, h.bind.mono fun x hx w F' H' g r => ?_⟩
  obtain ⟨fl, i, rfl, h2⟩ := hx.bind.asInt
  cases r.int
  exact ⟨i, rfl, h2 _ F' H' g (show VRep X.K F' (.int (-i)) (.int (-i)) from .int _)⟩
theorem cmpR_some {o : COp} {a b : D} {k : Bool} (h : cmpD o a b = some k) : cmpR o a b = some (.pl, .bl k) := by
  unfold cmpR
  rw [h]
  rfl
theorem de_cmp (o : COp) (ha : DE X C a ca) (hb : DE X C b cb) (hu : X.A.units + 70 < cLine) (hm : behindInMarks (cmpOf o) b = false) : DE X C (.Compare a [cmpOf o] [b] pos) (.cmp o ca cb) := by
  refine ⟨fun pins s σ H Q I ⟨F, env, f, h⟩ => ?_⟩
  simp only [evalE] at h
  refine wpAny_Compare1 (thn (ha.go I f h.bind) fun u s1 ⟨vx, H1, F1, x, I1, q1, g1, r1, h1⟩ => thn (hb.go I1 (f.grow g1) h1.bind) fun w s2 ⟨vy, H2, F2, y, I2, q2, g2, r2, h2⟩ => ?_) hm
  obtain ⟨res, er, h3⟩ := h2.bind.lift
  exact cmp_ok hu o pins s2 σ F2 H2 _ _ x y vx vy u w _ Q I2 g2.fh (r1.grow g2) r2 q1 q2 (cmpR_some er) (Then.later h3 (g1.trans g2))
theorem dt_cmp (o : COp) (ha : DE X C a ca) (hb : DE X C b cb) (hu : X.A.units + 70 < cLine) (hm : behindInMarks (cmpOf o) b = false) : DT X C (.Compare a [cmpOf o] [b] pos) (.cmp o ca cb) := by
  refine ⟨fun pins s σ H Q I ⟨F, env, f, h⟩ => ?_⟩
  simp only [evalE] at h
  refine wpAny_isTrue_Compare1 (thn (ha.go I f h.bind.bind) fun u s1 ⟨vx, H1, F1, x, I1, q1, g1, r1, h1⟩ => thn (hb.go I1 (f.grow g1) h1.bind) fun w s2 ⟨vy, H2, F2, y, I2, q2, g2, r2, h2⟩ => ?_) hm
  obtain ⟨k, er, h3⟩ := h2.bind.lift
  refine thn (cmp_ok hu o pins s2 σ F2 H2 _ _ x y vx vy u w _ (fun z H3 => z = .bl k ∧ Q k H3) I2 g2.fh (r1.grow g2) r2 q1 q2 (cmpR_some er) fun z F' H' g rz => ⟨rz.bl, h3 F' H' ((g1.trans g2).trans g)⟩) fun t s3 ⟨z, H3, I3, r3, ez, q3⟩ => ?_
  subst ez
  cases r3
  exact wpAny_truthy_bool ⟨H3, I3, q3⟩
theorem Rd.unbind {α β : Type} {m : R α} {f : α → R β} {P : β → Prop} {E : Nat → D → Prop} (h : Rd m (fun a => Rd (f a) P E) E) : Rd (m >>= f) P E := by
  cases m with
  | stuck => exact h
  | ok a => exact h
  | exc c d => exact h
theorem Rd.seq {α β γ : Type} {m : R α} {f : α → R β} {g : β → R γ} {P : γ → Prop} {E : Nat → D → Prop} (h : Rd ((m >>= f) >>= g) P E) : Rd m (fun a => Rd (f a >>= g) P E) E := by
  cases m with
  | stuck => exact h
  | ok a => exact h
  | exc c d => exact h
theorem de_chain (o o' : COp) (ha : DE X C a ca) (hb : DE X C b cb) (hc : DE X C c cc) (hu : X.A.units + 70 < cLine) (hm : lastMarks [cmpOf o, cmpOf o'] [b, c] = false) : DE X C (.Compare a [cmpOf o, cmpOf o'] [b, c] pos) (.chain o o' ca cb cc) := by
  refine ⟨fun pins s σ H Q I ⟨F, env, f, h⟩ => ?_⟩
  simp only [evalE] at h
  refine Compare_chain (thn (ha.go I f h.bind) fun u s1 ⟨vx, H1, F1, x, I1, q1, g1, r1, h1⟩ => chain_link (thn (hb.go I1 (f.grow g1) h1.bind) fun w s2 ⟨vy, H2, F2, y, I2, q2, g2, r2, h2⟩ => ?_)) hm
  obtain ⟨k, er, h3⟩ := h2.bind.lift
  refine thn (cmp_ok hu o pins s2 σ F2 H2 _ _ x y vx vy u w _ (fun z H3 => z = .bl k ∧ ∃ F3, Grow F2 H2 F3 H3) I2 g2.fh (r1.grow g2) r2 q1 q2 (cmpR_some er) fun z F' H' g rz => ⟨rz.bl, F', g⟩) fun t s3 ⟨z, H3, I3, q3, ez, F3, g3⟩ => ?_
  subst ez
  cases q3
  refine wpAny_truthy_bool ?_
  cases k with
  | false =>
    rw [if_neg Bool.false_ne_true] at h3
    exact ite_ff ⟨.bl false, H3, I3, rfl, h3 _ F3 H3 ((g1.trans g2).trans g3) (show VRep X.K F3 (.bl false) (.bl false) from .bl false)⟩
  | true =>
    rw [if_pos rfl] at h3
    refine ite_tt (chain_last (thn (hc.go I3 (((f.grow g1).grow g2).grow g3) h3.bind) fun w' s4 ⟨vz, H4, F4, z, I4, q4, g4, r4, h4⟩ => ?_))
    obtain ⟨k2, er2, h5⟩ := h4.bind.lift
    exact cmp_ok hu o' pins s4 σ F4 H4 _ _ y z vy vz w w' _ Q I4 g4.fh ((r2.grow g3).grow g4) r4 q2 q4 (cmpR_some er2) (Then.later h5 (((g1.trans g2).trans g3).trans g4))
theorem dt_chain (o o' : COp) (ha : DE X C a ca) (hb : DE X C b cb) (hc : DE X C c cc) (hu : X.A.units + 70 < cLine) (hm : lastMarks [cmpOf o, cmpOf o'] [b, c] = false) : DT X C (.Compare a [cmpOf o, cmpOf o'] [b, c] pos) (.chain o o' ca cb cc) := by
  refine ⟨fun pins s σ H Q I ⟨F, env, f, h⟩ => ?_⟩
  simp only [evalE] at h
  refine isTrue_chain (thn (ha.go I f h.bind.bind) fun u s1 ⟨vx, H1, F1, x, I1, q1, g1, r1, h1⟩ => test_link (thn (hb.go I1 (f.grow g1) h1.bind) fun w s2 ⟨vy, H2, F2, y, I2, q2, g2, r2, h2⟩ => ?_)) hm
  obtain ⟨k, er, h3⟩ := h2.bind.lift
  refine thn (cmp_ok hu o pins s2 σ F2 H2 _ _ x y vx vy u w _ (fun z H3 => z = .bl k ∧ ∃ F3, Grow F2 H2 F3 H3) I2 g2.fh (r1.grow g2) r2 q1 q2 (cmpR_some er) fun z F' H' g rz => ⟨rz.bl, F', g⟩) fun t s3 ⟨z, H3, I3, q3, ez, F3, g3⟩ => ?_
  subst ez
  cases q3
  refine wpAny_truthy_bool ?_
  cases k with
  | false =>
    rw [if_neg Bool.false_ne_true] at h3
    exact ite_ff ⟨H3, I3, h3 F3 H3 ((g1.trans g2).trans g3)⟩
  | true =>
    rw [if_pos rfl] at h3
    refine ite_tt (test_last (thn (hc.go I3 (((f.grow g1).grow g2).grow g3) h3.bind) fun w' s4 ⟨vz, H4, F4, z, I4, q4, g4, r4, h4⟩ => ?_))
    obtain ⟨k2, er2, h5⟩ := h4.bind.lift
    refine thn (cmp_ok hu o' pins s4 σ F4 H4 _ _ y z vy vz w w' _ (fun z H3 => z = .bl k2 ∧ Q k2 H3) I4 g4.fh ((r2.grow g3).grow g4) r4 q2 q4 (cmpR_some er2) fun z F' H' g rz => ⟨rz.bl, h5 F' H' ((((g1.trans g2).trans g3).trans g4).trans g)⟩) fun t s3 ⟨z, H3, I3, r3, ez, q3⟩ => ?_
    subst ez
    cases r3
    exact wpAny_truthy_bool ⟨H3, I3, q3⟩
/-- a value that is a bool, as a test -/
theorem dt_val (h : DE X C e ce) (he : ∀ whole, isTrue e X.env whole = (do let v ← whole; standAt e.pos; holding [v] (truthy v)) := by intro _; rfl) : DT X C e ce := by
  refine ⟨fun pins s σ H Q I ⟨F, env, f, hw⟩ => ?_⟩
  refine isTrue_plain (thn (h.go I f hw.bind) fun v s1 ⟨vx, H1, F1, x, I1, q1, g1, r1, h1⟩ => ?_) (he _)
  obtain ⟨fl, k, rfl, h2⟩ := h1.asBl
  cases r1.bl
  cases q1
  exact wpAny_truthy_bool ⟨H1, I1, h2 F1 H1 g1⟩
theorem de_one {op : PySem.BoolOp} (h : DE X C a ca) : DE X C (.BoolOp op [a] pos) ca := pe_one h
theorem de_and {rest : List PySem.Expr} (ha : DE X C a ca) (hb : DE X C (.BoolOp .And (b :: rest) pos) cb) : DE X C (.BoolOp .And (a :: b :: rest) pos) (.and ca cb) := PE.weak (pe_and ha hb) fun σ H Q ⟨F, env, f, h⟩ => by
  simp only [evalE] at h
  refine ⟨F, env, f, h.bind.mono fun x hx w F' H' g r => ?_⟩
  obtain ⟨fl, k, rfl, h2⟩ := hx.bind.asBl
  cases r.bl
  refine ⟨k, rfl, ?_⟩
  cases k with
  | false =>
    rw [if_neg Bool.false_ne_true] at h2 ⊢
    exact h2 _ F' H' g (show VRep X.K F' (.bl false) (.bl false) from .bl false)
  | true =>
    rw [if_pos rfl] at h2 ⊢
    exact ⟨F', env, f.grow g, h2.mono fun y hy => hy.later g⟩
theorem de_or {rest : List PySem.Expr} (ha : DE X C a ca) (hb : DE X C (.BoolOp .Or (b :: rest) pos) cb) : DE X C (.BoolOp .Or (a :: b :: rest) pos) (.or ca cb) := PE.weak (pe_or ha hb) fun σ H Q ⟨F, env, f, h⟩ => by
  simp only [evalE] at h
  refine ⟨F, env, f, h.bind.mono fun x hx w F' H' g r => ?_⟩
  obtain ⟨fl, k, rfl, h2⟩ := hx.bind.asBl
  cases r.bl
  refine ⟨k, rfl, ?_⟩
  cases k with
  | true =>
    rw [if_pos rfl] at h2 ⊢
    exact h2 _ F' H' g (show VRep X.K F' (.bl true) (.bl true) from .bl true)
  | false =>
    rw [if_neg Bool.false_ne_true] at h2 ⊢
    exact ⟨F', env, f.grow g, h2.mono fun y hy => hy.later g⟩
theorem de_not (ha : DE X C a ca) : DE X C (.UnaryOp .Not a pos) (.not ca) := PE.weak (pe_not ha) fun σ H Q ⟨F, env, f, h⟩ => by
  simp only [evalE] at h
  refine ⟨F, env, f, h.bind.mono fun x hx w F' H' g r => ?_⟩
  obtain ⟨fl, k, rfl, h2⟩ := hx.bind.asBl
  cases r.bl
  exact ⟨k, rfl, h2 _ F' H' g (show VRep X.K F' (.bl (!k)) (.bl (!k)) from .bl _)⟩
theorem PT.weak' {t t' : TT} (h : PT X e t) (w : ∀ σ H Q, t' σ H Q → t σ H Q) : PT X e t' := ⟨fun pins s σ H Q I q => h.run pins s σ H Q I (w σ H Q q)⟩
theorem PW.weak' {t t' : TT} (h : PW X e t) (w : ∀ σ H Q, t' σ H Q → t σ H Q) : PW X e t' := ⟨fun wh pins s σ H Q I q => h.run wh pins s σ H Q I (w σ H Q q)⟩
theorem dt_not (ha : DT X C a ca) : DT X C (.UnaryOp .Not a pos) (.not ca) := PT.weak' (pt_not ha) fun σ H Q ⟨F, env, f, h⟩ => by
  simp only [evalE] at h
  refine ⟨F, env, f, ?_⟩
  cases hx : evalE C.Φ ca env with
  | stuck => rw [hx] at h; exact h
  | exc c d => rw [hx] at h; exact h
  | ok x =>
    rw [hx] at h
    have h1 : Rd (asBl x >>= fun r => pure (Fl.pl, D.bl !r)) (fun a => Rd (asBl a) (fun b => ∀ F' H', Grow F H F' H' → Q b H') C.E) C.E := by
      rw [R.ok_bind] at h
      exact Rd.bind h
    obtain ⟨fl, k, rfl, h2⟩ := h1.bind.asBl
    exact fun F' H' g => h2 F' H' g
theorem dw_and1 (h : DT X C a ca) : DW X C (.BoolOp .And [a] pos) ca := pw_and1 h
theorem dw_or1 (h : DT X C a ca) : DW X C (.BoolOp .Or [a] pos) ca := pw_or1 h
theorem dw_and {rest : List PySem.Expr} (ha : DT X C a ca) (hb : DW X C (.BoolOp .And (b :: rest) pos) cb) : DW X C (.BoolOp .And (a :: b :: rest) pos) (.and ca cb) := PW.weak' (pw_and ha hb) fun σ H Q ⟨F, env, f, h⟩ => by
  simp only [evalE] at h
  refine ⟨F, env, f, ?_⟩
  cases hx : evalE C.Φ ca env with
  | stuck => rw [hx] at h; exact h
  | exc c d => rw [hx] at h; exact h
  | ok x =>
    rw [hx] at h
    obtain ⟨fl, k, rfl, h2⟩ := (show Rd (asBl x) _ _ from Rd.bind (Rd.bind h)).asBl
    intro F' H' g
    cases k with
    | false => exact h2 F' H' g
    | true => exact ⟨F', env, f.grow g, (Rd.unbind (show Rd (evalE C.Φ cb env) _ _ from h2)).mono fun y hy F2 H2 g2 => hy F2 H2 (g.trans g2)⟩
theorem dw_or {rest : List PySem.Expr} (ha : DT X C a ca) (hb : DW X C (.BoolOp .Or (b :: rest) pos) cb) : DW X C (.BoolOp .Or (a :: b :: rest) pos) (.or ca cb) := PW.weak' (pw_or ha hb) fun σ H Q ⟨F, env, f, h⟩ => by
  simp only [evalE] at h
  refine ⟨F, env, f, ?_⟩
  cases hx : evalE C.Φ ca env with
  | stuck => rw [hx] at h; exact h
  | exc c d => rw [hx] at h; exact h
  | ok x =>
    rw [hx] at h
    obtain ⟨fl, k, rfl, h2⟩ := (show Rd (asBl x) _ _ from Rd.bind (Rd.bind h)).asBl
    intro F' H' g
    cases k with
    | true => exact h2 F' H' g
    | false => exact ⟨F', env, f.grow g, (Rd.unbind (show Rd (evalE C.Φ cb env) _ _ from h2)).mono fun y hy F2 H2 g2 => hy F2 H2 (g.trans g2)⟩
theorem de_ite (hc : DT X C c cc) (ha : DE X C a ca) (hb : DE X C b cb) : DE X C (.IfExp c a b pos) (.ite cc ca cb) := PE.weak (pe_ifExp hc ha hb) fun σ H Q ⟨F, env, f, h⟩ => by
  simp only [evalE] at h
  refine ⟨F, env, f, ?_⟩
  cases hx : evalE C.Φ cc env with
  | stuck => rw [hx] at h; exact h
  | exc c d => rw [hx] at h; exact h
  | ok x =>
    rw [hx] at h
    obtain ⟨fl, k, rfl, h2⟩ := (show Rd (asBl x) _ _ from Rd.bind h).asBl
    intro F' H' g
    cases k with
    | true => exact ⟨F', env, f.grow g, (show Rd (evalE C.Φ ca env) _ _ from h2).mono fun y hy => hy.later g⟩
    | false => exact ⟨F', env, f.grow g, (show Rd (evalE C.Φ cb env) _ _ from h2).mono fun y hy => hy.later g⟩
/-! ### lists of arguments, displays -/
theorem PA.weak' {t t' : TA} (h : PA X es t) (w : ∀ σ H Q, t' σ H Q → t σ H Q) : PA X es t' := ⟨fun pos pins s σ H Q I q => h.run pos pins s σ H Q I (w σ H Q q)⟩
theorem da_nil : DA X C [] [] := PA.weak' pa_nil fun σ H Q ⟨F, env, f, h⟩ => (show Rd (evalAs C.Φ [] env) _ _ from h) [] F H (Grow.refl f.ex) .nil
theorem da_cons (ha : DE X C e ce) (hr : DA X C es cs) (hs : starEach (e :: es) X.env = (false, eval e X.env) :: starEach es X.env := by rfl) : DA X C (e :: es) (ce :: cs) := PA.weak' (pa_cons ha hr hs) fun σ H Q ⟨F, env, f, h⟩ => by
  simp only [evalAs] at h
  refine ⟨F, env, f, h.bind.mono fun x hx w F' H' g r => ⟨F', env, f.grow g, hx.bind.mono fun xs hxs vs F2 H2 g2 r2 => ?_⟩⟩
  exact hxs _ F2 H2 (g.trans g2) (.cons (r.grow g2) (r2.older g.hh))
theorem dd_nil : DEs X C [] [] := PA.weak' pa_nil fun σ H Q ⟨F, env, f, h⟩ => (show Rd (evalEs C.Φ [] env) _ _ from h) [] F H (Grow.refl f.ex) .nil
theorem dd_cons (ha : DE X C e ce) (hr : DEs X C es cs) (hs : starEach (e :: es) X.env = (false, eval e X.env) :: starEach es X.env := by rfl) : DEs X C (e :: es) (ce :: cs) := PA.weak' (pa_cons ha hr hs) fun σ H Q ⟨F, env, f, h⟩ => by
  simp only [evalEs] at h
  refine ⟨F, env, f, h.bind.mono fun x hx w F' H' g r => ?_⟩
  obtain ⟨nb, hx⟩ := hx.bind.escV
  obtain ⟨F1, g1, e1, r1⟩ := g.settle r nb
  refine ⟨F1, env, f.grow g1, hx.bind.mono fun xs hxs vs F2 H2 g2 r2 => ?_⟩
  exact hxs _ F2 H2 (g1.trans g2) (.cons (VRep.mono g2.ff r1) r2)
theorem evalEs_len {Φ : Nat → List D → R (Bool × D)} {P : List D → Prop} {E : Nat → D → Prop} : ∀ {cs : List CE} {env : Env}, Rd (evalEs Φ cs env) P E → Rd (evalEs Φ cs env) (fun ds => ds.length = cs.length ∧ P ds) E
  | [], env, h => ⟨rfl, h⟩
  | c :: cs, env, h => by
    simp only [evalEs] at h ⊢
    cases h1 : evalE Φ c env with
    | stuck => rw [h1] at h; exact h
    | exc a b => rw [h1] at h; exact h
    | ok x =>
      rw [h1] at h
      rw [R.ok_bind] at h ⊢
      cases h2 : escV x with
      | stuck => rw [h2] at h; exact h
      | exc a b => rw [h2] at h; exact h
      | ok d =>
        rw [h2] at h
        rw [R.ok_bind] at h ⊢
        have h3 := evalEs_len (h.bind)
        cases h4 : evalEs Φ cs env with
        | stuck => rw [h4] at h; exact h
        | exc a b => rw [h4] at h; exact h
        | ok ds =>
          rw [h4] at h h3
          obtain ⟨h5, h6⟩ := h3
          exact ⟨by simp [h5], h6⟩
theorem de_tup {x1} (h : DEs X C es cs) (hn : cs.length ≤ 1000 := by decide) : DE X C (.Tuple es x1 pos) (.tup cs) := PE.weak (pe_tup h) fun σ H Q ⟨F, env, f, h⟩ => by
  simp only [evalE] at h
  refine ⟨F, env, f, (evalEs_len h.bind).mono fun ds hd vs F' H' g r => ?_⟩
  have hl := r.length
  refine ⟨by rw [hl, hd.1]; exact Nat.le_of_lt (small1000 hn), fun p hp => ?_⟩
  exact (show Then X.K F H (.pl, .tup ds) Q from hd.2).later g |>.newT g.fh r p hp
theorem de_lst (h : DEs X C es cs) (hn : cs.length ≤ 1000 := by decide) : DE X C (.List es pos) (.lst cs) := PE.weak (pe_lst h) fun σ H Q ⟨F, env, f, h⟩ => by
  simp only [evalE] at h
  refine ⟨F, env, f, (evalEs_len h.bind).mono fun ds hd vs F' H' g r => ?_⟩
  have hl := r.length
  refine ⟨by rw [hl, hd.1]; exact Nat.le_of_lt (small1000 hn), fun p hp => ?_⟩
  exact (show Then X.K F H (.fr, .lst ds) Q from hd.2).later g |>.newL g.fh r p hp
/-! ### places, cuts -/
theorem de_idx (ha : DE X C a ca) (hb : DE X C b cb) (hs : PlainIx b := by intro _ _; rfl) : DE X C (.Subscript a b pos) (.idx ca cb) := by
  refine ⟨fun pins s σ H Q I ⟨F, env, f, h⟩ => ?_⟩
  simp only [evalE] at h
  refine Subscript_ (thn (ha.go I f h.bind) fun u s1 ⟨vx, H1, F1, x, I1, q1, g1, r1, h1⟩ => thn (hb.go I1 (f.grow g1) h1.bind) fun w s2 ⟨vy, H2, F2, y, I2, q2, g2, r2, h2⟩ => ?_)
  obtain ⟨d, er, h3⟩ := h2.bind.lift
  exact ix_ok a b pins s2 σ F2 H2 _ _ x y vx vy u w (.pl, d) Q I2 g2.fh (r1.grow g2) r2 q1 q2 (by unfold ixR; rw [er]; rfl) (Then.later h3 (g1.trans g2)) (hs _ _)
theorem PO.weak' {t t' : TO} {e : Option PySem.Expr} (h : PO X e t) (w : ∀ σ H Q, t' σ H Q → t σ H Q) : PO X e t' := ⟨fun pins s σ H Q I q => h.run pins s σ H Q I (w σ H Q q)⟩
theorem do_none : DO X C none .no := PO.weak' po_none fun σ H Q ⟨F, env, f, h⟩ => (show Rd (evalO C.Φ .no env) _ _ from h) F H (Grow.refl f.ex)
theorem do_some (ha : DE X C a ca) : DO X C (some a) (.yes ca) := PO.weak' (po_some ha) fun σ H Q ⟨F, env, f, h⟩ => by
  simp only [evalO] at h
  refine ⟨F, env, f, h.bind.mono fun x hx w F' H' g r => ?_⟩
  obtain ⟨fl, i, rfl, h2⟩ := hx.bind.asInt
  cases r.int
  exact ⟨i, rfl, h2 F' H' g⟩
def rSlc (K : PySem.W.Frag) : V → Option Int → Option Int → Hp → VK → Prop := fun v lo hi H Q => ∃ F G x r, Ex F H ∧ RRep K G F H x v ∧ slcD x.2 lo hi = some r ∧ Then K F H r Q
theorem slr_ok : SlR X (rSlc X.K) := by
  intro pins s σ H x v vl vu lo hi sl Q I rx hs pl pu h
  obtain ⟨F, G, y, r, e, ry, hg, ht⟩ := h
  exact slc_ok y r lo hi F G pins s σ H x v vl vu sl Q I e ry rx hs pl pu hg ht
theorem de_slc {lo hi : Option PySem.Expr} {cl ch : CO} {p2 : Pos} (ha : DE X C a ca) (hl : DO X C lo cl) (hh : DO X C hi ch) : DE X C (.Subscript a (.Slice lo hi none p2) pos) (.slc ca cl ch) := PE.weak (pe_slice slr_ok ha hl hh) fun σ H Q ⟨F, env, f, h⟩ => by
  simp only [evalE] at h
  refine ⟨F, env, f, h.bind.mono fun x hx w F1 H1 g1 r1 => ⟨F1, env, f.grow g1, hx.bind.mono fun l hl F2 H2 g2 => ⟨F2, env, (f.grow g1).grow g2, hl.bind.mono fun u hu F3 H3 g3 => ?_⟩⟩⟩
  obtain ⟨r, er, h3⟩ := hu.lift
  exact ⟨F3, _, x, r, g3.fh, (r1.grow g2).grow g3, er, h3.later ((g1.trans g2).trans g3)⟩
theorem de_revL {k : Nat} {p1 p2 p3 : Pos} (ha : DE X C a ca) : DE X C (.Subscript a (.Slice none none (some (.UnaryOp .USub (.Constant (.int 1) k p1) p2)) p3) pos) (.revl ca) := PE.weak (pe_revL ha) fun σ H Q ⟨F, env, f, h⟩ => by
  simp only [evalE] at h
  refine ⟨F, env, f, h.bind.mono fun x hx w F1 H1 g1 r1 => ?_⟩
  obtain ⟨fl, d⟩ := x
  cases d <;> first | exact hx.elim | skip
  rename_i ds
  obtain ⟨p, vs, rfl, h1, h2⟩ := r1.lst g1.fh
  exact ⟨p, vs, rfl, SqL.of h1, fun q hq => (show Then X.K F H (.fr, .lst ds.reverse) Q from hx).later g1 |>.newL g1.fh h2.reverse q hq⟩
/-! ### xs[i::c] -/
theorem VReps.pick {K : PySem.W.Frag} {F : Hp} {ds : List D} {vs : List V} (h : VReps K F vs ds) (f : Nat → Nat) : ∀ is : List Nat, VReps K F (is.filterMap fun k => vs[f k]?) (is.filterMap fun k => ds[f k]?)
  | [] => .nil
  | k :: is => by
    cases hd : vs[f k]? with
    | none =>
      have e : ds[f k]? = none := by
        rw [List.getElem?_eq_none_iff] at hd ⊢
        rw [← h.length]
        exact hd
      rw [List.filterMap_cons_none (f := fun k => vs[f k]?) hd, List.filterMap_cons_none (f := fun k => ds[f k]?) e]
      exact VReps.pick h f is
    | some v =>
      obtain ⟨d, h1, h2⟩ := h.getV hd
      rw [List.filterMap_cons_some (f := fun k => vs[f k]?) hd, List.filterMap_cons_some (f := fun k => ds[f k]?) h1]
      exact .cons h2 (VReps.pick h f is)
theorem VReps.everyL {K : PySem.W.Frag} {F : Hp} {ds : List D} {vs : List V} (h : VReps K F vs ds) (c i : Nat) : VReps K F (everyL c i vs) (everyL c i ds) := by
  unfold PF.everyL
  rw [h.length]
  exact h.pick _ _
theorem Vals.pick {xs : List V} {us : List Value} (h : Vals xs us) (f : Nat → Nat) : ∀ is : List Nat, Vals (is.filterMap fun k => xs[f k]?) (is.filterMap fun k => us[f k]?)
  | [] => .nil
  | k :: is => by
    cases hd : xs[f k]? with
    | none =>
      have e : us[f k]? = none := by
        rw [List.getElem?_eq_none_iff] at hd ⊢
        rw [← h.length]
        exact hd
      rw [List.filterMap_cons_none (f := fun k => xs[f k]?) hd, List.filterMap_cons_none (f := fun k => us[f k]?) e]
      exact Vals.pick h f is
    | some v =>
      obtain ⟨d, h1, h2⟩ := h.get hd
      rw [List.filterMap_cons_some (f := fun k => xs[f k]?) hd, List.filterMap_cons_some (f := fun k => us[f k]?) h1]
      exact .cons h2 (Vals.pick h f is)
theorem Vals.everyL {xs : List V} {us : List Value} (h : Vals xs us) (c i : Nat) : Vals (everyL c i xs) (everyL c i us) := by
  unfold PF.everyL
  rw [h.length]
  exact Vals.pick h _ _
theorem pick_step (its : List Value) (i : Int) (c : Nat) (hi : 0 ≤ i) (hc : 0 < c) : slicePick its.toArray (some i) none (some (c : Int)) = (everyL c i.toNat its).toArray := by
  have hcp : ((c : Int) > 0) := by omega
  unfold slicePick sliceBounds everyL sliceRange
  simp only [Option.getD_some, List.size_toArray, if_pos hcp, if_neg (Int.not_lt.mpr hi)]
  obtain ⟨n, rfl⟩ := Int.eq_ofNat_of_zero_le hi
  rw [Int.toNat_natCast]
  by_cases h : n < its.length
  · have e1 : max (0 : Int) (min (n : Int) (its.length : Int)) = (n : Int) := by omega
    rw [e1, if_pos (by omega), if_pos h]
    have e2 : (((its.length : Int) - (n : Int) + (c : Int) - 1) / (c : Int)).toNat = (its.length - n + c - 1) / c := by
      rw [show ((its.length : Int) - (n : Int) + (c : Int) - 1) = ((its.length - n + c - 1 : Nat) : Int) by omega, ← Int.natCast_ediv, Int.toNat_natCast]
    rw [e2, List.filterMap_map]
    congr 2
    funext k
    show its.toArray[((n : Int) + (c : Int) * (k : Int)).toNat]? = _
    rw [← Int.natCast_mul, ← Int.natCast_add, Int.toNat_natCast, List.getElem?_toArray]
  · have e1 : max (0 : Int) (min (n : Int) (its.length : Int)) = (its.length : Int) := by omega
    rw [e1, if_neg (Int.lt_irrefl _), if_neg h]
    rfl
def tStpL (K : PySem.W.Frag) (te : TE) (to : TO) (c : Nat) : TE := fun σ H Q => te σ H fun x H1 => to σ H1 fun l H2 => ∃ a xs i, x = .ref a ∧ l = some i ∧ 0 ≤ i ∧ 0 < c ∧ SqL K H2 a xs ∧ ∀ p, H2 p = none → Q (.ref p) (upd H2 p (.lst (everyL c i.toNat xs)))
theorem everyL_len {α : Type} (c i : Nat) (xs : List α) (hc : 0 < c) : (everyL c i xs).length ≤ xs.length := by
  unfold everyL
  refine Nat.le_trans (List.length_filterMap_le _ _) ?_
  rw [List.length_range]
  split
  · rename_i h
    refine (Nat.div_le_iff_le_mul_add_pred hc).mpr ?_
    have : xs.length ≤ c * xs.length := Nat.le_mul_of_pos_left _ hc
    omega
  · omega
theorem pe_stpL {e lo : PySem.Expr} {te : TE} {to : TO} {k : Nat} {c : Nat} {p1 p3 pos : Pos} (he : PE X e te) (hl : PO X (some lo) to) : PE X (.Subscript e (.Slice (some lo) none (some (.Constant (.int c) k p1)) p3) pos) (tStpL X.K te to c) := by
  refine ⟨fun pins s σ H Q I h => ?_⟩
  refine Subscript_ (thn (he.run pins s σ H _ I h) fun v s1 ⟨x, H1, I1, r1, q1⟩ => ?_)
  have hst : PO X (some (.Constant (.int c) k p1)) (tPart (tC (.int c))) := po_some pe_int
  refine wpAny_Slice (thn (hl.run pins s1 σ H1 _ I1 q1) fun vl s2 ⟨l, H2, I2, pl, q2⟩ => ?_)
  obtain ⟨a, xs, i, ex, el, hi, hc, hx, q⟩ := q2
  subst ex el
  cases r1
  refine thn (po_none.run pins s2 σ H2 (fun o H3 => o = none ∧ H3 = H2) I2 ⟨rfl, rfl⟩) fun vu s3 ⟨u, H3, I3, pu, eu, e3⟩ => ?_
  subst eu e3
  refine thn (hst.run pins s3 σ H3 (fun o H4 => o = some (c : Int) ∧ H4 = H3) I3 ⟨c, rfl, rfl, rfl⟩) fun vs s4 ⟨o, H4, I4, ps, eo, e4⟩ => ?_
  subst eo e4
  have I5 : Inv X pins σ H4 { s4 with heap := s4.heap.push { cls := .type "slice", data := .fields #[vl, vu, vs] } } := I4.kept (t' := s4.toks) fun b ob q => Heap.get?_push_of_some _ q
  obtain ⟨its, r, ht, hz⟩ := I5.list hx
  have hlen := r.length
  show wpAny (model X.prog X.w) X.A (subscriptTail e (.Slice (some lo) none (some (.Constant (.int c) k p1)) p3) (.ref a) (.ref s4.heap.objs.size)) (EP X pins σ Q) X.xe { s4 with heap := s4.heap.push { cls := .type "slice", data := .fields #[vl, vu, vs] } }
  refine tail_any (ops := [.ref a, .ref s4.heap.objs.size]) ht.isList.typeIs (PySem.slot_list_getitem.lookup) ?_ (by with_unfolding_all rfl)
  refine wpAny_getItem_list_slice ht.isList (Heap.IsSliceOf.new _ vl vu vs) pl pu ps (by intro h; cases h; exact absurd hc (by decide)) ?_ (by rw [List.size_toArray]; omega)
  rw [pick_step its i c hi hc]
  refine ⟨.ref _, _, I5.laid (t' := s4.toks) (o := .lst (everyL c i.toNat xs)) (fun b ob q => Heap.get?_push_of_some _ q) (Nat.le_refl _) ?_, rfl, q _ (I5.hok.fresh (Nat.le_refl _))⟩
  exact ⟨Nat.le_trans (everyL_len _ _ _ hc) hz, _, 0, Vals.everyL r c i.toNat, Heap.get?_push_size _ rfl⟩
theorem de_stpL {lo : PySem.Expr} {cl : CO} {k : Nat} {c : Nat} {p1 p3 : Pos} (ha : DE X C a ca) (hl : DO X C (some lo) cl) : DE X C (.Subscript a (.Slice (some lo) none (some (.Constant (.int c) k p1)) p3) pos) (.stpl ca cl c) := PE.weak (pe_stpL ha hl) fun σ H Q ⟨F, env, f, h⟩ => by
  simp only [evalE] at h
  refine ⟨F, env, f, h.bind.mono fun x hx w F1 H1 g1 r1 => ⟨F1, env, f.grow g1, hx.bind.mono fun l hl F2 H2 g2 => ?_⟩⟩
  obtain ⟨fl, d⟩ := x
  cases d <;> first | exact hl.elim | skip
  rename_i ds
  cases l with
  | none => exact hl.elim
  | some i =>
    obtain ⟨p, vs, rfl, h1, h2⟩ := (r1.grow g2).lst g2.fh
    have hl : Rd (if 0 ≤ i ∧ 0 < c then R.ok (Fl.fr, D.lst (everyL c i.toNat ds)) else R.stuck) _ _ := hl
    split at hl
    · rename_i hc
      exact ⟨p, vs, i, rfl, rfl, hc.1, hc.2, SqL.of h1, fun q hq => (show Then X.K F H (.fr, .lst (everyL c i.toNat ds)) Q from hl).later (g1.trans g2) |>.newL g2.fh (h2.everyL c i.toNat) q hq⟩
    · exact hl.elim
/-! ### text[::-1] -/
theorem rev_pick (t : Tx) : Builtin.Str.strSliceIndices none none (-1) (S t).length = (List.range t.length).reverse := by
  rw [S_len]
  unfold Builtin.Str.strSliceIndices
  simp only
  rw [if_neg (by decide), if_neg (by decide), PySem.W.krv_sliceRange, PySem.W.krv_range]
theorem rev_map (t : Tx) : (List.range t.length).reverse.filterMap ((S t).cps[·]?) = t.reverse := by
  rw [List.filterMap_reverse]
  have := PySem.W.krv_all t.toArray
  rw [List.size_toArray] at this
  exact congrArg List.reverse this
theorem pe_revS {e : PySem.Expr} {te : TE} {k : Nat} {p1 p2 p3 pos : Pos} (he : PE X e te) : PE X (.Subscript e (.Slice none none (some (.UnaryOp .USub (.Constant (.int 1) k p1) p2)) p3) pos) (fun σ H Q => te σ H fun x H1 => ∃ t : Tx, x = .str (S t) ∧ t.length ≤ SZ ∧ Q (.str (S t.reverse)) H1) := by
  refine ⟨fun pins s σ H Q I h => ?_⟩
  refine Subscript_ (thn (he.run pins s σ H _ I h) fun v s1 ⟨x, H1, I1, r1, q1⟩ => ?_)
  obtain ⟨t, ex, hz, q⟩ := q1
  subst ex
  obtain ⟨tk, rfl⟩ := r1
  have hst : PO X (some (.UnaryOp .USub (.Constant (.int 1) k p1) p2)) (tPart (tUn (rU fun i => .int (-i)) (L2.tC (.int 1)))) := po_some (pe_un un_neg pe_int)
  refine wpAny_Slice (thn (po_none.run pins s1 σ H1 (fun o H2 => o = none ∧ H2 = H1) I1 ⟨rfl, rfl⟩) fun vl s2 ⟨l, H2, I2, pl, el, e2⟩ => ?_)
  subst el e2
  refine thn (po_none.run pins s2 σ H2 (fun o H3 => o = none ∧ H3 = H2) I2 ⟨rfl, rfl⟩) fun vu s3 ⟨u, H3, I3, pu, eu, e3⟩ => ?_
  subst eu e3
  refine thn (hst.run pins s3 σ H3 (fun o H4 => o = some (-1) ∧ H4 = H3) I3 ⟨1, rfl, -1, rfl, rfl, rfl⟩) fun vs s4 ⟨o, H4, I4, ps, eo, e4⟩ => ?_
  subst eo e4
  have I5 : Inv X pins σ H4 { s4 with heap := s4.heap.push { cls := .type "slice", data := .fields #[vl, vu, vs] } } := I4.kept (t' := s4.toks) fun b ob q => Heap.get?_push_of_some _ q
  show wpAny (model X.prog X.w) X.A (subscriptTail e (.Slice none none (some (.UnaryOp .USub (.Constant (.int 1) k p1) p2)) p3) (.str (S t) tk) (.ref s4.heap.objs.size)) (EP X pins σ Q) X.xe { s4 with heap := s4.heap.push { cls := .type "slice", data := .fields #[vl, vu, vs] } }
  obtain ⟨l, rfl, el⟩ := IsPart.raw pl
  obtain ⟨u, rfl, eu⟩ := IsPart.raw pu
  obtain ⟨st, rfl, es⟩ := IsPart.raw ps
  refine tail_any (ops := [.str (S t) tk, .ref s4.heap.objs.size]) (PySem.typeIs_str _ (S t) tk) F.slot_str_getitem.lookup ?_ (by with_unfolding_all rfl)
  refine wpAny_getItem_str_slice (l := l) (u := u) (st := st) ⟨_, Heap.get?_push_size _ rfl, rfl, rfl⟩ (by rw [es]; rfl) ?_
  have hm : sliceMade (S t) tk l u st = .str (S t.reverse) := by
    unfold sliceMade slicePicked
    rw [el, eu, es]
    rw [if_neg (by simp)]
    simp only [Option.getD]
    rw [rev_pick, rev_map]
    rfl
  rw [hm]
  exact ⟨by rw [S_len, List.length_reverse]; exact szLine hz, .str _, H4, I5.tok _, ⟨_, rfl⟩, q⟩
theorem de_revS {k : Nat} {p1 p2 p3 : Pos} (ha : DE X C a ca) : DE X C (.Subscript a (.Slice none none (some (.UnaryOp .USub (.Constant (.int 1) k p1) p2)) p3) pos) (.revs ca) := PE.weak (pe_revS ha) fun σ H Q ⟨F, env, f, h⟩ => by
  simp only [evalE] at h
  refine ⟨F, env, f, h.bind.mono fun x hx w F1 H1 g1 r1 => ?_⟩
  obtain ⟨fl, d⟩ := x
  cases d <;> first | exact hx.elim | skip
  rename_i t
  simp only at hx
  split at hx
  · rename_i hz
    cases r1.str
    exact ⟨t, rfl, hz, (show Then X.K F H (.pl, .str t.reverse) Q from hx).later g1 |>.str g1.fh⟩
  · exact hx.elim
/-! ### constants of the modules -/
theorem de_gS {x : Str} {y : Str} {t : Tx} (hm : ∃ tk, X.mg x = some (.str y tk)) (h : S t = y := by rfl) (hg : Gl X x := by rfl) (hd : (x == ("__debug__" : Str)) = false := by decide) : DE X C (.Name x pos) (.cst (.str t)) := by
  subst h
  obtain ⟨tk, hm⟩ := hm
  exact de_cst (t := fun _ _ _ => True) (pe_glob (v := .str (S t)) hg hm ⟨tk, rfl⟩ hd) fun _ _ => .str t
theorem de_gI {x : Str} {i : Int} (hm : ∃ tk, X.mg x = some (.int i tk)) (hg : Gl X x := by rfl) (hd : (x == ("__debug__" : Str)) = false := by decide) : DE X C (.Name x pos) (.cst (.int i)) := by
  obtain ⟨tk, hm⟩ := hm
  exact de_cst (t := fun _ _ _ => True) (pe_glob (v := .int i) hg hm ⟨tk, rfl⟩ hd) fun _ _ => .int i
end
end PF

/-! Calls of defs, of built-in functions, of methods. -/
namespace PF
open PySem PySem.Spec PyProof.Rows L2
abbrev flB (b : Bool) : Fl := if b then .fr else .pl
/-- a def's promise, by what it computes -/
def spOf (K : PySem.W.Frag) (XW : XK → Nat → D → Prop) (m : List D → R (Bool × D)) (n : Nat) : Sp := fun vs H Q XE => vs.length = n ∧ ∃ F ds, Ex F H ∧ TupIn F H ∧ VReps K F vs ds ∧ Rd (m ds) (fun r => Then K F H (flB r.1, r.2) Q) (XW XE)
theorem RReps.weaks {K : PySem.W.Frag} {G F H : Hp} (e : Ex F H) {rs : List Res} {vs : List V} (h : RReps K G F H rs vs) : VReps K H vs (rs.map (·.2)) := by
  induction h with
  | nil => exact .nil
  | cons h1 _ ih => exact .cons (h1.weak e) ih
theorem RReps.len {K : PySem.W.Frag} {G F H : Hp} {rs : List Res} {vs : List V} (h : RReps K G F H rs vs) : vs.length = rs.length := by
  induction h with
  | nil => rfl
  | cons _ _ ih => simp [ih]
/-- a settled one does not touch the other new ones; here all at once, one after another -/
theorem RReps.settles {K : PySem.W.Frag} {G H : Hp} : ∀ {rs : List Res} {vs : List V} {F : Hp}, RReps K G F H rs vs → Ex F H → Ex G H → (rs.any (·.1.isBo)) = false →
    (∀ a, G a ≠ none → True) → ∃ F', Ex F F' ∧ Ex F' H ∧ (∀ a, G a ≠ none → F' a = F a) ∧ VReps K F' vs (rs.map (·.2))
  | [], _, F, h, e, _, _, _ => by
    cases h
    exact ⟨F, Evl.Ex.refl F, e, fun _ _ => rfl, .nil⟩
  | r :: rs, _, F, h, e, eg, nb, t => by
    cases h with
    | cons h1 h2 =>
      rename_i v vs
      rw [List.any_cons, Bool.or_eq_false_iff] at nb
      obtain ⟨F1, e1, e2, e3, h3⟩ := RReps.settles h2 e eg nb.2 t
      have h4 : VRep K F1 v r.2 ∨ (∃ a us, v = .ref a ∧ F a = none ∧ H a = some us ∧ Bd K F us r.2 ∧ G a = none) := by
        obtain ⟨fl, d⟩ := r
        cases fl with
        | pl => exact .inl (VRep.mono e1 h1)
        | bo => cases nb.1
        | fr =>
          obtain ⟨⟨a, us, rfl, q2, q4, q5⟩, b, q6, q7⟩ := h1
          cases q6
          exact .inr ⟨a, us, rfl, q2, q4, q5, q7⟩
      rcases h4 with h4 | ⟨a, us, rfl, q2, q4, q5, q7⟩
      · exact ⟨F1, e1, e2, e3, .cons h4 h3⟩
      · cases q8 : F1 a with
        | some o =>
          have q9 : o = us := by
            have := e2 a o q8
            rw [q4] at this
            exact (Option.some.inj this).symm
          subst q9
          exact ⟨F1, e1, e2, e3, .cons (q5.rep e1 q8) h3⟩
        | none =>
          have eF : Ex F1 (upd F1 a us) := exUpd q8
          refine ⟨upd F1 a us, e1.trans eF, fun x u q => ?_, fun x hx => ?_, .cons (q5.rep (e1.trans eF) upd_same) (h3.mono eF)⟩
          · by_cases hb : x = a
            · subst hb
              rw [upd_same] at q
              rw [q4]
              exact q
            · rw [upd_ne hb] at q
              exact e2 x u q
          · have : x ≠ a := fun z => hx (z ▸ q7)
            rw [upd_ne this]
            exact e3 x hx
theorem RReps.plainF {K : PySem.W.Frag} {G F H : Hp} {d : D} {v : V} {b : Bool} (hf : d.flat = true) (r : RRep K G F H (flB b, d) v) : b = false ∧ ∀ F', VRep K F' v d := by
  cases b with
  | true =>
    obtain ⟨⟨_, _, _, _, _, h⟩, _⟩ := (show RRep K G F H (.fr, d) v from r)
    cases h <;> cases hf
  | false => exact ⟨rfl, fun F' => VRep.flatD (show VRep K F v d from r) hf⟩
section
variable {X : Cx} {C : Ctx} {a b c e : PySem.Expr} {ca cb cc ce : CE} {pos p : Pos} {es : List PySem.Expr} {cs : List CE}
theorem tCall_of {CX : CXT} {i n : Nat} {XW : XK → Nat → D → Prop} {XE : XK} (hE : C.E = XW XE) (hn : cs.length = n) (σ : L2.St) (H : Hp) (Q : VK) (h : tD X.K C (.call i cs) σ H Q) :
    tCall (spOf X.K XW (C.Φ i) n) [] XE (tA X.K C cs) σ H Q := by
  obtain ⟨F, env, f, h⟩ := h
  simp only [evalE] at h
  have hlen : ∀ {cs : List CE} {env : Env} {P : List Res → Prop} {E : Nat → D → Prop}, Rd (evalAs C.Φ cs env) P E → Rd (evalAs C.Φ cs env) (fun ds => ds.length = cs.length ∧ P ds) E := by
    intro cs
    induction cs with
    | nil => intro env P E h; exact ⟨rfl, h⟩
    | cons c cs ih =>
      intro env P E h
      simp only [evalAs] at h ⊢
      cases h1 : evalE C.Φ c env with
      | stuck => rw [h1] at h; exact h
      | exc a b => rw [h1] at h; exact h
      | ok x =>
        rw [h1] at h
        rw [R.ok_bind] at h ⊢
        have h3 := ih (h.bind)
        cases h4 : evalAs C.Φ cs env with
        | stuck => rw [h4] at h; exact h
        | exc a b => rw [h4] at h; exact h
        | ok ds =>
          rw [h4] at h h3
          obtain ⟨h5, h6⟩ := h3
          exact ⟨by simp [h5], h6⟩
  refine ⟨F, env, f, (hlen h.bind).mono fun xs ⟨hl, hx⟩ vs F1 H1 g r => ?_⟩
  show spOf X.K XW (C.Φ i) n (vs ++ []) H1 Q XE
  rw [List.append_nil]
  refine ⟨by rw [r.len, hl, hn], ?_⟩
  have hx := hx.bind
  by_cases hb : (xs.any (·.1.isBo)) = true
  · refine ⟨H1, xs.map (·.2), Evl.Ex.refl H1, fun _ _ q => q, r.weaks g.fh, ?_⟩
    rw [← hE]
    refine hx.mono fun y hy w F' H' g' r' => ?_
    rw [hb, Bool.true_and] at hy
    by_cases hf : y.2.flat = true
    · rw [hf] at hy
      have hy : Then X.K F H (flB y.1, y.2) Q := hy
      obtain ⟨e1, e2⟩ := RReps.plainF hf r'
      rw [e1] at hy
      exact (hy.later g) w (withT F1 H') H' (Grow.withT (g.tp f.tp) g.fh g'.hh) (show VRep X.K (withT F1 H') w y.2 from e2 _)
    · rw [Bool.not_eq_true] at hf
      rw [hf] at hy
      exact hy.elim
  · have hb : (xs.any (·.1.isBo)) = false := by simpa using hb
    obtain ⟨F2, e1, e2, e3, r2⟩ := r.settles g.fh g.hh hb fun _ _ => trivial
    have g2 : Grow F H F2 H1 := ⟨g.ff.trans e1, g.hh, e2, fun a ha => by rw [e3 a ha, g.new a ha], fun t => (g.tp t).up e1⟩
    refine ⟨F2, xs.map (·.2), e2, g2.tp f.tp, r2, ?_⟩
    rw [← hE]
    refine hx.mono fun y hy => ?_
    rw [hb, Bool.false_and] at hy
    exact (show Then X.K F H (flB y.1, y.2) Q from hy).later g2
theorem de_call {CX : CXT} {k i n : Nat} {f : Addr} {fd : FuncData} {ps : List Str} {x : Str} {XW : XK → Nat → D → Prop} {XE : XK} (Fn : FnOk X.prog X.w X.K X.mg X.base CX k f fd ps (spOf X.K XW (C.Φ i) n)) (hr : Room k X.A) (hm : X.mg x = some (.ref f))
    (hk : PySem.W.keepIn X.K (.ref f) = true) (hb : Binds X.K fd ps []) (hx : Passes CX X XE) (hE : C.E = XW XE) (ha : DA X C (e :: es) cs) (hn : cs.length = n := by rfl) (hg : Gl X x := by rfl) (hdb : (x == ("__debug__" : Str)) = false := by decide)
    (he : starEach (e :: es) X.env = (false, eval e X.env) :: starEach es X.env := by rfl) (hpl : (backTo pos (starEach es X.env)).any (·.1) = false := by rfl) : DE X C (.Call (.Name x p) (e :: es) [] pos) (.call i cs) :=
  PE.weak (pe_call Fn hr hg hm hk hb .nil hx ha hdb he hpl) fun σ H Q h => tCall_of (CX := CX) hE hn σ H Q h
theorem de_call0 {CX : CXT} {k i n : Nat} {f : Addr} {fd : FuncData} {ps : List Str} {x : Str} {XW : XK → Nat → D → Prop} {XE : XK} (Fn : FnOk X.prog X.w X.K X.mg X.base CX k f fd ps (spOf X.K XW (C.Φ i) n)) (hr : Room k X.A) (hm : X.mg x = some (.ref f))
    (hk : PySem.W.keepIn X.K (.ref f) = true) (hb : Binds X.K fd ps []) (hx : Passes CX X XE) (hE : C.E = XW XE) (hn : 0 = n := by rfl) (hg : Gl X x := by rfl) (hdb : (x == ("__debug__" : Str)) = false := by decide) : DE X C (.Call (.Name x p) [] [] pos) (.call i []) :=
  PE.weak (pe_call0 Fn hr hg hm hk hb .nil hx hdb) fun σ H Q h => by
    have h1 := tCall_of (CX := CX) (cs := []) hE hn σ H Q h
    obtain ⟨F, env, f, h2⟩ := h1
    exact (show Rd (evalAs C.Φ [] env) _ _ from h2) [] F H (Grow.refl f.ex) .nil
/-! ### built-in functions -/
def rBi (K : PySem.W.Frag) (f : Bi) : List V → Hp → VK → Prop := fun vs H Q => ∃ F G rs r, Ex F H ∧ TupIn F H ∧ RReps K G F H rs vs ∧ builtin f (rs.map (·.2)) = some r ∧ Then K F H r Q
theorem bi_callR (hc : X.calm = true) (f : Bi) (hp : f.plain = true) : CallR X (biVal f) (rBi X.K f) := by
  intro pins s σ H vs us Q I qx h
  obtain ⟨F, G, rs, r, e, tp, rr, hg, ht⟩ := h
  exact bi_ok hc f hp pins s σ F H G rs vs us r Q I e tp rr qx hg ht
theorem tCB_of (f : Bi) (σ : L2.St) (H : Hp) (Q : VK) (h : tD X.K C (.bi f cs) σ H Q) : tCB (rBi X.K f) (tA X.K C cs) σ H Q := by
  obtain ⟨F, env, fr, h⟩ := h
  simp only [evalE] at h
  refine ⟨F, env, fr, h.bind.mono fun xs hx vs F1 H1 g r => ?_⟩
  obtain ⟨y, ey, h2⟩ := hx.lift
  exact ⟨F1, _, xs, y, g.fh, g.tp fr.tp, r, ey, h2.later g⟩
theorem de_biB (f : Bi) {x : Str} {id : String} (hm : X.mg x = none) (hv : bootBuiltins x = some (.builtin id)) (ha : DA X C (e :: es) cs) (hc : X.calm = true) (hid : biVal f = .builtin id := by rfl) (hp : f.plain = true := by rfl) (hg : Gl X x := by rfl) (hn : x ≠ "__name__" := by decide)
    (hdb : (x == ("__debug__" : Str)) = false := by decide) (he : starEach (e :: es) X.env = (false, eval e X.env) :: starEach es X.env := by rfl) (hpl : (backTo pos (starEach es X.env)).any (·.1) = false := by rfl) : DE X C (.Call (.Name x p) (e :: es) [] pos) (.bi f cs) := by
  have hR := bi_callR (X := X) hc f hp
  rw [hid] at hR
  exact PE.weak (pe_callB hR hg hm hv ha hn hdb he hpl) fun σ H Q h => tCB_of f σ H Q h
theorem de_biT (f : Bi) {x : Str} {id : String} (hm : X.mg x = none) (hv : bootBuiltins x = some (.type id)) (ha : DA X C (e :: es) cs) (hc : X.calm = true) (hid : biVal f = .type id := by rfl) (hp : f.plain = true := by rfl) (hg : Gl X x := by rfl) (hn : x ≠ "__name__" := by decide)
    (hdb : (x == ("__debug__" : Str)) = false := by decide) (he : starEach (e :: es) X.env = (false, eval e X.env) :: starEach es X.env := by rfl) (hpl : (backTo pos (starEach es X.env)).any (·.1) = false := by rfl) : DE X C (.Call (.Name x p) (e :: es) [] pos) (.bi f cs) := by
  have hR := bi_callR (X := X) hc f hp
  rw [hid] at hR
  exact PE.weak (pe_callTy hR hg hm hv ha hn hdb he hpl) fun σ H Q h => tCB_of f σ H Q h
def rIsin (K : PySem.W.Frag) (t : Ty) : List V → Hp → VK → Prop := fun vs H Q => ∃ F G x v r, vs = [v, .ty (tyName t)] ∧ Ex F H ∧ RRep K G F H x v ∧ builtin (.isin t) [x.2] = some r ∧ Then K F H r Q
theorem de_isin (t : Ty) {x y : Str} {p2 : Pos} (hm : X.mg x = none) (hv : bootBuiltins x = some (.builtin "isinstance")) (hm2 : X.mg y = none) (hv2 : bootBuiltins y = some (.type (tyName t))) (ha : DE X C e ce) (hg : Gl X x := by rfl) (hg2 : Gl X y := by rfl)
    (hn : x ≠ "__name__" := by decide) (hdb : (x == ("__debug__" : Str)) = false := by decide) (hn2 : y ≠ "__name__" := by decide) (hdb2 : (y == ("__debug__" : Str)) = false := by decide)
    (he : starEach [e, .Name y p2] X.env = (false, eval e X.env) :: starEach [.Name y p2] X.env := by rfl) (hpl : (backTo pos (starEach [.Name y p2] X.env)).any (·.1) = false := by rfl) (he2 : starEach [.Name y p2] X.env = (false, eval (.Name y p2) X.env) :: starEach [] X.env := by rfl) :
    DE X C (.Call (.Name x p) [e, .Name y p2] [] pos) (.bi (.isin t) [ce]) := by
  have hR : CallR X (.builtin "isinstance") (rIsin X.K t) := by
    intro pins s σ H vs us Q I qx h
    obtain ⟨F, G, x, v, r, rfl, e, rr, hg, ht⟩ := h
    exact isin_ok t pins s σ F H G x v us r Q I e rr qx hg ht
  have hA : PA X [e, .Name y p2] (tCons (tD X.K C ce) (tCons (L2.tC (.ty (tyName t))) tNil)) := pa_cons ha (pa_cons (pe_bltn hg2 hm2 hv2 rfl hn2 hdb2) pa_nil he2) he
  refine PE.weak (pe_callB hR hg hm hv hA hn hdb he hpl) fun σ H Q ⟨F, env, fr, h⟩ => ?_
  simp only [evalE, evalAs] at h
  refine ⟨F, env, fr, h.bind.bind.mono fun x hx v F1 H1 g r => ?_⟩
  have hx := hx.bind
  obtain ⟨y, ey, h2⟩ := (show Rd (lift (builtin (.isin t) ([x].map (·.2)))) _ _ from hx).lift
  exact ⟨F1, _, x, v, y, rfl, g.fh, r, ey, h2.later g⟩
/-! ### methods -/
theorem de_join {apos : Pos} (ho : DE X C a ca) (he : DE X C b cb) (hs : starEach [b] X.env = [(false, eval b X.env)] := by rfl) (hbase : attributeBase a "join" X.env (eval a X.env) = eval a X.env := by rfl) (hline : (apos.endLine == pos.line) = true := by rfl) :
    DE X C (.Call (.Attribute a "join" apos) [b] [] pos) (.mt .join ca [cb]) := by
  have hR : MtR X "str.join" (fun v vs H Q => ∃ F G1 G2 x y vy r, vs = [vy] ∧ Ex F H ∧ RRep X.K G1 F H x v ∧ RRep X.K G2 F H y vy ∧ method .join x.2 [y.2] = some r ∧ Then X.K F H r Q) := by
    intro pins s σ H v vs u us Q I rv rs h
    obtain ⟨F, G1, G2, x, y, vy, r, rfl, e, r1, r2, hg, ht⟩ := h
    exact (join_ok pins s σ F H G1 G2 x y v vy u us r Q I e r1 r2 rv rs hg ht).2
  refine PE.weak (pe_m1 PySem.F.slot_str_join PySem.F.type_str_join hR ho he hs hbase hline) fun σ H Q ⟨F, env, fr, h⟩ => ?_
  simp only [evalE, evalAs] at h
  refine ⟨F, env, fr, h.bind.mono fun x hx v F1 H1 g1 r1 => ?_⟩
  obtain ⟨_, e0, hx⟩ := hx.bind.lift
  refine ⟨?_, F1, env, fr.grow g1, hx.bind.bind.mono fun y hy vy F2 H2 g2 r2 => ?_⟩
  · obtain ⟨fx, dx⟩ := x
    cases dx <;> simp only [mtOn] at e0 <;> try cases e0
    cases r1.str
    exact ⟨_, rfl⟩
  · obtain ⟨z, ez, h2⟩ := (show Rd (lift (method .join x.2 ([y].map (·.2)))) _ _ from hy).lift
    exact ⟨F2, _, _, x, y, vy, z, rfl, g2.fh, r1.grow g2, r2, ez, h2.later (g1.trans g2)⟩
theorem de_sindex {apos : Pos} (ho : DE X C a ca) (he : DE X C b cb) (hs : starEach [b] X.env = [(false, eval b X.env)] := by rfl) (hbase : attributeBase a "index" X.env (eval a X.env) = eval a X.env := by rfl) (hline : (apos.endLine == pos.line) = true := by rfl) :
    DE X C (.Call (.Attribute a "index" apos) [b] [] pos) (.mt .sindex ca [cb]) := by
  have hR : MtR X "str.index" (fun v vs H Q => ∃ F G1 G2 x y vy r, vs = [vy] ∧ Ex F H ∧ RRep X.K G1 F H x v ∧ RRep X.K G2 F H y vy ∧ method .sindex x.2 [y.2] = some r ∧ Then X.K F H r Q) := by
    intro pins s σ H v vs u us Q I rv rs h
    obtain ⟨F, G1, G2, x, y, vy, r, rfl, e, r1, r2, hg, ht⟩ := h
    exact (sindex_ok pins s σ F H G1 G2 x y v vy u us r Q I e r1 r2 rv rs hg ht).2
  refine PE.weak (pe_m1 PySem.F.slot_str_index PySem.F.type_str_index hR ho he hs hbase hline) fun σ H Q ⟨F, env, fr, h⟩ => ?_
  simp only [evalE, evalAs] at h
  refine ⟨F, env, fr, h.bind.mono fun x hx v F1 H1 g1 r1 => ?_⟩
  obtain ⟨_, e0, hx⟩ := hx.bind.lift
  refine ⟨?_, F1, env, fr.grow g1, hx.bind.bind.mono fun y hy vy F2 H2 g2 r2 => ?_⟩
  · obtain ⟨fx, dx⟩ := x
    cases dx <;> simp only [mtOn] at e0 <;> try cases e0
    cases r1.str
    exact ⟨_, rfl⟩
  · obtain ⟨z, ez, h2⟩ := (show Rd (lift (method .sindex x.2 ([y].map (·.2)))) _ _ from hy).lift
    exact ⟨F2, _, _, x, y, vy, z, rfl, g2.fh, r1.grow g2, r2, ez, h2.later (g1.trans g2)⟩
end
end PF

/-! Targets, what is walked, comprehensions. -/
namespace PF
open PySem PySem.Spec PyProof.Rows L2
/-! ### targets -/
/-- a target that stores at js -/
def GOk (K : PySem.W.Frag) (js : List Nat) (g : TG) : Prop :=
  ∀ (F0 H0 F H : Hp) (env env' : Env) (σ : L2.St) (v : V) (d : D) (Q : L2.St → Hp → Prop), FrI K F0 H0 F H env σ → VRep K F v d → bindT js d env = .ok env' →
    (∀ σ', σ'.length = σ.length → (∀ i, i ∉ js → σ'[i]? = σ[i]?) → FrI K F0 H0 F H env' σ' → Q σ' H) → g v σ H Q
theorem gok_name {K : PySem.W.Frag} (j : Nat) : GOk K [j] (gName j) := by
  intro F0 H0 F H env env' σ v d Q f r hb h
  simp only [bindT] at hb
  split at hb
  · cases hb
    refine h _ (by simp) (fun i hi => ?_) (f.setP r)
    rw [List.getElem?_set_ne]
    exact fun e => hi (by simp [e])
  · cases hb
/-- several names -/
def gNames : List Nat → TGs
  | [] => gNil
  | j :: js => gCons (gName j) (gNames js)
theorem gnames_ok {K : PySem.W.Frag} : ∀ (js : List Nat) {F0 H0 F H : Hp} {env : Env} {σ : L2.St} {vs : List V} {ds : List D} {Q : L2.St → Hp → Prop}, FrI K F0 H0 F H env σ → VReps K F vs ds → ds.length = js.length →
    (∀ σ', σ'.length = σ.length → (∀ i, i ∉ js → σ'[i]? = σ[i]?) → FrI K F0 H0 F H (setSlots js ds env) σ' → Q σ' H) → gNames js vs σ H Q
  | [], F0, H0, F, H, env, σ, vs, ds, Q, f, r, hl, h => by
    have e : ds = [] := List.length_eq_zero_iff.mp hl
    subst e
    cases r
    exact ⟨rfl, h σ rfl (fun _ _ => rfl) f⟩
  | j :: js, F0, H0, F, H, env, σ, vs, ds, Q, f, r, hl, h => by
    cases ds with
    | nil => cases hl
    | cons d ds =>
      cases r with
      | cons r1 r2 =>
        refine ⟨_, _, rfl, ?_⟩
        refine gnames_ok js (f.setP (j := j) r1) r2 (by simpa using hl) fun σ' h1 h2 h3 => h σ' (by simpa using h1) (fun i hi => ?_) h3
        rw [h2 i (fun z => hi (List.mem_cons_of_mem _ z)), List.getElem?_set_ne]
        exact fun e => hi (by simp [e])
theorem gok_tup {K : PySem.W.Frag} {js : List Nat} {n : Nat} (hn : n = js.length) (h2 : js.length ≠ 1) : GOk K js (gTup K n (gNames js)) := by
  subst hn
  intro F0 H0 F H env env' σ v d Q f r hb h
  unfold bindT at hb
  split at hb
  · exact absurd rfl h2
  · rename_i ds _
    split at hb
    · rename_i hc
      cases hb
      cases r with
      | tup h3 h4 => exact ⟨_, _, rfl, SqT.of (f.ex _ _ h3), by rw [h4.length, hc.1], gnames_ok js f h4 hc.1 h⟩
    · cases hb
  · cases hb
section
variable {X : Cx} {C : Ctx} {a b c e tg : PySem.Expr} {ca cb cc ce : CE} {pos p : Pos} {es : List PySem.Expr} {cs : List CE}
theorem pgn_nil : PGs X [] (gNames []) := pgs_nil
theorem pgn_cons {i : Nat} {js : List Nat} {x : Str} (h2 : PGs X es (gNames js)) (hN : X.N.Nodup) (hi : X.N[i]? = some x := by rfl) (hx : Loc X.env.scope x := by first | exact Or.inl rfl | exact Or.inr rfl) (hf : X.fn x = true ∨ X.env.scope.names.lookup x = some .local := by first | exact .inl rfl | exact .inr rfl)
    (hs : (assignEach (.Name x pos :: es) X.env).map (·.2) = assign (.Name x pos) X.env :: (assignEach es X.env).map (·.2) := by rfl) : PGs X (.Name x pos :: es) (gNames (i :: js)) := pgs_cons (pg_name hN hi hx hf) h2 hs
theorem pgn_tup {k : Nat} {js : List Nat} (hc : X.calm = true) (h : PGs X es (gNames js)) (n : Nat) (hn : (assignEach es X.env).length = n := by rfl) (hst : (assignEach es X.env).findIdx? (·.1) = none := by rfl) : PG X (.Tuple es k pos) (gTup X.K n (gNames js)) := pg_tup hc h hn hst
/-! ### what is walked -/
theorem PI.weak' {t t' : TI} (h : PI X tg e t) (w : ∀ σ H R, t' σ H R → t σ H R) : PI X tg e t' := ⟨fun pins s σ H R I q => h.run pins s σ H R I (w σ H R q)⟩
theorem walkD_at {K : PySem.W.Frag} {B F H : Hp} {J : It} {n : Nat} {G : Hp → Prop} {xs : List V} {ds : List D} (w : Walk J n G (fun i H x H' => H' = H ∧ xs[i]? = some x)) (hn : n = ds.length) (hG : ∀ H, Ex B H → G H) (r : VReps K F xs ds) : WalkD K B F J ds := by
  subst hn
  refine ⟨G, _, w, hG, fun F1 H1 i x H2 e1 e2 _ e3 hi ⟨q1, q2⟩ => ?_⟩
  subst q1
  refine ⟨F1, Grow.refl e2, fun d hd => ?_⟩
  obtain ⟨v, h1, h2⟩ := r.get hd
  rw [q2] at h1
  cases h1
  exact h2.mono e1
theorem walkD_fn {K : PySem.W.Frag} {B F H : Hp} {J : It} {n : Nat} {G : Hp → Prop} {f : Nat → V} {ds : List D} (w : Walk J n G (fun i H x H' => H' = H ∧ x = f i)) (hn : n = ds.length) (hG : ∀ H, Ex B H → G H) (r : ∀ i d F, ds[i]? = some d → VRep K F (f i) d) : WalkD K B F J ds := by
  subst hn
  refine ⟨G, _, w, hG, fun F1 H1 i x H2 e1 e2 _ e3 hi ⟨q1, q2⟩ => ?_⟩
  subst q1
  refine ⟨F1, Grow.refl e2, fun d hd => ?_⟩
  rw [q2]
  exact r i d F1 hd
theorem vreps_ints {K : PySem.W.Frag} {F : Hp} : ∀ ns : List Int, VReps K F (ns.map V.int) (ns.map .int)
  | [] => .nil
  | n :: ns => .cons (.int n) (vreps_ints ns)
/-- a list, walked -/
theorem di_list (ha : DE X C a ca) : DI X C tg a (.seq .list ca) := PI.weak' (pi_list ha) fun σ H R ⟨F, env, f, h⟩ => by
  simp only [evalI] at h
  refine ⟨F, env, f, h.bind.mono fun x hx w F1 H1 g r => ?_⟩
  obtain ⟨fl, d⟩ := x
  cases d <;> first | exact hx.elim | skip
  · rename_i ds
    obtain ⟨p, vs, rfl, h1, h2⟩ := r.lst g.fh
    have hx : ∀ J F' H', Grow F H F' H' → WalkD X.K (if fl.isBo then H' else F') F' J ds → R J H' := hx
    cases fl with
    | pl =>
      cases r with
      | lst h3 h4 =>
        cases HO.lst.inj (Option.some.inj (h1.symm.trans (g.fh _ _ h3)))
        exact ⟨p, rfl, ⟨vs, SqL.of h1⟩, hx _ F1 H1 g (walkD_at (H := H1) walk_list h2.length (fun H' e' => SqL.of (e' _ _ h3)) h2)⟩
    | bo => exact ⟨p, rfl, ⟨vs, SqL.of h1⟩, hx _ F1 H1 g (walkD_at (H := H1) walk_list h2.length (fun H' e' => SqL.of (e' _ _ h1)) h2)⟩
    | fr =>
      obtain ⟨F2, g2, e2, r2⟩ := g.settle r rfl
      cases r2 with
      | lst h3 h4 => exact ⟨p, rfl, ⟨vs, SqL.of h1⟩, hx _ F2 H1 g2 (walkD_at (H := H1) walk_list h4.length (fun H' e' => SqL.of (e' _ _ h3)) h4)⟩
  · rename_i ns
    obtain ⟨p, rfl, h1⟩ := r.scr
    have hx : ∀ J F' H', Grow F H F' H' → WalkD X.K (if fl.isBo then H' else F') F' J (ns.map .int) → R J H' := hx
    have hr : ∀ F, VReps X.K F (ns.map V.int) (ns.map .int) := fun F => by
      clear hx h r h1
      exact vreps_ints ns
    refine ⟨p, rfl, ⟨_, Evl.ex_l g.fh h1⟩, hx _ F1 H1 g (walkD_at (H := H1) walk_list (by simp) (fun H' e' => Evl.ex_l e' (by split; exact Evl.ex_l g.fh h1; exact h1)) (hr F1))⟩
theorem di_tup (ha : DE X C a ca) : DI X C tg a (.seq .tuple ca) := PI.weak' (pi_tup ha) fun σ H R ⟨F, env, f, h⟩ => by
  simp only [evalI] at h
  refine ⟨F, env, f, h.bind.mono fun x hx w F1 H1 g r => ?_⟩
  obtain ⟨fl, d⟩ := x
  cases d <;> first | exact hx.elim | skip
  rename_i ds
  obtain ⟨p, vs, rfl, h1, h2⟩ := r.tup
  have hx : ∀ J F' H', Grow F H F' H' → WalkD X.K (if fl.isBo then H' else F') F' J ds → R J H' := hx
  exact ⟨p, rfl, ⟨vs, Evl.ex_t g.fh h1⟩, hx _ F1 H1 g (walkD_at (H := H1) walk_tup h2.length (fun H' e' => Evl.ex_t e' (by split; exact Evl.ex_t g.fh h1; exact h1)) h2)⟩
theorem di_str (ha : DE X C a ca) : DI X C tg a (.seq .str ca) := PI.weak' (pi_str ha) fun σ H R ⟨F, env, f, h⟩ => by
  simp only [evalI] at h
  refine ⟨F, env, f, h.bind.mono fun x hx w F1 H1 g r => ?_⟩
  obtain ⟨fl, d⟩ := x
  cases d <;> first | exact hx.elim | skip
  rename_i t
  cases r.str
  have hx : ∀ J F' H', Grow F H F' H' → WalkD X.K (if fl.isBo then H' else F') F' J (t.map fun c => .str [c]) → R J H' := hx
  refine ⟨_, rfl, hx _ F1 H1 g ?_⟩
  refine ⟨fun _ => True, fun i H v H' => H' = H ∧ ∃ c, (S t).cps[i]? = some c ∧ v = .str ⟨#[c]⟩, ?_, fun _ _ => trivial, fun F2 H2 i x H3 e1 e2 _ e3 hi ⟨q1, c, q2, q3⟩ => ?_⟩
  · have w := walk_str (z := S t)
    have el : (S t).cps.size = (t.map fun c => D.str [c]).length := by
      rw [List.length_map]
      exact S_len t
    rw [el] at w
    exact w
  · subst q1 q3
    refine ⟨F2, Grow.refl e2, fun d hd => ?_⟩
    rw [List.getElem?_map] at hd
    have q4 : t[i]? = some c := by
      have : (S t).cps[i]? = t[i]? := by unfold S; simp
      rw [← this]
      exact q2
    rw [q4] at hd
    cases hd
    exact .str [c]
theorem rangeI_len (lo : Int) (n : Nat) : (rangeI lo n).length = n := by simp [rangeI]
theorem rangeC_len (lo c : Int) (n : Nat) : (rangeC lo c n).length = n := by simp [rangeC]
theorem walkD_range {K : PySem.W.Frag} {B F : Hp} (lo : Int) (n : Nat) : WalkD K B F (Itr lo n) (rangeI lo n) :=
  walkD_fn (H := B) walk_range (rangeI_len lo n).symm (fun _ _ => trivial) fun i d F hd => by
    unfold rangeI at hd
    rw [List.getElem?_map] at hd
    obtain ⟨j, h1, h2⟩ := Option.map_eq_some_iff.mp hd
    obtain ⟨h3, h4⟩ := List.getElem?_eq_some_iff.mp h1
    rw [List.getElem_range] at h4
    subst h4 h2
    exact .int _
theorem walkD_rangeC {K : PySem.W.Frag} {B F : Hp} (lo c : Int) (n : Nat) : WalkD K B F (Itc lo c n) (rangeC lo c n) :=
  walkD_fn (H := B) walk_rangeC (rangeC_len lo c n).symm (fun _ _ => trivial) fun i d F hd => by
    unfold rangeC at hd
    rw [List.getElem?_map] at hd
    obtain ⟨j, h1, h2⟩ := Option.map_eq_some_iff.mp hd
    obtain ⟨h3, h4⟩ := List.getElem?_eq_some_iff.mp h1
    rw [List.getElem_range] at h4
    subst h4 h2
    exact .int _
theorem rgOk_iff {i : Int} (h : rgOk i = true) : -1000000 ≤ i ∧ i ≤ 1000000 := by
  unfold rgOk at h
  simpa using h
theorem di_rg1 (ha : DE X C a ca) (hm : X.mg "range" = none) (hg : Gl X "range" := by rfl) (hs : starEach [a] X.env = [(false, eval a X.env)] := by rfl) : DI X C tg (.Call (.Name "range" p) [a] [] pos) (.rg1 ca) :=
  PI.weak' (pi_range1 hg hm (pa_cons ha pa_nil hs) hs) fun σ H R ⟨F, env, f, h⟩ => by
    simp only [evalI] at h
    refine ⟨F, env, f, h.bind.mono fun x hx w F1 H1 g r => ?_⟩
    obtain ⟨fl, i, rfl, h2⟩ := hx.bind.asInt
    cases r.int
    split at h2
    · rename_i hc
      obtain ⟨c1, c2⟩ := rgOk_iff hc
      have h2 : ∀ J F' H', Grow F H F' H' → WalkD X.K (if false then H' else F') F' J (rangeI 0 i.toNat) → R J H' := h2
      exact ⟨i, rfl, by omega, by omega, h2 _ F1 H1 g (walkD_range 0 _)⟩
    · exact h2.elim
theorem di_rg2 (ha : DE X C a ca) (hb : DE X C b cb) (hm : X.mg "range" = none) (hg : Gl X "range" := by rfl) (hs : starEach [a, b] X.env = [(false, eval a X.env), (false, eval b X.env)] := by rfl) (hs2 : starEach [b] X.env = [(false, eval b X.env)] := by rfl) :
    DI X C tg (.Call (.Name "range" p) [a, b] [] pos) (.rg2 ca cb) :=
  PI.weak' (pi_range2 hg hm (pa_cons ha (pa_cons hb pa_nil hs2) (by rw [hs, hs2])) hs hs2) fun σ H R ⟨F, env, f, h⟩ => by
    simp only [evalI] at h
    refine ⟨F, env, f, h.bind.mono fun x hx w F1 H1 g r => ?_⟩
    obtain ⟨fl, i, rfl, h2⟩ := hx.bind.asInt
    cases r.int
    refine ⟨F1, env, f.grow g, h2.bind.mono fun y hy w2 F2 H2 g2 r2 => ?_⟩
    obtain ⟨fl2, j, rfl, h3⟩ := hy.bind.asInt
    cases r2.int
    split at h3
    · rename_i hc
      rw [Bool.and_eq_true] at hc
      obtain ⟨c1, c2⟩ := rgOk_iff hc.1
      obtain ⟨c3, c4⟩ := rgOk_iff hc.2
      have h3 : ∀ J F' H', Grow F H F' H' → WalkD X.K (if false then H' else F') F' J (rangeI i (j - i).toNat) → R J H' := h3
      exact ⟨i, j, rfl, by omega, h3 _ F2 H2 (g.trans g2) (walkD_range _ _)⟩
    · exact h3.elim
theorem rgSz {i j c : Int} : Builtin.Range.rangeSize i j c = (rgN i j c : Nat) := by
  have key : ∀ x c : Int, 0 ≤ x → 0 < c → 0 ≤ x / c := fun x c hx hc => Int.ediv_nonneg hx (Int.le_of_lt hc)
  unfold Builtin.Range.rangeSize rgN
  split
  · split
    · have := key (j - i - 1) c (by omega) (by omega)
      omega
    · rfl
  · split
    · by_cases h0 : c = 0
      · subst h0
        simp
      · have := key (i - j - 1) (-c) (by omega) (by omega)
        omega
    · rfl
theorem rgN_le {i j c : Int} (hi : rgOk i = true) (hj : rgOk j = true) (h0 : c ≠ 0) : (rgN i j c : Int) ≤ 2000001 := by
  obtain ⟨a1, a2⟩ := rgOk_iff hi
  obtain ⟨b1, b2⟩ := rgOk_iff hj
  have key : ∀ x c : Int, 0 ≤ x → 0 < c → x / c ≤ x := fun x c hx hc => Int.ediv_le_self c hx
  unfold rgN
  split
  · split
    · have := key (j - i - 1) c (by omega) (by omega)
      omega
    · omega
  · split
    · have := key (i - j - 1) (-c) (by omega) (by omega)
      omega
    · omega
theorem rgC_ok {i j c : Int} (hi : rgOk i = true) (hj : rgOk j = true) (hc : rgOk c = true) (h0 : c ≠ 0) : RgC i j c (rgN i j c) := by
  have hn := rgN_le hi hj h0
  obtain ⟨a1, a2⟩ := rgOk_iff hi
  obtain ⟨b1, b2⟩ := rgOk_iff hj
  obtain ⟨c1, c2⟩ := rgOk_iff hc
  refine ⟨h0, by omega, ?_, rgSz⟩
  unfold Builtin.Range.small
  rw [rgSz]
  generalize (rgN i j c : Nat) = n at hn ⊢
  simp only [Builtin.Range.rangeFitsLong, Bool.and_eq_true, Bool.or_eq_true, decide_eq_true_eq, beq_iff_eq]
  have e1 : (1000000 : Int) ≤ 2 ^ 63 := by decide
  have e2 : (-1000000 : Int) ≥ -(2 ^ 63) := by decide
  refine ⟨⟨⟨⟨by omega, by omega⟩, by omega, by omega⟩, by omega, by omega⟩, .inr ?_⟩
  split <;> (rw [Bool.and_eq_true, decide_eq_true_eq, decide_eq_true_eq]; omega)
theorem di_rg3 (ha : DE X C a ca) (hb : DE X C b cb) (hcc : DE X C c cc) (hm : X.mg "range" = none) (hg : Gl X "range" := by rfl) (hs : starEach [a, b, c] X.env = (false, eval a X.env) :: starEach [b, c] X.env := by rfl) (hs2 : starEach [b, c] X.env = (false, eval b X.env) :: starEach [c] X.env := by rfl)
    (hs3 : starEach [c] X.env = (false, eval c X.env) :: starEach [] X.env := by rfl) (hpl : (backTo pos (starEach [b, c] X.env)).any (·.1) = false := by rfl) : DI X C tg (.Call (.Name "range" p) [a, b, c] [] pos) (.rg3 ca cb cc) :=
  PI.weak' (pi_range3 hg hm (pa_cons ha (pa_cons hb (pa_cons hcc pa_nil hs3) hs2) hs) hs hpl) fun σ H R ⟨F, env, f, h⟩ => by
    simp only [evalI] at h
    refine ⟨F, env, f, h.bind.mono fun x hx w F1 H1 g r => ?_⟩
    obtain ⟨fl, i, rfl, h2⟩ := hx.bind.asInt
    cases r.int
    refine ⟨F1, env, f.grow g, h2.bind.mono fun y hy w2 F2 H2 g2 r2 => ?_⟩
    obtain ⟨fl2, j, rfl, h3⟩ := hy.bind.asInt
    cases r2.int
    refine ⟨F2, env, (f.grow g).grow g2, h3.bind.mono fun z hz w3 F3 H3 g3 r3 => ?_⟩
    obtain ⟨fl3, k, rfl, h4⟩ := hz.bind.asInt
    cases r3.int
    split at h4
    · rename_i hc
      rw [Bool.and_eq_true, Bool.and_eq_true, Bool.and_eq_true] at hc
      have h4 : ∀ J F' H', Grow F H F' H' → WalkD X.K (if false then H' else F') F' J (rangeC i k (rgN i j k)) → R J H' := h4
      exact ⟨i, j, k, _, rfl, rgC_ok hc.1.1.1 hc.1.1.2 hc.1.2 (of_decide_eq_true hc.2), h4 _ F3 H3 ((g.trans g2).trans g3) (walkD_rangeC _ _ _)⟩
    · exact h4.elim
theorem di_rvd (ha : DE X C a ca) (hm : X.mg "reversed" = none) (hg : Gl X "reversed" := by rfl) (hs : starEach [a] X.env = [(false, eval a X.env)] := by rfl) : DI X C tg (.Call (.Name "reversed" p) [a] [] pos) (.rvd ca) :=
  PI.weak' (pi_reversed hg hm (pa_cons ha pa_nil hs) hs) fun σ H R ⟨F, env, f, h⟩ => by
    simp only [evalI] at h
    refine ⟨F, env, f, h.bind.mono fun x hx w F1 H1 g r => ?_⟩
    obtain ⟨fl, d⟩ := x
    cases d <;> first | exact hx.elim | skip
    rename_i ds
    obtain ⟨q, vs, rfl, h1, h2⟩ := r.lst g.fh
    have hx : ∀ J F' H', Grow F H F' H' → WalkD X.K (if fl.isBo then H' else F') F' J ds.reverse → R J H' := hx
    have key : ∀ (B F2 : Hp) (vs : List V), VReps X.K F2 vs ds → B q = some (.lst vs) → WalkD X.K B F2 (Itv X.K q vs.length) ds.reverse := fun B F2 vs r2 hB => by
      refine walkD_at (H := B) (walk_rev.mono (G' := fun H' => SqL X.K H' q vs) (Y' := fun i H x H' => H' = H ∧ vs.reverse[i]? = some x) (fun _ h => h) fun i H' x H'' hi _ y => ⟨y.1, ?_⟩) (by rw [List.length_reverse, r2.length]) (fun H' e' => SqL.of (e' _ _ hB)) r2.reverse
      rw [List.getElem?_reverse hi]
      exact y.2
    cases fl with
    | pl =>
      cases r with
      | lst h3 h4 =>
        cases HO.lst.inj (Option.some.inj (h1.symm.trans (g.fh _ _ h3)))
        exact ⟨q, vs, rfl, SqL.of h1, hx _ F1 H1 g (key F1 F1 vs h2 h3)⟩
    | bo => exact ⟨q, vs, rfl, SqL.of h1, hx _ F1 H1 g (key H1 F1 vs h2 h1)⟩
    | fr =>
      obtain ⟨F2, g2, e2, r2⟩ := g.settle r rfl
      cases r2 with
      | lst h3 h4 =>
        cases HO.lst.inj (Option.some.inj (h1.symm.trans (g2.fh _ _ h3)))
        exact ⟨q, vs, rfl, SqL.of h1, hx _ F2 H1 g2 (key F2 F2 vs h4 h3)⟩
/-! ### comprehensions -/
theorem PTs.weak' {ts : List PySem.Expr} {t t' : TT} (h : PTs X ts t) (w : ∀ σ H Q, t' σ H Q → t σ H Q) : PTs X ts t' := ⟨fun pins s σ H Q I q => h.run pins s σ H Q I (w σ H Q q)⟩
theorem dc_nil : DC X C [] .no := PTs.weak' pts_nil fun σ H Q ⟨F, env, f, h⟩ => (show Rd (evalC C.Φ .no env) _ _ from h) F H (Grow.refl f.ex)
theorem dc_one (h : DT X C e ce) : DC X C [e] (.yes ce) := PTs.weak' (pts_one h) fun σ H Q ⟨F, env, f, h⟩ => ⟨F, env, f, by simp only [evalC] at h; exact h⟩
theorem wipe_get {σ : L2.St} {i : Nat} : ∀ {js : List Nat}, (wipe σ js)[i]? = if i ∈ js ∧ i < σ.length then some none else σ[i]?
  | [] => by simp [wipe]
  | j :: js => by
    show ((wipe σ js).set j none)[i]? = _
    have ih := wipe_get (σ := σ) (i := i) (js := js)
    rw [List.getElem?_set]
    by_cases e : j = i
    · subst e
      rw [if_pos rfl, wipe_length]
      by_cases hl : j < σ.length
      · simp [hl]
      · simp [hl, List.getElem?_eq_none (Nat.not_lt.mp hl)]
    · rw [if_neg e, ih]
      have : (i ∈ j :: js) ↔ (i ∈ js) := by simp [show i ≠ j from fun z => e z.symm]
      simp only [this]
theorem wipe_of {σ σ' : L2.St} {js : List Nat} (hl : σ'.length = σ.length) (h : ∀ i, i ∉ js → σ'[i]? = (wipe σ js)[i]?) : wipe σ' js = wipe σ js := by
  apply List.ext_getElem?
  intro i
  rw [wipe_get, wipe_get]
  by_cases hi : i ∈ js
  · by_cases hn : i < σ.length
    · rw [if_pos ⟨hi, by rw [hl]; exact hn⟩, if_pos ⟨hi, hn⟩]
    · rw [if_neg (fun z => hn (by rw [← hl]; exact z.2)), if_neg (fun z => hn z.2), List.getElem?_eq_none (by omega), List.getElem?_eq_none (by omega)]
  · rw [if_neg (fun z => hi z.1), if_neg (fun z => hi z.1), h i hi, wipe_get, if_neg (fun z => hi z.1)]
theorem lcGo_at {α : Type} {P : List α → Prop} {E : Nat → D → Prop} {g : D → R (Option α)} {x : D} {r : List D} (h : Rd (lcGo g (x :: r)) P E) : Rd (g x) (fun y => Rd (lcGo g r) (fun ys => P (match y with | some d => d :: ys | none => ys)) E) E :=
  h.bind.mono fun y hy => hy.bind.mono fun ys hys => by cases y <;> exact hys
/-- the reading of a comprehension -/
theorem tLc_of {it : CI} {cf : CO} {t : List Nat} {g : TG} (hg : GOk X.K t g) (σ : L2.St) (H : Hp) (Q : VK) (h : tD X.K C (.lc t it cf ce) σ H Q) :
    tLc (tI X.K C it) g (tC' X.K C.noE cf) (tD X.K C.noE ce) t σ H Q := by
  obtain ⟨F, env, f, h⟩ := h
  simp only [evalE] at h
  refine ⟨F, env, f, h.bind.mono fun w hw J F1 H1 g1 wk Dd hD => ?_⟩
  obtain ⟨bo, ds⟩ := w
  simp only at hw wk
  obtain ⟨G, Y, hwk, hG, hY⟩ := wk
  have f1 := f.grow g1
  have eB : ∀ H2, Ex H1 H2 → Ex (if bo = true then H1 else F1) H2 := fun H2 e2 => by
    split
    · exact e2
    · exact f1.ex.trans e2
  obtain ⟨_, hz, hw⟩ := hw.bind.lift
  have hz : ds.length ≤ SZ := by
    by_cases hh : ds.length ≤ SZ
    · exact hh
    · rw [if_neg hh] at hz
      cases hz
  generalize hgd : (fun x => calm (do
      let env' ← bindT t x (wipeE env t)
      let k ← evalC C.Φ cf env'
      if k then do
        let y ← evalE C.Φ ce env'
        let d ← escV y
        pure (some d)
      else pure none)) = gd at hw
  have calmed : ∀ {x : D} {P : Option D → Prop} {E : Nat → D → Prop}, Rd (gd x) P E → Rd (do
      let env' ← bindT t x (wipeE env t)
      let k ← evalC C.Φ cf env'
      if k then do
        let y ← evalE C.Φ ce env'
        let d ← escV y
        pure (some d)
      else pure none) P (fun _ _ => False) := fun {x P E} h => by
    subst hgd
    exact h.calm
  refine lc_it hwk (fun i H2 => ∃ F2 acc ys, Grow F1 H1 F2 H2 ∧ F2 Dd = none ∧ H2 Dd = some (.lst acc) ∧ VReps X.K F2 acc ys ∧ ys.length ≤ i ∧ Rd (lcGo gd (ds.drop i)) (fun rest => Then X.K F H (.fr, .lst (ys ++ rest)) Q) C.E)
    ⟨F1, [], [], ?_, exNone g1.fh hD, upd_same, .nil, Nat.le_refl _, by rw [List.drop_zero]; exact hw.bind⟩ (fun i H2 hi ⟨F2, acc, ys, g2, _⟩ => hG H2 (eB H2 g2.hh)) ?_ ?_
  · exact Grow.own f1.ex hD
  · rintro i x H2 H3 hi ⟨F2, acc, ys, g2, fD, hDD, ry, hl, hgo⟩ hy
    obtain ⟨F3, g3, hx⟩ := hY F2 H2 i x H3 g2.ff g2.fh (g2.tp f1.tp) (eB H2 g2.hh) hi hy
    have hd : ds[i]? = some ds[i] := List.getElem?_eq_getElem hi
    have rx := hx _ hd
    have fD3 : F3 Dd = none := by rw [g3.new Dd (by rw [hDD]; simp), fD]
    have hDD3 : H3 Dd = some (.lst acc) := g3.hh _ _ hDD
    rw [List.drop_eq_getElem_cons hi] at hgo
    have hgo := calmed (lcGo_at hgo)
    -- the target
    cases hb : bindT t ds[i] (wipeE env t) with
    | stuck => rw [hb] at hgo; exact hgo.elim
    | exc c d => rw [hb] at hgo; exact hgo.elim
    | ok env' =>
      rw [hb, R.ok_bind] at hgo
      have f3 : FrI X.K C.F0 C.H0 F3 H3 (wipeE env t) (wipe σ t) := (f1.grow (g2.trans g3)).wipe t
      refine hg _ _ F3 H3 _ env' (wipe σ t) x _ _ f3 rx hb fun σ2 hl2 hs2 f4 => ⟨wipe_of (hl2.trans (wipe_length σ t)) hs2, F3, env', f4, hgo.bind.mono fun k hk F5 H5 g5 => ?_⟩
      have fD5 : F5 Dd = none := by rw [g5.new Dd (by rw [hDD3]; simp), fD3]
      have hDD5 : H5 Dd = some (.lst acc) := g5.hh _ _ hDD3
      have g15 : Grow F1 H1 F5 H5 := (g2.trans g3).trans g5
      cases k with
      | false =>
        rw [if_neg Bool.false_ne_true] at hk
        refine iteF ?_
        exact ⟨F5, acc, ys, g15, fD5, hDD5, ry.mono (g3.ff.trans g5.ff), Nat.le_succ_of_le hl, hk⟩
      | true =>
        rw [if_pos rfl] at hk
        refine iteT ?_
        refine ⟨F5, env', f4.grow g5, hk.bind.mono fun y hy w F6 H6 g6 r6 => ?_⟩
        obtain ⟨nb, hy⟩ := hy.bind.escV
        obtain ⟨F7, g7, e7, r7⟩ := g6.settle r6 nb
        have fD7 : F7 Dd = none := by rw [g7.new Dd (by rw [hDD5]; simp), fD5]
        have hDD7 : H6 Dd = some (.lst acc) := g7.hh _ _ hDD5
        have g17 : Grow F1 H1 F7 H6 := g15.trans g7
        have ra : VReps X.K F7 acc ys := ry.mono ((g3.ff.trans g5.ff).trans g7.ff)
        refine ⟨acc, hDD7, ?_, F7, acc ++ [w], ys ++ [y.2], ?_, fD7, upd_same, ra.append (.cons r7 .nil), by simp; omega, ?_⟩
        · rw [ra.length]
          have := szLine hz
          omega
        · refine ⟨g17.ff, fun a u q => ?_, fun a u q => ?_, g17.new, fun t => (g17.tp t).own (by intro xs z; cases z)⟩
          · rw [upd_ne (fun z => by rw [z, hD] at q; cases q)]
            exact g17.hh a u q
          · rw [upd_ne (fun z => by rw [z, fD7] at q; cases q)]
            exact g17.fh a u q
        · exact (show Rd (lcGo gd (ds.drop (i + 1))) _ _ from hy).mono fun rest hr => by rw [List.append_assoc]; exact hr
  · rintro H2 ⟨F2, acc, ys, g2, fD, hDD, ry, hl, hgo⟩
    rw [List.drop_length] at hgo
    have hgo : Then X.K F H (.fr, .lst (ys ++ [])) Q := hgo
    rw [List.append_nil] at hgo
    exact hgo _ F2 H2 (g1.trans g2) ⟨⟨Dd, _, rfl, fD, hDD, .lst ry⟩, Dd, rfl, exNone g1.hh hD⟩
theorem de_lc {it elt : PySem.Expr} {ifs : List PySem.Expr} {scope : Scope} {own : List (Str × Nat)} {t : List Nat} {g : TG} {ci : CI} {cf : CO} (hc : X.calm = true) (hN : X.N.Nodup) (hi : DI X C tg it ci) (ok : BlkOk X.N X.env.scope scope own) (hg : GOk X.K t g)
    (hgt : ∀ (s : Shared) (H : Hp) (Ca : Addr) (cl : List (Str × Addr)) (fp : List Addr), PG (X.blk s H scope (compEnvC scope cl Ca X.env) fp) tg g) (ht : ∀ (s : Shared) (H : Hp) (Ca : Addr) (cl : List (Str × Addr)) (fp : List Addr), DC (X.blk s H scope (compEnvC scope cl Ca X.env) fp) C.noE ifs cf)
    (he : ∀ (s : Shared) (H : Hp) (Ca : Addr) (cl : List (Str × Addr)) (fp : List Addr), DE (X.blk s H scope (compEnvC scope cl Ca X.env) fp) C.noE elt ce) (ho : own.map (·.2) = t := by rfl) (hs : ∀ x, foldedSetIterable it X.env x = pure x := by intro _; rfl) :
    DE X C (.ListComp elt [⟨tg, it, ifs, 0⟩] scope pos) (.lc t ci cf ce) := by
  subst ho
  exact PE.weak (pe_lc hc hN hi ok hgt ht he hs) fun σ H Q h => tLc_of hg σ H Q h
end
end PF

/-! Statements of the core language. -/
namespace PF
open PySem PySem.Spec PyProof.Rows L2
section
variable {X : Cx} {C : Ctx} {a b c e tg it : PySem.Expr} {ca cb cc ce : CE} {pos p pos' : Pos} {es : List PySem.Expr} {cs : List CE} {st : PySem.Stmt} {sts body orelse : List PySem.Stmt} {k : CS} {ks kb kc : List CS}
theorem PS.weak' {t t' : TS} (h : PS X st t) (w : ∀ D σ H, t' D σ H → t D σ H) : PS X st t' := ⟨fun pins s σ H D I q => h.run pins s σ H D I (w D σ H q)⟩
theorem PSs.weak' {t t' : TS} (h : PSs X sts t) (w : ∀ D σ H, t' D σ H → t D σ H) : PSs X sts t' := ⟨fun pins s σ H D I q => h.run pins s σ H D I (w D σ H q)⟩
theorem EndS.up {K : PySem.W.Frag} {D : Ends} {F F' : Hp} {o : Out} (h : EndS K C D F o) (e : Ex F F') : EndS K C D F' o := by
  cases o with
  | nx env => exact fun σ F2 H2 f e2 => h σ F2 H2 f (e.trans e2)
  | brk env => exact fun σ F2 H2 f e2 => h σ F2 H2 f (e.trans e2)
  | cnt env => exact fun σ F2 H2 f e2 => h σ F2 H2 f (e.trans e2)
  | ret fr d env => exact h
theorem dss_nil : DSs X C [] [] := PSs.weak' pss_nil fun D σ H ⟨F, env, f, h⟩ => (show EndS X.K C D F (.nx env) from h) σ F H f (Evl.Ex.refl F)
theorem dss_cons (h1 : DS X C st k) (h2 : DSs X C sts ks) : DSs X C (st :: sts) (k :: ks) := PSs.weak' (pss_cons h1 h2) fun D σ H ⟨F, env, f, h⟩ => by
  simp only [execs] at h
  refine ⟨F, env, f, h.bind.mono fun o ho => ?_⟩
  cases o with
  | nx env' => exact fun σ' F' H' f' e' => ⟨F', env', f', (show Rd (execs C.Φ C.W ks env') _ _ from ho).mono fun o ho => ho.up e'⟩
  | brk env' => exact ho
  | cnt env' => exact ho
  | ret fr d env' => exact ho
/-- names made everybody's ahead -/
theorem ds_fz (js : List Nat) (h : DS X C st k) : DS X C st (.fz js k) := PS.weak' h fun D σ H ⟨F, env, f, h⟩ => by
  simp only [exec] at h
  obtain ⟨F', f', e'⟩ := FrI.freezes js f
  exact ⟨F', _, f', h.mono fun o ho => ho.up e'⟩
theorem asg_of {i : Nat} {te : TE} (w : ∀ σ H Q, tD X.K C ce σ H Q → te σ H Q) (D : Ends) (σ : L2.St) (H : Hp) (h : tS X.K C (.asg i ce) D σ H) : tAsg te (gName i) D σ H := by
  obtain ⟨F, env, f, h⟩ := h
  simp only [exec] at h
  refine w σ H _ ⟨F, env, f, h.bind.mono fun x hx v F1 H1 g r => ?_⟩
  split at hx
  · exact hx.elim
  · rename_i hc
    rw [Bool.or_eq_true, not_or, Bool.not_eq_true, Bool.not_eq_true] at hc
    have hx : EndS X.K C D F (.nx (env.set i (some (decide (x.1 = .fr), x.2)))) := hx
    exact hx _ F1 H1 (f.setR g r hc.1) g.ff
theorem ds_asg (i : Nat) {x : Str} (he : DE X C e ce) (hN : X.N.Nodup) (hi : X.N[i]? = some x := by rfl) (hx : Loc X.env.scope x := by first | exact Or.inl rfl | exact Or.inr rfl) (hs : swapsWith e (some (.Name x pos')) pos.line X.env = pure false := by rfl)
    (hf : X.fn x = true ∨ X.env.scope.names.lookup x = some .local := by first | exact .inl rfl | exact .inr rfl) : DS X C (.Assign [.Name x pos'] e pos) (.asg i ce) :=
  PS.weak' (ps_set hN hi hx he hs hf) fun D σ H h => asg_of (fun _ _ _ q => q) D σ H h
theorem ds_asgLc (i : Nat) {y : Str} {elt : PySem.Expr} {ifs : List PySem.Expr} {scope : Scope} {own : List (Str × Nat)} {t : List Nat} {g : TG} {ci : CI} {cf : CO} (hc : X.calm = true) (hN : X.N.Nodup) (hi : DI X C tg it ci) (ok : BlkOk X.N X.env.scope scope own) (hg : GOk X.K t g)
    (hgt : ∀ (s : Shared) (H : Hp) (Ca : Addr) (cl : List (Str × Addr)) (fp : List Addr), PG (X.blk s H scope (compEnvC scope cl Ca X.env) fp) tg g) (ht : ∀ (s : Shared) (H : Hp) (Ca : Addr) (cl : List (Str × Addr)) (fp : List Addr), DC (X.blk s H scope (compEnvC scope cl Ca X.env) fp) C.noE ifs cf)
    (he : ∀ (s : Shared) (H : Hp) (Ca : Addr) (cl : List (Str × Addr)) (fp : List Addr), DE (X.blk s H scope (compEnvC scope cl Ca X.env) fp) C.noE elt ce) (hy : X.N[i]? = some y := by rfl) (hyl : X.env.scope.names.lookup y = some .local := by rfl)
    (hsw : swapsWith (.ListComp elt [⟨tg, it, ifs, 0⟩] scope pos) (some (.Name y pos')) p.line X.env = pure true := by exact sw_true rfl rfl rfl rfl) (ho : own.map (·.2) = t := by rfl) (hs : ∀ x, foldedSetIterable it X.env x = pure x := by intro _; rfl) :
    DS X C (.Assign [.Name y pos'] (.ListComp elt [⟨tg, it, ifs, 0⟩] scope pos) p) (.asg i (.lc t ci cf ce)) := by
  subst ho
  exact PS.weak' (ps_setLc hc hN hy hyl hsw hi ok hgt ht he hs) fun D σ H h => asg_of (fun σ H Q q => tLc_of hg σ H Q q) D σ H h
theorem ds_asgT {js : List Nat} {n : Nat} {kt : Nat} (he : DE X C e ce) (hg : PG X (.Tuple es kt pos') (gTup X.K n (gNames js))) (hn : n = js.length := by rfl) (h1' : js.length ≠ 1 := by decide) (hs : swapsWithSole [.Tuple es kt pos'] e pos.line X.env = pure false := by rfl) (hw : swappedStores [.Tuple es kt pos'] e X.env = pure none := by rfl)
    (h1 : (assignEach [.Tuple es kt pos'] X.env).map (·.2) = [assign (.Tuple es kt pos') X.env] := by rfl) : DS X C (.Assign [.Tuple es kt pos'] e pos) (.asgT js ce) :=
  PS.weak' (ps_asg he hg hs hw h1) fun D σ H ⟨F, env, f, h⟩ => by
    simp only [exec] at h
    refine ⟨F, env, f, h.bind.mono fun x hx v F1 H1 g r => ?_⟩
    split at hx
    · exact hx.elim
    · rename_i hc
      rw [Bool.or_eq_true, not_or, Bool.not_eq_true] at hc
      obtain ⟨F2, g2, e2, r2⟩ := g.settle r hc.1
      cases hb : bindT js x.2 env with
      | stuck => rw [hb] at hx; exact hx.elim
      | exc c d =>
        exfalso
        unfold bindT at hb
        split at hb
        · split at hb <;> cases hb
        · split at hb <;> cases hb
        · cases hb
      | ok env' =>
        rw [hb] at hx
        exact gok_tup hn h1' _ _ F2 H1 env env' σ v x.2 _ (f.grow g2) r2 hb fun σ' _ _ f' => (show EndS X.K C D F (.nx env') from hx) σ' F2 H1 f' g2.ff
/-- a, b = x, y -/
theorem ds_par {i j : Nat} {x y : Str} {px py pt pt2 : Pos} {kt k2 : Nat} (hc : X.calm = true) (hN : X.N.Nodup) (ha : DEs X C [a, b] cs) (hij : i ≠ j := by decide) (hi : X.N[i]? = some x := by rfl) (hj : X.N[j]? = some y := by rfl)
    (hx : X.env.scope.names.lookup x = some .local := by rfl) (hy : X.env.scope.names.lookup y = some .local := by rfl) (hw : swappedStores [.Tuple [.Name x px, .Name y py] kt pt] (.Tuple [a, b] k2 pt2) X.env = pure (some [x, y]) := by rfl)
    (hs : swapsWithSole [.Tuple [.Name x px, .Name y py] kt pt] (.Tuple [a, b] k2 pt2) pos.line X.env = pure false := by rfl) : DS X C (.Assign [.Tuple [.Name x px, .Name y py] kt pt] (.Tuple [a, b] k2 pt2) pos) (.asgT [i, j] (.tup cs)) :=
  PS.weak' (ps_par hc hN hi hj hij hx hy ha hw hs) fun D σ H ⟨F, env, f, h⟩ => by
    simp only [exec, evalE] at h
    refine ⟨F, env, f, h.bind.bind.mono fun ds hx vs F1 H1 g r => ?_⟩
    have hx : Rd (bindT [i, j] (.tup ds) env >>= fun env' => pure (.nx env')) (EndS X.K C D F) C.E := hx
    simp only [bindT] at hx
    split at hx
    · rename_i hl
      match ds, r, hl with
      | [d1, d2], .cons r1 (.cons r2 .nil), _ => exact ⟨_, _, rfl, (show EndS X.K C D F (.nx _) from hx) _ F1 H1 (((f.grow g).setP r1).setP r2) g.ff⟩
    · exact hx.elim
theorem ds_par3 {i j l : Nat} {x y z : Str} {px py pz pt pt2 : Pos} {kt k2 : Nat} (hc : X.calm = true) (hN : X.N.Nodup) (ha : DEs X C [a, b, c] cs) (hij : i ≠ j := by decide) (hil : i ≠ l := by decide) (hjl : j ≠ l := by decide) (hi : X.N[i]? = some x := by rfl) (hj : X.N[j]? = some y := by rfl) (hl : X.N[l]? = some z := by rfl)
    (hx : X.env.scope.names.lookup x = some .local := by rfl) (hy : X.env.scope.names.lookup y = some .local := by rfl) (hz : X.env.scope.names.lookup z = some .local := by rfl) (hw : swappedStores [.Tuple [.Name x px, .Name y py, .Name z pz] kt pt] (.Tuple [a, b, c] k2 pt2) X.env = pure (some [x, y, z]) := by rfl)
    (hs : swapsWithSole [.Tuple [.Name x px, .Name y py, .Name z pz] kt pt] (.Tuple [a, b, c] k2 pt2) pos.line X.env = pure false := by rfl) : DS X C (.Assign [.Tuple [.Name x px, .Name y py, .Name z pz] kt pt] (.Tuple [a, b, c] k2 pt2) pos) (.asgT [i, j, l] (.tup cs)) :=
  PS.weak' (ps_par3 hc hN hi hj hl hij hil hjl hx hy hz ha hw hs) fun D σ H ⟨F, env, f, h⟩ => by
    simp only [exec, evalE] at h
    refine ⟨F, env, f, h.bind.bind.mono fun ds hx vs F1 H1 g r => ?_⟩
    have hx : Rd (bindT [i, j, l] (.tup ds) env >>= fun env' => pure (.nx env')) (EndS X.K C D F) C.E := hx
    simp only [bindT] at hx
    split at hx
    · rename_i hl
      match ds, r, hl with
      | [d1, d2, d3], .cons r1 (.cons r2 (.cons r3 .nil)), _ => exact ⟨_, _, _, rfl, (show EndS X.K C D F (.nx _) from hx) _ F1 H1 ((((f.grow g).setP r1).setP r2).setP r3) g.ff⟩
    · exact hx.elim
theorem Rd.ownL {env : Env} {j : Nat} {P : List D → Prop} {E : Nat → D → Prop} (h : Rd (ownL env j) P E) : ∃ ds, env[j]? = some (some (true, .lst ds)) ∧ P ds := by
  unfold PF.ownL at h
  split at h
  · rename_i ds he
    exact ⟨ds, he, h⟩
  · exact h.elim
theorem ixN_eq (n : Nat) (i : Int) : L2.ixN n i = PF.ixN n i := rfl
theorem ds_setI (j : Nat) {x : Str} {px pt : Pos} (hi : DE X C b cb) (he : DE X C e ce) (hN : X.N[j]? = some x := by rfl) (hv : Vis X.env.scope x := by first | exact Or.inl rfl | exact Or.inr (Or.inl rfl) | exact Or.inr (Or.inr rfl)) (hd : (x == ("__debug__" : Str)) = false := by decide)
    (hcd : (x == ("__classdict__" : Str)) = false := by decide) (hs : swapsWithSole [.Subscript (.Name x px) b pt] e pos.line X.env = pure false := by rfl) (hw : swappedStores [.Subscript (.Name x px) b pt] e X.env = pure none := by rfl)
    (h1 : (assignEach [.Subscript (.Name x px) b pt] X.env).map (·.2) = [assign (.Subscript (.Name x px) b pt) X.env] := by rfl)
    (ha : ∀ v, assign (.Subscript (.Name x px) b pt) X.env v = (do
      let ov ← holding [v] (eval (.Name x px) X.env)
      let iv ← holding [v, ov] (eval b X.env)
      standAt pt
      holding [v, ov, iv] (setItem ov iv v)
      release [v, ov, iv] []) := by intro _; rfl) : DS X C (.Assign [.Subscript (.Name x px) b pt] e pos) (.setI j cb ce) :=
  PS.weak' (ps_asg he (pg_sub (pe_var hN hv hd hcd) hi set_list ha) hs hw h1) fun D σ H ⟨F, env, f, h⟩ => by
    simp only [exec] at h
    refine ⟨F, env, f, h.bind.mono fun x hx v F1 H1 g r => ?_⟩
    obtain ⟨nb, hx⟩ := hx.bind.escV
    obtain ⟨ds, ej, hx⟩ := hx.bind.ownL
    obtain ⟨F2, g2, e2, r2⟩ := g.settle r nb
    have f2 := f.grow g2
    obtain ⟨q, vs, q1, _⟩ := f2.mut (ds' := []) ej
    refine ⟨_, q1, F2, env, f2, hx.bind.mono fun y hy w F3 H3 g3 r3 => ?_⟩
    obtain ⟨fl, k, rfl, hy2⟩ := hy.bind.asInt
    clear hy
    have hy := hy2
    cases r3.int
    split at hy
    · rename_i n hn
      have f3 := f2.grow g3
      obtain ⟨q', vs', q1', q2', q3', q4'⟩ := f3.mut (ds' := ds.set n x.2) ej
      rw [q1] at q1'
      cases q1'
      refine ⟨q, vs', k, n, rfl, rfl, q2', by rw [ixN_eq, q3'.length]; exact hn, ?_⟩
      exact (show EndS X.K C D F (.nx _) from hy) _ _ _ (q4' _ (q3'.set n (r2.mono g3.ff))) (g2.ff.trans g3.ff)
    · exact hy.elim
theorem ds_app (j : Nat) {x : Str} {px apos cpos : Pos} (he : DE X C e ce) (hN : X.N[j]? = some x := by rfl) (hv : Vis X.env.scope x := by first | exact Or.inl rfl | exact Or.inr (Or.inl rfl) | exact Or.inr (Or.inr rfl)) (hd : (x == ("__debug__" : Str)) = false := by decide)
    (hcd : (x == ("__classdict__" : Str)) = false := by decide) (hbase : attributeBase (.Name x px) "append" X.env (eval (.Name x px) X.env) = eval (.Name x px) X.env := by rfl)
    (hfew : ((backTo cpos (starEach [e] X.env)).all (fun x => !x.1) && (backToKw cpos (keywordEach [] X.env)).all (fun x => x.1.isSome)
      && decide (([e] : List PySem.Expr).length + ([] : List Keyword).length + (if ([] : List Keyword).isEmpty then 0 else 1) < 30)) = true := by rfl)
    (hline : (apos.endLine == cpos.line) = true := by rfl) (hs : starEach [e] X.env = (false, eval e X.env) :: starEach [] X.env := by rfl) (hplain : (backTo cpos (starEach [] X.env)).any (·.1) = false := by rfl) (hsw : swapsWith (.Call (.Attribute (.Name x px) "append" apos) [e] [] cpos) none pos.line X.env = pure false := by rfl) :
    DS X C (.Expr (.Call (.Attribute (.Name x px) "append" apos) [e] [] cpos) pos) (.app j ce) :=
  PS.weak' (ps_expr (pe_bm PySem.F.plainAttrs_list PySem.F.slot_list_append PySem.F.type_list_append mt_append (pe_var hN hv hd hcd) (pa_cons he pa_nil hs) hbase hfew hline hs hplain) hsw) fun D σ H ⟨F, env, f, h⟩ => by
    simp only [exec] at h
    obtain ⟨ds, ej, hx⟩ := h.bind.ownL
    obtain ⟨q, vs, q1, q2, q3, _⟩ := f.mut (ds' := []) ej
    refine ⟨_, q1, .inl ⟨rfl, vs, SqL.of q2⟩, F, env, f, hx.bind.mono fun x hx v F1 H1 g r => ?_⟩
    obtain ⟨nb, hx⟩ := hx.bind.escV
    obtain ⟨F2, g2, e2, r2⟩ := g.settle r nb
    have f2 := f.grow g2
    split at hx
    · rename_i hl
      obtain ⟨q', vs', q1', q2', q3', q4'⟩ := f2.mut (ds' := ds ++ [x.2]) ej
      rw [q1] at q1'
      cases q1'
      refine ⟨q, vs', v, rfl, rfl, q2', ?_, ?_⟩
      · rw [q3'.length]
        exact Nat.lt_of_lt_of_le hl (szLine (Nat.le_refl _))
      · exact (show EndS X.K C D F (.nx _) from hx) _ _ _ (q4' _ (q3'.append (.cons r2 .nil))) g2.ff
    · exact hx.elim
theorem ds_ext (j : Nat) {x : Str} {px apos cpos : Pos} (he : DE X C e ce) (hN : X.N[j]? = some x := by rfl) (hv : Vis X.env.scope x := by first | exact Or.inl rfl | exact Or.inr (Or.inl rfl) | exact Or.inr (Or.inr rfl)) (hd : (x == ("__debug__" : Str)) = false := by decide)
    (hcd : (x == ("__classdict__" : Str)) = false := by decide) (hbase : attributeBase (.Name x px) "extend" X.env (eval (.Name x px) X.env) = eval (.Name x px) X.env := by rfl)
    (hfew : ((backTo cpos (starEach [e] X.env)).all (fun x => !x.1) && (backToKw cpos (keywordEach [] X.env)).all (fun x => x.1.isSome)
      && decide (([e] : List PySem.Expr).length + ([] : List Keyword).length + (if ([] : List Keyword).isEmpty then 0 else 1) < 30)) = true := by rfl)
    (hline : (apos.endLine == cpos.line) = true := by rfl) (hs : starEach [e] X.env = (false, eval e X.env) :: starEach [] X.env := by rfl) (hplain : (backTo cpos (starEach [] X.env)).any (·.1) = false := by rfl) (hsw : swapsWith (.Call (.Attribute (.Name x px) "extend" apos) [e] [] cpos) none pos.line X.env = pure false := by rfl) :
    DS X C (.Expr (.Call (.Attribute (.Name x px) "extend" apos) [e] [] cpos) pos) (.ext j ce) :=
  PS.weak' (ps_expr (pe_bm PySem.F.plainAttrs_list PySem.F.slot_list_extend PySem.F.type_list_extend mt_extend (pe_var hN hv hd hcd) (pa_cons he pa_nil hs) hbase hfew hline hs hplain) hsw) fun D σ H ⟨F, env, f, h⟩ => by
    simp only [exec] at h
    obtain ⟨ds, ej, hx⟩ := h.bind.ownL
    obtain ⟨q, vs, q1, q2, q3, _⟩ := f.mut (ds' := []) ej
    refine ⟨_, q1, .inl ⟨rfl, vs, SqL.of q2⟩, F, env, f, hx.bind.mono fun x hx v F1 H1 g r => ?_⟩
    obtain ⟨fl, d⟩ := x
    cases d <;> first | exact hx.elim | skip
    rename_i es'
    have hx : Rd (if ds.length + es'.length ≤ SZ then pure (.nx (env.set j (some (true, .lst (ds ++ es'))))) else .stuck) (EndS X.K C D F) C.E := hx
    obtain ⟨p', us, rfl, h1, h2⟩ := r.lst g.fh
    have f2 := f.grow g
    split at hx
    · rename_i hl
      obtain ⟨q', vs', q1', q2', q3', q4'⟩ := f2.mut (ds' := ds ++ es') ej
      rw [q1] at q1'
      cases q1'
      refine ⟨q, p', vs', us, rfl, rfl, q2', h1, ?_, ?_⟩
      · rw [q3'.length, h2.length]
        exact szLine hl
      · exact (show EndS X.K C D F (.nx _) from hx) _ _ _ (q4' _ (q3'.append h2)) g.ff
    · exact hx.elim
theorem ds_rvs (j : Nat) {x : Str} {px apos cpos : Pos} (hN : X.N[j]? = some x := by rfl) (hv : Vis X.env.scope x := by first | exact Or.inl rfl | exact Or.inr (Or.inl rfl) | exact Or.inr (Or.inr rfl)) (hd : (x == ("__debug__" : Str)) = false := by decide)
    (hcd : (x == ("__classdict__" : Str)) = false := by decide) (hbase : attributeBase (.Name x px) "reverse" X.env (eval (.Name x px) X.env) = eval (.Name x px) X.env := by rfl)
    (hline : (apos.endLine == cpos.line) = true := by rfl) (hsw : swapsWith (.Call (.Attribute (.Name x px) "reverse" apos) [] [] cpos) none pos.line X.env = pure false := by rfl) :
    DS X C (.Expr (.Call (.Attribute (.Name x px) "reverse" apos) [] [] cpos) pos) (.rvs j) :=
  PS.weak' (ps_expr (pe_bm0 PySem.F.plainAttrs_list PySem.F.slot_list_reverse PySem.F.type_list_reverse mt_reverse (pe_var hN hv hd hcd) hbase hline) hsw) fun D σ H ⟨F, env, f, h⟩ => by
    simp only [exec] at h
    obtain ⟨ds, ej, hx⟩ := h.bind.ownL
    obtain ⟨q, vs, q1, q2, q3, q4⟩ := f.mut (ds' := ds.reverse) ej
    exact ⟨_, q1, .inl ⟨rfl, vs, SqL.of q2⟩, q, vs, rfl, rfl, q2, (show EndS X.K C D F (.nx _) from hx) _ _ _ (q4 _ q3.reverse) (Evl.Ex.refl F)⟩
/-- the value of a pop -/
theorem pop_of {t : List Nat} {j : Nat} {ds : List D} {n : Nat} {F H : Hp} {env : Env} {σ : L2.St} {D : Ends} {g : TG} (f : FrI X.K C.F0 C.H0 F H env σ) (ej : env[j]? = some (some (true, .lst ds))) (gk : t = [] ∨ GOk X.K t g)
    (h : Rd (match ds[n]? with
      | some d => do
        let env1 := env.set j (some (true, .lst (ds.eraseIdx n)))
        if t = [] then pure (.nx env1) else do
          let env' ← bindT t d env1
          pure (.nx env')
      | none => .stuck) (EndS X.K C D F) C.E) :
    ∃ q vs v, σ[j]? = some (some (.ref q)) ∧ H q = some (.lst vs) ∧ vs.length = ds.length ∧ vs[n]? = some v ∧ (t = [] → D.nx σ (upd H q (.lst (vs.eraseIdx n)))) ∧ (GOk X.K t g → t ≠ [] → g v σ (upd H q (.lst (vs.eraseIdx n))) D.nx) := by
  split at h
  · rename_i d hd
    obtain ⟨q, vs, q1, q2, q3, q4⟩ := f.mut (ds' := ds.eraseIdx n) ej
    obtain ⟨v, h1, h2⟩ := q3.get hd
    have f2 := q4 _ (q3.erase n)
    refine ⟨q, vs, v, q1, q2, q3.length, h1, fun e => ?_, fun gk e => ?_⟩
    · simp only [e, if_true] at h
      exact (show EndS X.K C D F (.nx _) from h) _ _ _ f2 (Evl.Ex.refl F)
    · simp only [e, if_false] at h
      cases hb : bindT t d (env.set j (some (true, .lst (ds.eraseIdx n)))) with
      | stuck => rw [hb] at h; exact h.elim
      | exc c d' =>
        exfalso
        unfold bindT at hb
        split at hb
        · split at hb <;> cases hb
        · split at hb <;> cases hb
        · cases hb
      | ok env' =>
        rw [hb] at h
        exact gk _ _ F _ _ env' σ v d _ f2 h2 hb fun σ' _ _ f' => (show EndS X.K C D F (.nx env') from h) σ' F _ f' (Evl.Ex.refl F)
  · exact h.elim
theorem dropLast_eq {α : Type} (xs : List α) : xs.dropLast = xs.eraseIdx (xs.length - 1) := by
  rw [List.eraseIdx_length_sub_one]
theorem pop0_of {t : List Nat} {j : Nat} {F H : Hp} {env : Env} {σ : L2.St} {D : Ends} {g : TG} (f : FrI X.K C.F0 C.H0 F H env σ) (gk : t = [] ∨ GOk X.K t g) (h : Rd (exec C.Φ C.W (.pop t j .no) env) (EndS X.K C D F) C.E) :
    ∃ q, σ[j]? = some (some (.ref q)) ∧ (∃ vs, H q = some (.lst vs)) ∧ (t = [] → rPop (.ref q) [] H fun v H' => D.nx σ H') ∧ (GOk X.K t g → t ≠ [] → rPop (.ref q) [] H fun v H' => g v σ H' D.nx) := by
  simp only [exec, evalO] at h
  obtain ⟨ds, ej, hx⟩ := h.bind.ownL
  have hx := hx
  by_cases h0 : ds.length = 0
  · simp [h0, R.ok_bind, Rd] at hx
  · simp only [R.ok_bind, h0, if_false] at hx
    obtain ⟨q, vs, v, q1, q2, q3, q4, q5, q6⟩ := pop_of f ej gk hx
    rw [← q3] at q4 q5 q6
    refine ⟨q, q1, ⟨vs, q2⟩, fun e => ⟨q, vs, v, rfl, rfl, q2, q4, ?_⟩, fun gk e => ⟨q, vs, v, rfl, rfl, q2, q4, ?_⟩⟩
    · rw [dropLast_eq]
      exact q5 e
    · rw [dropLast_eq]
      exact q6 gk e
theorem ds_pop0 (j : Nat) {x : Str} {px apos cpos : Pos} (hN : X.N[j]? = some x := by rfl) (hv : Vis X.env.scope x := by first | exact Or.inl rfl | exact Or.inr (Or.inl rfl) | exact Or.inr (Or.inr rfl)) (hd : (x == ("__debug__" : Str)) = false := by decide)
    (hcd : (x == ("__classdict__" : Str)) = false := by decide) (hbase : attributeBase (.Name x px) "pop" X.env (eval (.Name x px) X.env) = eval (.Name x px) X.env := by rfl)
    (hline : (apos.endLine == cpos.line) = true := by rfl) (hsw : swapsWith (.Call (.Attribute (.Name x px) "pop" apos) [] [] cpos) none pos.line X.env = pure false := by rfl) :
    DS X C (.Expr (.Call (.Attribute (.Name x px) "pop" apos) [] [] cpos) pos) (.pop [] j .no) :=
  PS.weak' (ps_expr (pe_bm0 PySem.F.plainAttrs_list PySem.F.slot_list_pop PySem.F.type_list_pop mt_pop (pe_var hN hv hd hcd) hbase hline) hsw) fun D σ H ⟨F, env, f, h⟩ => by
    obtain ⟨q, q1, ⟨vs, q2⟩, q3, _⟩ := pop0_of (g := gName 0) f (.inl rfl) h
    exact ⟨_, q1, .inl ⟨rfl, vs, SqL.of q2⟩, q3 rfl⟩
theorem ds_popN (i j : Nat) {x y : Str} {px apos cpos : Pos} (hNd : X.N.Nodup) (hy : X.N[i]? = some y := by rfl) (hyl : Loc X.env.scope y := by first | exact Or.inl rfl | exact Or.inr rfl) (hN : X.N[j]? = some x := by rfl) (hv : Vis X.env.scope x := by first | exact Or.inl rfl | exact Or.inr (Or.inl rfl) | exact Or.inr (Or.inr rfl)) (hd : (x == ("__debug__" : Str)) = false := by decide)
    (hcd : (x == ("__classdict__" : Str)) = false := by decide) (hbase : attributeBase (.Name x px) "pop" X.env (eval (.Name x px) X.env) = eval (.Name x px) X.env := by rfl)
    (hline : (apos.endLine == cpos.line) = true := by rfl) (hsw : swapsWith (.Call (.Attribute (.Name x px) "pop" apos) [] [] cpos) (some (.Name y pos')) pos.line X.env = pure false := by rfl) (hf : X.fn y = true ∨ X.env.scope.names.lookup y = some .local := by first | exact .inl rfl | exact .inr rfl) :
    DS X C (.Assign [.Name y pos'] (.Call (.Attribute (.Name x px) "pop" apos) [] [] cpos) pos) (.pop [i] j .no) :=
  PS.weak' (ps_set hNd hy hyl (pe_bm0 PySem.F.plainAttrs_list PySem.F.slot_list_pop PySem.F.type_list_pop mt_pop (pe_var hN hv hd hcd) hbase hline) hsw hf) fun D σ H ⟨F, env, f, h⟩ => by
    obtain ⟨q, q1, ⟨vs, q2⟩, _, q3⟩ := pop0_of (g := gName i) f (.inr (gok_name i)) h
    exact ⟨_, q1, .inl ⟨rfl, vs, SqL.of q2⟩, q3 (gok_name i) (by simp)⟩
theorem ds_popT (js : List Nat) (n j : Nat) {x : Str} {px apos cpos : Pos} {kt : Nat} (hg : PG X (.Tuple es kt pos') (gTup X.K n (gNames js))) (hn : n = js.length := by rfl) (h1' : js.length ≠ 1 := by decide) (h0' : js ≠ [] := by decide) (hN : X.N[j]? = some x := by rfl) (hv : Vis X.env.scope x := by first | exact Or.inl rfl | exact Or.inr (Or.inl rfl) | exact Or.inr (Or.inr rfl)) (hd : (x == ("__debug__" : Str)) = false := by decide)
    (hcd : (x == ("__classdict__" : Str)) = false := by decide) (hbase : attributeBase (.Name x px) "pop" X.env (eval (.Name x px) X.env) = eval (.Name x px) X.env := by rfl)
    (hline : (apos.endLine == cpos.line) = true := by rfl) (hs : swapsWithSole [.Tuple es kt pos'] (.Call (.Attribute (.Name x px) "pop" apos) [] [] cpos) pos.line X.env = pure false := by rfl) (hw : swappedStores [.Tuple es kt pos'] (.Call (.Attribute (.Name x px) "pop" apos) [] [] cpos) X.env = pure none := by rfl)
    (h1 : (assignEach [.Tuple es kt pos'] X.env).map (·.2) = [assign (.Tuple es kt pos') X.env] := by rfl) :
    DS X C (.Assign [.Tuple es kt pos'] (.Call (.Attribute (.Name x px) "pop" apos) [] [] cpos) pos) (.pop js j .no) :=
  PS.weak' (ps_asg (pe_bm0 PySem.F.plainAttrs_list PySem.F.slot_list_pop PySem.F.type_list_pop mt_pop (pe_var hN hv hd hcd) hbase hline) hg hs hw h1) fun D σ H ⟨F, env, f, h⟩ => by
    obtain ⟨q, q1, ⟨vs, q2⟩, _, q3⟩ := pop0_of (g := gTup X.K n (gNames js)) f (.inr (gok_tup hn h1')) h
    exact ⟨_, q1, .inl ⟨rfl, vs, SqL.of q2⟩, q3 (gok_tup hn h1') h0'⟩
/-! ### small statements -/
theorem ds_drop (he : DE X C e ce) (hs : swapsWith e none pos.line X.env = pure false := by rfl) : DS X C (.Expr e pos) (.drop ce) := PS.weak' (ps_expr he hs) fun D σ H ⟨F, env, f, h⟩ => by
  simp only [exec] at h
  exact ⟨F, env, f, h.bind.mono fun x hx v F1 H1 g r => (show EndS X.K C D F (.nx env) from hx) σ F1 H1 (f.grow g) g.ff⟩
theorem ds_ret (he : DE X C e ce) : DS X C (.Return (some e) pos) (.ret ce) := PS.weak' (ps_ret he) fun D σ H ⟨F, env, f, h⟩ => by
  simp only [exec] at h
  refine ⟨F, env, f, h.bind.mono fun x hx v F1 H1 g r => ?_⟩
  obtain ⟨fl, d⟩ := x
  cases fl with
  | pl => exact (show EndS X.K C D F (.ret false d env) from hx) v F1 H1 (f.gr.trans g) r
  | fr => exact (show EndS X.K C D F (.ret true d env) from hx) v F1 H1 (f.gr.trans g) ((show RRep X.K H F1 H1 (.fr, d) v from r).older f.gr.hh)
  | bo => exact hx.elim
theorem ds_retV (j : Nat) {x : Str} (hN : X.N[j]? = some x := by rfl) (hv : Vis X.env.scope x := by first | exact Or.inl rfl | exact Or.inr (Or.inl rfl) | exact Or.inr (Or.inr rfl)) (hd : (x == ("__debug__" : Str)) = false := by decide)
    (hcd : (x == ("__classdict__" : Str)) = false := by decide) : DS X C (.Return (some (.Name x p)) pos) (.retV j) := PS.weak' (ps_ret (pe_var hN hv hd hcd)) fun D σ H ⟨F, env, f, h⟩ => by
  simp only [exec] at h
  split at h
  · rename_i o d he
    have h : EndS X.K C D F (.ret o d env) := h
    obtain ⟨v, h1, h2⟩ := f.sl j o d he
    refine ⟨v, h1, h v F H f.gr ?_⟩
    cases o with
    | false => exact h2
    | true => exact h2
  · exact h.elim
theorem ds_retN : DS X C (.Return none pos) .retN := PS.weak' ps_retN fun D σ H ⟨F, env, f, h⟩ => (show EndS X.K C D F (.ret false .non env) from h) .non F H f.gr (show VRep X.K F .non .non from .non)
theorem ds_pass : DS X C (.Pass pos) .pass := PS.weak' ps_pass fun D σ H ⟨F, env, f, h⟩ => (show EndS X.K C D F (.nx env) from h) σ F H f (Evl.Ex.refl F)
theorem ds_doc {x : Str} {j : Nat} : DS X C (.Expr (.Constant (.str x) j pos') pos) .pass := PS.weak' ps_doc fun D σ H ⟨F, env, f, h⟩ => (show EndS X.K C D F (.nx env) from h) σ F H f (Evl.Ex.refl F)
theorem ds_brk : DS X C (.Break pos) .brk := PS.weak' ps_break fun D σ H ⟨F, env, f, h⟩ => (show EndS X.K C D F (.brk env) from h) σ F H f (Evl.Ex.refl F)
theorem ds_cnt : DS X C (.Continue pos) .cnt := PS.weak' ps_continue fun D σ H ⟨F, env, f, h⟩ => (show EndS X.K C D F (.cnt env) from h) σ F H f (Evl.Ex.refl F)
theorem ds_if (hc : DT X C c cc) (ha : DSs X C body kb) (hb : DSs X C orelse kc) : DS X C (.If c body orelse pos) (.ife cc kb kc) := PS.weak' (ps_if hc ha hb) fun D σ H ⟨F, env, f, h⟩ => by
  simp only [exec] at h
  refine ⟨F, env, f, Rd.unbind (h.bind.mono fun x hx => hx.bind.mono fun k hk F' H' g => ?_)⟩
  cases k with
  | true => exact ⟨F', env, f.grow g, (show Rd (execs C.Φ C.W kb env) _ _ from hk).mono fun o ho => ho.up g.ff⟩
  | false => exact ⟨F', env, f.grow g, (show Rd (execs C.Φ C.W kc env) _ _ from hk).mono fun o ho => ho.up g.ff⟩
/-- what is never reached, or raises where nothing may be raised -/
theorem ds_raise {n : Nat} (hE : ∀ c d, ¬ C.E c d) : DS X C st (.raise n .no) := PS.weak' ps_never fun D σ H ⟨F, env, f, h⟩ => hE _ _ h
theorem forGo_at {P : Out → Prop} {E : Nat → D → Prop} {g : D → Env → R Out} {x : D} {r : List D} {env : Env} (h : Rd (forGo g (x :: r) env) P E) : Rd (g x env) (fun o => match o with
    | .nx env' => Rd (forGo g r env') P E
    | .cnt env' => Rd (forGo g r env') P E
    | .brk env' => P (.nx env')
    | .ret fr d env' => P (.ret fr d env')) E := h.bind.mono fun o ho => by
  cases o <;> exact ho
theorem ds_for {t : List Nat} {g : TG} {ci : CI} (hp : PassesOwn (model X.prog X.w) X.A X.env X.xe) (hc : X.calm = true) (hi : DI X C tg it ci) (hg : PG X tg g) (gk : GOk X.K t g) (hb : DSs X C body kb) (hs : ∀ x, foldedSetIterable it X.env x = pure x := by intro _; rfl) :
    DS X C (.For tg it body [] pos) (.for_ t ci kb) := PS.weak' (ps_for hp hc hi hg hb hs) fun D σ H ⟨F, env, f, h⟩ => by
  simp only [exec] at h
  refine ⟨F, env, f, h.bind.mono fun w hw J F1 H1 g1 wk => ?_⟩
  obtain ⟨bo, ds⟩ := w
  cases bo with
  | true => exact hw.elim
  | false =>
    have hw : Rd (forGo (fun x env => do
      let env' ← bindT t x env
      execs C.Φ C.W kb env') ds env) (EndS X.K C D F) C.E := hw
    simp only [if_neg Bool.false_ne_true] at wk
    generalize hgd : (fun x env => do
      let env' ← bindT t x env
      execs C.Φ C.W kb env') = gd at hw
    obtain ⟨G, Y, hwk, hG, hY⟩ := wk
    refine for_it hwk (fun i σ2 H2 => ∃ F2 env2, FrI X.K C.F0 C.H0 F2 H2 env2 σ2 ∧ Ex F1 F2 ∧ Rd (forGo gd (ds.drop i) env2) (EndS X.K C D F) C.E) ⟨F1, env, f.grow g1, Evl.Ex.refl F1, by rw [List.drop_zero]; exact hw⟩
      (fun i σ2 H2 hi ⟨F2, env2, f2, e2, _⟩ => hG H2 (e2.trans f2.ex)) ?_ ?_
    · rintro i x σ2 H2 H3 hi ⟨F2, env2, f2, e2, hgo⟩ hy
      obtain ⟨F3, g3, hx⟩ := hY F2 H2 i x H3 e2 f2.ex f2.tp (e2.trans f2.ex) hi hy
      have rx := hx _ (List.getElem?_eq_getElem hi)
      rw [List.drop_eq_getElem_cons hi] at hgo
      have hgo := forGo_at hgo
      rw [← hgd] at hgo
      cases hb : bindT t ds[i] env2 with
      | stuck => simp only [hb] at hgo; exact hgo.elim
      | exc c d =>
        exfalso
        unfold bindT at hb
        split at hb
        · split at hb <;> cases hb
        · split at hb <;> cases hb
        · cases hb
      | ok env' =>
        simp only [hb] at hgo
        refine gk _ _ F3 H3 env2 env' σ2 x _ _ (f2.grow g3) rx hb fun σ3 _ _ f3 => ⟨F3, env', f3, (show Rd (execs C.Φ C.W kb env') _ _ from hgo).mono fun o ho => ?_⟩
        rw [hgd] at ho
        cases o with
        | nx env4 => exact fun σ4 F4 H4 f4 e4 => ⟨F4, env4, f4, (e2.trans g3.ff).trans e4, ho⟩
        | cnt env4 => exact fun σ4 F4 H4 f4 e4 => ⟨F4, env4, f4, (e2.trans g3.ff).trans e4, ho⟩
        | brk env4 => exact fun σ4 F4 H4 f4 e4 => (show EndS X.K C D F (.nx env4) from ho) σ4 F4 H4 f4 (((g1.ff.trans e2).trans g3.ff).trans e4)
        | ret fr d env4 => exact ho
    · rintro σ2 H2 ⟨F2, env2, f2, e2, hgo⟩
      rw [List.drop_length] at hgo
      exact (show EndS X.K C D F (.nx env2) from hgo) σ2 F2 H2 f2 (g1.ff.trans e2)
theorem whl_at {P : Out → Prop} {E : Nat → D → Prop} {c : Env → R Bool} {g : Env → R Out} {n : Nat} {env : Env} (h : Rd (whlGo c g (n + 1) env) P E) : Rd (c env) (fun k => if k = true then Rd (g env) (fun o => match o with
    | .nx env' => Rd (whlGo c g n env') P E
    | .cnt env' => Rd (whlGo c g n env') P E
    | .brk env' => P (.nx env')
    | .ret fr d env' => P (.ret fr d env')) E else P (.nx env)) E := h.bind.mono fun k hk => by
  cases k with
  | false => exact hk
  | true => exact (show Rd (g env >>= _) P E from hk).bind.mono fun o ho => by cases o <;> exact ho
theorem ds_while (hp : PassesOwn (model X.prog X.w) X.A X.env X.xe) (hc : DT X C c cc) (hb : DSs X C body kb) : DS X C (.While c body [] pos) (.whl cc kb) := PS.weak' (ps_while hp hc hb) fun D σ H ⟨F, env, f, h⟩ => by
  simp only [exec] at h
  generalize hcd : (fun env => do
      let x ← evalE C.Φ cc env
      asBl x) = cd at h
  refine ⟨fun m σ2 H2 => ∃ F2 env2, FrI X.K C.F0 C.H0 F2 H2 env2 σ2 ∧ Ex F F2 ∧ Rd (whlGo cd (fun env => execs C.Φ C.W kb env) m env2) (EndS X.K C D F) C.E, ⟨C.W, F, env, f, Evl.Ex.refl F, h⟩, ?_⟩
  rintro m σ2 H2 ⟨F2, env2, f2, e2, hgo⟩
  cases m with
  | zero => exact hgo.elim
  | succ m =>
    have hgo := whl_at hgo
    rw [← hcd] at hgo
    refine ⟨F2, env2, f2, (show Rd (evalE C.Φ cc env2 >>= asBl) _ _ from hgo).mono fun k hk F3 H3 g3 => ?_⟩
    rw [hcd] at hk
    cases k with
    | false => exact iteF ((show EndS X.K C D F (.nx env2) from hk) σ2 F3 H3 (f2.grow g3) (e2.trans g3.ff))
    | true =>
      refine iteT ⟨fun σ4 H4 => ∃ F4 env4, FrI X.K C.F0 C.H0 F4 H4 env4 σ4 ∧ Ex F F4 ∧ Rd (whlGo cd (fun env => execs C.Φ C.W kb env) m env4) (EndS X.K C D F) C.E, fun σ' H' q => ⟨m, Nat.lt_succ_self m, q⟩, F3, env2, f2.grow g3, ?_⟩
      refine (show Rd (execs C.Φ C.W kb env2) _ _ from hk).mono fun o ho => ?_
      cases o with
      | nx env4 => exact fun σ4 F4 H4 f4 e4 => ⟨F4, env4, f4, (e2.trans g3.ff).trans e4, ho⟩
      | cnt env4 => exact fun σ4 F4 H4 f4 e4 => ⟨F4, env4, f4, (e2.trans g3.ff).trans e4, ho⟩
      | brk env4 => exact fun σ4 F4 H4 f4 e4 => (show EndS X.K C D F (.nx env4) from ho) σ4 F4 H4 f4 ((e2.trans g3.ff).trans e4)
      | ret fr d env4 => exact ho
end
end PF

/-! Dicts: made, stored into, shut, walked. -/
namespace PF
open PySem PySem.Spec PyProof.Rows L2
def dOb : Obj := { cls := .type "dict", data := .dict #[] }
theorem ownD {K : PySem.W.Frag} {G F H : Hp} {p : Addr} {kvs : List (L2.Key × V)} {ks : List Ke} {ds : List D} (fp : F p = none) (hp : H p = some (.dK kvs)) (hk : kvs.map (·.1) = ks.map kk) (hv : VReps K F (kvs.map (·.2)) ds) (gp : G p = none) :
    RRep K G F H (.fr, .dct false ks ds) (.ref p) := ⟨⟨p, .dK kvs, rfl, fp, hp, Bd.dct (lk := false) (o := dOb) hk hv⟩, p, rfl, gp⟩
theorem ownT {K : PySem.W.Frag} {G F H : Hp} {p : Addr} {kvs : List (List L2.Key × V)} {ks : List (List Ke)} {ds : List D} (fp : F p = none) (hp : H p = some (.dT kvs)) (hk : kvs.map (·.1) = ks.map (List.map kk)) (hv : VReps K F (kvs.map (·.2)) ds) (gp : G p = none) :
    RRep K G F H (.fr, .dtt false ks ds) (.ref p) := ⟨⟨p, .dT kvs, rfl, fp, hp, Bd.dtt (lk := false) (o := dOb) hk hv⟩, p, rfl, gp⟩
/-- a thing that is not among the frozen is written -/
theorem Grow.poke {F H F' H' : Hp} {p : Addr} {u : HO} (g : Grow F H F' H') (hp : H p = none) (fp : F' p = none) (no : ∀ xs, u ≠ .tup xs := by intro xs z; cases z) : Grow F H F' (upd H' p u) :=
  ⟨g.ff, fun a w q => by
    rw [upd_ne (fun z => by rw [z, hp] at q; cases q)]
    exact g.hh a w q, fun a w q => by
    rw [upd_ne (fun z => by rw [z, fp] at q; cases q)]
    exact g.fh a w q, g.new, fun t => (g.tp t).own no⟩
theorem key_V {K : PySem.W.Frag} {G F H : Hp} {x : Res} {v : V} {q : Ke} (hq : x.2.key = some q) (r : RRep K G F H x v) : v = kV (kk q) := by
  obtain ⟨fl, d⟩ := x
  cases d <;> simp only [D.key] at hq <;> try cases hq
  · cases r.int; rfl
  · cases r.str; rfl
section
variable {X : Cx} {C : Ctx} {a b c e tg it : PySem.Expr} {ca cb cc ce ck : CE} {pos p pos' : Pos} {st : PySem.Stmt} {k : CS}
theorem de_dnew : DE X C (.Dict [] [] pos) .dnew := PE.weak pe_dnewK fun σ H Q ⟨F, env, f, h⟩ p hp => by
  simp only [evalE] at h
  exact (show Then X.K F H (.fr, .dct false [] []) Q from h) (.ref p) F _ (Grow.own f.ex hp) (ownD (kvs := []) (exNone f.ex hp) upd_same rfl .nil hp)
theorem de_dnewT : DE X C (.Dict [] [] pos) .dnewT := PE.weak pe_dnewT fun σ H Q ⟨F, env, f, h⟩ p hp => by
  simp only [evalE] at h
  exact (show Then X.K F H (.fr, .dtt false [] []) Q from h) (.ref p) F _ (Grow.own f.ex hp) (ownT (kvs := []) (exNone f.ex hp) upd_same rfl .nil hp)
/-- d[k], k a tuple -/
theorem de_idxT (hu : X.A.units + 70 < cLine) (ha : DE X C a ca) (hb : DE X C b cb) (hs : PlainIx b := by intro _ _; rfl) : DE X C (.Subscript a b pos) (.idxT ca cb) := by
  refine ⟨fun pins s σ H Q I ⟨F, env, f, h⟩ => ?_⟩
  simp only [evalE] at h
  refine Subscript_ (thn (ha.go I f h.bind) fun u s1 ⟨vx, H1, F1, x, I1, q1, g1, r1, h1⟩ => thn (hb.go I1 (f.grow g1) h1.bind) fun w s2 ⟨vy, H2, F2, y, I2, q2, g2, r2, h2⟩ => ?_)
  obtain ⟨d, er, h3⟩ := h2.bind.lift
  have h3 := Then.later h3 (g1.trans g2)
  have r1 := r1.grow g2
  obtain ⟨fx, x⟩ := x
  obtain ⟨fy, y⟩ := y
  cases x <;> simp only [idxTD] at er <;> try cases er
  rename_i lk ks ds
  obtain ⟨p, kvs, o, rfl, k1, k2, k3⟩ := r1.dtt g2.fh
  obtain ⟨g, hg1, hg2⟩ := Option.bind_eq_some_iff.mp er
  obtain ⟨q, hq1, hq2⟩ := Option.map_eq_some_iff.mp hg1
  have hg2 : g = some d := hg2
  subst hg2
  obtain ⟨v, hv, rv⟩ := (get_Tk q k2 k3).1 d hq2
  obtain rfl : u = Value.ref p := q1
  cases y <;> simp only [PF.D.tkey] at hq1 <;> try cases hq1
  rename_i xs
  obtain ⟨bk, us, rfl, t1, t2⟩ := r2.tupF
  obtain ⟨t3, _⟩ := keysOf_V t2 hq1
  rw [t3] at t1
  obtain rfl : w = Value.ref bk := q2
  obtain ⟨small, _, zs, pairs, held⟩ := dt_rd I2.hok (rd_hoT k1)
  have ho := pairs.val (q.map kk)
  rw [hv] at ho
  obtain ⟨w2, hw, rw2⟩ := RelO.some_of ho
  obtain ⟨p2, hp, hp2⟩ := Option.map_eq_some_iff.mp hw
  obtain ⟨od, es, ep, a1, a2, a3, a4⟩ := id held
  refine subscriptTail_builtinR (x := p2.2) ⟨od, a1, a2.1⟩ PySem.F.slot_dict_getitem.lookup ?_ (hs _ _)
  refine wpAny_getItem_heap (tupleKind_room_in1 (by omega)) (key_of I2.hok (g2.fh _ _ t1)) held hp ⟨rfl, v, H2, I2.tok _, ?_, h3 v F2 H2 (Grow.refl g2.fh) rv⟩
  rw [hp2]
  exact rw2
theorem de_dct1 (ha : DE X C a ca) (hb : DE X C b cb) : DE X C (.Dict [some a] [b] pos) (.dct1 ca cb) :=
  PE.weak (pe_disp (pps_cons ha hb pps_nil) (by rfl) (by rfl) (fun z => by cases z) (by simp)) fun σ H Q ⟨F, env, f, h⟩ p hp => by
    have g0 : Grow F H F (upd H p (.dK [])) := Grow.own f.ex hp
    simp only [evalE] at h
    refine ⟨F, env, f.grow g0, h.bind.mono fun x hx vx F1 H1 g1 r1 => ?_⟩
    refine ⟨F1, env, (f.grow g0).grow g1, hx.bind.mono fun y hy vy F2 H2 g2 r2 => ?_⟩
    obtain ⟨nb, hy⟩ := hy.bind.escV
    obtain ⟨q, hq, hy⟩ := hy.bind.lift
    obtain ⟨F3, g3, e3, r3⟩ := g2.settle r2 nb
    have h1p : H1 p = some (.dK []) := g1.hh _ _ upd_same
    have h2p : H2 p = some (.dK []) := g2.hh _ _ h1p
    have fp : F3 p = none := by rw [g3.new p (by rw [h1p]; simp), g1.new p (by rw [upd_same]; simp)]; exact exNone f.ex hp
    refine ⟨h2p, [(kk q, vy)], by rw [key_V hq r1]; rfl, by simp, ?_⟩
    exact (show Then X.K F H (.fr, .dct false [q] [y.2]) Q from hy) (.ref p) F3 _ (((g0.trans g1).trans g3).poke hp fp) (ownD (kvs := [(kk q, vy)]) fp upd_same rfl (.cons r3 .nil) hp)
theorem de_dgt {apos : Pos} (hu : X.A.units + 70 < cLine) (ha : DE X C a ca) (hb : DE X C b cb) (hc : DE X C c cc) (m : M2 X a "get" apos b c pos := by exact ⟨rfl, rfl, rfl, rfl⟩) : DE X C (.Call (.Attribute a "get" apos) [b, c] [] pos) (.dgt ca cb cc) :=
  PE.weak (pe_dget2 (by omega) ha hb hc m) fun σ H Q ⟨F, env, f, h⟩ => by
    simp only [evalE] at h
    refine ⟨F, env, f, h.bind.mono fun x hx vx F1 H1 g1 r1 => ?_⟩
    obtain ⟨_, hd, hx⟩ := hx.bind.lift
    obtain ⟨fx, d⟩ := x
    cases d <;> simp only [dctOn] at hd <;> try cases hd
    rotate_right
    · rename_i lk ks ds _
      obtain ⟨p, kvs, o, rfl, q1, q2, q3⟩ := r1.dtt g1.fh
      refine ⟨p, rfl, .inr ⟨kvs, rd_hoT q1⟩, F1, env, f.grow g1, hx.bind.mono fun y hy vy F2 H2 g2 r2 => ?_⟩
      refine ⟨F2, env, (f.grow g1).grow g2, hy.bind.mono fun z hz vz F3 H3 g3 r3 => ?_⟩
      obtain ⟨nb, hz⟩ := hz.bind.escV
      obtain ⟨r, hr, hz⟩ := hz.bind.lift
      obtain ⟨F4, g4, e4, r4⟩ := g3.settle r3 nb
      simp only [getD'] at hr
      obtain ⟨q, hq, hr2⟩ := Option.map_eq_some_iff.mp hr
      clear hr
      have rd : L2.Rd H3 p (.dT kvs) := rd_hoT (g3.hh _ _ (g2.hh _ _ q1))
      have q3' : VReps X.K F4 (kvs.map (·.2)) ds := q3.mono (g2.ff.trans g4.ff)
      obtain ⟨i1, i2⟩ := get_Tk q q2 q3'
      have hz : Then X.K F H (.pl, r.getD z.2) Q := hz
      have fin : ∀ w, VRep X.K F4 w (r.getD z.2) → Q w H3 := fun w hw => hz w F4 H3 ((g1.trans g2).trans g4) hw
      obtain ⟨fy, dy⟩ := y
      cases dy <;> simp only [PF.D.tkey] at hq <;> try cases hq
      obtain ⟨bk, us, rfl, k1, k2⟩ := r2.tupF
      obtain ⟨k3, _⟩ := keysOf_V k2 hq
      rw [k3] at k1
      refine ⟨valV kvs (q.map kk), .inr ⟨kvs, q.map kk, bk, rd, rfl, g3.hh _ _ (g2.fh _ _ k1), rfl⟩, ?_⟩
      cases hg : getG (ks.zip ds) q with
      | none =>
        rw [i2 hg]
        rw [hg] at hr2
        subst hr2
        exact fin _ r4
      | some d =>
        obtain ⟨v, h1, h2⟩ := i1 d hg
        rw [h1]
        rw [hg] at hr2
        subst hr2
        exact fin _ h2
    rename_i lk ks ds _
    obtain ⟨p, kvs, o, rfl, q1, q2, q3⟩ := r1.dct g1.fh
    refine ⟨p, rfl, .inl ⟨kvs, rd_hoD q1⟩, F1, env, f.grow g1, hx.bind.mono fun y hy vy F2 H2 g2 r2 => ?_⟩
    refine ⟨F2, env, (f.grow g1).grow g2, hy.bind.mono fun z hz vz F3 H3 g3 r3 => ?_⟩
    obtain ⟨nb, hz⟩ := hz.bind.escV
    obtain ⟨r, hr, hz⟩ := hz.bind.lift
    obtain ⟨F4, g4, e4, r4⟩ := g3.settle r3 nb
    simp only [getD'] at hr
    obtain ⟨q, hq, hr⟩ := Option.map_eq_some_iff.mp hr
    have rd : L2.Rd H3 p (.dK kvs) := rd_hoD (g3.hh _ _ (g2.hh _ _ q1))
    have q3' : VReps X.K F4 (kvs.map (·.2)) ds := q3.mono (g2.ff.trans g4.ff)
    obtain ⟨i1, i2⟩ := get_V q q2 q3'
    have hz : Then X.K F H (.pl, r.getD z.2) Q := hz
    have fin : ∀ w, VRep X.K F4 w (r.getD z.2) → Q w H3 := fun w hw => hz w F4 H3 ((g1.trans g2).trans g4) hw
    refine ⟨valV kvs (kk q), .inl ⟨kvs, kk q, rd, key_V hq r2, rfl⟩, ?_⟩
    cases hg : getL (ks.zip ds) q with
    | none =>
      rw [i2 hg]
      rw [hg] at hr
      subst hr
      exact fin _ r4
    | some d =>
      obtain ⟨v, h1, h2⟩ := i1 d hg
      rw [h1]
      rw [hg] at hr
      subst hr
      exact fin _ h2
theorem de_lkE (he : DE X C e ce) : DE X C e (.lkE ce) := by
  refine ⟨fun pins s σ H Q I ⟨F, env, f, h⟩ => ?_⟩
  simp only [evalE] at h
  refine thn (he.go I f h.bind) fun u s1 ⟨v, H1, F1, x, I1, q1, g1, r1, h1⟩ => ?_
  obtain ⟨fl, d⟩ := x
  cases fl with
  | pl =>
    have h1 : Then X.K F H (.pl, d) Q := h1
    exact ⟨_, H1, I1, q1, h1 _ F1 H1 g1 r1⟩
  | bo => exact h1.elim
  | fr =>
    have h1 : Then X.K F H (.fr, lockD d) Q := h1
    obtain ⟨⟨p, w, rfl, q2, q3, q4⟩, p', e', q5⟩ := r1
    cases e'
    have same : ∀ d', d' = d → lockD d = d → ∃ x H', Inv X pins σ H' s1 ∧ RelV x u ∧ Q x H' := fun d' _ hl => by
      rw [hl] at h1
      exact ⟨_, H1, I1, q1, h1 _ F1 H1 g1 ⟨⟨p, w, rfl, q2, q3, q4⟩, p, rfl, q5⟩⟩
    cases q4 with
    | lst q6 => exact same _ rfl rfl
    | @dct kvs lk ks ds o q6 q7 =>
      cases lk with
      | true => exact same _ rfl rfl
      | false =>
        obtain ⟨od, I2⟩ := I1.lock q3 (show Mut (some (.dK kvs)) from trivial)
        exact ⟨_, _, I2, q1, h1 _ F1 _ (g1.poke q5 q2) ⟨⟨p, _, rfl, q2, upd_same, Bd.dct (lk := true) q6 q7⟩, p, rfl, q5⟩⟩
    | @dtt kvs lk ks ds o q6 q7 =>
      cases lk with
      | true => exact same _ rfl rfl
      | false =>
        obtain ⟨od, I2⟩ := I1.lock q3 (show Mut (some (.dT kvs)) from trivial)
        exact ⟨_, _, I2, q1, h1 _ F1 _ (g1.poke q5 q2) ⟨⟨p, _, rfl, q2, upd_same, Bd.dtt (lk := true) q6 q7⟩, p, rfl, q5⟩⟩
/-- the keys of a dict that is shut, walked -/
theorem walkD_keys {K : PySem.W.Frag} {B F : Hp} {d : Addr} {o : Obj} {kvs : List (L2.Key × V)} {ks : List Ke} (hB : B d = some (.frz o (.dK kvs))) (hk : kvs.map (·.1) = ks.map kk) : WalkD K B F (Itk d o kvs) (ks.map Ke.d) := by
  have hl : kvs.length = (ks.map Ke.d).length := by
    have := congrArg List.length hk
    simpa using this
  refine ⟨fun H => H d = some (.frz o (.dK kvs)), fun i H x H' => H' = H ∧ ∃ k v, kvs[i]? = some (k, v) ∧ x = kV k, by rw [← hl]; exact walk_keys, fun H' e' => e' _ _ hB, fun F1 H1 i x H2 e1 e2 _ e3 hi ⟨q1, q, v, q2, q3⟩ => ?_⟩
  subst q1 q3
  refine ⟨F1, Grow.refl e2, fun d' hd => ?_⟩
  have h1 : (kvs.map (·.1))[i]? = some q := by rw [List.getElem?_map, q2]; rfl
  rw [hk, List.getElem?_map] at h1
  obtain ⟨k0, h2, h3⟩ := Option.map_eq_some_iff.mp h1
  rw [List.getElem?_map, h2] at hd
  cases hd
  subst h3
  cases k0 with
  | i n => exact .int n
  | s t => exact .str t
theorem walkD_keysT {K : PySem.W.Frag} {B F : Hp} {d : Addr} {o : Obj} {kvs : List (List L2.Key × V)} {ks : List (List Ke)} (hB : B d = some (.frz o (.dT kvs))) (hk : kvs.map (·.1) = ks.map (List.map kk)) : WalkD K B F (Itkt d o kvs) (ks.map Tk.d) := by
  have hl : kvs.length = (ks.map Tk.d).length := by
    have := congrArg List.length hk
    simpa using this
  refine ⟨fun H => H d = some (.frz o (.dT kvs)), fun i H x H' => H' = H ∧ ∃ (k : List L2.Key) (v : V) (q : Addr), kvs[i]? = some (k, v) ∧ x = .ref q ∧ H q = some (.tup (k.map kV)), by rw [← hl]; exact walk_keysT, fun H' e' => e' _ _ hB, fun F1 H1 i x H2 e1 e2 tp e3 hi ⟨q1, q, v, b, q2, q3, q4⟩ => ?_⟩
  subst q1 q3
  refine ⟨F1, Grow.refl e2, fun d' hd => ?_⟩
  have h1 : (kvs.map (·.1))[i]? = some q := by rw [List.getElem?_map, q2]; rfl
  rw [hk, List.getElem?_map] at h1
  obtain ⟨k0, h2, h3⟩ := Option.map_eq_some_iff.mp h1
  rw [List.getElem?_map, h2] at hd
  cases hd
  subst h3
  exact .tup (tp _ _ q4) (tk_V k0)
theorem di_dict (ha : DE X C a ca) : DI X C tg a (.seq .dict ca) := PI.weak' (pi_keys ha) fun σ H R ⟨F, env, f, h⟩ => by
  simp only [evalI] at h
  refine ⟨F, env, f, h.bind.mono fun x hx w F1 H1 g r => ?_⟩
  obtain ⟨fl, d⟩ := x
  cases d <;> first | exact hx.elim | skip
  rotate_right
  · rename_i lk ks ds
    cases lk with
    | false => exact hx.elim
    | true =>
      obtain ⟨p, kvs, o, rfl, h1, h2, h3⟩ := r.dtt g.fh
      have h1 : H1 p = some (.frz o (.dT kvs)) := h1
      have hx : ∀ J F' H', Grow F H F' H' → WalkD X.K (if fl.isBo then H' else F') F' J (ks.map Tk.d) → R J H' := hx
      have at_ : ∀ {F2 : Hp} {o' : Obj} {kvs' : List (List L2.Key × V)}, Ex F2 H1 → F2 p = some (hoT true o' kvs') → F2 p = some (.frz o (.dT kvs)) := fun e h => by
        have := e _ _ h
        rw [h1] at this
        rw [h, ← this]
      cases fl with
      | pl =>
        cases r with
        | dtt h4 h5 h6 => exact ⟨p, o, rfl, .inr ⟨kvs, h1, hx _ F1 H1 g (walkD_keysT (at_ g.fh h4) h2)⟩⟩
      | bo => exact ⟨p, o, rfl, .inr ⟨kvs, h1, hx _ F1 H1 g (walkD_keysT h1 h2)⟩⟩
      | fr =>
        obtain ⟨F2, g2, e2, r2⟩ := g.settle r rfl
        cases r2 with
        | dtt h4 h5 h6 => exact ⟨p, o, rfl, .inr ⟨kvs, h1, hx _ F2 H1 g2 (walkD_keysT (at_ g2.fh h4) h2)⟩⟩
  rename_i lk ks ds
  cases lk with
  | false => exact hx.elim
  | true =>
    obtain ⟨p, kvs, o, rfl, h1, h2, h3⟩ := r.dct g.fh
    have h1 : H1 p = some (.frz o (.dK kvs)) := h1
    have hx : ∀ J F' H', Grow F H F' H' → WalkD X.K (if fl.isBo then H' else F') F' J (ks.map Ke.d) → R J H' := hx
    have at_ : ∀ {F2 : Hp} {o' : Obj} {kvs' : List (L2.Key × V)}, Ex F2 H1 → F2 p = some (hoD true o' kvs') → F2 p = some (.frz o (.dK kvs)) := fun e h => by
      have := e _ _ h
      rw [h1] at this
      rw [h, ← this]
    cases fl with
    | pl =>
      cases r with
      | dct h4 h5 h6 => exact ⟨p, o, rfl, .inl ⟨kvs, h1, hx _ F1 H1 g (walkD_keys (at_ g.fh h4) h2)⟩⟩
    | bo => exact ⟨p, o, rfl, .inl ⟨kvs, h1, hx _ F1 H1 g (walkD_keys h1 h2)⟩⟩
    | fr =>
      obtain ⟨F2, g2, e2, r2⟩ := g.settle r rfl
      cases r2 with
      | dct h4 h5 h6 => exact ⟨p, o, rfl, .inl ⟨kvs, h1, hx _ F2 H1 g2 (walkD_keys (at_ g2.fh h4) h2)⟩⟩
/-! ### statements -/
theorem set_self {α : Type} : ∀ {l : List α} {i : Nat} {x : α}, l[i]? = some x → l.set i x = l
  | [], _, _, h => by simp at h
  | _ :: _, 0, _, h => by simp at h; simp [h]
  | _ :: l, i + 1, _, h => by simp at h; simp [set_self h]
theorem ds_lk (j : Nat) (hk : DS X C st k) : DS X C st (.lk j k) := by
  refine ⟨fun pins s σ H D I ⟨F, env, f, h⟩ => ?_⟩
  simp only [exec] at h
  split at h
  · rename_i d ej
    obtain ⟨a, u, q1, q2, q3, q4, q5⟩ := f.mutB ej
    have same : lockD d = d → wpAny (model X.prog X.w) X.A (PySem.exec st X.env) (SP X pins D) X.xe s := fun hl => by
      rw [hl, set_self ej] at h
      exact hk.run pins s σ H D I ⟨F, env, f, h⟩
    cases q4 with
    | lst q6 => exact same rfl
    | @dct kvs lk ks ds o q6 q7 =>
      cases lk with
      | true => exact same rfl
      | false =>
        obtain ⟨od, I2⟩ := I.lock q3 (show Mut (some (.dK kvs)) from trivial)
        exact hk.run pins s σ _ D I2 ⟨F, _, q5 _ _ (Bd.dct (lk := true) q6 q7), h⟩
    | @dtt kvs lk ks ds o q6 q7 =>
      cases lk with
      | true => exact same rfl
      | false =>
        obtain ⟨od, I2⟩ := I.lock q3 (show Mut (some (.dT kvs)) from trivial)
        exact hk.run pins s σ _ D I2 ⟨F, _, q5 _ _ (Bd.dtt (lk := true) q6 q7), h⟩
  · exact hk.run pins s σ H D I ⟨F, env, f, h⟩
  · exact h.elim
theorem ds_setD (j : Nat) {x : Str} {px pt : Pos} (hu : X.A.units + 70 < cLine) (hi : DE X C b cb) (he : DE X C e ce) (hN : X.N[j]? = some x := by rfl) (hv : Vis X.env.scope x := by first | exact Or.inl rfl | exact Or.inr (Or.inl rfl) | exact Or.inr (Or.inr rfl)) (hd : (x == ("__debug__" : Str)) = false := by decide)
    (hcd : (x == ("__classdict__" : Str)) = false := by decide) (hs : swapsWith e (some (.Subscript (.Name x px) b pt)) pos.line X.env = pure false := by rfl) : DS X C (.Assign [.Subscript (.Name x px) b pt] e pos) (.setD j cb ce) :=
  PS.weak' (ps_dput (by omega) (pe_var hN hv hd hcd) hi he hs) fun D σ H ⟨F, env, f, h⟩ => by
    simp only [exec] at h
    refine ⟨F, env, f, h.bind.mono fun x hx v F1 H1 g r => ?_⟩
    obtain ⟨nb, hx⟩ := hx.bind.escV
    obtain ⟨F2, g2, e2, r2⟩ := g.settle r nb
    have f2 := f.grow g2
    split at hx
    · rename_i o ej
      obtain ⟨a, u, q1, q2, q3, q4, q5⟩ := f2.mutB ej
      refine ⟨_, q1, F2, env, f2, hx.bind.mono fun y hy w F3 H3 g3 r3 => ?_⟩
      obtain ⟨o', ho, hy⟩ := hy.bind.lift
      have f3 := f2.grow g3
      obtain ⟨a', u', q1', q2', q3', q4', q5'⟩ := f3.mutB ej
      rw [q1] at q1'
      cases q1'
      cases q4' with
      | lst q6 => simp [putD] at ho
      | @dct kvs lk ks ds ob q6 q7 =>
        cases lk with
        | true => simp [putD] at ho
        | false =>
          simp only [putD] at ho
          split at ho
          · rename_i hz
            obtain ⟨q, hq, ho⟩ := Option.map_eq_some_iff.mp ho
            subst ho
            obtain ⟨i1, i2⟩ := put_V q q6 q7 (r2.mono g3.ff)
            have hl := congrArg List.length q6
            rw [List.length_map, List.length_map] at hl
            rw [key_V hq r3]
            refine ⟨a, _, rfl, DPut.k q3' (by rw [hl]; exact Nat.lt_of_lt_of_le hz (szLine (Nat.le_refl _))), ?_⟩
            exact (show EndS X.K C D F (.nx _) from hy) _ _ _ (q5' _ _ (Bd.dct (lk := false) (o := dOb) i1 i2)) (g2.ff.trans g3.ff)
          · cases ho
      | @dtt kvs lk ks ds ob q6 q7 =>
        cases lk with
        | true => simp [putD] at ho
        | false =>
          simp only [putD] at ho
          split at ho
          · rename_i hz
            obtain ⟨q, hq, ho⟩ := Option.map_eq_some_iff.mp ho
            subst ho
            obtain ⟨i1, i2⟩ := put_TT q q6 q7 (r2.mono g3.ff)
            have hl := congrArg List.length q6
            rw [List.length_map, List.length_map] at hl
            have hy2 : EndS X.K C D F (.nx (env.set j (some (true, dttD false (putG (ks.zip ds) q x.2))))) := hy
            obtain ⟨fy, dy⟩ := y
            cases dy <;> simp only [PF.D.tkey] at hq <;> try cases hq
            obtain ⟨bk, us, rfl, k1, k2⟩ := r3.tupF
            obtain ⟨k3, _⟩ := keysOf_V k2 hq
            rw [k3] at k1
            refine ⟨a, _, rfl, DPut.t (k := q.map kk) q3' (g3.fh _ _ k1) (by rw [hl]; exact Nat.lt_of_lt_of_le hz (szLine (Nat.le_refl _))), ?_⟩
            exact hy2 _ _ _ (q5' _ _ (Bd.dtt (lk := false) (o := dOb) i1 i2)) (g2.ff.trans g3.ff)
          · cases ho
    · exact hx.elim
end
end PF

/-! Comprehensions of dicts. -/
namespace PF
open PySem PySem.Spec PyProof.Rows L2
theorem putL_len {α : Type} (kvs : List (Ke × α)) (k : Ke) (v : α) : (putL kvs k v).length ≤ kvs.length + 1 := by
  unfold putL
  split
  · simp
  · simp
theorem zip_self {α β : Type} : ∀ l : List (α × β), (l.map (·.1)).zip (l.map (·.2)) = l
  | [] => rfl
  | p :: l => by rw [List.map_cons, List.map_cons, List.zip_cons_cons, zip_self l]
/-- a dict's comprehension over a walk: Pv by the turn and the heap (the new dict at D within) -/
theorem dc_walk {J : It} {n : Nat} {G : Hp → Prop} {Y : Nat → Hp → V → Hp → Prop} (w : Walk J n G Y) {g : TG} {tt : TT} {tk tv : TE} {vs : List Nat} {σ : L2.St} {H1 : Hp} {D : Addr} {Qd : Hp → Prop} (Pv : Nat → Hp → Prop) (h0 : Pv 0 (upd H1 D (.dK []))) (hG : ∀ i H, i ≤ n → Pv i H → G H)
    (hs : ∀ i x H H', i < n → Pv i H → Y i H x H' → g x (wipe σ vs) H' fun σ2 H2 => wipe σ2 vs = wipe σ vs ∧ tt σ2 H2 fun b H3 =>
      if b = true then tk σ2 H3 fun y H4 => tv σ2 H4 fun z H5 => ∃ kvs k, y = kV k ∧ H5 D = some (.dK kvs) ∧ kvs.length < sizeLine ∧ Pv (i + 1) (upd H5 D (.dK (putK kvs k z))) else Pv (i + 1) H3) (hd : ∀ H, Pv n H → Qd H) :
    ∃ W : Nat → Nat → Hp → Prop, (∃ m, W 0 m (upd H1 D (.dK []))) ∧ ∀ i m H, W i m H → (J.stop i H ∧ Qd H) ∨ (J.go i H ∧ ∃ Nx : Hp → Prop, (∀ H', Nx H' → ∃ m', m' < m ∧ W (i + 1) m' H') ∧ ∀ x H', J.yld i H x H' → g x (wipe σ vs) H' fun σ2 H2 => wipe σ2 vs = wipe σ vs ∧ tt σ2 H2 fun b H3 => if b = true then tk σ2 H3 fun y H4 => tv σ2 H4 fun z H5 => ∃ kvs k, y = kV k ∧ H5 D = some (.dK kvs) ∧ kvs.length < sizeLine ∧ Nx (upd H5 D (.dK (putK kvs k z))) else Nx H3) := by
  refine ⟨fun i m H => m = n - i ∧ i ≤ n ∧ Pv i H, ⟨n - 0, rfl, Nat.zero_le _, h0⟩, fun i m H ⟨hm, hi, p⟩ => ?_⟩
  subst hm
  rcases Nat.lt_or_eq_of_le hi with hlt | e
  · exact .inr ⟨w.goes i H hlt (hG i H hi p), Pv (i + 1), fun H' p' => ⟨n - (i + 1), by omega, rfl, hlt, p'⟩,
      fun x H' y => hs i x H H' hlt p (w.yields i H x H' hlt (hG i H hi p) y)⟩
  · subst e
    exact .inl ⟨w.stops H (hG _ H hi p), hd H p⟩
section
variable {X : Cx} {C : Ctx} {a b c e tg : PySem.Expr} {ca cb cc ce ck : CE} {pos p pos' : Pos} {st : PySem.Stmt} {k : CS}
/-- the reading of a dict's comprehension -/
theorem tDc_of {it : CI} {cf : CO} {t : List Nat} {g : TG} (hg : GOk X.K t g) (σ : L2.St) (H : Hp) (Q : VK) (h : tD X.K C (.dc t it cf ck ce) σ H Q) :
    tDc (tI X.K C it) g (tC' X.K C.noE cf) (tD X.K C.noE ck) (tD X.K C.noE ce) t σ H Q := by
  obtain ⟨F, env, f, h⟩ := h
  simp only [evalE] at h
  refine ⟨F, env, f, h.bind.mono fun w hw J F1 H1 g1 wk Dd hD => ?_⟩
  obtain ⟨bo, ds⟩ := w
  simp only at hw wk
  obtain ⟨G, Y, hwk, hG, hY⟩ := wk
  have f1 := f.grow g1
  have eB : ∀ H2, Ex H1 H2 → Ex (if bo = true then H1 else F1) H2 := fun H2 e2 => by
    split
    · exact e2
    · exact f1.ex.trans e2
  obtain ⟨_, hz, hw⟩ := hw.bind.lift
  have hz : ds.length ≤ SZ := by
    by_cases hh : ds.length ≤ SZ
    · exact hh
    · rw [if_neg hh] at hz
      cases hz
  generalize hgd : (fun x => calm (do
      let env' ← bindT t x (wipeE env t)
      let b ← evalC C.Φ cf env'
      if b then do
        let q ← evalE C.Φ ck env'
        let y ← evalE C.Φ ce env'
        let q ← lift q.2.key
        let d ← escV y
        pure (some (q, d))
      else pure none)) = gd at hw
  have calmed : ∀ {x : D} {P : Option (Ke × D) → Prop} {E : Nat → D → Prop}, Rd (gd x) P E → Rd (do
      let env' ← bindT t x (wipeE env t)
      let b ← evalC C.Φ cf env'
      if b then do
        let q ← evalE C.Φ ck env'
        let y ← evalE C.Φ ce env'
        let q ← lift q.2.key
        let d ← escV y
        pure (some (q, d))
      else pure none) P (fun _ _ => False) := fun {x P E} h => by
    subst hgd
    exact h.calm
  refine dc_walk hwk (fun i H2 => ∃ (F2 : Hp) (kvs : List (L2.Key × V)) (acc : List (Ke × D)), Grow F1 H1 F2 H2 ∧ F2 Dd = none ∧ H2 Dd = some (.dK kvs) ∧ kvs.map (·.1) = (acc.map (·.1)).map kk ∧ VReps X.K F2 (kvs.map (·.2)) (acc.map (·.2)) ∧ acc.length ≤ i ∧
      Rd (lcGo gd (ds.drop i)) (fun rest => Then X.K F H (.fr, dicD false (rest.foldl (fun kvs p => putL kvs p.1 p.2) acc)) Q) C.E)
    ⟨F1, [], [], ?_, exNone g1.fh hD, upd_same, rfl, .nil, Nat.le_refl _, by rw [List.drop_zero]; exact hw.bind⟩ (fun i H2 hi ⟨F2, kvs, acc, g2, _⟩ => hG H2 (eB H2 g2.hh)) ?_ ?_
  · exact Grow.own f1.ex hD
  · rintro i x H2 H3 hi ⟨F2, kvs, acc, g2, fD, hDD, rk, ry, hl, hgo⟩ hy
    obtain ⟨F3, g3, hx⟩ := hY F2 H2 i x H3 g2.ff g2.fh (g2.tp f1.tp) (eB H2 g2.hh) hi hy
    have hd : ds[i]? = some ds[i] := List.getElem?_eq_getElem hi
    have rx := hx _ hd
    have fD3 : F3 Dd = none := by rw [g3.new Dd (by rw [hDD]; simp), fD]
    have hDD3 : H3 Dd = some (.dK kvs) := g3.hh _ _ hDD
    rw [List.drop_eq_getElem_cons hi] at hgo
    have hgo := calmed (lcGo_at hgo)
    cases hb : bindT t ds[i] (wipeE env t) with
    | stuck => rw [hb] at hgo; exact hgo.elim
    | exc c d => rw [hb] at hgo; exact hgo.elim
    | ok env' =>
      rw [hb, R.ok_bind] at hgo
      have f3 : FrI X.K C.F0 C.H0 F3 H3 (wipeE env t) (wipe σ t) := (f1.grow (g2.trans g3)).wipe t
      refine hg _ _ F3 H3 _ env' (wipe σ t) x _ _ f3 rx hb fun σ2 hl2 hs2 f4 => ⟨wipe_of (hl2.trans (wipe_length σ t)) hs2, F3, env', f4, hgo.bind.mono fun k hk F5 H5 g5 => ?_⟩
      have fD5 : F5 Dd = none := by rw [g5.new Dd (by rw [hDD3]; simp), fD3]
      have hDD5 : H5 Dd = some (.dK kvs) := g5.hh _ _ hDD3
      have g15 : Grow F1 H1 F5 H5 := (g2.trans g3).trans g5
      cases k with
      | false =>
        rw [if_neg Bool.false_ne_true] at hk
        refine iteF ?_
        exact ⟨F5, kvs, acc, g15, fD5, hDD5, rk, ry.mono (g3.ff.trans g5.ff), Nat.le_succ_of_le hl, hk⟩
      | true =>
        rw [if_pos rfl] at hk
        refine iteT ?_
        refine ⟨F5, env', f4.grow g5, hk.bind.mono fun q hq v1 F6 H6 g6 r6 => ?_⟩
        refine ⟨F6, env', (f4.grow g5).grow g6, hq.bind.mono fun y hy w F7 H7 g7 r7 => ?_⟩
        obtain ⟨q', hq', hy⟩ := hy.bind.lift
        obtain ⟨nb, hy⟩ := hy.bind.escV
        obtain ⟨F8, g8, e8, r8⟩ := g7.settle r7 nb
        have fD8 : F8 Dd = none := by rw [g8.new Dd (by rw [g6.hh _ _ hDD5]; simp), g6.new Dd (by rw [hDD5]; simp), fD5]
        have hDD8 : H7 Dd = some (.dK kvs) := g8.hh _ _ (g6.hh _ _ hDD5)
        have g18 : Grow F1 H1 F8 H7 := (g15.trans g6).trans g8
        have ra : VReps X.K F8 (kvs.map (·.2)) (acc.map (·.2)) := ry.mono (((g3.ff.trans g5.ff).trans g6.ff).trans g8.ff)
        obtain ⟨i1, i2⟩ := put_V q' rk ra r8
        rw [zip_self] at i1 i2
        have hk := congrArg List.length rk
        simp only [List.length_map] at hk
        refine ⟨kvs, kk q', key_V hq' r6, hDD8, ?_, F8, _, putL acc q' y.2, g18.poke hD fD8, fD8, upd_same, i1, i2, ?_, ?_⟩
        · rw [hk]
          have := szLine hz
          omega
        · have := putL_len acc q' y.2
          omega
        · exact (show Rd (lcGo gd (ds.drop (i + 1))) _ _ from hy).mono fun rest hr => hr
  · rintro H2 ⟨F2, kvs, acc, g2, fD, hDD, rk, ry, hl, hgo⟩
    rw [List.drop_length] at hgo
    have hgo : Then X.K F H (.fr, dicD false acc) Q := hgo
    exact hgo _ F2 H2 (g1.trans g2) (ownD fD hDD rk ry (exNone g1.hh hD))
theorem de_dc {it kx elt : PySem.Expr} {ifs : List PySem.Expr} {scope : Scope} {own : List (Str × Nat)} {t : List Nat} {g : TG} {ci : CI} {cf : CO} (hc : X.calm = true) (hN : X.N.Nodup) (hi : DI X C tg it ci) (ok : BlkOk X.N X.env.scope scope own) (hg : GOk X.K t g)
    (hgt : ∀ (s : Shared) (H : Hp) (Ca : Addr) (cl : List (Str × Addr)) (fp : List Addr), PG (X.blk s H scope (compEnvC scope cl Ca X.env) fp) tg g) (ht : ∀ (s : Shared) (H : Hp) (Ca : Addr) (cl : List (Str × Addr)) (fp : List Addr), DC (X.blk s H scope (compEnvC scope cl Ca X.env) fp) C.noE ifs cf)
    (hk : ∀ (s : Shared) (H : Hp) (Ca : Addr) (cl : List (Str × Addr)) (fp : List Addr), DE (X.blk s H scope (compEnvC scope cl Ca X.env) fp) C.noE kx ck)
    (he : ∀ (s : Shared) (H : Hp) (Ca : Addr) (cl : List (Str × Addr)) (fp : List Addr), DE (X.blk s H scope (compEnvC scope cl Ca X.env) fp) C.noE elt ce) (ho : own.map (·.2) = t := by rfl) (hs : ∀ x, foldedSetIterable it X.env x = pure x := by intro _; rfl) :
    DE X C (.DictComp kx elt [⟨tg, it, ifs, 0⟩] scope pos) (.dc t ci cf ck ce) := by
  subst ho
  exact PE.weak (pe_dc hc hN hi ok hgt ht hk he hs) fun σ H Q h => tDc_of hg σ H Q h
/-- name = {k: v for ..} on one line, the name a local -/
theorem ps_setDc {i : Nat} {y : Str} {py : Pos} {kx vx tg iter : PySem.Expr} {ifs : List PySem.Expr} {scope : Scope} {own : List (Str × Nat)} {pos spos : Pos} {wi : TI} {g : TG} {tt : TT} {tk tv : TE} (hc : X.calm = true) (hN : X.N.Nodup) (hy : X.N[i]? = some y) (hyl : X.env.scope.names.lookup y = some .local)
    (hsw : swapsWith (.DictComp kx vx [⟨tg, iter, ifs, 0⟩] scope pos) (some (.Name y py)) spos.line X.env = pure true) (hi : PI X tg iter wi) (ok : BlkOk X.N X.env.scope scope own)
    (hg : ∀ (s : Shared) (H : Hp) (Ca : Addr) (cl : List (Str × Addr)) (fp : List Addr), PG (X.blk s H scope (compEnvC scope cl Ca X.env) fp) tg g) (ht : ∀ (s : Shared) (H : Hp) (Ca : Addr) (cl : List (Str × Addr)) (fp : List Addr), PTs (X.blk s H scope (compEnvC scope cl Ca X.env) fp) ifs tt)
    (hk : ∀ (s : Shared) (H : Hp) (Ca : Addr) (cl : List (Str × Addr)) (fp : List Addr), PE (X.blk s H scope (compEnvC scope cl Ca X.env) fp) kx tk)
    (he : ∀ (s : Shared) (H : Hp) (Ca : Addr) (cl : List (Str × Addr)) (fp : List Addr), PE (X.blk s H scope (compEnvC scope cl Ca X.env) fp) vx tv) (hs : ∀ x, foldedSetIterable iter X.env x = pure x) :
    PS X (.Assign [.Name y py] (.DictComp kx vx [⟨tg, iter, ifs, 0⟩] scope pos) spos) (tAsg (tDc wi g tt tk tv (own.map (·.2))) (gName i)) := by
  constructor
  intro pins s σ H D I h
  rw [exec_Assign_Name_used _ _ _ _ hsw]
  refine wpAny_bind (wpAny_standAt (wpAny_bind ?_))
  have core := dc_core (pos := pos) (use := some (assign (.Name y py) X.env)) (pos' := firstIterPos [⟨tg, iter, ifs, 0⟩] pos) (Qf := fun _ s' => SP X pins D .next s') hc hN I hi ok hg ht hk he hs
    (show tDc wi g tt tk tv (own.map (·.2)) σ H (fun x H1 => gName i x σ H1 D.nx) from h) fun L Cc s' m H' I' q hn fp => by
      refine wpAny_assign_Name (store_ok2 (v := V.ref L) I' hN hy (.inl hyl) rfl (fun s2 I2 ⟨a, sb, ha⟩ => ?_) (.inr hyl))
      obtain ⟨p0, p1, p2, p3, p4, p5⟩ := fp
      have hne : Cc ≠ a := by
        rcases ha with z | z
        · exact z ▸ p1
        · exact fun e => p4 y a z e.symm
      exact ⟨m, hn.sameBut sb hne, fun h3 sb3 => ⟨_, H', I2.turned (t' := s2.toks) (fun b o hb e => (sb3.2 b hb).trans e) p0 p1 p3 p4 p5, q⟩⟩
  show wpAny _ X.A (do let _ ← comprehension (.DictComp kx vx [⟨tg, iter, ifs, 0⟩] scope pos) scope X.env (firstIterPos [⟨tg, iter, ifs, 0⟩] pos) newDict false (eval iter X.env) (some (assign (.Name y py) X.env))) _ _ s
  exact wpAny_bind (thn core fun _ s' hq => wpAny_pure (wpAny_pure hq))
theorem swD_true {kx elt : PySem.Expr} {gs : List Comprehension} {scope : Scope} {pos py : Pos} {y : Str} {l : Nat} {env : PySem.Env} (hk : env.scope.kind = .function) (hy : env.scope.names.lookup y = some .local) (hl : (py.line == pos.line) = true)
    (ha : (scope.names.any fun (n, k) => n == y && (k == .local || k == .cell)) = false) : swapsWith (.DictComp kx elt gs scope pos) (some (.Name y py)) l env = pure true := by
  have ky : env.kindOf y = some .local := hy
  have hb : env.blockKind = .function := by
    unfold Env.blockKind
    rw [hk]
    rfl
  unfold swapsWith
  simp only [hb, ky, ha, Expr.pos, hl]
  rfl
theorem ds_asgDc (i : Nat) {y : Str} {it kx elt : PySem.Expr} {ifs : List PySem.Expr} {scope : Scope} {own : List (Str × Nat)} {t : List Nat} {g : TG} {ci : CI} {cf : CO} (hc : X.calm = true) (hN : X.N.Nodup) (hi : DI X C tg it ci) (ok : BlkOk X.N X.env.scope scope own) (hg : GOk X.K t g)
    (hgt : ∀ (s : Shared) (H : Hp) (Ca : Addr) (cl : List (Str × Addr)) (fp : List Addr), PG (X.blk s H scope (compEnvC scope cl Ca X.env) fp) tg g) (ht : ∀ (s : Shared) (H : Hp) (Ca : Addr) (cl : List (Str × Addr)) (fp : List Addr), DC (X.blk s H scope (compEnvC scope cl Ca X.env) fp) C.noE ifs cf)
    (hk : ∀ (s : Shared) (H : Hp) (Ca : Addr) (cl : List (Str × Addr)) (fp : List Addr), DE (X.blk s H scope (compEnvC scope cl Ca X.env) fp) C.noE kx ck)
    (he : ∀ (s : Shared) (H : Hp) (Ca : Addr) (cl : List (Str × Addr)) (fp : List Addr), DE (X.blk s H scope (compEnvC scope cl Ca X.env) fp) C.noE elt ce) (hy : X.N[i]? = some y := by rfl) (hyl : X.env.scope.names.lookup y = some .local := by rfl)
    (hsw : swapsWith (.DictComp kx elt [⟨tg, it, ifs, 0⟩] scope pos) (some (.Name y pos')) p.line X.env = pure true := by exact swD_true rfl rfl rfl rfl) (ho : own.map (·.2) = t := by rfl) (hs : ∀ x, foldedSetIterable it X.env x = pure x := by intro _; rfl) :
    DS X C (.Assign [.Name y pos'] (.DictComp kx elt [⟨tg, it, ifs, 0⟩] scope pos) p) (.asg i (.dc t ci cf ck ce)) := by
  subst ho
  exact PS.weak' (ps_setDc hc hN hy hyl hsw hi ok hgt ht hk he hs) fun D σ H h => asg_of (fun σ H Q q => tDc_of hg σ H Q q) D σ H h
end
end PF

/-! == of two dicts with ints as values. -/
namespace PF
open PySem PySem.Spec PyProof.Rows L2
theorem VReps.allI {K : PySem.W.Frag} {F : Hp} : ∀ {ds : List D} {vs : List V}, VReps K F vs ds → (ds.all D.isI) = true → ∃ is : List Int, vs = is.map V.int ∧ ds = is.map D.int
  | [], vs, h, _ => by cases h; exact ⟨[], rfl, rfl⟩
  | d :: ds, vs, h, ha => by
    cases h with
    | cons h1 h2 =>
      rw [List.all_cons, Bool.and_eq_true] at ha
      obtain ⟨is, e1, e2⟩ := VReps.allI h2 ha.2
      cases d <;> try (cases ha.1; done)
      rename_i i
      cases h1
      exact ⟨i :: is, by rw [e1]; rfl, by rw [e2]; rfl⟩
def deqB (ks : List Ke) (is : List Int) (ls : List Ke) (js : List Int) : Bool := (ks.zip is).all fun p => match getL (ls.zip js) p.1 with
  | none => false
  | some j => p.2 == j
theorem valV_kk : ∀ (ls : List Ke) (js : List Int) (q : Ke), ls.length = js.length → valV ((ls.map kk).zip (js.map V.int)) (kk q) = (getL (ls.zip js) q).map V.int := by
  intro ls
  induction ls with
  | nil => intro js q _; rfl
  | cons l ls ih =>
    intro js q h
    cases js with
    | nil => cases h
    | cons j js =>
      have ih := ih js q (by simpa using h)
      unfold valV getL at ih ⊢
      rw [List.map_cons, List.map_cons, List.zip_cons_cons, List.zip_cons_cons, List.find?_cons, List.find?_cons]
      by_cases e : l = q
      · subst e
        simp
      · have e' : kk l ≠ kk q := fun z => e (kk_inj z)
        simp only [e, e', decide_false]
        exact ih
theorem deq_hits {A : Around} {s : Shared} {ls : List Ke} {js : List Int} (hl : ls.length = js.length) {vb : List (L2.Key × Value)} (rb : KV ((ls.map kk).zip (js.map V.int)) vb) : ∀ (ks : List Ke) (is : List Int) (va : List (L2.Key × Value)), ks.length = is.length →
    KV ((ks.map kk).zip (is.map V.int)) va → PySem.W.KeqHits A s vb va (deqB ks is ls js) := by
  intro ks
  induction ks with
  | nil =>
    intro is va h ra
    have : va = [] := by
      have := ra.length
      simpa using this.symm
    subst this
    exact .nil
  | cons k ks ih =>
    intro is va h ra
    cases is with
    | nil => cases h
    | cons i is =>
      rw [List.map_cons, List.map_cons, List.zip_cons_cons] at ra
      unfold KV at ra
      cases ra with
      | @cons p q ps qs h1 t =>
        obtain ⟨h1, h2⟩ := h1
        obtain ⟨qk, qv⟩ := q
        have h1 : kk k = qk := h1
        subst h1
        have hv := rb.val (kk k)
        rw [valV_kk ls js k hl] at hv
        have ih := ih is qs (by simpa using h) t
        have e : deqB (k :: ks) (i :: is) ls js = ((match getL (ls.zip js) k with
            | none => false
            | some j => i == j) && deqB ks is ls js) := by
          unfold deqB
          rw [List.zip_cons_cons, List.all_cons]
        rw [e]
        cases hg : getL (ls.zip js) k with
        | none =>
          rw [hg] at hv
          have hn : valueAt vb (kk k) = none := by
            cases hx : valueAt vb (kk k) with
            | none => rfl
            | some u => rw [hx] at hv; exact hv.elim
          exact .miss hn
        | some j =>
          rw [hg] at hv
          obtain ⟨y, hy, ry⟩ := hv.some_of
          obtain ⟨t1, rfl⟩ : ∃ t1, qv = Value.int i t1 := (show RelV (V.int i) qv from h2)
          obtain ⟨t2, rfl⟩ : ∃ t2, y = Value.int j t2 := (show RelV (V.int j) y from ry)
          exact .hit hy (SeqAt.EqAt.int_int i t1 j t2) ih
section
variable {X : Cx} {C : Ctx} {a b c e : PySem.Expr} {ca cb cc ce : CE} {pos p : Pos}
theorem deq_ok (hu : X.A.units + 70 < cLine) {pins : List (Addr × Obj)} {s : Shared} {σ : L2.St} {F H G1 G2 : Hp} {x y : Res} {vx vy : V} {ux uy : Value} {k : Bool} {Q : VK} (I : Inv X pins σ H s) (e : Ex F H) (rx : RRep X.K G1 F H x vx) (ry : RRep X.K G2 F H y vy) (qx : RelV vx ux) (qy : RelV vy uy)
    (hg : sameD x.2 y.2 = some k) (h : Then X.K F H (.pl, .bl k) Q) : wpAny (model X.prog X.w) X.A (compareOp .Eq ux uy) (EP X pins σ Q) X.xe s := by
  obtain ⟨fx, x⟩ := x
  obtain ⟨fy, y⟩ := y
  cases x <;> try (cases hg; done)
  cases y <;> try (cases hg; done)
  rename_i l1 ks ds l2 ls es
  simp only [sameD] at hg
  split at hg
  · rename_i hc
    rw [Bool.and_eq_true, Bool.and_eq_true, Bool.and_eq_true, decide_eq_true_eq, decide_eq_true_eq] at hc
    obtain ⟨⟨hn1, hn2⟩, ha, hb⟩ := hc
    obtain ⟨pa, kvs, oa, rfl, a1, a2, a3⟩ := rx.dct e
    obtain ⟨pb, kws, ob, rfl, b1, b2, b3⟩ := ry.dct e
    obtain ⟨is, ea, rfl⟩ := a3.allI ha
    obtain ⟨js, eb, rfl⟩ := b3.allI hb
    obtain rfl : ux = Value.ref pa := qx
    obtain rfl : uy = Value.ref pb := qy
    obtain ⟨_, ya, va, ra, da⟩ := dk_rd I.hok (rd_hoD a1)
    obtain ⟨_, yb, vb, rb, db⟩ := dk_rd I.hok (rd_hoD b1)
    have zk : ∀ (l : List (L2.Key × V)), (l.map (·.1)).zip (l.map (·.2)) = l := fun l => by
      induction l with
      | nil => rfl
      | cons p l ih => rw [List.map_cons, List.map_cons, List.zip_cons_cons, ih]
    have ek := zk kvs
    rw [a2, ea] at ek
    have el := zk kws
    rw [b2, eb] at el
    rw [← ek] at ra
    rw [← el] at rb
    have l1' : ks.length = is.length := by simpa using hn1
    have l2' : ls.length = js.length := by simpa using hn2
    have hits := deq_hits (A := X.A.in1) (s := s) l2' rb ks is va l1' ra
    have la : va.length = ks.length := by rw [← ra.length]; simp [l1']
    have lb : vb.length = ls.length := by rw [← rb.length]; simp [l2']
    have ek : k = (ks.length == ls.length && deqB ks is ls js) := by
      have hg := Option.some.inj hg
      rw [← hg]
      congr 1
      unfold deqB
      have zz : ks.zip (is.map D.int) = (ks.zip is).map fun p => (p.1, D.int p.2) := by
        rw [List.zip_map_right]
        rfl
      rw [zz, List.all_map]
      have gz : ∀ q : Ke, getL (ls.zip (js.map D.int)) q = (getL (ls.zip js) q).map D.int := fun q => by
        rw [List.zip_map_right]
        unfold getL
        rw [List.find?_map, Option.map_map, Option.map_map]
        rfl
      congr 1
      funext p
      show (match getL (ls.zip (js.map D.int)) p.1 with | none => false | some d => D.eqv (.int p.2) d) = _
      rw [gz]
      cases getL (ls.zip js) p.1 with
      | none => rfl
      | some j => rfl
    refine PySem.W.keq_eq (knd := mixKind X.prog X.w) ya yb da db (by omega) (fun _ => hits) ?_
    rw [la, lb, ← ek]
    exact fin_bl I (h.bl e) rfl
  · cases hg
theorem de_deq (ha : DE X C a ca) (hb : DE X C b cb) (hu : X.A.units + 70 < cLine) (hm : behindInMarks (cmpOf .eq) b = false) : DE X C (.Compare a [cmpOf .eq] [b] pos) (.deq ca cb) := by
  refine ⟨fun pins s σ H Q I ⟨F, env, f, h⟩ => ?_⟩
  simp only [evalE] at h
  refine wpAny_Compare1 (thn (ha.go I f h.bind) fun u s1 ⟨vx, H1, F1, x, I1, q1, g1, r1, h1⟩ => thn (hb.go I1 (f.grow g1) h1.bind) fun w s2 ⟨vy, H2, F2, y, I2, q2, g2, r2, h2⟩ => ?_) hm
  obtain ⟨res, er, h3⟩ := h2.bind.lift
  exact deq_ok hu I2 g2.fh (r1.grow g2) r2 q1 q2 er (Then.later h3 (g1.trans g2))
theorem dt_deq (ha : DE X C a ca) (hb : DE X C b cb) (hu : X.A.units + 70 < cLine) (hm : behindInMarks (cmpOf .eq) b = false) : DT X C (.Compare a [cmpOf .eq] [b] pos) (.deq ca cb) := by
  refine ⟨fun pins s σ H Q I ⟨F, env, f, h⟩ => ?_⟩
  simp only [evalE] at h
  refine wpAny_isTrue_Compare1 (thn (ha.go I f h.bind.bind) fun u s1 ⟨vx, H1, F1, x, I1, q1, g1, r1, h1⟩ => thn (hb.go I1 (f.grow g1) h1.bind) fun w s2 ⟨vy, H2, F2, y, I2, q2, g2, r2, h2⟩ => ?_) hm
  obtain ⟨k, er, h3⟩ := h2.bind.lift
  refine thn (deq_ok hu (Q := fun z H3 => z = .bl k ∧ Q k H3) I2 g2.fh (r1.grow g2) r2 q1 q2 er fun z F' H' g rz => ⟨rz.bl, h3 F' H' ((g1.trans g2).trans g)⟩) fun t s3 ⟨z, H3, I3, r3, ez, q3⟩ => ?_
  subst ez
  cases r3
  exact wpAny_truthy_bool ⟨H3, I3, q3⟩
end
end PF

/-! x = f(e, w.pop()); for t in rows[w.pop()]: .. -/
namespace PF
open PySem PySem.Spec PyProof.Rows L2
section
variable {X : Cx} {C : Ctx} {pins : List (Addr × Obj)} {s : Shared} {σ : L2.St} {F H : Hp} {env env1 : Env} {d : D} {j : Nat}
theorem Rd.popL {P : D × Env → Prop} {E : Nat → D → Prop} (h : Rd (PF.popL j env) P E) : ∃ d env1, PF.popL j env = .ok (d, env1) ∧ P (d, env1) := by
  cases hp : PF.popL j env with
  | ok p =>
    rw [hp] at h
    exact ⟨p.1, p.2, rfl, h⟩
  | stuck => rw [hp] at h; exact h.elim
  | exc c x =>
    exfalso
    unfold PF.popL PF.ownL at hp
    split at hp
    · change (match (_ : Option D) with | some d => _ | none => _) = _ at hp
      split at hp <;> cases hp
    · cases hp
theorem FrI.popL (f : FrI X.K C.F0 C.H0 F H env σ) (h : PF.popL j env = .ok (d, env1)) :
    ∃ q vs v, σ[j]? = some (some (.ref q)) ∧ H q = some (.lst vs) ∧ vs[vs.length - 1]? = some v ∧ VRep X.K F v d ∧ FrI X.K C.F0 C.H0 F (upd H q (.lst vs.dropLast)) env1 σ := by
  unfold PF.popL PF.ownL at h
  split at h
  · rename_i ds ej
    change (match ds[ds.length - 1]? with | some d => R.ok (d, env.set j (some (true, .lst (ds.eraseIdx (ds.length - 1))))) | none => R.stuck) = _ at h
    split at h
    · rename_i d0 hd
      cases h
      obtain ⟨q, vs, q1, q2, q3, q4⟩ := f.mut (ds' := ds.eraseIdx (ds.length - 1)) ej
      obtain ⟨v, h1, h2⟩ := q3.get hd
      refine ⟨q, vs, v, q1, q2, by rw [q3.length]; exact h1, h2, ?_⟩
      rw [dropLast_eq, q3.length]
      exact q4 _ (q3.erase _)
    · cases h
  · cases h
/-- the pop itself, as an expression -/
theorem pop_go {x : Str} {px apos cpos : Pos} (hN : X.N[j]? = some x) (hv : Vis X.env.scope x) (hd : (x == ("__debug__" : Str)) = false) (hcd : (x == ("__classdict__" : Str)) = false)
    (hbase : attributeBase (.Name x px) "pop" X.env (eval (.Name x px) X.env) = eval (.Name x px) X.env) (hline : (apos.endLine == cpos.line) = true) (I : Inv X pins σ H s) (f : FrI X.K C.F0 C.H0 F H env σ) (h : PF.popL j env = .ok (d, env1)) :
    wpAny (model X.prog X.w) X.A (eval (.Call (.Attribute (.Name x px) "pop" apos) [] [] cpos) X.env) (fun u s1 => ∃ v H1, Inv X pins σ H1 s1 ∧ RelV v u ∧ VRep X.K F v d ∧ FrI X.K C.F0 C.H0 F H1 env1 σ) X.xe s := by
  obtain ⟨q, vs, v, q1, q2, q3, q4, q5⟩ := f.popL h
  exact thn ((pe_bm0 PySem.F.plainAttrs_list PySem.F.slot_list_pop PySem.F.type_list_pop mt_pop (pe_var hN hv hd hcd) hbase hline).run pins s σ H (fun v' H1 => VRep X.K F v' d ∧ FrI X.K C.F0 C.H0 F H1 env1 σ) I
    ⟨_, q1, .inl ⟨rfl, vs, SqL.of q2⟩, q, vs, v, rfl, rfl, q2, q3, q4, q5⟩) fun u s1 ⟨v', H1, I1, r1, z1, z2⟩ => ⟨v', H1, I1, r1, z1, z2⟩
end
section
variable {X : Cx} {C : Ctx} {a e tg : PySem.Expr} {ca ce : CE} {pos p pos' : Pos} {body : List PySem.Stmt} {kb : List CS}
/-- rows[w.pop()] -/
def tRP (X : Cx) (C : Ctx) (r j : Nat) : TE := fun σ H Q => ∃ F env, FrI X.K C.F0 C.H0 F H env σ ∧ Rd (do
    let x ← evalE C.Φ (.var r) env
    let p ← PF.popL j env
    let y ← lift (idxD x.2 p.1)
    pure (x.1, y, p.2)) (fun z => z.1.isBo = false ∧ ∀ v F' H', FrI X.K C.F0 C.H0 F' H' z.2.2 σ → Ex F F' → VRep X.K F' v z.2.1 → Q v H') C.E
theorem pe_rowsPop {x y : Str} {px py apos cpos : Pos} {r j : Nat} (hr : DE X C (.Name x px) (.var r)) (hN : X.N[j]? = some y) (hv : Vis X.env.scope y) (hd : (y == ("__debug__" : Str)) = false) (hcd : (y == ("__classdict__" : Str)) = false)
    (hbase : attributeBase (.Name y py) "pop" X.env (eval (.Name y py) X.env) = eval (.Name y py) X.env) (hline : (apos.endLine == cpos.line) = true) (hs : PlainIx (.Call (.Attribute (.Name y py) "pop" apos) [] [] cpos)) :
    PE X (.Subscript (.Name x px) (.Call (.Attribute (.Name y py) "pop" apos) [] [] cpos) pos) (tRP X C r j) := by
  refine ⟨fun pins s σ H Q I ⟨F, env, f, h⟩ => ?_⟩
  refine Subscript_ (thn (hr.go I f h.bind) fun u s1 ⟨vx, H1, F1, xr, I1, q1, g1, r1, h1⟩ => ?_)
  obtain ⟨d, env1, hp, h2⟩ := h1.bind.popL
  obtain ⟨dd, er, h3⟩ := h2.bind.lift
  have h3 : xr.1.isBo = false ∧ ∀ v F' H', FrI X.K C.F0 C.H0 F' H' env1 σ → Ex F F' → VRep X.K F' v dd → Q v H' := h3
  obtain ⟨F3, g3, e3, rx⟩ := g1.settle r1 h3.1
  refine thn (pop_go hN hv hd hcd hbase hline I1 (f.grow g3) hp) fun w s2 ⟨vy, H2, I2, q2, rv, f2⟩ => ?_
  exact ix_ok _ _ pins s2 σ F3 H2 H2 H2 (.pl, xr.2) (.pl, d) vx vy u w (.pl, dd) Q I2 f2.ex rx rv q1 q2 (by unfold ixR; rw [er]; rfl) (fun v F' H' g rr => h3.2 v F' H' (f2.grow g) (g3.ff.trans g.ff) rr) (hs _ _)
theorem pa_two {X : Cx} {a b : PySem.Expr} {ta tb : TE} (ha : PE X a ta) (hb : PE X b tb) (h1 : starEach [a, b] X.env = (false, eval a X.env) :: starEach [b] X.env) (h2 : starEach [b] X.env = (false, eval b X.env) :: starEach [] X.env) : PA X [a, b] (tCons ta (tCons tb tNil)) :=
  pa_cons ha (pa_cons hb pa_nil h2) h1
/-- for t in rows[w.pop()]: .. -/
theorem ds_forPop {t : List Nat} {g : TG} {x y : Str} {px py apos cpos spos : Pos} {r j : Nat} (hp : PassesOwn (model X.prog X.w) X.A X.env X.xe) (hc : X.calm = true) (hr : DE X C (.Name x px) (.var r)) (hg : PG X tg g) (gk : GOk X.K t g) (hb : DSs X C body kb)
    (hN : X.N[j]? = some y := by rfl) (hv : Vis X.env.scope y := by first | exact Or.inl rfl | exact Or.inr (Or.inl rfl) | exact Or.inr (Or.inr rfl)) (hd : (y == ("__debug__" : Str)) = false := by decide) (hcd : (y == ("__classdict__" : Str)) = false := by decide)
    (hbase : attributeBase (.Name y py) "pop" X.env (eval (.Name y py) X.env) = eval (.Name y py) X.env := by rfl) (hline : (apos.endLine == cpos.line) = true := by rfl) (hix : PlainIx (.Call (.Attribute (.Name y py) "pop" apos) [] [] cpos) := by intro _ _; rfl)
    (hs : ∀ z, foldedSetIterable (.Subscript (.Name x px) (.Call (.Attribute (.Name y py) "pop" apos) [] [] cpos) spos) X.env z = pure z := by intro _; rfl) :
    DS X C (.For tg (.Subscript (.Name x px) (.Call (.Attribute (.Name y py) "pop" apos) [] [] cpos) spos) body [] pos) (.forPop t r j kb) :=
  PS.weak' (ps_for hp hc (pi_tup (pe_rowsPop hr hN hv hd hcd hbase hline hix)) hg hb hs) fun D σ H ⟨F, env, f, h⟩ => by
  simp only [exec] at h
  refine ⟨F, env, f, Rd.unbind (h.bind.mono fun xr hx => Rd.unbind (hx.bind.mono fun pr hpr => Rd.unbind (hpr.bind.mono fun yv hy => ?_)))⟩
  show xr.1.isBo = false ∧ _
  cases yv <;> first | exact hy.elim | skip
  rename_i ds
  have hy : Rd (if xr.1.isBo then R.stuck else forGo (fun x env => do
      let env' ← bindT t x env
      execs C.Φ C.W kb env') ds pr.2) (EndS X.K C D F) C.E := hy
  cases hbo : xr.1.isBo with
  | true => rw [hbo] at hy; exact hy.elim
  | false =>
    rw [hbo] at hy
    refine ⟨rfl, fun v F1 H1 f1 e1 rv => ?_⟩
    have hw : Rd (forGo (fun x env => do
      let env' ← bindT t x env
      execs C.Φ C.W kb env') ds pr.2) (EndS X.K C D F) C.E := hy
    generalize hgd : (fun x env => do
      let env' ← bindT t x env
      execs C.Φ C.W kb env') = gd at hw
    cases rv with
    | @tup a vs _ h1 h2 =>
    refine ⟨a, rfl, ⟨vs, SqT.of (f1.ex _ _ h1)⟩, ?_⟩
    have wk : WalkD X.K F1 F1 (Itt X.K a) ds := walkD_at (H := H1) walk_tup h2.length (fun H' e' => SqT.of (e' _ _ h1)) h2
    obtain ⟨G, Y, hwk, hG, hY⟩ := wk
    refine for_it hwk (fun i σ2 H2 => ∃ F2 env2, FrI X.K C.F0 C.H0 F2 H2 env2 σ2 ∧ Ex F1 F2 ∧ Rd (forGo gd (ds.drop i) env2) (EndS X.K C D F) C.E) ⟨F1, pr.2, f1, Evl.Ex.refl F1, by rw [List.drop_zero]; exact hw⟩
      (fun i σ2 H2 hi ⟨F2, env2, f2, e2, _⟩ => hG H2 (e2.trans f2.ex)) ?_ ?_
    · rintro i x σ2 H2 H3 hi ⟨F2, env2, f2, e2, hgo⟩ hy
      obtain ⟨F3, g3, hx⟩ := hY F2 H2 i x H3 e2 f2.ex f2.tp (e2.trans f2.ex) hi hy
      have rx := hx _ (List.getElem?_eq_getElem hi)
      rw [List.drop_eq_getElem_cons hi] at hgo
      have hgo := forGo_at hgo
      rw [← hgd] at hgo
      cases hb : bindT t ds[i] env2 with
      | stuck => simp only [hb] at hgo; exact hgo.elim
      | exc c d =>
        exfalso
        unfold bindT at hb
        split at hb
        · split at hb <;> cases hb
        · split at hb <;> cases hb
        · cases hb
      | ok env' =>
        simp only [hb] at hgo
        refine gk _ _ F3 H3 env2 env' σ2 x _ _ (f2.grow g3) rx hb fun σ3 _ _ f3 => ⟨F3, env', f3, (show Rd (execs C.Φ C.W kb env') _ _ from hgo).mono fun o ho => ?_⟩
        rw [hgd] at ho
        cases o with
        | nx env4 => exact fun σ4 F4 H4 f4 e4 => ⟨F4, env4, f4, (e2.trans g3.ff).trans e4, ho⟩
        | cnt env4 => exact fun σ4 F4 H4 f4 e4 => ⟨F4, env4, f4, (e2.trans g3.ff).trans e4, ho⟩
        | brk env4 => exact fun σ4 F4 H4 f4 e4 => (show EndS X.K C D F (.nx env4) from ho) σ4 F4 H4 f4 (((e1.trans e2).trans g3.ff).trans e4)
        | ret fr d env4 => exact ho
    · rintro σ2 H2 ⟨F2, env2, f2, e2, hgo⟩
      rw [List.drop_length] at hgo
      exact (show EndS X.K C D F (.nx env2) from hgo) σ2 F2 H2 f2 (e1.trans e2)
/-- x = f(e, w.pop()) -/
theorem ds_asgPop (i : Nat) {CX : CXT} {k fi j : Nat} {fa : Addr} {fd : FuncData} {ps : List Str} {x y fx : Str} {XW : XK → Nat → D → Prop} {XE : XK} {py pf apos cpos pc : Pos} (Fn : FnOk X.prog X.w X.K X.mg X.base CX k fa fd ps (spOf X.K XW (C.Φ fi) 2)) (hr : Room k X.A) (hm : X.mg fx = some (.ref fa))
    (hk : PySem.W.keepIn X.K (.ref fa) = true) (hbd : Binds X.K fd ps []) (hx : Passes CX X XE) (hE : C.E = XW XE) (ha : DE X C a ca) (hNd : X.N.Nodup) (hi : X.N[i]? = some x := by rfl) (hxl : Loc X.env.scope x := by first | exact Or.inl rfl | exact Or.inr rfl)
    (hN : X.N[j]? = some y := by rfl) (hv : Vis X.env.scope y := by first | exact Or.inl rfl | exact Or.inr (Or.inl rfl) | exact Or.inr (Or.inr rfl)) (hd : (y == ("__debug__" : Str)) = false := by decide) (hcd : (y == ("__classdict__" : Str)) = false := by decide)
    (hbase : attributeBase (.Name y py) "pop" X.env (eval (.Name y py) X.env) = eval (.Name y py) X.env := by rfl) (hline : (apos.endLine == cpos.line) = true := by rfl) (hg : Gl X fx := by rfl) (hdb : (fx == ("__debug__" : Str)) = false := by decide)
    (h1 : starEach [a, .Call (.Attribute (.Name y py) "pop" apos) [] [] cpos] X.env = (false, eval a X.env) :: starEach [.Call (.Attribute (.Name y py) "pop" apos) [] [] cpos] X.env := by rfl)
    (h2 : starEach [.Call (.Attribute (.Name y py) "pop" apos) [] [] cpos] X.env = (false, eval (.Call (.Attribute (.Name y py) "pop" apos) [] [] cpos) X.env) :: starEach [] X.env := by rfl)
    (hpl : (backTo pc (starEach [.Call (.Attribute (.Name y py) "pop" apos) [] [] cpos] X.env)).any (·.1) = false := by rfl)
    (hs : swapsWith (.Call (.Name fx pf) [a, .Call (.Attribute (.Name y py) "pop" apos) [] [] cpos] [] pc) (some (.Name x pos')) pos.line X.env = pure false := by rfl) (hf : X.fn x = true ∨ X.env.scope.names.lookup x = some .local := by first | exact .inl rfl | exact .inr rfl) :
    DS X C (.Assign [.Name x pos'] (.Call (.Name fx pf) [a, .Call (.Attribute (.Name y py) "pop" apos) [] [] cpos] [] pc) pos) (.asgPop i fi ca j) :=
  PS.weak' (ps_set hNd hi hxl (pe_call Fn hr hg hm hk hbd .nil hx (pa_two ha (pe_bm0 PySem.F.plainAttrs_list PySem.F.slot_list_pop PySem.F.type_list_pop mt_pop (pe_var hN hv hd hcd) hbase hline) h1 h2) hdb h1 hpl) hs hf) fun D σ H ⟨F, env, f, h⟩ => by
    simp only [exec] at h
    refine ⟨F, env, f, h.bind.mono fun xr hx v F1 H1 g1 r1 => ?_⟩
    obtain ⟨d, env1, hp, h3⟩ := hx.bind.popL
    obtain ⟨q, vs, v2, q1, q2, q3, q4, q5⟩ := (f.grow g1).popL hp
    refine ⟨_, q1, .inl ⟨rfl, vs, SqL.of q2⟩, q, vs, v2, rfl, rfl, q2, q3, ?_⟩
    obtain ⟨fl, xd⟩ := xr
    cases fl with
    | bo => exact h3.elim
    | fr => exact h3.elim
    | pl =>
      have h3 : Rd (C.Φ fi [xd, d] >>= fun r => if i < env1.length then R.ok (Out.nx (env1.set i (some (r.1, r.2)))) else R.stuck) (EndS X.K C D F) C.E := h3
      show spOf X.K XW (C.Φ fi) 2 ([v, v2] ++ []) (upd H1 q (.lst vs.dropLast)) _ XE
      refine ⟨rfl, F1, [xd, d], q5.ex, q5.tp, .cons r1 (.cons q4 .nil), ?_⟩
      rw [← hE]
      refine h3.bind.mono fun r hr v3 F3 H3 g3 rr => ?_
      obtain ⟨b, rd⟩ := r
      split at hr
      · have hr : EndS X.K C D F (.nx (env1.set i (some (b, rd)))) := hr
        have fs := q5.setR (j := i) g3 rr (by cases b <;> rfl)
        have eb : decide ((flB b, rd).1 = Fl.fr) = b := by cases b <;> rfl
        rw [eb] at fs
        exact hr _ F3 H3 fs (g1.ff.trans g3.ff)
      · exact hr.elim
end
end PF

/-! Defs by what they compute; the law's end. -/
namespace PF
open PySem PySem.Spec PyProof.Rows L2
def XW0 : XK → Nat → D → Prop := fun _ _ _ => False
def mkC (F0 H0 : Hp) (prog : List FnD) (W k : Nat) : Ctx := ⟨F0, H0, den prog W k, W, fun _ _ => False⟩
structure DefAt (K : PySem.W.Frag) (mg : Str → Option Value) (x : Str) (st : Stmt) (f : Addr) (fd : FuncData) (ps : List Str) : Prop where
  fn : Fun K x x st f fd
  mg : mg x = some (.ref f)
  bi : Binds K fd ps []
/-- the context of a def's body -/
abbrev bx (P : Program) (w : World) (K : PySem.W.Frag) (mg : Str → Option Value) (base : Heap) (N : List Str) (x : Str) (st : Stmt) (f : Addr) (cdv : Value) (A : Around) (outer : List PySem.Env) (s : Shared) (H : Hp) (E : XK) : Cx :=
  (cxOf CX0 P w K mg base N x (defScope st) f cdv A outer s H E).nox
theorem Room.u70 {k : Nat} {A : Around} (r : Room k A) : A.units + 70 < cLine := by
  have := r.un
  omega
section
variable {P : Program} {w : World} {K : PySem.W.Frag} {mg : Str → Option Value} {base : Heap} {x : Str} {st : Stmt} {f : Addr} {fd : FuncData} {ps N : List Str} {prog : List FnD} {W k m i : Nat} {fdef : FnD}
theorem fn_zero {n : Nat} (hn : ps.length = n) : FnOk P w K mg base CX0 m f fd ps (spOf K XW0 (den prog W 0 i) n) := by
  refine ⟨fun vs H Q E h => h.1.trans hn.symm, fun A outer s H args us vs Q E hr e0 hb r h => ?_⟩
  obtain ⟨_, F, ds, _, _, _, h⟩ := h
  exact h.elim
theorem fn_ok (D : DefAt K mg x st f fd ps) (S : FnScope N ps (defScope st)) (hp : prog[i]? = some fdef) (hnp : fdef.np = ps.length) (hns : fdef.ns = N.length)
    (hb : ∀ (cdv : Value) (A : Around) (outer : List PySem.Env) (s : Shared) (H : Hp) (E : XK) (F0 H0 : Hp), Room m (A.deeper (envOfC x (defScope st) s.heap.objs.size f cdv)) →
      DSs (bx P w K mg base N x st f cdv A outer s H E) (mkC F0 H0 prog W k) (defBody st) fdef.body) : FnOk P w K mg base CX0 (m + 1) f fd ps (spOf K XW0 (den prog W (k + 1) i) ps.length) := by
  refine D.fn.ok S (fun vs H Q E h => h.1) (fun cdv A outer s H vs Q E hr h => ?_)
  obtain ⟨hl, F, ds, eF, tF, r, h⟩ := h
  refine ⟨_, hb cdv A outer s H E F H hr, ?_⟩
  have hdl := r.length
  have hN : ps.length ≤ N.length := by
    have := congrArg List.length S.pre
    rw [List.length_take] at this
    omega
  have h1 : den prog W (k + 1) i ds = runBody (den prog W k) W fdef ds := by
    show (match prog[i]? with | some fd => runBody (den prog W k) W fd ds | none => R.stuck) = _
    rw [hp]
  rw [h1] at h
  unfold runBody at h
  rw [if_pos ⟨by rw [hnp, ← hdl, hl], by rw [hnp, hns]; exact hN⟩] at h
  refine ⟨F, startEnv fdef ds, ?_, h.bind.mono fun o ho => ?_⟩
  · -- the slots at the entry
    have es : start N vs = vs.map some ++ List.replicate (N.length - vs.length) none := rfl
    refine ⟨Grow.refl eF, ?_, fun j o d hj => ?_, fun a b da db v hab ha hb' => ?_, tF⟩
    · rw [es]
      unfold startEnv
      simp [hdl, hns]
    · unfold startEnv at hj
      by_cases hlt : j < ds.length
      · rw [List.getElem?_append_left (by simpa using hlt), List.getElem?_map] at hj
        obtain ⟨d', h2, h3⟩ := Option.map_eq_some_iff.mp hj
        cases h3
        obtain ⟨v, h4, h5⟩ := r.get h2
        refine ⟨v, ?_, h5⟩
        rw [es, List.getElem?_append_left (by rw [List.length_map, hdl]; exact hlt), List.getElem?_map, h4]
        rfl
      · rw [List.getElem?_append_right (by simpa using hlt), List.getElem?_replicate] at hj
        split at hj <;> cases hj
    · exfalso
      unfold startEnv at ha
      by_cases hlt : a < ds.length
      · rw [List.getElem?_append_left (by simpa using hlt), List.getElem?_map] at ha
        obtain ⟨d', h2, h3⟩ := Option.map_eq_some_iff.mp ha
        cases h3
      · rw [List.getElem?_append_right (by simpa using hlt), List.getElem?_replicate] at ha
        split at ha <;> cases ha
  · cases o with
    | nx env => exact fun σ F' H' f' e' => (show Then K F H (flB false, .non) Q from ho) .non F' H' f'.gr (show VRep K F' .non .non from .non)
    | ret fr d env => exact fun v F' H' g r => (show Then K F H (flB fr, d) Q from ho) v F' H' g r
    | brk env => exact ho.elim
    | cnt env => exact ho.elim
/-- the law's promise at the script -/
theorem law_sp {n m : Nat} (h : ∀ ns : List Int, ns.length ≤ n → ∃ fr, den prog W k i [.scr ns] = .ok (fr, .bl true)) (H : Hp) (a : Addr) (ns : List Int) (hl : ns.length ≤ n) (hS : SqL K H a (ns.map V.int)) (E : XK) :
    spOf K XW0 (den prog W k i) 1 [.ref a] H (fun v _ => v = .bl true) E := by
  obtain ⟨fr, e⟩ := h ns hl
  refine ⟨rfl, H, [.scr ns], Evl.Ex.refl H, fun _ _ q => q, .cons (.scr hS) .nil, ?_⟩
  rw [e]
  intro w F' H' g r
  exact RRep.bl r
end
end PF
namespace PF
open PySem
theorem bb_len : bootBuiltins "len" = some (.builtin "len") := by rfl
theorem bb_abs : bootBuiltins "abs" = some (.builtin "abs") := by rfl
theorem bb_sum : bootBuiltins "sum" = some (.builtin "sum") := by rfl
theorem bb_max : bootBuiltins "max" = some (.builtin "max") := by rfl
theorem bb_min : bootBuiltins "min" = some (.builtin "min") := by rfl
theorem bb_any : bootBuiltins "any" = some (.builtin "any") := by rfl
theorem bb_all : bootBuiltins "all" = some (.builtin "all") := by rfl
theorem bb_sorted : bootBuiltins "sorted" = some (.builtin "sorted") := by rfl
theorem bb_isinstance : bootBuiltins "isinstance" = some (.builtin "isinstance") := by rfl
theorem bb_int : bootBuiltins "int" = some (.type "int") := by rfl
theorem bb_bool : bootBuiltins "bool" = some (.type "bool") := by rfl
theorem bb_str : bootBuiltins "str" = some (.type "str") := by rfl
theorem bb_list : bootBuiltins "list" = some (.type "list") := by rfl
theorem bb_tuple : bootBuiltins "tuple" = some (.type "tuple") := by rfl
end PF

/-! Exceptions: raise X(), try: return f(..) except X: suite; defs that raise. -/
namespace PF
open PySem PySem.Spec PyProof.Rows L2
/-- what an exception of the code c that keeps d wishes, behind F, H -/
def ExW (K : PySem.W.Frag) (cl : Nat → Addr) (fl : Nat → Option Str) (XE : XK) (F H : Hp) (c : Nat) (d : D) : Prop := ∀ F' H', Grow F H F' H' → match fl c with
  | none => XE (.ref (cl c)) none H'
  | some f => ∀ dx v, H' dx = some (.xd [(f, v)]) → VRep K F' v d → XE (.ref (cl c)) (some dx) H'
theorem ExW.later {K : PySem.W.Frag} {cl : Nat → Addr} {fl : Nat → Option Str} {XE : XK} {F H F' H' : Hp} {c : Nat} {d : D} (h : ExW K cl fl XE F H c d) (g : Grow F H F' H') : ExW K cl fl XE F' H' c d := fun F2 H2 g2 => h F2 H2 (g.trans g2)
/-- a def's promise, if it may raise -/
def spX (K : PySem.W.Frag) (cl : Nat → Addr) (fl : Nat → Option Str) (m : List D → R (Bool × D)) (n : Nat) : Sp := fun vs H Q XE => vs.length = n ∧ ∃ F ds, Ex F H ∧ TupIn F H ∧ VReps K F vs ds ∧ Rd (m ds) (fun r => Then K F H (flB r.1, r.2) Q) (ExW K cl fl XE F H)
section
variable {X : Cx} {C : Ctx} {e : PySem.Expr} {ce : CE} {st : PySem.Stmt} {cs : CS} {pos p : Pos}
/-! ### within a def that may raise: what raises nothing -/
theorem ds_quiet (h : DS X C.noE st cs) : DS X C st (.qS cs) := PS.weak' h fun D σ H ⟨F, env, f, h⟩ => ⟨F, env, f, by
  simp only [exec] at h
  have q : Rd (exec C.Φ C.W cs env) (EndS X.K C D F) (fun _ _ => False) := h.calm
  exact q.mono fun o ho => by
    cases o with
    | nx env' => exact ho
    | brk env' => exact ho
    | cnt env' => exact ho
    | ret fr d env' => exact ho⟩
theorem dt_quiet (h : DT X C.noE e ce) : DT X C e (.quiet ce) := ⟨fun pins s σ H Q I ⟨F, env, f, q⟩ => h.run pins s σ H Q I ⟨F, env, f, by
  simp only [evalE] at q
  show Rd (evalE C.Φ ce env >>= asBl) _ (fun _ _ => False)
  cases hq : evalE C.Φ ce env with
  | stuck => rw [hq] at q; exact q
  | exc a b => rw [hq] at q; exact q
  | ok x =>
    rw [hq] at q
    obtain ⟨fl, d⟩ := x
    cases d <;> first | exact q | exact q.elim⟩⟩
theorem di_quiet {tg : PySem.Expr} {ci : CI} (h : DI X C.noE tg e ci) : DI X C tg e (.quietI ci) := PI.weak' h fun σ H R ⟨F, env, f, q⟩ => ⟨F, env, f, by
  simp only [evalI] at q
  exact q.calm⟩
/-! ### raise -/
/-- X() -/
theorem pmk_own0 {Cl : Addr} {bmB : List Value} {B newId initId : String} {x : Str} (F : ExcBaseFacts B newId initId bmB) (q : PySem.W.excIn X.K Cl bmB newId = true) (gC : X.mg x = some (.ref Cl)) (kC : PySem.W.keepIn X.K (.ref Cl) = true) (r : Raises X (.ref Cl)) (hg : Gl X x)
    (hdb : (x == ("__debug__" : Str)) = false := by decide) : PMk X (.Call (.Name x p) [] [] pos) (fun _ H Q => Q (.ref Cl) none H) := by
  intro pins s σ H Q I h
  refine wpAny_Call_Name_kw (ld_glob I hg gC ?_ hdb)
  refine PySem.W.callWith_K0 I.kIn kC ?_
  show wpAny _ _ (call (.ref Cl) []) _ _ _
  obtain ⟨bm, N, nm, qn, bs, hdct, sn, sub, ab, col, dd, k0, k1, k2, k3, k5, mN, hC, hN, hni, T⟩ := exc_obj I.kIn q
  refine wpAny_call_exc_subT F T hC hN hni (fun h' e hm => ?_) (by show 0 ≤ sizeLine; omega)
  exact mk_of I hm r h (I.hok.gone hm.new)
/-- the facts of an exception class without own __init__ -/
structure Xc (K : PySem.W.Frag) (mg : Str → Option Value) (x : Str) (Cl : Addr) : Prop where
  g : mg x = some (.ref Cl)
  x : PySem.W.excIn K Cl [.type "ValueError", .type "Exception", .type "BaseException", .type "object"] "ValueError.__new__" = true
  k : PySem.W.keepIn K (.ref Cl) = true
  b : PySem.W.subIn K (.ref Cl) (.type "BaseException") = some true
  t : PySem.W.typeIn K (.ref Cl) = some (.type "type")
theorem exm_of {K : PySem.W.Frag} {j r : Addr} (b : PySem.W.subIn K (.ref r) (.type "BaseException") = some true) (i : PySem.W.isClsIn K r = true) (t : PySem.W.typeIn K (.ref r) = some (.type "type")) (s : PySem.W.subIn K (.ref j) (.ref r) = some true) : PySem.W.exmOne K (.ref j) (.ref r) = some true := by
  unfold PySem.W.exmOne PySem.W.kitCls
  unfold PySem.W.isClsIn at i
  simp [b, i, t, s]
theorem ds_raise0 {W : WX} {cl : Nat → Addr} {fl : Nat → Option Str} {XE : XK} {x : Str} {c : Nat} {p2 : Pos} (T : Xc X.K X.mg x (cl c)) (hc : X.calm = true) (tk : Takes X W) (hW : W = fun cls d _ H' => XE cls d H') (hE : C.E = ExW X.K cl fl XE C.F0 C.H0) (hfl : fl c = none) (hg : Gl X x := by rfl) (hdb : (x == ("__debug__" : Str)) = false := by decide) :
    DS X C (.Raise (some (.Call (.Name x p) [] [] p2)) none pos) (.raise c .no) :=
  PS.weak' (ps_raise hc tk (pmk_own0 PySem.F.excBase_ValueError T.x T.g T.k (raises_own T.b T.t) hg hdb)) fun D σ H ⟨F, env, f, h⟩ => by
    have h : C.E c .non := h
    rw [hE] at h
    subst hW
    have q := h F H f.gr
    rw [hfl] at q
    exact q
/-! ### try -/
theorem ds_tryR {k i j n : Nat} {f : Addr} {fd : FuncData} {ps : List Str} {x y : Str} {cl : Nat → Addr} {fl : Nat → Option Str} {Cl : Addr} {a : PySem.Expr} {es : List PySem.Expr} {cas : List CE} {b₀ : Stmt} {suite : List Stmt} {hs : List CS} {pt pr pc pn pf ph : Pos}
    (Fn : FnOk X.prog X.w X.K X.mg X.base (L2.CX X.prog X.w) k f fd ps (spX X.K cl fl (C.Φ i) n)) (hr : Room k X.A) (hm : X.mg x = some (.ref f)) (hk : PySem.W.keepIn X.K (.ref f) = true) (hb : Binds X.K fd ps [])
    (hst : X.stack = X.env :: X.outer) (hfr : X.env.frame = some X.env.locals) (hcl : X.mg y = some (.ref Cl)) (hex : PySem.W.exmOne X.K (.ref (cl j)) (.ref Cl) = some true)
    (ha : ∀ (pn' : List (Addr × Obj)) (xe : Value → Shared → Prop), PA (X.tr pn' xe) (a :: es) (tEs X.K C cas))
    (hsu : ∀ (ea : Addr) (oe : Obj) (pn' : List (Addr × Obj)), DSs (X.suite ea ((ea, oe) :: pn')) C (b₀ :: suite) hs) (hn : cas.length = n := by rfl) (hg : Gl X x := by rfl) (hg2 : Gl X y := by rfl) (hdb : (x == ("__debug__" : Str)) = false := by decide) (hdb2 : (y == ("__debug__" : Str)) = false := by decide)
    (he : starEach (a :: es) X.env = (false, eval a X.env) :: starEach es X.env := by rfl) (hpl : (backTo pc (starEach es X.env)).any (·.1) = false := by rfl) :
    DS X C (.Try [.Return (some (.Call (.Name x pf) (a :: es) [] pc)) pr] [.ExceptHandler (some (.Name y pn)) none (b₀ :: suite) ph] [] [] pt) (.tryR i cas j hs) := by
  refine PS.weak' (ps_try_only (ts := fun _ _ _ => tSs X.K C hs) hst hfr ⟨hg2, hdb2, .inl hcl⟩ takes0
    (fun W pn' xe tk _ => pss_one (ps_ret (pe_callS (X := X.tr pn' xe) (E := WE W) Fn hr hg hm hk hb (fun σ => passAt tk σ) (ha pn' xe) hdb he hpl))) (fun ea oe cls d pn' _ _ => hsu ea oe pn')) fun D σ H h => ?_
  obtain ⟨F, env, f, h⟩ := h
  simp only [exec] at h
  refine ⟨F, env, f, (evalEs_len h.bind).mono fun ds ⟨hev, hds⟩ vs F1 H1 g r => ?_⟩
  show spX X.K cl fl (C.Φ i) n vs H1 _ _
  have f1 := f.grow g
  refine ⟨by rw [r.length, hev, hn], F1, ds, g.fh, g.tp f.tp, r, ?_⟩
  cases hq : C.Φ i ds with
  | stuck => rw [hq] at hds; exact hds.elim
  | ok r1 =>
    rw [hq] at hds
    have hds : EndS X.K C D F (.ret r1.1 r1.2 env) := hds
    intro v F' H' g' rr
    obtain ⟨b, d⟩ := r1
    cases b with
    | true => exact hds v F' H' (f1.gr.trans g') ((show RRep X.K H1 F' H' (.fr, d) v from rr).older f1.gr.hh)
    | false => exact hds v F' H' (f1.gr.trans g') rr
  | exc c d =>
    rw [hq] at hds
    by_cases hc : c = j
    · subst hc
      have hds : Rd (if c = c then execs C.Φ C.W hs env else R.stuck) (EndS X.K C D F) C.E := hds
      rw [if_pos rfl] at hds
      intro F' H' g'
      have key : ∀ dd, wOnly X.K (.ref Cl) (fun _ _ _ => tSs X.K C hs) (fun _ _ _ _ => False) D (.ref (cl c)) dd σ H' := fun dd =>
        ⟨true, hex, fun _ a _ => ⟨F', env, f1.grow g', hds.mono fun o ho => ho.up (g.ff.trans g'.ff)⟩, fun q => Bool.noConfusion q⟩
      cases hf : fl c with
      | none => exact key _
      | some f => exact fun _ _ _ _ => key _
    · have hds : Rd (if c = j then execs C.Φ C.W hs env else R.stuck) (EndS X.K C D F) C.E := hds
      rw [if_neg hc] at hds
      exact hds.elim
end
/-! ### defs that may raise -/
def mkX (F0 H0 : Hp) (prog : List FnD) (W k : Nat) (K : PySem.W.Frag) (cl : Nat → Addr) (fl : Nat → Option Str) (E : XK) : Ctx := ⟨F0, H0, den prog W k, W, ExW K cl fl E F0 H0⟩
abbrev bxX (P : Program) (w : World) (K : PySem.W.Frag) (mg : Str → Option Value) (base : Heap) (N : List Str) (x : Str) (st : Stmt) (f : Addr) (cdv : Value) (A : Around) (outer : List PySem.Env) (s : Shared) (H : Hp) (E : XK) : Cx :=
  cxOf (L2.CX P w) P w K mg base N x (defScope st) f cdv A outer s H E
section
variable {P : Program} {w : World} {K : PySem.W.Frag} {mg : Str → Option Value} {base : Heap} {x : Str} {st : Stmt} {f : Addr} {fd : FuncData} {ps N : List Str} {prog : List FnD} {W k m i : Nat} {fdef : FnD} {cl : Nat → Addr} {fl : Nat → Option Str}
theorem takesX {cdv : Value} {A : Around} {outer : List PySem.Env} {s : Shared} {H : Hp} {E : XK} : Takes (bxX P w K mg base N x st f cdv A outer s H E) (fun cls d _ H' => E cls d H') := takes_of rfl rfl rfl rfl
theorem ownsX {cdv : Value} {A : Around} {outer : List PySem.Env} {s : Shared} {H : Hp} {E : XK} : PassesOwn (model P w) (bxX P w K mg base N x st f cdv A outer s H E).A (bxX P w K mg base N x st f cdv A outer s H E).env (bxX P w K mg base N x st f cdv A outer s H E).xe :=
  passes_of (X := bxX P w K mg base N x st f cdv A outer s H E) rfl
theorem fn_zeroX {n : Nat} (hn : ps.length = n) : FnOk P w K mg base (L2.CX P w) m f fd ps (spX K cl fl (den prog W 0 i) n) := by
  refine ⟨fun vs H Q E h => h.1.trans hn.symm, fun A outer s H args us vs Q E hr e0 hb r h => ?_⟩
  obtain ⟨_, F, ds, _, _, _, h⟩ := h
  exact h.elim
theorem fn_okX (D : DefAt K mg x st f fd ps) (S : FnScope N ps (defScope st)) (hp : prog[i]? = some fdef) (hnp : fdef.np = ps.length) (hns : fdef.ns = N.length)
    (hb : ∀ (cdv : Value) (A : Around) (outer : List PySem.Env) (s : Shared) (H : Hp) (E : XK) (F0 H0 : Hp), Room m (A.deeper (envOfC x (defScope st) s.heap.objs.size f cdv)) →
      DSs (bxX P w K mg base N x st f cdv A outer s H E) (mkX F0 H0 prog W k K cl fl E) (defBody st) fdef.body) : FnOk P w K mg base (L2.CX P w) (m + 1) f fd ps (spX K cl fl (den prog W (k + 1) i) ps.length) := by
  refine D.fn.okX S (fun vs H Q E h => h.1) (fun cdv A outer s H vs Q E hr h => ?_)
  obtain ⟨hl, F, ds, eF, tF, r, h⟩ := h
  refine ⟨_, hb cdv A outer s H E F H hr, ?_⟩
  have hdl := r.length
  have hN : ps.length ≤ N.length := by
    have := congrArg List.length S.pre
    rw [List.length_take] at this
    omega
  have h1 : den prog W (k + 1) i ds = runBody (den prog W k) W fdef ds := by
    show (match prog[i]? with | some fd => runBody (den prog W k) W fd ds | none => R.stuck) = _
    rw [hp]
  rw [h1] at h
  unfold runBody at h
  rw [if_pos ⟨by rw [hnp, ← hdl, hl], by rw [hnp, hns]; exact hN⟩] at h
  refine ⟨F, startEnv fdef ds, ?_, h.bind.mono fun o ho => ?_⟩
  · have es : start N vs = vs.map some ++ List.replicate (N.length - vs.length) none := rfl
    refine ⟨Grow.refl eF, ?_, fun j o d hj => ?_, fun a b da db v hab ha hb' => ?_, tF⟩
    · rw [es]
      unfold startEnv
      simp [hdl, hns]
    · unfold startEnv at hj
      by_cases hlt : j < ds.length
      · rw [List.getElem?_append_left (by simpa using hlt), List.getElem?_map] at hj
        obtain ⟨d', h2, h3⟩ := Option.map_eq_some_iff.mp hj
        cases h3
        obtain ⟨v, h4, h5⟩ := r.get h2
        refine ⟨v, ?_, h5⟩
        rw [es, List.getElem?_append_left (by rw [List.length_map, hdl]; exact hlt), List.getElem?_map, h4]
        rfl
      · rw [List.getElem?_append_right (by simpa using hlt), List.getElem?_replicate] at hj
        split at hj <;> cases hj
    · exfalso
      unfold startEnv at ha
      by_cases hlt : a < ds.length
      · rw [List.getElem?_append_left (by simpa using hlt), List.getElem?_map] at ha
        obtain ⟨d', h2, h3⟩ := Option.map_eq_some_iff.mp ha
        cases h3
      · rw [List.getElem?_append_right (by simpa using hlt), List.getElem?_replicate] at ha
        split at ha <;> cases ha
  · cases o with
    | nx env => exact fun σ F' H' f' e' => (show Then K F H (flB false, .non) Q from ho) .non F' H' f'.gr (show VRep K F' .non .non from .non)
    | ret fr d env => exact fun v F' H' g r => (show Then K F H (flB fr, d) Q from ho) v F' H' g r
    | brk env => exact ho.elim
    | cnt env => exact ho.elim
end
end PF

/-! An exception class over ValueError whose __init__ says super().__init__('..') and keeps one field. -/
namespace PF
open PySem PySem.Spec PyProof.Rows L2
/-- the context of such an __init__ -/
def cxI (P : Program) (w : World) (K : PySem.W.Frag) (mg : Str → Option Value) (base : Heap) (N : List Str) (qual : Str) (scope : Scope) (f : Addr) (cdv : Value) (cc : Addr) (A : Around) (outer : List PySem.Env) (s : Shared) (H : Hp) : Cx :=
  { cxOf CX0 P w K mg base N qual scope f cdv A outer s H (fun _ _ _ => False) with
    A := A.deeper (PySem.W.ksEnv qual scope s.heap.objs.size f cdv cc)
    env := PySem.W.ksEnv qual scope s.heap.objs.size f cdv cc
    stack := PySem.W.ksEnv qual scope s.heap.objs.size f cdv cc :: outer
    fn := fun y => !(y == ("__class__" : Str))
    xe := fun _ _ => False }
section
variable {P : Program} {w : World} {K : PySem.W.Frag} {mg : Str → Option Value} {base : Heap} {N : List Str} {qual : Str} {scope : Scope} {f cc : Addr} {cdv : Value} {A : Around} {outer : List PySem.Env} {s : Shared} {H : Hp}
theorem lk1 {y : Str} {c cc : Addr} (h : ([("__class__", cc)] : List (Str × Addr)).lookup y = some c) : y = "__class__" ∧ c = cc := by
  unfold List.lookup at h
  split at h
  · rename_i e
    exact ⟨beq_iff_eq.mp e, (Option.some.inj h).symm⟩
  · cases h
theorem lk_app {α β : Type} [BEq α] {y : α} : ∀ (l r : List (α × β)), (l ++ r).lookup y = (l.lookup y).or (r.lookup y)
  | [], r => by simp
  | (a, b) :: l, r => by
    show (match y == a with | true => some b | false => (l ++ r).lookup y) = (match y == a with | true => some b | false => l.lookup y).or (r.lookup y)
    cases y == a with
    | true => rfl
    | false => exact lk_app l r
theorem lk_none {y : Str} : ∀ (l : List (Str × Value)), (∀ p ∈ l, p.1 ≠ y) → l.lookup y = none
  | [], _ => rfl
  | (a, b) :: l, h => by
    have h1 := h (a, b) List.mem_cons_self
    unfold List.lookup
    rw [show (y == a) = false from by simpa using fun e : y = a => h1 e.symm]
    exact lk_none l fun p hp => h p (List.mem_cons_of_mem _ hp)
theorem zrl : ∀ (N : List Str) (us : List Value) (i : Nat) (y : Str) (u : Value), N.Nodup → N[i]? = some y → us[i]? = some u → (N.zip us).reverse.lookup y = some u
  | [], _, i, _, _, _, h, _ => by cases h
  | _ :: _, [], i, _, _, _, _, h => by cases h
  | n :: N, u0 :: us, 0, y, u, nd, h1, h2 => by
    cases h1
    cases h2
    rw [List.zip_cons_cons, List.reverse_cons, lk_app, lk_none _ fun p hp => ?_]
    · simp
    · rintro rfl
      exact (List.nodup_cons.mp nd).1 (List.of_mem_zip (List.mem_reverse.mp hp)).1
  | n :: N, u0 :: us, i + 1, y, u, nd, h1, h2 => by
    rw [List.zip_cons_cons, List.reverse_cons, lk_app, zrl N us i y u (List.nodup_cons.mp nd).2 h1 h2]
    rfl
theorem inv_init {ps : List Str} {us : List Value} {vs : List V} {h0 : Heap} {t' : Nat} {od : Option Addr} {ocl : Value} {osl : Array (Option Value)} {D : Addr}
    (hk : scope.kind = .function) (hd : A.handled = none) (e0 : Env0 P w K mg base A outer s H) (hN : N = ps) (hl : vs.length = ps.length) (r : Vals vs us) (nd : ps.Nodup) (hloc : ∀ x ∈ ps, scope.names.lookup x = some .local)
    (hfree : ∀ x, scope.names.lookup x = some .free → x = "__class__") (hcell : ∀ x, scope.names.lookup x ≠ some .cell)
    (lc : K.lookup cc = some ⟨ocl, od, .cell (some (.ref D)), osl⟩)
    (hns : h0.Ns s.heap.objs.size (fun x => (ps.zip us).reverse.lookup x)) (keep : ∀ b o, s.heap.get? b = some o → h0.get? b = some o) :
    Inv (cxI P w K mg base N qual scope f cdv cc A outer s H) [] (vs.map some) H { s with heap := h0, toks := t' } := by
  have bk := e0.mod.kin _ _ lc
  have hcc := (e0.bs _ _ bk).2
  have noA : ∀ b : Addr, b ∉ (cxI P w K mg base N qual scope f cdv cc A outer s H).ex := fun b z => absurd (show b ∈ ([] : List Addr) from z) (by simp)
  subst hN
  refine ⟨⟨e0.mod, hk, rfl, rfl, Nat.le_refl _, fun y z c h1 h2 => ?_, fun y hy => ?_, fun y c h1 h => ?_, fun _ => hd, Around.frames_deeper e0.frames, .inr ⟨rfl, rfl⟩, fun b z => absurd z (noA b), e0.bs, e0.bsz, fun b _ _ => noA b, fun b z => absurd z (noA b), e0.funs, e0.frf⟩,
    rfl, e0.bare, Un.kept keep, ⟨_, hns, fun i y v h1 h2 h3 => ?_⟩, fun y c h => ?_, e0.hok.fresh (Nat.le_refl _), fun y c h => ?_, fun p hp => absurd (show p ∈ ([] : List (Addr × Obj)) from hp) (by simp), e0.hok.kept keep, ?_⟩
  · exact (lk1 h1).1.trans (lk1 h2).1.symm
  · have hy : scope.names.lookup y = some .cell ∨ scope.names.lookup y = some .free := hy
    rcases hy with hy | hy
    · exact absurd hy (hcell y)
    · have := hfree y hy
      subst this
      exact ⟨cc, rfl⟩
  · have := (lk1 h).1
    subst this
    cases h1
  · have hi : i < vs.length := by
      have := (List.getElem?_eq_some_iff.mp h2).1
      simpa using this
    have ha : vs[i]? = some v := by
      rw [List.getElem?_map] at h2
      cases e : vs[i]? with
      | none => rw [e] at h2; cases h2
      | some a => rw [e] at h2; cases h2; rfl
    obtain ⟨u, hu, rv⟩ := r.get ha
    refine ⟨u, rv, .inl ⟨hloc y (List.mem_of_getElem? h1), ?_⟩⟩
    exact zrl N us i y u nd h1 hu
  · obtain ⟨rfl, rfl⟩ := lk1 h
    exact ⟨_, _, keep _ _ (e0.bs _ _ bk).1, rfl⟩
  · obtain ⟨rfl, rfl⟩ := lk1 h
    exact hcc
  · show (vs.map some).length = N.length
    rw [List.length_map, hl]
/-- the facts that super().__init__ asks for -/
structure SupF (P : Program) (K : PySem.W.Frag) (mg : Str → Option Value) (f C cc cda : Addr) (scope : Scope) (fd : FuncData) (slf : Str) : Prop where
  lkf : ∃ oc od osl, K.lookup f = some ⟨oc, od, .func fd, osl⟩
  hp : ∃ ar, (fd.params.posonlyargs ++ fd.params.args).head? = some ar ∧ ar.arg = slf
  code : ∃ ccl cdd vs ccs file tf, K.lookup cda = some ⟨ccl, cdd, .fields vs, ccs⟩ ∧ vs[2]? = some (.str file tf) ∧ ((P.main.file : Str) == file) = true
  cell : ∃ cl cld csl, K.lookup cc = some ⟨cl, cld, .cell (some (.ref C)), csl⟩
  sup : mg "super" = none
  sC : PySem.W.mroIn K C (.ref C) = some true
  any : PySem.W.nsIn K cStatics "thirdparty.any" = some none
  si : PySem.W.ks_superIn K C C "__init__" = some (some (.builtin "ValueError.__init__"))
  vC : PySem.W.subIn K (.ref C) (.type "ValueError") = some true
  ks : scope.names.lookup ("super" : Str) = some .globalImplicit
  kc : scope.names.lookup ("__class__" : Str) = some .free
  ka : scope.names.lookup slf = some .local
  kind : scope.kind = .function
  top : (P.main.scope.names.lookup ("super" : Str)).isSome = false
  oex : OexC K C
theorem super_run {slf txt : Str} {j : Nat} {p0 p1 p2 p3 p4 : Pos} {fd : FuncData} {C cda a : Addr} {body : List Stmt} {σ : L2.St} {H1 : Hp} {s1 : Shared} {E : Value → Shared → Prop}
    (S : SupF P K mg f C cc cda scope fd slf) (I : Inv (cxI P w K mg base N qual scope f (.ref cda) cc A outer s H) [] σ H1 s1) (hs : σ[0]? = some (some (.ref a))) (hN : N[0]? = some slf) (ha : H1 a = some (exo a C none)) {pl : Sem Bool}
    (he : eval (.Call (.Attribute (.Call (.Name "super" p0) [] [] p1) "__init__" p2) [.Constant (.str txt) j p3] [] p4) (cxI P w K mg base N qual scope f (.ref cda) cc A outer s H).env = (do
      let ov ← attributeBase (.Call (.Name "super" p0) [] [] p1) "__init__" (cxI P w K mg base N qual scope f (.ref cda) cc A outer s H).env (eval (.Call (.Name "super" p0) [] [] p1) (cxI P w K mg base N qual scope f (.ref cda) cc A outer s H).env)
      standAt p2.atName
      let (fx, first) ← holding [ov] (getMethod ov "__init__" pl)
      callWith p4 fx first (backTo p4 (starEach [.Constant (.str txt) j p3] (cxI P w K mg base N qual scope f (.ref cda) cc A outer s H).env)) []))
    (hse : starEach [.Constant (.str txt) j p3] (cxI P w K mg base N qual scope f (.ref cda) cc A outer s H).env = (false, eval (.Constant (.str txt) j p3) (cxI P w K mg base N qual scope f (.ref cda) cc A outer s H).env) :: starEach [] (cxI P w K mg base N qual scope f (.ref cda) cc A outer s H).env) :
    PySem.wpAt (model P w) (cxI P w K mg base N qual scope f (.ref cda) cc A outer s H).A (.func body (cxI P w K mg base N qual scope f (.ref cda) cc A outer s H).env) (eval (.Call (.Attribute (.Call (.Name "super" p0) [] [] p1) "__init__" p2) [.Constant (.str txt) j p3] [] p4) (cxI P w K mg base N qual scope f (.ref cda) cc A outer s H).env)
      (fun _ s' => Inv (cxI P w K mg base N qual scope f (.ref cda) cc A outer s H) [] σ H1 s') E s1 := by
  obtain ⟨oc, od, osl, lkf⟩ := S.lkf
  obtain ⟨ar, hp, har⟩ := S.hp
  obtain ⟨ccl, cdd, vs, ccs, file, tf, lkc, hvs, hfile⟩ := S.code
  obtain ⟨cl, cld, csl, lcell⟩ := S.cell
  obtain ⟨nm, q, Nn, bs, bm, sn, sub, ab, col, dd, k0, k1, k2, k3, k5, hC, hbm⟩ := S.oex.cls
  have kin : K.In s1.heap := I.kIn
  obtain ⟨t1, hx⟩ := exo_at I.hok ha
  -- self
  obtain ⟨mm, hns, hlk⟩ := I.loc
  obtain ⟨u, ru, hl⟩ := hlk 0 slf (.ref a) hN hs (.inl S.ka)
  obtain rfl : u = Value.ref a := ru
  have hv : mm slf = some (.ref a) := by
    rcases hl with ⟨_, h⟩ | ⟨h, _⟩
    · exact h
    · have h : scope.names.lookup slf = some .cell ∨ scope.names.lookup slf = some .free := h
      rw [S.ka] at h
      rcases h with h | h <;> cases h
  refine PySem.ks_wpAt_MethodCall ?_ he
  refine PySem.ks_wpAt_super_base S.ks S.kc (by decide) rfl (kin _ _ lkf) rfl hp rfl (kin _ _ lkc) rfl hvs hfile S.top ?_
  obtain ⟨mb, b1, b2⟩ := I.mod.blt
  refine PySem.W.ks_loadName_global S.kind S.ks (Calls.loadGlobal_builtin (by rw [I.ok.glob]; exact I.mod.glob.keeps I.bk) S.sup (by rw [I.ok.blt]; exact b1.keeps I.bk) ((b2 _ (by decide)).trans (by rfl)) ⟨rfl, ?_⟩)
  refine wpAny_loadName_free S.kind S.kc rfl ⟨_, kin _ _ lcell, rfl⟩ ?_
  rw [har]
  refine wpAny_loadName_local S.kind S.ka hns hv ?_
  obtain ⟨hh, g, d, t, os⟩ := s1
  have hCh := kin _ _ hC
  refine PySem.ks_wpAny_isType_cls hCh rfl ⟨rfl, ?_⟩
  refine PySem.ks_wpAny_call_super hCh rfl hx rfl (fun c e => by cases e) (PySem.W.looks_mroIn kin S.sC) (fun h' e k => ?_)
  have I1 : Inv (cxI P w K mg base N qual scope f (.ref cda) cc A outer s H) [] σ H1 ⟨h', g, d, t, os⟩ := I.kept (t' := t) k
  have kin1 : K.In h' := I1.kIn
  have hx1 := k _ _ hx
  have hcl : PySem.W.clsIn K C = some { name := nm, bases := bs, mro := .ref C :: bm, ns := Nn, qualname := q, hasDict := true, slotNames := sn, subclasses := sub, abstract := ab, collection := col, hasDel := false } := by
    unfold PySem.W.clsIn
    rw [hC]
  have hf : PySem.W.alongIn K "__init__" (((.ref C :: bm).dropWhile (· != .ref C)).drop 1) = some (some (.builtin "ValueError.__init__")) := by
    have := S.si
    unfold PySem.W.ks_superIn at this
    rw [hcl] at this
    exact this
  have ia : PySem.W.InstAt h' a _ C none := ⟨hx1, rfl, rfl, trivial⟩
  refine PySem.W.kxs_getMethod PySem.W.kxs_ValueError e (PySem.W.looks_opaque kin1 S.any) (l₀ := .ref C :: bm) (fun A Q E s k q => wpAny_bind ((PySem.W.looks_clsIn kin1 hcl) A _ E s k (wpAny_pure q))) rfl kin1 hf (ia.type.andThen (PySem.W.looks_subIn kin1 S.vC)) (fun z => by rw [z] at hx; rw [hx] at hCh; cases hCh) (by decide) ?_
  have I2 : Inv (cxI P w K mg base N qual scope f (.ref cda) cc A outer s H) [] σ H1 ⟨h'.push (PySem.W.kxs_mw "ValueError.__init__" a), g, d, t + 1, os⟩ := I1.kept (t' := t + 1) fun b o e => Heap.get?_push_of_some _ e
  have hu : (h'.push (PySem.W.kxs_mw "ValueError.__init__" a)).get? h'.objs.size = some (PySem.W.kxs_mw "ValueError.__init__" a) := Heap.get?_push_at rfl rfl
  show wpAny _ _ (callWith p4 (.ref h'.objs.size) [] (backTo p4 (starEach [.Constant (.str txt) j p3] _)) []) _ _ _
  rw [hse]
  refine PySem.W.kxs_callWith (i := "ValueError.__init__") (x := a) rfl ?_
  refine PySem.Calls.evalArgs_plain ?_
  refine Calls.spliced_cons (@Calls.Constant_str _ _ _ _ _ _ j p3 _ ?_)
  refine Calls.spliced_nil ⟨hu, ?_⟩
  have I3 : Inv (cxI P w K mg base N qual scope f (.ref cda) cc A outer s H) [] σ H1 ⟨h'.push (PySem.W.kxs_mw "ValueError.__init__" a), g, d, t + 1 + 1, os⟩ := I2.tok _
  have hx2 := Heap.get?_push_of_some (PySem.W.kxs_mw "ValueError.__init__" a) hx1
  have hC2 := Heap.get?_push_of_some (PySem.W.kxs_mw "ValueError.__init__" a) (k _ _ hCh)
  have FB := F.excBase_ValueError
  refine wpAny_call (codeAny_of_tree ?_)
  show wpAny _ _ (callAny (.ref h'.objs.size) ⟨[.str txt (t + 1)], []⟩) _ _ _
  simp only [callAny]
  refine wpAny_bind (wpAny_load hu ?_)
  simp only [PySem.W.kxs_mw, show (Value.type "method-wrapper" == Value.type "method" || Value.type "method-wrapper" == Value.type "builtin_function_or_method" || Value.type "method-wrapper" == Value.type "method-wrapper") = true by decide, if_true]
  refine PySem.W.KFB.if_so (by decide) ?_
  refine wpAny_bind (PySem.W.check_bound_init FB.toExcCallFacts hC2 hx2 rfl ?_)
  refine wpAny_bind (wpAny_pure (wpAny_pure ?_))
  refine ⟨plainId_quiet FB.init.plain _, codeAny_builtin FB.initEntry ?_⟩
  refine PySem.W.exc_init_tree (cls := .ref C) (t0 := t1) (dv := none) (c2 := .none) (c3 := .none) (b4 := .bool false) hx2 (by rw [sizeLine_eq]; simp) fun h'' k2 hx3 _ => ?_
  have J := I3.write (t' := t + 1 + 1) (x := a) (e := a) (o := exo a C none) (by rw [ha]; exact True.intro) (.inl rfl) k2 ⟨_, hx3⟩ (exo_ok hx3)
  have eu : upd H1 a (exo a C none) = H1 := by
    funext b
    by_cases hb : b = a
    · rw [hb, upd_same, ha]
    · rw [upd_ne hb]
  rw [eu] at J
  exact J
/-- what such an __init__ promises -/
def spI (K : PySem.W.Frag) (C : Addr) (fn : Str) : Sp := fun vs H Q _ => ∃ a v, vs = [.ref a, v] ∧ PySem.W.findIn K (.ref C) fn = some none ∧ H a = some (exo a C none) ∧ ∀ dx, H dx = none → dx ≠ a → Q .non (upd (upd H dx (exd dx [(fn, v)])) a (exo a C (some dx)))
theorem init_ok {slf y fn txt name : Str} {j k : Nat} {p0 p1 p2 p3 p4 p5 p6 p7 p8 p9 : Pos} {C cda : Addr} {params : Arguments} {body : List Stmt} {kV doc pm ct oc : Value} {an od : Option Addr} {osl : Array (Option Value)} {pl : Addr → Addr → Sem Bool}
    (S : SupF P K mg f C cc cda scope (PySem.W.ksFn name qual params body scope .none kV doc pm an (.ref cda) ct cc) slf)
    (lk : K.lookup f = some ⟨oc, od, .func (PySem.W.ksFn name qual params body scope .none kV doc pm an (.ref cda) ct cc), osl⟩) (hcd : PySem.W.codeIn K (.ref cda) qual = true)
    (hb : body = [.Expr (.Call (.Attribute (.Call (.Name "super" p0) [] [] p1) "__init__" p2) [.Constant (.str txt) j p3] [] p4) p5, .Assign [.Attribute (.Name slf p6) fn p7] (.Name y p8) p9])
    (hco : scope.isCoroutine = false) (hgen : scope.isGenerator = false) (nd : slf ≠ y) (hy : scope.names.lookup y = some .local)
    (hfree : ∀ x, scope.names.lookup x = some .free → x = "__class__") (hcell : ∀ x ∈ scope.names, x.2 ≠ .cell)
    (hd1 : (slf == ("__debug__" : Str)) = false) (hd2 : (y == ("__debug__" : Str)) = false) (hd3 : (slf == ("__classdict__" : Str)) = false) (hd4 : (y == ("__classdict__" : Str)) = false)
    (he : ∀ L : Addr, eval (.Call (.Attribute (.Call (.Name "super" p0) [] [] p1) "__init__" p2) [.Constant (.str txt) j p3] [] p4) (PySem.W.ksEnv qual scope L f (.ref cda) cc) = (do
      let ov ← attributeBase (.Call (.Name "super" p0) [] [] p1) "__init__" (PySem.W.ksEnv qual scope L f (.ref cda) cc) (eval (.Call (.Name "super" p0) [] [] p1) (PySem.W.ksEnv qual scope L f (.ref cda) cc))
      standAt p2.atName
      let (fx, first) ← holding [ov] (getMethod ov "__init__" (pl f L))
      callWith p4 fx first (backTo p4 (starEach [.Constant (.str txt) j p3] (PySem.W.ksEnv qual scope L f (.ref cda) cc))) []))
    (hse : ∀ L : Addr, starEach [.Constant (.str txt) j p3] (PySem.W.ksEnv qual scope L f (.ref cda) cc) = (false, eval (.Constant (.str txt) j p3) (PySem.W.ksEnv qual scope L f (.ref cda) cc)) :: starEach [] (PySem.W.ksEnv qual scope L f (.ref cda) cc))
    (hi : ∀ L : Addr, interactive (PySem.W.ksEnv qual scope L f (.ref cda) cc) = false)
    (hs1 : ∀ L : Addr, swapsWith (.Call (.Attribute (.Call (.Name "super" p0) [] [] p1) "__init__" p2) [.Constant (.str txt) j p3] [] p4) none p5.line (PySem.W.ksEnv qual scope L f (.ref cda) cc) = pure false)
    (hs2 : ∀ L : Addr, swapsWith (.Name y p8) (some (.Attribute (.Name slf p6) fn p7)) p9.line (PySem.W.ksEnv qual scope L f (.ref cda) cc) = pure false) :
    FnOk P w K mg base CX0 (k + 1) f (PySem.W.ksFn name qual params body scope .none kV doc pm an (.ref cda) ct cc) [slf, y] (spI K C fn) := by
  refine ⟨fun vs H Q E ⟨a, v, e, _⟩ => by rw [e]; rfl, fun A outer s H args us vs Q E hr e0 hbi r hsp => ?_⟩
  obtain ⟨a, v, rfl, hno, ha, hq⟩ := hsp
  have KX : K.In s.heap := e0.mod.kin.keeps fun b o e => (e0.bs b o e).1
  have lim : s.heap.NoLimit := e0.mod.nolimit.keeps fun b o e => (e0.bs b o e).1
  obtain ⟨cl, cld, csl, lcell⟩ := S.cell
  refine PySem.ks_codeAny_call_defAt (fd := PySem.W.ksFn name qual params body scope .none kV doc pm an (.ref cda) ct cc) (body := body) (binds := [slf, y].zip us) hr.depth (KX _ _ lk) rfl lim (PySem.W.codeRec_of KX hcd) rfl hbi hcell (fun x hx => ?_) (fun h0 hns keep => ?_) hco hgen S.kind
  · have := (List.of_mem_zip (show (x.1, x.2) ∈ [slf, y].zip us from hx)).1
    simp only [List.mem_cons, List.not_mem_nil, or_false] at this
    rcases this with e | e
    · rw [e]; exact S.ka
    · rw [e]; exact hy
  · have I : Inv (cxI P w K mg base [slf, y] qual scope f (.ref cda) cc A outer s H) [] [some (.ref a), some v] H { s with heap := h0, toks := s.toks + ([slf, y].zip us).length } :=
      inv_init (ps := [slf, y]) (us := us) (vs := [.ref a, v]) S.kind hr.hd e0 rfl rfl r (by simp [nd]) (fun x hx => by
        simp only [List.mem_cons, List.not_mem_nil, or_false] at hx
        rcases hx with e | e
        · rw [e]; exact S.ka
        · rw [e]; exact hy) hfree (fun x h => hcell _ (PySem.mem_of_lookup h) rfl) lcell hns keep
    subst hb
    refine PySem.ks_wpAt_execs_cons (PySem.ks_wpAt_Expr_any (PySem.ks_wpAt_mono (super_run (E := fun _ _ => False) S I rfl rfl ha (he s.heap.objs.size) (hse s.heap.objs.size)) (fun u s' J => ?_) (fun _ _ z => z.elim)) (hi s.heap.objs.size) (hs1 s.heap.objs.size))
    refine PySem.wpAt_of_wpAny (wpAny_mono ((pss_one (ps_ost (f := fn) (pe_var (i := 0) rfl (.inl S.ka) hd1 hd3) (pe_var (i := 1) rfl (.inl hy) hd2 hd4) (hs2 s.heap.objs.size))).run [] s' [some (.ref a), some v] H { nx := fun _ H' => Q .non H', rt := Q } J
      ⟨v, rfl, .ref a, rfl, a, C, rfl, S.oex, hno, .inl ⟨ha, fun dx n ne => hq dx n ne⟩⟩) (fun fl s2 h2 => ?_) (fun _ _ z => z.elim))
    have fin : ∀ {σ' : L2.St} {H' : Hp} {v : V} {u : Value}, Inv (cxI P w K mg base [slf, y] qual scope f (.ref cda) cc A outer s H) [] σ' H' s2 → RelV v u → Q v H' → L2.CE outer P w H s Q u s2 :=
      fun {σ' H' v u} J rv q => ⟨v, H', J.os, J.bare, J.base, J.hok, rv, q⟩
    cases fl with
    | ret u =>
      obtain ⟨v, σ', H', J, rv, q⟩ := h2
      exact fin J rv q
    | next =>
      obtain ⟨σ', H', J, q⟩ := h2
      exact fin (v := V.non) (u := Value.none) J rfl q
    | brk =>
      obtain ⟨_, _, _, q⟩ := h2
      exact False.elim q
    | cont =>
      obtain ⟨_, _, _, q⟩ := h2
      exact False.elim q
end
end PF

/-! raise X(e) of a class with an own __init__; try: return f(..) except X as e: return e.f -/
namespace PF
open PySem PySem.Spec PyProof.Rows L2
section
variable {X : Cx} {C : Ctx} {e : PySem.Expr} {ce : CE} {st : PySem.Stmt} {cs : CS} {pos p : Pos}
theorem de_quiet (h : DE X C.noE e ce) : DE X C e (.quiet ce) := PE.weak h fun σ H Q ⟨F, env, f, q⟩ => ⟨F, env, f, by
  simp only [evalE] at q
  exact q.calm⟩
theorem ds_raise1 {W : WX} {cl : Nat → Addr} {fl : Nat → Option Str} {XE : XK} {x fn : Str} {c k : Nat} {fI : Addr} {fd : FuncData} {ps : List Str} {p2 : Pos} (T : OexC X.K (cl c)) (iC : PySem.W.findIn X.K (.ref (cl c)) "__init__" = some (some (.ref fI))) (tI : PySem.W.typeIn X.K (.ref fI) = some (.type "function"))
    (hno : PySem.W.findIn X.K (.ref (cl c)) fn = some none) (F1 : FnOk X.prog X.w X.K X.mg X.base CX0 k fI fd ps (spI X.K (cl c) fn)) (hr : Room (k + 1) X.A) (hb : Binds X.K fd ps []) (gm : X.mg x = some (.ref (cl c)))
    (hc : X.calm = true) (tk : Takes X W) (hW : W = fun cls d _ H' => XE cls d H') (hE : C.E = ExW X.K cl fl XE C.F0 C.H0) (hfl : fl c = some fn) (ha : DEs X C [e] [ce]) (hg : Gl X x := by rfl) (hdb : (x == ("__debug__" : Str)) = false := by decide)
    (he : starEach [e] X.env = (false, eval e X.env) :: starEach [] X.env := by rfl) (hpl : (backTo p2 (starEach [] X.env)).any (·.1) = false := by rfl) :
    DS X C (.Raise (some (.Call (.Name x p) [e] [] p2)) none pos) (.raise c (.yes ce)) :=
  PS.weak' (ps_raise hc tk (pmk_oex T iC tI F1 hr hb .nil pass0 hg gm ha hdb he hpl)) fun D σ H ⟨F, env, f, h⟩ => by
    simp only [exec] at h
    have h1 : Rd (evalEs C.Φ [ce] env) (fun ds => ∃ d, ds = [d] ∧ C.E c d) C.E := by
      simp only [evalEs]
      generalize evalE C.Φ ce env = mm at *
      cases mm with
      | stuck => exact h
      | exc a b => exact h
      | ok x =>
        rw [R.ok_bind] at h ⊢
        generalize escV x = mm at *
        cases mm with
        | stuck => exact h
        | exc a b => exact h
        | ok d =>
          rw [R.ok_bind] at h ⊢
          exact ⟨d, rfl, h⟩
    refine ⟨F, env, f, h1.mono fun ds ⟨d, eds, hd⟩ vs F1' H1 g r => ?_⟩
    subst eds
    cases r with
    | cons rv rn =>
      rename_i v vs'
      cases rn
      refine ⟨by simp, fun a hna => ⟨a, v, rfl, hno, upd_same, fun dx hdx hne => ⟨rfl, dx, [(fn, v)], upd_same, ?_, ?_, ?_⟩⟩⟩
      · rw [upd_ne hne, upd_same]
      · rw [upd_ne hne] at hdx
        exact hdx
      · rw [upd_ne hne] at hdx
        have eH : upd (del (upd (upd (upd H1 a (exo a (cl c) none)) dx (exd dx [(fn, v)])) a (exo a (cl c) (some dx))) a) dx (.xd [(fn, v)]) = upd H1 dx (.xd [(fn, v)]) := by
          funext b
          by_cases hb1 : b = dx
          · rw [hb1, upd_same, upd_same]
          · rw [upd_ne hb1, upd_ne hb1]
            by_cases hb2 : b = a
            · rw [hb2, del_same, hna]
            · rw [del_ne hb2, upd_ne hb2, upd_ne hb1, upd_ne hb2]
        rw [eH]
        subst hW
        rw [hE] at hd
        have g2 : Grow F1' H1 F1' (upd H1 dx (.xd [(fn, v)])) := Grow.own g.fh hdx
        have q := hd F1' _ ((f.gr.trans g).trans g2)
        rw [hfl] at q
        exact q dx v upd_same rv
/-! ### try .. except X as e: return e.f -/
/-- the front of such a try -/
theorem ds_tryA {k i j n sl : Nat} {f : Addr} {fd : FuncData} {ps : List Str} {x y en fn : Str} {cl : Nat → Addr} {fl : Nat → Option Str} {Cl : Addr} {a : PySem.Expr} {es : List PySem.Expr} {cas : List CE} {b₀ : Stmt} {suite : List Stmt} {gD : D → D} {ts : Addr → Value → Option Addr → TS} {pt pr pc pn pf ph : Pos}
    (Fn : FnOk X.prog X.w X.K X.mg X.base (L2.CX X.prog X.w) k f fd ps (spX X.K cl fl (C.Φ i) n)) (hr : Room k X.A) (hm : X.mg x = some (.ref f)) (hk : PySem.W.keepIn X.K (.ref f) = true) (hb : Binds X.K fd ps [])
    (hst : X.stack = X.env :: X.outer) (hfr : X.env.frame = some X.env.locals) (hN : X.N.Nodup) (hi : X.N[sl]? = some en) (hln : X.env.kindOf en = some .local) (hcl : X.mg y = some (.ref Cl)) (hex : PySem.W.exmOne X.K (.ref (cl j)) (.ref Cl) = some true) (hfl : fl j = some fn)
    (ha : ∀ (pn' : List (Addr × Obj)) (xe : Value → Shared → Prop), PA (X.tr pn' xe) (a :: es) (tEs X.K C cas))
    (hsu : ∀ (ea : Addr) (oe : Obj) (cls : Value) (d : Option Addr) (pn' : List (Addr × Obj)), Zc cls d oe → (∃ vs, oe.data = .fields vs) → PSs (X.suite ea ((ea, oe) :: pn')) (b₀ :: suite) (ts ea cls d))
    (hts : ∀ (D : Ends) (ea dx : Addr) (v : V) (d : PF.D) (F H : Hp) (σ : L2.St), σ[sl]? = some (some (.ref ea)) → H dx = some (.xd [(fn, v)]) → VRep X.K F v d → Ex F H → TupIn F H →
      (∀ v F' H', Grow F H F' H' → RRep X.K H F' H' (.pl, gD d) v → D.rt v H') → ts ea (.ref (cl j)) (some dx) D σ H)
    (hn : cas.length = n := by rfl) (hg : Gl X x := by rfl) (hg2 : Gl X y := by rfl) (hdb : (x == ("__debug__" : Str)) = false := by decide) (hdb2 : (y == ("__debug__" : Str)) = false := by decide)
    (he : starEach (a :: es) X.env = (false, eval a X.env) :: starEach es X.env := by rfl) (hpl : (backTo pc (starEach es X.env)).any (·.1) = false := by rfl) :
    DS X C (.Try [.Return (some (.Call (.Name x pf) (a :: es) [] pc)) pr] [.ExceptHandler (some (.Name y pn)) (some en) (b₀ :: suite) ph] [] [] pt) (.tryF i cas j gD) := by
  have hsl : sl < X.N.length := (List.getElem?_eq_some_iff.mp hi).1
  refine ⟨fun pins s σ H D I h => ?_⟩
  have hlen := I.len
  refine (ps_try_as (i := sl) (ts := ts) hst hfr hN hi hln ⟨hg2, hdb2, .inl hcl⟩ takes0
    (fun W pn' xe tk _ => pss_one (ps_ret (pe_callS (X := X.tr pn' xe) (E := WE W) Fn hr hg hm hk hb (fun σ => passAt tk σ) (ha pn' xe) hdb he hpl))) hsu).run pins s σ H D I ?_
  obtain ⟨F, env, f, h⟩ := h
  simp only [exec] at h
  refine ⟨F, env, f, (evalEs_len h.bind).mono fun ds ⟨hev, hds⟩ vs F1 H1 g r => ?_⟩
  show spX X.K cl fl (C.Φ i) n vs H1 _ _
  have f1 := f.grow g
  refine ⟨by rw [r.length, hev, hn], F1, ds, g.fh, g.tp f.tp, r, ?_⟩
  cases hq : C.Φ i ds with
  | stuck => rw [hq] at hds; exact hds.elim
  | ok r1 =>
    rw [hq] at hds
    have hds : EndS X.K C D F (.ret r1.1 r1.2 env) := hds
    intro v F' H' g' rr
    obtain ⟨b, d⟩ := r1
    cases b with
    | true => exact hds v F' H' (f1.gr.trans g') ((show RRep X.K H1 F' H' (.fr, d) v from rr).older f1.gr.hh)
    | false => exact hds v F' H' (f1.gr.trans g') rr
  | exc c d =>
    rw [hq] at hds
    by_cases hc : c = j
    · subst hc
      have hds : Rd (if c = c then (pure (.ret false (gD d) env) : R Out) else R.stuck) (EndS X.K C D F) C.E := hds
      rw [if_pos rfl] at hds
      have hds : EndS X.K C D F (.ret false (gD d) env) := hds
      intro F' H' g'
      rw [hfl]
      intro dx v hdx rv
      refine ⟨true, hex, fun _ ea _ => ?_, fun q => Bool.noConfusion q⟩
      have gg := f1.gr.trans g'
      refine hts _ ea dx v d F' H' _ ?_ hdx rv g'.fh (gg.tp f.tp0) fun v2 F2 H2 g2 r2 => ?_
      · rw [List.getElem?_set_self (by omega)]
      · exact hds v2 F2 H2 (gg.trans g2) r2
    · have hds : Rd (if c = j then (pure (.ret false (gD d) env) : R Out) else R.stuck) (EndS X.K C D F) C.E := hds
      rw [if_neg hc] at hds
      exact hds.elim
theorem ds_tryF {k i j n sl : Nat} {f : Addr} {fd : FuncData} {ps : List Str} {x y en fn : Str} {cl : Nat → Addr} {fl : Nat → Option Str} {Cl : Addr} {a : PySem.Expr} {es : List PySem.Expr} {cas : List CE} {pt pr pc pn pf ph q1 q2 q3 : Pos}
    (Fn : FnOk X.prog X.w X.K X.mg X.base (L2.CX X.prog X.w) k f fd ps (spX X.K cl fl (C.Φ i) n)) (hr : Room k X.A) (hm : X.mg x = some (.ref f)) (hk : PySem.W.keepIn X.K (.ref f) = true) (hb : Binds X.K fd ps [])
    (hst : X.stack = X.env :: X.outer) (hfr : X.env.frame = some X.env.locals) (hN : X.N.Nodup) (hi : X.N[sl]? = some en) (hln : X.env.kindOf en = some .local) (hcl : X.mg y = some (.ref Cl)) (hex : PySem.W.exmOne X.K (.ref (cl j)) (.ref Cl) = some true) (hfl : fl j = some fn)
    (T : XfC X.K (cl j)) (hno : PySem.W.findIn X.K (.ref (cl j)) fn = some none)
    (ha : ∀ (pn' : List (Addr × Obj)) (xe : Value → Shared → Prop), PA (X.tr pn' xe) (a :: es) (tEs X.K C cas))
    (hab : ∀ A, attributeBase (.Name en q1) fn X.env A = A) (hd3 : (en == ("__debug__" : Str)) = false := by decide) (hd4 : (en == ("__classdict__" : Str)) = false := by decide) (hn : cas.length = n := by rfl) (hg : Gl X x := by rfl) (hg2 : Gl X y := by rfl) (hdb : (x == ("__debug__" : Str)) = false := by decide) (hdb2 : (y == ("__debug__" : Str)) = false := by decide)
    (he : starEach (a :: es) X.env = (false, eval a X.env) :: starEach es X.env := by rfl) (hpl : (backTo pc (starEach es X.env)).any (·.1) = false := by rfl) :
    DS X C (.Try [.Return (some (.Call (.Name x pf) (a :: es) [] pc)) pr] [.ExceptHandler (some (.Name y pn)) (some en) [.Return (some (.Attribute (.Name en q1) fn q2)) q3] ph] [] [] pt) (.tryF i cas j fun d => d) :=
  ds_tryA (ts := fun ea cls d => tRet (tXf ea cls d (cl j) fn (tVar sl))) Fn hr hm hk hb hst hfr hN hi hln hcl hex hfl ha
    (fun ea oe cls d pn' hz hf => pss_one (ps_ret (pe_xf T hno hz hf (pe_var hi (.inl hln) hd3 hd4) (hab _))))
    (fun D ea dx v d F H σ h1 h2 h3 h4 h5 h6 => ⟨.ref ea, h1, rfl, rfl, dx, [(fn, v)], v, rfl, h2, by simp [List.lookup], h6 v F H (Grow.refl h4) h3⟩) hn hg hg2 hdb hdb2 he hpl
theorem ds_tryFT {tx : Tx} {k1 k2 : Nat} {k i j n sl : Nat} {f : Addr} {fd : FuncData} {ps : List Str} {x y en fn : Str} {cl : Nat → Addr} {fl : Nat → Option Str} {Cl : Addr} {a : PySem.Expr} {es : List PySem.Expr} {cas : List CE} {pt pr pc pn pf ph q1 q2 q3 q4 q5 : Pos}
    (Fn : FnOk X.prog X.w X.K X.mg X.base (L2.CX X.prog X.w) k f fd ps (spX X.K cl fl (C.Φ i) n)) (hr : Room k X.A) (hm : X.mg x = some (.ref f)) (hk : PySem.W.keepIn X.K (.ref f) = true) (hb : Binds X.K fd ps [])
    (hst : X.stack = X.env :: X.outer) (hfr : X.env.frame = some X.env.locals) (hN : X.N.Nodup) (hi : X.N[sl]? = some en) (hln : X.env.kindOf en = some .local) (hcl : X.mg y = some (.ref Cl)) (hex : PySem.W.exmOne X.K (.ref (cl j)) (.ref Cl) = some true) (hfl : fl j = some fn)
    (T : XfC X.K (cl j)) (hno : PySem.W.findIn X.K (.ref (cl j)) fn = some none)
    (ha : ∀ (pn' : List (Addr × Obj)) (xe : Value → Shared → Prop), PA (X.tr pn' xe) (a :: es) (tEs X.K C cas))
    (hab : ∀ A, attributeBase (.Name en q1) fn X.env A = A) (hd3 : (en == ("__debug__" : Str)) = false := by decide) (hd4 : (en == ("__classdict__" : Str)) = false := by decide) (hn : cas.length = n := by rfl) (hg : Gl X x := by rfl) (hg2 : Gl X y := by rfl) (hdb : (x == ("__debug__" : Str)) = false := by decide) (hdb2 : (y == ("__debug__" : Str)) = false := by decide)
    (he : starEach (a :: es) X.env = (false, eval a X.env) :: starEach es X.env := by rfl) (hpl : (backTo pc (starEach es X.env)).any (·.1) = false := by rfl) :
    DS X C (.Try [.Return (some (.Call (.Name x pf) (a :: es) [] pc)) pr] [.ExceptHandler (some (.Name y pn)) (some en) [.Return (some (.Tuple [.Constant (.str (S tx)) k1 q4, .Attribute (.Name en q1) fn q2] k2 q5)) q3] ph] [] [] pt) (.tryF i cas j fun d => .tup [.str tx, d]) :=
  ds_tryA (ts := fun ea cls d => tRet (tTup (tCons (tC (.str (S tx))) (tCons (tXf ea cls d (cl j) fn (tVar sl)) tNil)))) Fn hr hm hk hb hst hfr hN hi hln hcl hex hfl ha
    (fun ea oe cls d pn' hz hf => pss_one (ps_ret (pe_tup (pa_cons pe_str (pa_cons (pe_xf T hno hz hf (pe_var hi (.inl hln) hd3 hd4) (hab _)) pa_nil)))))
    (fun D ea dx v d F H σ h1 h2 h3 h4 h5 h6 => ⟨.ref ea, h1, rfl, rfl, dx, [(fn, v)], v, rfl, h2, by simp [List.lookup], (by rw [sizeLine_eq]; simp), fun p hp => h6 (.ref p) (upd F p (.tup [.str (S tx), v])) _ (Grow.pub h4 hp) (show VRep X.K (upd F p (.tup [.str (S tx), v])) (.ref p) (.tup [.str tx, d]) from .tup upd_same (.cons (.str tx) (.cons (VRep.mono (exUpd (exNone h4 hp)) h3) .nil)))⟩) hn hg hg2 hdb hdb2 he hpl
/-- return ('a', f(..)) in try, return ('b', e.f) in except -/
theorem ds_tryWT {tx ty : Tx} {k1 k2 k3 k4 : Nat} {k i j n sl : Nat} {f : Addr} {fd : FuncData} {ps : List Str} {x y en fn : Str} {cl : Nat → Addr} {fl : Nat → Option Str} {Cl : Addr} {a : PySem.Expr} {es : List PySem.Expr} {cas : List CE} {pt pr pc pn pf ph q1 q2 q3 q4 q5 q6 q7 : Pos}
    (Fn : FnOk X.prog X.w X.K X.mg X.base (L2.CX X.prog X.w) k f fd ps (spX X.K cl fl (C.Φ i) n)) (hr : Room k X.A) (hm : X.mg x = some (.ref f)) (hk : PySem.W.keepIn X.K (.ref f) = true) (hb : Binds X.K fd ps [])
    (hst : X.stack = X.env :: X.outer) (hfr : X.env.frame = some X.env.locals) (hN : X.N.Nodup) (hi : X.N[sl]? = some en) (hln : X.env.kindOf en = some .local) (hcl : X.mg y = some (.ref Cl)) (hex : PySem.W.exmOne X.K (.ref (cl j)) (.ref Cl) = some true) (hfl : fl j = some fn)
    (T : XfC X.K (cl j)) (hno : PySem.W.findIn X.K (.ref (cl j)) fn = some none)
    (ha : ∀ (pn' : List (Addr × Obj)) (xe : Value → Shared → Prop), PA (X.tr pn' xe) (a :: es) (tEs X.K C cas))
    (hab : ∀ A, attributeBase (.Name en q1) fn X.env A = A) (hd3 : (en == ("__debug__" : Str)) = false := by decide) (hd4 : (en == ("__classdict__" : Str)) = false := by decide) (hn : cas.length = n := by rfl) (hg : Gl X x := by rfl) (hg2 : Gl X y := by rfl) (hdb : (x == ("__debug__" : Str)) = false := by decide) (hdb2 : (y == ("__debug__" : Str)) = false := by decide)
    (he : starEach (a :: es) X.env = (false, eval a X.env) :: starEach es X.env := by rfl) (hpl : (backTo pc (starEach es X.env)).any (·.1) = false := by rfl) :
    DS X C (.Try [.Return (some (.Tuple [.Constant (.str (S ty)) k3 q6, .Call (.Name x pf) (a :: es) [] pc] k4 q7)) pr] [.ExceptHandler (some (.Name y pn)) (some en) [.Return (some (.Tuple [.Constant (.str (S tx)) k1 q4, .Attribute (.Name en q1) fn q2] k2 q5)) q3] ph] [] [] pt)
      (.tryW i cas false (fun d => .tup [.str ty, d]) fun c d => if c = j then some (.tup [.str tx, d]) else none) := by
  have hsl : sl < X.N.length := (List.getElem?_eq_some_iff.mp hi).1
  refine ⟨fun pins s σ H D I h => ?_⟩
  have hlen := I.len
  refine (ps_try_as (i := sl) (ts := fun ea cls d => tRet (tTup (tCons (tC (.str (S tx))) (tCons (tXf ea cls d (cl j) fn (tVar sl)) tNil)))) hst hfr hN hi hln ⟨hg2, hdb2, .inl hcl⟩ takes0
    (fun W pn' xe tk _ => pss_one (ps_ret (pe_tup (pa_cons pe_str (pa_cons (pe_callS (X := X.tr pn' xe) (E := WE W) Fn hr hg hm hk hb (fun σ => passAt tk σ) (ha pn' xe) hdb he hpl) pa_nil)))))
    (fun ea oe cls d pn' hz hf => pss_one (ps_ret (pe_tup (pa_cons pe_str (pa_cons (pe_xf T hno hz hf (pe_var hi (.inl hln) hd3 hd4) (hab _)) pa_nil)))))).run pins s σ H D I ?_
  obtain ⟨F, env, f, h⟩ := h
  simp only [exec] at h
  refine ⟨F, env, f, (evalEs_len h.bind).mono fun ds ⟨hev, hds⟩ vs F1 H1 g r => ?_⟩
  show spX X.K cl fl (C.Φ i) n vs H1 _ _
  have f1 := f.grow g
  refine ⟨by rw [r.length, hev, hn], F1, ds, g.fh, g.tp f.tp, r, ?_⟩
  cases hq : C.Φ i ds with
  | stuck => rw [hq] at hds; exact hds.elim
  | ok r1 =>
    rw [hq] at hds
    obtain ⟨b, d⟩ := r1
    cases b with
    | true => exact hds.elim
    | false =>
      have hds : EndS X.K C D F (.ret false (.tup [.str ty, d]) env) := hds
      intro v F' H' g' rr
      have rr : VRep X.K F' v d := rr
      exact ⟨by rw [sizeLine_eq]; simp, fun p hp => hds (.ref p) (upd F' p (.tup [.str (S ty), v])) _ ((f1.gr.trans g').trans (Grow.pub g'.fh hp)) (show VRep X.K (upd F' p (.tup [.str (S ty), v])) (.ref p) (.tup [.str ty, d]) from .tup upd_same (.cons (.str ty) (.cons (VRep.mono (exUpd (exNone g'.fh hp)) rr) .nil)))⟩
  | exc c d =>
    rw [hq] at hds
    by_cases hc : c = j
    · subst hc
      have hds : Rd (match (if c = c then some (PF.D.tup [.str tx, d]) else none) with
        | some e => (pure (.ret false e env) : R Out)
        | none => R.stuck) (EndS X.K C D F) C.E := hds
      rw [if_pos rfl] at hds
      have hds : EndS X.K C D F (.ret false (.tup [.str tx, d]) env) := hds
      intro F' H' g'
      rw [hfl]
      intro dx v hdx rv
      refine ⟨true, hex, fun _ ea _ => ?_, fun q => Bool.noConfusion q⟩
      have gg := f1.gr.trans g'
      refine ⟨.ref ea, by rw [List.getElem?_set_self (by omega)], rfl, rfl, dx, [(fn, v)], v, rfl, hdx, by simp [List.lookup], (by rw [sizeLine_eq]; simp), fun p hp => ?_⟩
      exact hds (.ref p) (upd F' p (.tup [.str (S tx), v])) _ (gg.trans (Grow.pub g'.fh hp)) (show VRep X.K (upd F' p (.tup [.str (S tx), v])) (.ref p) (.tup [.str tx, d]) from .tup upd_same (.cons (.str tx) (.cons (VRep.mono (exUpd (exNone g'.fh hp)) rv) .nil)))
    · have hds : Rd (match (if c = j then some (PF.D.tup [.str tx, d]) else none) with
        | some e => (pure (.ret false e env) : R Out)
        | none => R.stuck) (EndS X.K C D F) C.E := hds
      rw [if_neg hc] at hds
      exact hds.elim
/-- return [f(..)] in try, return 'b' in except -/
theorem ds_tryWL {tx : Tx} {k1 : Nat} {k i j n : Nat} {f : Addr} {fd : FuncData} {ps : List Str} {x y : Str} {cl : Nat → Addr} {fl : Nat → Option Str} {Cl : Addr} {a : PySem.Expr} {es : List PySem.Expr} {cas : List CE} {pt pr pc pn pf ph q3 q4 q7 : Pos}
    (Fn : FnOk X.prog X.w X.K X.mg X.base (L2.CX X.prog X.w) k f fd ps (spX X.K cl fl (C.Φ i) n)) (hr : Room k X.A) (hm : X.mg x = some (.ref f)) (hk : PySem.W.keepIn X.K (.ref f) = true) (hb : Binds X.K fd ps [])
    (hst : X.stack = X.env :: X.outer) (hfr : X.env.frame = some X.env.locals) (hcl : X.mg y = some (.ref Cl)) (hex : PySem.W.exmOne X.K (.ref (cl j)) (.ref Cl) = some true)
    (ha : ∀ (pn' : List (Addr × Obj)) (xe : Value → Shared → Prop), PA (X.tr pn' xe) (a :: es) (tEs X.K C cas))
    (hn : cas.length = n := by rfl) (hg : Gl X x := by rfl) (hg2 : Gl X y := by rfl) (hdb : (x == ("__debug__" : Str)) = false := by decide) (hdb2 : (y == ("__debug__" : Str)) = false := by decide)
    (he : starEach (a :: es) X.env = (false, eval a X.env) :: starEach es X.env := by rfl) (hpl : (backTo pc (starEach es X.env)).any (·.1) = false := by rfl) :
    DS X C (.Try [.Return (some (.List [.Call (.Name x pf) (a :: es) [] pc] q7)) pr] [.ExceptHandler (some (.Name y pn)) none [.Return (some (.Constant (.str (S tx)) k1 q4)) q3] ph] [] [] pt)
      (.tryW i cas false (fun d => .lst [d]) fun c _ => if c = j then some (.str tx) else none) := by
  refine PS.weak' (ps_try_only (ts := fun _ _ _ => tRet (tC (.str (S tx)))) hst hfr ⟨hg2, hdb2, .inl hcl⟩ takes0
    (fun W pn' xe tk _ => pss_one (ps_ret (pe_lst (pa_cons (pe_callS (X := X.tr pn' xe) (E := WE W) Fn hr hg hm hk hb (fun σ => passAt tk σ) (ha pn' xe) hdb he hpl) pa_nil))))
    (fun ea oe cls d pn' hz hf => pss_one (ps_ret pe_str))) fun D σ H h => ?_
  obtain ⟨F, env, f, h⟩ := h
  simp only [exec] at h
  refine ⟨F, env, f, (evalEs_len h.bind).mono fun ds ⟨hev, hds⟩ vs F1 H1 g r => ?_⟩
  show spX X.K cl fl (C.Φ i) n vs H1 _ _
  have f1 := f.grow g
  refine ⟨by rw [r.length, hev, hn], F1, ds, g.fh, g.tp f.tp, r, ?_⟩
  cases hq : C.Φ i ds with
  | stuck => rw [hq] at hds; exact hds.elim
  | ok r1 =>
    rw [hq] at hds
    obtain ⟨b, d⟩ := r1
    cases b with
    | true => exact hds.elim
    | false =>
      have hds : EndS X.K C D F (.ret false (.lst [d]) env) := hds
      intro v F' H' g' rr
      have rr : VRep X.K F' v d := rr
      exact ⟨by rw [sizeLine_eq]; simp, fun p hp => hds (.ref p) (upd F' p (.lst [v])) _ ((f1.gr.trans g').trans (Grow.pub g'.fh hp)) (show VRep X.K (upd F' p (.lst [v])) (.ref p) (.lst [d]) from .lst upd_same (.cons (VRep.mono (exUpd (exNone g'.fh hp)) rr) .nil))⟩
  | exc c d =>
    rw [hq] at hds
    by_cases hc : c = j
    · subst hc
      have hds : Rd (match (if c = c then some (PF.D.str tx) else none) with
        | some e => (pure (.ret false e env) : R Out)
        | none => R.stuck) (EndS X.K C D F) C.E := hds
      rw [if_pos rfl] at hds
      have hds : EndS X.K C D F (.ret false (.str tx) env) := hds
      intro F' H' g'
      have key : ∀ dd, wOnly X.K (.ref Cl) (fun _ _ _ => tRet (tC (.str (S tx)))) (fun _ _ _ _ => False) D (.ref (cl c)) dd σ H' := fun dd =>
        ⟨true, hex, fun _ ea _ => hds (.str (S tx)) F' H' (f1.gr.trans g') (show VRep X.K F' (.str (S tx)) (.str tx) from .str tx), fun q => Bool.noConfusion q⟩
      cases hf : fl c with
      | none => exact key _
      | some f => exact fun _ _ _ _ => key _
    · have hds : Rd (match (if c = j then some (PF.D.str tx) else none) with
        | some e => (pure (.ret false e env) : R Out)
        | none => R.stuck) (EndS X.K C D F) C.E := hds
      rw [if_neg hc] at hds
      exact hds.elim
end
end PF

/-! What the written part says of an exception class with an own __init__(self, y). -/
namespace PF
open PySem PySem.Spec PyProof.Rows L2
/-- the def __init__ in a class statement -/
def initS (top : Stmt) : Stmt := match top with
  | .ClassDef _ _ _ body _ _ _ _ _ _ _ => body.getD 0 top
  | _ => top
structure InitK (P : Program) (w : World) (K : PySem.W.Frag) (mg : Str → Option Value) (x : Str) (C : Addr) (fn : Str) : Prop where
  g : mg x = some (.ref C)
  T : OexC K C
  hno : PySem.W.findIn K (.ref C) fn = some none
  xf : XfC K C
  i : ∃ fI fd ps, PySem.W.findIn K (.ref C) "__init__" = some (some (.ref fI)) ∧ PySem.W.typeIn K (.ref fI) = some (.type "function") ∧ Binds K fd ps [] ∧ ∀ k base, FnOk P w K mg base CX0 (k + 1) fI fd ps (spI K C fn)
def codeFileB (K : PySem.W.Frag) (cda : Addr) (file : Str) : Bool := match K.lookup cda with
  | some ⟨_, _, .fields vs, _⟩ => (match vs[2]? with | some (Value.str f _) => file == f | _ => false)
  | _ => false
def cellB (K : PySem.W.Frag) (cc C : Addr) : Bool := match K.lookup cc with
  | some ⟨_, _, .cell (some (.ref D)), _⟩ => D == C
  | _ => false
def excB (K : PySem.W.Frag) (C : Addr) : Bool := match K.lookup C with
  | some ⟨.type "type", _, .cls cd, sl⟩ => (match cd.mro, sl.toList with
    | .ref C' :: bm, [_, _, _, _, some (.builtin n), _] => C' == C && (n == "ValueError.__new__" && (!cd.hasDel && (cd.hasDict && PySem.HandSPX.refsVE bm)))
    | _, _ => false)
  | _ => false
theorem excB_ok {K : PySem.W.Frag} {C : Addr} (h : excB K C = true) : ∃ nm q N bs bm sn sub ab col dd k0 k1 k2 k3 k5, K.lookup C = some (excClassObj nm q C N bs bm true sn sub ab col dd k0 k1 k2 k3 k5 "ValueError.__new__") ∧ PySem.HandSPX.refsVE bm = true := by
  unfold excB at h
  split at h
  · rename_i dd cd sl ho
    split at h
    · rename_i C' bm k0 k1 k2 k3 n k5 hm hs
      simp only [Bool.and_eq_true, beq_iff_eq, Bool.not_eq_true'] at h
      obtain ⟨rfl, rfl, h3, h4, h5⟩ := h
      refine ⟨cd.name, cd.qualname, cd.ns, cd.bases, bm, cd.slotNames, cd.subclasses, cd.abstract, cd.collection, dd, k0, k1, k2, k3, k5, ?_, h5⟩
      rw [ho]
      obtain ⟨nm, bs, mro, ns, qn, hd, sn, sb, ab, col, del⟩ := cd
      dsimp only at hm h3 h4 ⊢
      subst hm h3 h4
      have : sl = #[k0, k1, k2, k3, some (.builtin "ValueError.__new__"), k5] := by
        apply Array.toList_inj.mp
        rw [hs]
      rw [this]
    · cases h
  · cases h
theorem codeFileB_ok {K : PySem.W.Frag} {cda : Addr} {file : Str} (h : codeFileB K cda file = true) : ∃ ccl cdd vs ccs f tf, K.lookup cda = some ⟨ccl, cdd, .fields vs, ccs⟩ ∧ vs[2]? = some (.str f tf) ∧ (file == f) = true := by
  unfold codeFileB at h
  split at h
  · rename_i ho
    split at h
    · rename_i hv
      exact ⟨_, _, _, _, _, _, ho, hv, h⟩
    · cases h
  · cases h
theorem cellB_ok {K : PySem.W.Frag} {cc C : Addr} (h : cellB K cc C = true) : ∃ cl cld csl, K.lookup cc = some ⟨cl, cld, .cell (some (.ref C)), csl⟩ := by
  unfold cellB at h
  split at h
  · rename_i ho
    rw [beq_iff_eq] at h
    subst h
    exact ⟨_, _, _, ho⟩
  · cases h
/-- all that is asked of the written part -/
def initB (K : PySem.W.Frag) (C cc cda f : Addr) (fn qual file : Str) : Bool :=
  PySem.W.codeIn K (.ref cda) qual && (codeFileB K cda file && (cellB K cc C && (excB K C && (xfB K C && (PySem.W.keepIn K (.ref C) &&
  (decide (PySem.W.nsIn K cStatics "thirdparty.any" = some none) && (decide (PySem.W.ks_superIn K C C "__init__" = some (some (.builtin "ValueError.__init__"))) &&
  (decide (PySem.W.subIn K (.ref C) (.type "ValueError") = some true) && (decide (PySem.W.mroIn K C (.ref C) = some true) &&
  (decide (PySem.W.findIn K (.ref C) "__setattr__" = some (some (.builtin "object.__setattr__"))) && (decide (PySem.W.typeIn K (.ref C) = some (.type "type")) &&
  (decide (PySem.W.findIn K (.ref C) "__init__" = some (some (.ref f))) && (decide (PySem.W.typeIn K (.ref f) = some (.type "function")) && decide (PySem.W.findIn K (.ref C) fn = some none))))))))))))))
theorem initB_sub {K : PySem.W.Frag} {C cc cda f : Addr} {fn qual file : Str} (B : initB K C cc cda f fn qual file = true) : PySem.W.subIn K (.ref C) (.type "BaseException") = some true := by
  unfold initB at B
  simp only [Bool.and_eq_true, decide_eq_true_eq] at B
  exact (xfB_ok B.2.2.2.2.1).exC
theorem initB_type {K : PySem.W.Frag} {C cc cda f : Addr} {fn qual file : Str} (B : initB K C cc cda f fn qual file = true) : PySem.W.typeIn K (.ref C) = some (.type "type") := by
  unfold initB at B
  simp only [Bool.and_eq_true, decide_eq_true_eq] at B
  exact B.2.2.2.2.2.2.2.2.2.2.2.1
theorem initK_mk {P : Program} {w : World} {K : PySem.W.Frag} {mg : Str → Option Value} {x slf y fn txt name qual : Str} {j : Nat} {p0 p1 p2 p3 p4 p5 p6 p7 p8 p9 : Pos} {C cc cda f : Addr} {params : Arguments} {body : List Stmt} {scope : Scope} {kV doc pm ct oc : Value} {an od : Option Addr} {osl : Array (Option Value)}
    (g : mg x = some (.ref C)) (sup : mg "super" = none) (lk : K.lookup f = some ⟨oc, od, .func (PySem.W.ksFn name qual params body scope .none kV doc pm an (.ref cda) ct cc), osl⟩) (B : initB K C cc cda f fn qual P.main.file = true)
    (hb : body = [.Expr (.Call (.Attribute (.Call (.Name "super" p0) [] [] p1) "__init__" p2) [.Constant (.str txt) j p3] [] p4) p5, .Assign [.Attribute (.Name slf p6) fn p7] (.Name y p8) p9])
    (hp : ∃ ar, (params.posonlyargs ++ params.args).head? = some ar ∧ ar.arg = slf) (top : (P.main.scope.names.lookup ("super" : Str)).isSome = false)
    (ks : scope.names.lookup ("super" : Str) = some .globalImplicit) (kc : scope.names.lookup ("__class__" : Str) = some .free) (ka : scope.names.lookup slf = some .local) (kind : scope.kind = .function)
    (hco : scope.isCoroutine = false) (hgen : scope.isGenerator = false) (nd : slf ≠ y) (hy : scope.names.lookup y = some .local)
    (hfree : (scope.names.all fun q => q.2 != .free || q.1 == ("__class__" : Str)) = true) (hcell : ∀ x ∈ scope.names, x.2 ≠ .cell)
    (hd : (slf == ("__debug__" : Str)) = false ∧ (y == ("__debug__" : Str)) = false ∧ (slf == ("__classdict__" : Str)) = false ∧ (y == ("__classdict__" : Str)) = false)
    (he : ∀ L : Addr, eval (.Call (.Attribute (.Call (.Name "super" p0) [] [] p1) "__init__" p2) [.Constant (.str txt) j p3] [] p4) (PySem.W.ksEnv qual scope L f (.ref cda) cc) = (do
      let ov ← attributeBase (.Call (.Name "super" p0) [] [] p1) "__init__" (PySem.W.ksEnv qual scope L f (.ref cda) cc) (eval (.Call (.Name "super" p0) [] [] p1) (PySem.W.ksEnv qual scope L f (.ref cda) cc))
      standAt p2.atName
      let (fx, first) ← holding [ov] (getMethod ov "__init__" (do return (← importBound (.Call (.Name "super" p0) [] [] p1) (PySem.W.ksEnv qual scope L f (.ref cda) cc)).getD true))
      callWith p4 fx first (backTo p4 (starEach [.Constant (.str txt) j p3] (PySem.W.ksEnv qual scope L f (.ref cda) cc))) []))
    (hse : ∀ L : Addr, starEach [.Constant (.str txt) j p3] (PySem.W.ksEnv qual scope L f (.ref cda) cc) = (false, eval (.Constant (.str txt) j p3) (PySem.W.ksEnv qual scope L f (.ref cda) cc)) :: starEach [] (PySem.W.ksEnv qual scope L f (.ref cda) cc))
    (hi : ∀ L : Addr, interactive (PySem.W.ksEnv qual scope L f (.ref cda) cc) = false)
    (hs1 : ∀ L : Addr, swapsWith (.Call (.Attribute (.Call (.Name "super" p0) [] [] p1) "__init__" p2) [.Constant (.str txt) j p3] [] p4) none p5.line (PySem.W.ksEnv qual scope L f (.ref cda) cc) = pure false)
    (hs2 : ∀ L : Addr, swapsWith (.Name y p8) (some (.Attribute (.Name slf p6) fn p7)) p9.line (PySem.W.ksEnv qual scope L f (.ref cda) cc) = pure false)
    (hbi : ∀ us : List Value, us.length = 2 → bindArgs (PySem.W.ksFn name qual params body scope .none kV doc pm an (.ref cda) ct cc) ⟨us, []⟩ = pure ([slf, y].zip us)) : InitK P w K mg x C fn := by
  unfold initB at B
  simp only [Bool.and_eq_true, decide_eq_true_eq] at B
  obtain ⟨b1, b2, b3, b4, b5, b6, b7, b8, b9, b10, b11, b12, b13, b14, b15⟩ := B
  have xf := xfB_ok b5
  have T : OexC K C := ⟨excB_ok b4, b11, xf.exC, b12, b6⟩
  refine ⟨g, T, b15, xf, f, _, [slf, y], b13, b14, .all fun us hu => hbi us hu, fun k base => ?_⟩
  refine init_ok (pl := fun f L => (do return (← importBound (.Call (.Name "super" p0) [] [] p1) (PySem.W.ksEnv qual scope L f (.ref cda) cc)).getD true)) (S := ⟨⟨_, _, _, lk⟩, hp, codeFileB_ok b2, cellB_ok b3, sup, b10, b7, b8, b9, ks, kc, ka, kind, top, T⟩) lk b1 hb hco hgen nd hy (fun z hz => ?_) hcell hd.1 hd.2.1 hd.2.2.1 hd.2.2.2 he hse hi hs1 hs2
  have hz1 := PySem.mem_of_lookup hz
  have := List.all_eq_true.mp hfree _ hz1
  simpa using this
section
variable {X : Cx} {C : Ctx} {e : PySem.Expr} {ce : CE} {st : PySem.Stmt} {cs : CS} {pos p : Pos}
theorem ds_raiseI {W : WX} {cl : Nat → Addr} {fl : Nat → Option Str} {XE : XK} {x fn : Str} {c k : Nat} {p2 : Pos} (I : InitK X.prog X.w X.K X.mg x (cl c) fn) (hr : Room (k + 2) X.A)
    (hc : X.calm = true) (tk : Takes X W) (hW : W = fun cls d _ H' => XE cls d H') (hE : C.E = ExW X.K cl fl XE C.F0 C.H0) (hfl : fl c = some fn) (ha : DEs X C [e] [ce]) (hg : Gl X x := by rfl) (hdb : (x == ("__debug__" : Str)) = false := by decide)
    (he : starEach [e] X.env = (false, eval e X.env) :: starEach [] X.env := by rfl) (hpl : (backTo p2 (starEach [] X.env)).any (·.1) = false := by rfl) :
    DS X C (.Raise (some (.Call (.Name x p) [e] [] p2)) none pos) (.raise c (.yes ce)) := by
  obtain ⟨fI, fd, ps, i1, i2, i3, i4⟩ := I.i
  exact ds_raise1 I.T i1 i2 I.hno (i4 k X.base) hr i3 I.g hc tk hW hE hfl ha hg hdb he hpl
end
end PF

/-! sorted(.., key=f), f(word) = (len(word), word). -/
namespace PF
open PySem PySem.Spec PyProof.Rows L2
section
variable {P : Program} {w : World} {K : PySem.W.Frag} {mg : Str → Option Value} {base : Heap} {x : Str} {st : Stmt} {f : Addr} {fd : FuncData}
/-- the shape of such a def -/
structure KeyDef (st : Stmt) : Prop where
  sc : FnScope ["word"] ["word"] (defScope st)
  lo : (defScope st).names.lookup ("word" : Str) = some NameKind.local
  gl : (defScope st).names.lookup ("len" : Str) = some NameKind.globalImplicit
  bd : ∃ p1 p2 p3 p4 k5 p5 p6, defBody st = [.Return (some (.Tuple [.Call (.Name "len" p1) [.Name "word" p2] [] p3, .Name "word" p4] k5 p5)) p6]
theorem key_run (D : DefAt K mg x st f fd ["word"]) (kd : KeyDef st) (mod : Mod K mg base) (zl : mg "len" = none) {A : Around} {s : Shared} (hA : A.depth < recursionLimit) (KX : ∀ b o, base.get? b = some o → s.heap.get? b = some o) (t : Tx) (tk : Tok) (hsz : t.length ≤ SZ) :
    wpAny (model P w) A (call (.ref f) [.str (S t) tk]) (PySem.W.KeyPure (.tuple [.int t.length, .str (S t)]) s) (fun _ _ => False) s := by
  obtain ⟨oc, od, kV, doc, pm, an, cdv, ct, osl, rfl, lk, hcd⟩ := D.fn.ex
  obtain ⟨p1, p2, p3, p4, k5, p5, p6, hbd⟩ := kd.bd
  have KI : K.In s.heap := mod.kin.keeps KX
  have lim : s.heap.NoLimit := mod.nolimit.keeps KX
  have hb := D.bi s [.str (S t) tk] KI rfl
  have hkind : ∀ y ∈ (["word"] : List Str).zip ([Value.str (S t) tk] ++ []), (defScope st).names.lookup y.1 = some NameKind.local ∨ ((defScope st).names.lookup y.1 = some .cell ∧ ((cellsFrom (s.heap.objs.size + 1) (defScope st).names []).lookup y.1).isSome = true) := fun y hy => by
    have : y = (("word" : Str), Value.str (S t) tk) := by simpa using hy
    subst this
    exact .inl kd.lo
  refine wpAny_call (codeAny_mono (R := fun r s' => ∃ u, r = .ok (.ret u) ∧ PySem.W.KeyPure (.tuple [.int t.length, .str (S t)]) s u s') (codeAny_call_function hA (KI _ _ lk) rfl kd.sc.co kd.sc.gen rfl (PySem.W.codeRec_of KI hcd) (hb _ _ _ _ ?_)) ?_)
  · refine wpAny_newFunctionEnv_cells kd.sc.kind hkind fun env he s1 xc => ?_
    subst he
    refine ⟨lim.keeps xc.toInCall.keep, codeAny_func ?_⟩
    obtain ⟨h1, tk1, rfl, hk1⟩ := xc.done
    have ns : h1.Ns s.heap.objs.size (bindL (envOfC x (defScope st) s.heap.objs.size f cdv).kindOf ((["word"] : List Str).zip ([Value.str (S t) tk] ++ [])) (fun _ => none)) := xc.toInCall.ns
    show wpAny (model P w) (A.deeper (envOfC x (defScope st) s.heap.objs.size f cdv)) (PySem.execs (defBody st) (envOfC x (defScope st) s.heap.objs.size f cdv)) _ _ _
    rw [hbd]
    have kw : (envOfC x (defScope st) s.heap.objs.size f cdv).kindOf ("word" : Str) = some NameKind.local := kd.lo
    have wv : bindL (envOfC x (defScope st) s.heap.objs.size f cdv).kindOf ((["word"] : List Str).zip ([Value.str (S t) tk] ++ [])) (fun _ => none) "word" = some (Value.str (S t) tk) :=
      bindL_get (i := 0) (by decide) rfl rfl kw
    have kl : (envOfC x (defScope st) s.heap.objs.size f cdv).kindOf ("len" : Str) = some NameKind.globalImplicit := kd.gl
    generalize henv : envOfC x (defScope st) s.heap.objs.size f cdv = env at *
    have ek : env.scope.kind = .function := by rw [← henv]; exact kd.sc.kind
    have eg : env.globals = mainGlobals := by rw [← henv]; rfl
    have eb : env.builtins = builtinsNs := by rw [← henv]; rfl
    have el : env.locals = s.heap.objs.size := by rw [← henv]; rfl
    have up : ∀ b o, base.get? b = some o → h1.get? b = some o := fun b o e => hk1 b o (KX b o e)
    obtain ⟨mb, hb1, hb2⟩ := mod.blt
    have hn63 := line63
    have hs2 := szLine hsz
    refine wpAny_execs_cons (wpAny_Return_some (wpAny_Tuple_spliced (Calls.spliced_cons ?_)))
    refine wpAny_Call_Name_kw (Calls.Name_function_global ek kl (Calls.loadGlobal_builtin (by rw [eg]; exact mod.glob.keeps up) zl (by rw [eb]; exact hb1.keeps up) ((hb2 _ (by decide)).trans bb_len) ?_))
    refine PyProof.Rows.callWith_builtin1 (Calls.spliced_cons ?_)
    refine wpAny_Name (wpAny_loadName_local ek kw (by show h1.Ns env.locals _; rw [el]; exact ns) wv ?_)
    refine Calls.spliced_nil ?_
    refine len_str (by rw [S_len]; omega) ?_
    refine Calls.spliced_cons ?_
    refine wpAny_Name (wpAny_loadName_local ek kw (by show h1.Ns env.locals _; rw [el]; exact ns) wv ?_)
    refine Calls.spliced_nil ⟨by show 2 ≤ sizeLine; decide, ?_⟩
    refine ⟨_, rfl, _, _, rfl, fun b o e => Heap.get?_push_of_some _ (hk1 b o e), ?_⟩
    refine .tuple (Heap.get?_push_size _ rfl) rfl rfl ?_
    rw [show ((t.length : Nat) : Int) = ((S t).length : Nat) from by rw [S_len]]
    exact .cons (as := []) (bs := []) (.int _ _) (.cons (as := []) (bs := []) (.str _ _) .nil)
  · rintro r s' ⟨u, rfl, h⟩
    exact h
/-! ### the order -/
def keyD (t : Tx) : PyData := .tuple [.int t.length, .str (S t)]
theorem dataLt_is (x x' : Int) (y y' : PySem.Str) : PySem.W.dataLt (.tuple [.int x, .str y]) (.tuple [.int x', .str y']) = decide (x < x' ∨ (x = x' ∧ y.cps.toList < y'.cps.toList)) := by
  rw [PySem.W.dataLt_pair (by simp [PySem.W.alike]) (by simp [PySem.W.alike]), PySem.W.dataLt_int, PySem.W.dataLt_str]
  simp only [PyData.eqv, beq_iff_eq]
  by_cases h1 : x = x'
  · subst h1
    by_cases h2 : y = y'
    · subst h2
      simp
    · simp [h2]
  · simp [h1]
theorem dataLe_k : PySem.W.dataLe false keyD = leK := by
  funext p q
  show (!PySem.W.dataLt (keyD q) (keyD p)) = _
  unfold keyD
  rw [dataLt_is, S_cps, S_cps]
  unfold leK
  rw [Bool.eq_iff_iff]
  simp only [Bool.not_eq_true', decide_eq_false_iff_not, Bool.or_eq_true, Bool.and_eq_true, decide_eq_true_eq]
  constructor
  · intro h
    by_cases h1 : p.length < q.length
    · exact .inl h1
    · by_cases h2 : p.length = q.length
      · refine .inr ⟨h2, ?_⟩
        exact List.not_lt.mp fun h3 => h (.inr ⟨by omega, h3⟩)
      · exact absurd (.inl (by omega)) h
  · rintro (h | ⟨h1, h2⟩) (h3 | ⟨h3, h4⟩)
    · omega
    · omega
    · omega
    · exact List.not_lt.mpr h2 h4
end
end PF

/-! sorted of a tuple. -/
namespace PF
open PySem PySem.Spec PyProof.Rows PySem.Calls
section
variable {prog : Program} {w : World} {A : Around} {E : Value → Shared → Prop} {s : Shared}
theorem collect_tup {l : Addr} {vs : List Value} {Q : List Value → Shared → Prop} (hl : s.heap.IsTuple l vs.toArray) (h : Q vs { s with heap := (s.heap.push (seqObj "list" #[] 0)).update s.heap.objs.size (Obj.mapSeq (· ++ vs.toArray)) }) (hsz : vs.length ≤ sizeLine) :
    wpAny (model prog w) A (collect (.ref l)) Q E s := by
  obtain ⟨o, ho, hc, n, hd⟩ := id hl
  unfold collect
  refine wpAny_bind (wpAny_runValue (codeAny_builtin entry_proto_collect' ?_))
  show wpAny _ _ (do again (.builtin "list.__iadd__" ⟨[← newList [], .ref l], []⟩)) _ _ s
  refine wpAny_bind (wpAny_newList (wpAny_pure ⟨Code.quiet_builtin _ (by decide +kernel), codeAny_builtin entry_list_iadd' ?_⟩))
  show wpAny _ _ (Builtin.List.listExtendWith (.ref s.heap.objs.size) (.ref l) (.ref s.heap.objs.size)) _ _ { s with heap := s.heap.push (seqObj "list" #[] 0) }
  unfold Builtin.List.listExtendWith
  have ho' : (s.heap.push (seqObj "list" #[] 0)).get? l = some o := Heap.get?_push_of_some _ ho
  refine wpAny_bind (wpAny_typeOf (T := "tuple") ⟨o, ho', hc⟩ ?_)
  have ht : (Value.type "tuple" == Value.type "tuple") = true := by rfl
  rw [if_pos (by rw [ht]; simp)]
  refine wpAny_bind (listItems_at ho' hd ?_)
  refine wpAny_bind (listItems_at (xs := #[]) (n := 0) (Heap.get?_push_size _ rfl) rfl ?_)
  rw [if_neg (by simp)]
  refine wpAny_bind (listUpdate_at (xs := #[]) (n := 0) (Heap.get?_push_size _ rfl) rfl ?_ (Nat.zero_le _) (by show (#[] ++ vs.toArray).size ≤ sizeLine + 1; simp only [Array.size_append, List.size_toArray, List.length_nil]; omega))
  refine wpAny_pure ?_
  show wpAny (model prog w) A (do
      let o ← load s.heap.objs.size
      match o.data with
      | .seq xs _ => pure xs.toList
      | _ => unsupported "internal:collect") Q E { s with heap := (s.heap.push (seqObj "list" #[] 0)).update s.heap.objs.size (Obj.mapSeq (· ++ vs.toArray)) }
  refine wpAny_bind (wpAny_load (get?_update_seq (Heap.get?_push_size _ rfl) _) ?_)
  show wpAny _ _ (pure ((#[] : Array Value) ++ vs.toArray).toList) Q E _
  rw [show ((#[] : Array Value) ++ vs.toArray).toList = vs by simp]
  exact wpAny_pure h

theorem sorted_tup {l : Addr} {vs : List Value} {Q : Value → Shared → Prop} (hl : s.heap.IsTuple l vs.toArray) (hL : vs.length ≤ sizeLine)
    (body : ∀ E' : Value → Shared → Prop, wpAny (model prog w) A.in1.in1 (Builtin.«list.sort» ⟨[.ref (s.heap.objs.size + 1)], []⟩) (fun f s' => f = .done (.ret .none) ∧ Q (.ref (s.heap.objs.size + 1)) s') E' { s with heap := PySem.W.copyHeap s.heap vs }) :
    wpAny (model prog w) A (call (.builtin "sorted") [.ref l]) Q E s := by
  refine Calls.call_function_entry kind_sorted plain_sorted entry_sorted (args_sorted1 _) ?_
  unfold Builtin.«sorted»
  refine wpAny_bind (m := checkCount "sorted" 1 1 _) (wpAny_pure ?_)
  refine wpAny_bind (collect_tup hl ?_ hL)
  refine wpAny_bind (wpAny_newList ?_ hL)
  have hsz : ((s.heap.push (seqObj "list" #[] 0)).update s.heap.objs.size (Obj.mapSeq (· ++ vs.toArray))).objs.size = s.heap.objs.size + 1 := by
    rw [Heap.size_update, size_push']
  show wpAny _ _ _ _ _ { s with heap := PySem.W.copyHeap s.heap vs }
  rw [hsz]
  refine wpAny_bind (wpAny_holding (wpAny_call_entry slot_list_sort ⟨_, PySem.W.copyHeap_at s.heap vs, rfl⟩ entry_list_sort ?body (args_list_sort _)))
  case body =>
    show wpAny (model prog w) A.in1.in1 (Builtin.«list.sort» ⟨[.ref (s.heap.objs.size + 1)], []⟩) _ _ _
    refine wpAny_mono (body _) (fun f s' hf => ?_) fun _ _ e => e
    obtain ⟨rfl, hq⟩ := hf
    exact ⟨_, rfl, wpAny_pure ⟨_, rfl, hq⟩⟩
theorem sorted_dataT {β : Type} {vs : List Value} {bs : List β} {enc : β → PyData} {R : Value → β → Prop} {l : Addr} {Q : Value → Shared → Prop} (hl : s.heap.IsTuple l vs.toArray) (e : PySem.W.EachIs R vs bs) (er : PySem.W.EachIs (fun v b => ∃ as, PySem.Reads s.heap v (enc b) as) vs bs) (hal : PySem.W.AllAlike (bs.map enc)) (hk : PySem.W.Sortable (bs.map enc)) (hL : bs.length ≤ sizeLine)
    (hu : ∀ b, b ∈ bs → A.units + 2 + (enc b).depth < cLine) (h : ∀ out, out.length = bs.length → PySem.W.EachIs R out (bs.mergeSort (PySem.W.dataLe false enc)) → Q (.ref (s.heap.objs.size + 1)) { s with heap := sortedAll s.heap vs (List.toArray out) }) :
    wpAny (model prog w) A (call (.builtin "sorted") [.ref l]) Q E s := by
  have er' : PySem.W.EachIs (fun v b => ∃ as, PySem.Reads (PySem.W.sortingHeap (PySem.W.copyHeap s.heap vs) (s.heap.objs.size + 1) vs) v (enc b) as) vs bs := er.mono fun _ _ ⟨as, r⟩ => ⟨as, PyProof.Rows.Reads.keeps (fun _ _ => PySem.W.sorting_copy_old) r⟩
  have hLv : vs.length ≤ sizeLine := by rw [e.length]; exact hL
  have S := PySem.W.SortsAt.data (prog := prog) (w := w) (A := A.in1.in1) (s := { s with heap := PySem.W.sortingHeap (PySem.W.copyHeap s.heap vs) (s.heap.objs.size + 1) vs }) (PySem.W.each_map (R := fun v d => ∃ as, PySem.Reads (PySem.W.sortingHeap (PySem.W.copyHeap s.heap vs) (s.heap.objs.size + 1) vs) v d as) enc er') hal hk (PySem.W.bound_map hu)
  exact sorted_tup hl hLv fun _ => PySem.W.list_sort_vals (s := { s with heap := PySem.W.copyHeap s.heap vs }) (PySem.W.copyHeap_at s.heap vs) S hLv ⟨rfl, h _ (by rw [PySem.W.sortVals_length false rfl]; exact e.length) (PySem.W.sortVals_data false e er' hal)⟩
theorem sorted_anyT {l : Addr} {vs : List Value} {Q : Value → Shared → Prop} (hl : s.heap.IsTuple l vs.toArray) (hz : vs.length ≤ sizeLine)
    (h2 : vs.length ≤ 1) (h : ∀ out : List Value, out.Perm vs → Q (.ref (s.heap.objs.size + 1)) { s with heap := sortedAll s.heap vs out.toArray }) :
    wpAny (model prog w) A (call (.builtin "sorted") [.ref l]) Q E s := by
  refine sorted_tup hl hz fun _ => Srt.list_sort_any (PySem.W.copyHeap_at s.heap vs) hz (fun h3 => absurd h3 (by omega)) fun out ho => ⟨rfl, h out ho⟩
end
end PF

/-! sorted as a call. -/
namespace PF
open PySem PySem.Spec PyProof.Rows L2
theorem each_strs : ∀ {xs : List Tx} {us : List Value}, Vals ((xs.map S).map V.str) us → PySem.W.EachIs (fun u (x : Tx) => ∃ t, u = Value.str (S x) t) us xs
  | [], _, h => by cases h; exact .nil
  | x :: xs, _, h => by
    cases h with
    | cons h1 h2 => exact .cons h1 (each_strs h2)
theorem strs_each : ∀ {xs : List Tx} {us : List Value}, PySem.W.EachIs (fun u (x : Tx) => ∃ t, u = Value.str (S x) t) us xs → Vals ((xs.map S).map V.str) us
  | [], _, h => by cases h; exact .nil
  | x :: xs, _, h => by
    cases h with
    | cons h1 h2 => exact .cons h1 (strs_each h2)
theorem each_ints : ∀ {xs : List Int} {us : List Value}, Vals (xs.map V.int) us → PySem.W.EachIs (fun u (x : Int) => ∃ t, u = Value.int x t) us xs
  | [], _, h => by cases h; exact .nil
  | x :: xs, _, h => by
    cases h with
    | cons h1 h2 => exact .cons h1 (each_ints h2)
theorem ints_each : ∀ {xs : List Int} {us : List Value}, PySem.W.EachIs (fun u (x : Int) => ∃ t, u = Value.int x t) us xs → Vals (xs.map V.int) us
  | [], _, h => by cases h; exact .nil
  | x :: xs, _, h => by
    cases h with
    | cons h1 h2 => exact .cons h1 (ints_each h2)
theorem vreps_strs {K : PySem.W.Frag} {F : Hp} : ∀ xs : List Tx, VReps K F ((xs.map S).map V.str) (xs.map .str)
  | [] => .nil
  | x :: xs => .cons (.str x) (vreps_strs xs)
def DataIs (K : PySem.W.Frag) (F : Hp) (u : Value) (d : D) : Prop := ∃ v, RelV v u ∧ VRep K F v d
theorem each_data {K : PySem.W.Frag} {F : Hp} : ∀ {ds : List D} {vs : List V} {us : List Value}, Vals vs us → VReps K F vs ds → PySem.W.EachIs (DataIs K F) us ds
  | [], _, _, h, h' => by cases h'; cases h; exact .nil
  | d :: ds, _, _, h, h' => by
    cases h' with
    | cons q1 q2 =>
      cases h with
      | cons p1 p2 => exact .cons ⟨_, p1, q1⟩ (each_data p2 q2)
theorem data_each {K : PySem.W.Frag} {F : Hp} : ∀ {ds : List D} {us : List Value}, PySem.W.EachIs (DataIs K F) us ds → ∃ vs, Vals vs us ∧ VReps K F vs ds
  | [], _, h => by cases h; exact ⟨[], .nil, .nil⟩
  | d :: ds, _, h => by
    cases h with
    | cons p1 p2 =>
      obtain ⟨v, q1, q2⟩ := p1
      obtain ⟨vs, r1, r2⟩ := data_each p2
      exact ⟨v :: vs, .cons q1 r1, .cons q2 r2⟩
theorem each_reads {X : Cx} {pins : List (Addr × Obj)} {σ : L2.St} {F H : Hp} {s : Shared} (I : Inv X pins σ H s) (eF : Ex F H) : ∀ {ds : List D} {us : List Value}, PySem.W.EachIs (DataIs X.K F) us ds → (∀ d ∈ ds, D.eqOk 59 d = true) → PySem.W.EachIs (fun u d => ∃ as, PySem.Reads s.heap u (toPy d) as) us ds
  | [], _, h, _ => by cases h; exact .nil
  | d :: ds, _, h, hd => by
    cases h with
    | cons p1 p2 =>
      obtain ⟨v, q1, q2⟩ := p1
      exact .cons (Dp.reads I _ _ _ ((q2.mono eF).dp (hd d List.mem_cons_self)) q1) (each_reads I eF p2 fun x hx => hd x (List.mem_cons_of_mem _ hx))
section
variable {X : Cx} {C : Ctx} {e : PySem.Expr} {ce : CE} {pos p : Pos}
def rSk (K : PySem.W.Frag) (f : Addr) : List V → List V → Hp → VK → Prop := fun vs zs H Q => ∃ F G x v r, vs = [v] ∧ zs = [.ref f] ∧ Ex F H ∧ RRep K G F H x v ∧ builtin .sortK [x.2] = some r ∧ Then K F H r Q
theorem sortk_ok {k : Nat} {f : Addr} {fd : FuncData} {y : Str} {st : Stmt} (D : DefAt X.K X.mg y st f fd ["word"]) (kd : KeyDef st) (zl : X.mg "len" = none) (hr : Room k X.A) : CallRK X (.builtin "sorted") [Str.ofString "key"] (rSk X.K f) := by
  intro pins s σ H vs us zs ws Q I rv rz h
  obtain ⟨F, G, x, v, r, rfl, rfl, eF, rx, hg, ht⟩ := h
  obtain ⟨u, rfl, ru⟩ := vals1 rv
  obtain ⟨u2, rfl, ru2⟩ := vals1 rz
  cases ru2
  obtain ⟨fl, d⟩ := x
  cases d <;> simp only [builtin] at hg <;> try cases hg
  rename_i ds
  obtain ⟨xs, h1, h2⟩ := Option.bind_eq_some_iff.mp hg
  split at h2
  · rename_i hall
    cases h2
    obtain ⟨a, vs', rfl, h3, h4⟩ := rx.lst eF
    cases ru
    have ev := h4.strs h1
    subst ev
    obtain ⟨its, rv', pl, hz⟩ := I.list (SqL.of h3)
    have el := each_strs rv'
    have hlen : xs.length ≤ sizeLine := by simpa using hz
    rw [List.all_eq_true] at hall
    have hn : ∀ b o, X.base.get? b = some o → s.heap.get? b = some o := I.bk
    refine PySem.W.sorted_key_data (b := false) keyD pl.isList el (PySem.W.AllAlike.of fun _ _ => by simp [PySem.W.alike, PySem.W.alikeAll, keyD]) (PySem.W.Sortable.tuples fun _ => ⟨_, _, rfl⟩) hlen (fun t _ => ?_) (ksk_s1 _ _) (fun _ => ksk_l1 _ _) (fun _ => ksk_t1 _ _)
      (fun v t ⟨tk, ev⟩ hm hh tk' kp => ?_) fun out c h' tk kp fr hD hol eo => ?_
    · have hd : (keyD t).depth = 1 := by simp [keyD, PyData.depth, PyData.depthAll]
      have := hr.un
      omega
    · subst ev
      refine key_run D kd I.mod zl (by have := hr.dp; show X.A.depth < _; omega) (fun b o q => kp b o (hn b o q)) t tk (by simpa using hall t hm)
    · rw [dataLe_k] at eo
      have hp : H (s.heap.objs.size + 1) = none := I.hok.fresh (Nat.le_succ _)
      refine ⟨.ref (s.heap.objs.size + 1), upd H (s.heap.objs.size + 1) (.lst (((xs.mergeSort leK).map S).map V.str)), I.laid (t' := tk) kp (Nat.le_succ _) ?_, rfl, ht.newL eF (vreps_strs _) _ hp⟩
      exact ⟨by simpa using hlen, out, c, strs_each eo, hD⟩
  · cases h2
/-- sorted(e, key=f), f the key by length -/
theorem de_sortK {k : Nat} {f : Addr} {fd : FuncData} {y x : Str} {st : Stmt} {p2 kp : Pos} (D : DefAt X.K X.mg y st f fd ["word"]) (kd : KeyDef st) (zl : X.mg "len" = none) (hr : Room k X.A) (hm : X.mg x = none) (hv : bootBuiltins x = some (.builtin "sorted")) (ha : DE X C e ce) (hg : Gl X x := by rfl) (hg2 : Gl X y := by rfl)
    (hn : x ≠ "__name__" := by decide) (hdb : (x == ("__debug__" : Str)) = false := by decide) (hdb2 : (y == ("__debug__" : Str)) = false := by decide) (he : starEach [e] X.env = (false, eval e X.env) :: starEach [] X.env := by rfl)
    (he2 : backTo pos (starEach [e] X.env) = (false, eval e X.env) :: backTo pos (starEach [] X.env) := by rfl) (hpl2 : (backTo pos (starEach [e] X.env)).any (·.1) = false := by rfl)
    (hall : (backToKw pos (keywordEach [⟨some "key", .Name y p2, kp⟩] X.env)).all (·.1.isSome) = true := by rfl) (hno : (backToKw pos (keywordEach [⟨some "key", .Name y p2, kp⟩] X.env)).any (·.1.isNone) = false := by rfl)
    (hks : (backToKw pos (keywordEach [⟨some "key", .Name y p2, kp⟩] X.env)).filterMap (·.1) = [Str.ofString "key"] := by rfl) :
    DE X C (.Call (.Name x p) [e] [⟨some "key", .Name y p2, kp⟩] pos) (.bi .sortK [ce]) := by
  have hA : PA X [e] (tCons (tD X.K C ce) tNil) := pa_cons ha pa_nil he
  have hK : PK X [⟨some "key", .Name y p2, kp⟩] (tCons (L2.tC (.ref f)) tNil) := pk_cons (pe_glob hg2 D.mg rfl hdb2) pk_nil
  refine PE.weak (pe_callBK (sortk_ok D kd zl hr) hg hm hv hA hK hn hdb he2 hpl2 hall hno hks) fun σ H Q ⟨F, env, fr, h⟩ => ?_
  simp only [evalE, evalAs] at h
  refine ⟨F, env, fr, h.bind.bind.mono fun x hx v F1 H1 g r => ?_⟩
  obtain ⟨y, ey, h2⟩ := (show Rd (lift (builtin .sortK ([x].map (·.2)))) _ _ from hx.bind).lift
  exact ⟨F1, _, x, v, y, rfl, rfl, g.fh, r, ey, h2.later g⟩
/-! ### sorted(e) -/
def rSo (K : PySem.W.Frag) : List V → Hp → VK → Prop := fun vs H Q => ∃ F G x v r, vs = [v] ∧ Ex F H ∧ RRep K G F H x v ∧ builtin .sorted [x.2] = some r ∧ Then K F H r Q
theorem sorted_ok {k : Nat} (hr : Room k X.A) : CallR X (.builtin "sorted") (rSo X.K) := by
  intro pins s σ H vs us Q I rv h
  obtain ⟨F, G, x, v, r, rfl, eF, rx, hg, ht⟩ := h
  obtain ⟨u, rfl, ru⟩ := vals1 rv
  obtain ⟨fl, d⟩ := x
  cases d <;> simp only [builtin] at hg <;> try cases hg
  · rename_i ds
    obtain ⟨a, vs', rfl, h3, h4⟩ := rx.tup
    cases ru
    have hp : H (s.heap.objs.size + 1) = none := I.hok.fresh (Nat.le_succ _)
    split at hg
    · rename_i ns h1
      cases hg
      have ev := h4.ints h1
      subst ev
      obtain ⟨its, rv', pl, hz⟩ := I.tuple (Evl.ex_t eF h3)
      have el := each_ints rv'
      have hlen : ns.length ≤ sizeLine := by simpa using hz
      refine sorted_dataT (enc := fun i : Int => .int i) (show s.heap.IsTuple a its.toArray from pl) el (el.mono fun u i ⟨t, e⟩ => ⟨[], by rw [e]; exact .int i t⟩) (PySem.W.AllAlike.of fun _ _ => by simp [PySem.W.alike]) (PySem.W.Sortable.others fun _ => ⟨by simp, by simp⟩) hlen (fun t _ => ?_) fun out hol eo => ?_
      · have := hr.un
        simp only [PyData.depth]
        omega
      · rw [PySem.W.dataLe_int (fun i => i)] at eo
        obtain ⟨ep, he'⟩ := PyProof.Rows.sortedAll_at s.heap its out.toArray
        refine ⟨.ref (s.heap.objs.size + 1), upd H (s.heap.objs.size + 1) (.lst ((ns.mergeSort fun a b => decide (a ≤ b)).map V.int)), I.laid (t' := s.toks) (fun _ _ => PyProof.Rows.sortedAll_old) (Nat.le_succ _) ⟨by simpa using hlen, out, ep, ints_each eo, he'⟩, rfl, ht.newL eF (vreps_ints _) _ hp⟩
    · split at hg
      · rename_i xs h1
        cases hg
        have ev := h4.strs h1
        subst ev
        obtain ⟨its, rv', pl, hz⟩ := I.tuple (Evl.ex_t eF h3)
        have el := each_strs rv'
        have hlen : xs.length ≤ sizeLine := by simpa using hz
        refine sorted_dataT (enc := fun t : Tx => .str (S t)) (show s.heap.IsTuple a its.toArray from pl) el (el.mono fun u i ⟨t, e⟩ => ⟨[], by rw [e]; exact .str _ t⟩) (PySem.W.AllAlike.of fun _ _ => by simp [PySem.W.alike]) (PySem.W.Sortable.others fun _ => ⟨by simp, by simp⟩) hlen (fun t _ => ?_) fun out hol eo => ?_
        · have := hr.un
          simp only [PyData.depth]
          omega
        · rw [PySem.W.dataLe_str (fun t => S t)] at eo
          simp only [S_cps] at eo
          obtain ⟨ep, he'⟩ := PyProof.Rows.sortedAll_at s.heap its out.toArray
          refine ⟨.ref (s.heap.objs.size + 1), upd H (s.heap.objs.size + 1) (.lst (((xs.mergeSort fun a b => decide (a ≤ b)).map S).map V.str)), I.laid (t' := s.toks) (fun _ _ => PyProof.Rows.sortedAll_old) (Nat.le_succ _) ⟨by simpa using hlen, out, ep, strs_each eo, he'⟩, rfl, ht.newL eF (vreps_strs _) _ hp⟩
      · obtain ⟨es, h1, h2⟩ := Option.map_eq_some_iff.mp hg
        subst h2
        unfold sortD at h1
        split at h1
        · rename_i hc
          cases h1
          obtain ⟨its, rv', pl, hz⟩ := I.tuple (Evl.ex_t eF h3)
          have q1 := rv'.length
          have q2 := h4.length
          have hlen : its.length = ds.length := by omega
          have hle : its.length ≤ sizeLine := by
            rw [hlen, ← q2]
            exact hz
          refine sorted_anyT (show s.heap.IsTuple a its.toArray from pl) hle (by omega) fun out ho => ?_
          have eo : out = its := by
            match its, hlen, ho with
            | [], _, ho => exact ho.eq_nil
            | [u], _, ho => exact List.perm_singleton.mp ho
            | _ :: _ :: _, hl, _ => simp at hl; omega
          subst eo
          obtain ⟨ep, he'⟩ := PyProof.Rows.sortedAll_at s.heap out out.toArray
          refine ⟨.ref (s.heap.objs.size + 1), upd H (s.heap.objs.size + 1) (.lst vs'), I.laid (t' := s.toks) (fun _ _ => PyProof.Rows.sortedAll_old) (Nat.le_succ _) ⟨hz, out, ep, rv', he'⟩, rfl, ht.newL eF h4 _ hp⟩
        split at h1
        · rename_i hc
          cases h1
          rw [Bool.and_eq_true, Bool.and_eq_true, Bool.or_eq_true, List.all_eq_true, List.all_eq_true, List.all_eq_true, List.all_eq_true] at hc
          obtain ⟨⟨c0, c1'⟩, c2⟩ := hc
          obtain ⟨its, rv', pl, hz⟩ := I.tuple (Evl.ex_t eF h3)
          have el := each_data rv' h4
          have hlen : ds.length ≤ sizeLine := by rw [← h4.length]; exact hz
          have c2' : ∀ d ∈ ds, ∀ d' ∈ ds, D.alike d d' = true := fun d hd d' hd' => by
            have := c2 d hd
            rw [List.all_eq_true] at this
            exact this d' hd'
          have hsr : PySem.W.Sortable (ds.map toPy) := by
            rcases c0 with c0 | c0
            · refine .inl fun a ha => ?_
              obtain ⟨x, hx, rfl⟩ := List.mem_map.mp ha
              have := c0 x hx
              match x, this with
              | .tup (z :: r), _ => exact ⟨_, _, rfl⟩
            · refine .inr fun a ha => ?_
              obtain ⟨x, hx, rfl⟩ := List.mem_map.mp ha
              have := c0 x hx
              match x, this with
              | .lst r, _ => exact ⟨fun h => by simp [toPy] at h, fun xs h => by simp [toPy] at h⟩
          refine sorted_dataT (enc := toPy) (bs := ds) (show s.heap.IsTuple a its.toArray from pl) el (each_reads I eF el c1') (fun a ha b hb => ?_) hsr hlen (fun d hd => ?_) fun out hol eo => ?_
          · obtain ⟨x, hx, rfl⟩ := List.mem_map.mp ha
            obtain ⟨y, hy, rfl⟩ := List.mem_map.mp hb
            exact alike_py _ _ (c2' x hx y hy)
          · have q1 := depth_py 59 d (c1' d hd)
            have := hr.un
            omega
          · have esrt : ds.mergeSort (PySem.W.dataLe false toPy) = ds.mergeSort D.le := by
              have := List.map_mergeSort (r := PySem.W.dataLe false toPy) (s := D.le) (f := id) (l := ds) fun a ha b hb => by
                show (!PySem.W.dataLt (toPy b) (toPy a)) = !D.lt b a
                rw [lt_py 59 59 b a (c1' b hb) (c1' a ha) (c2' b hb a ha)]
              simpa using this
            rw [esrt] at eo
            obtain ⟨vs'', q1, q2⟩ := data_each eo
            obtain ⟨ep, he'⟩ := PyProof.Rows.sortedAll_at s.heap its out.toArray
            refine ⟨.ref (s.heap.objs.size + 1), upd H (s.heap.objs.size + 1) (.lst vs''), I.laid (t' := s.toks) (fun _ _ => PyProof.Rows.sortedAll_old) (Nat.le_succ _) ⟨?_, out, ep, q1, he'⟩, rfl, ht.newL eF q2 _ hp⟩
            rw [q2.length, List.length_mergeSort]
            exact hlen
        · cases h1
  · rename_i ds
    obtain ⟨a, vs', rfl, h3, h4⟩ := rx.lst eF
    cases ru
    have hp : H (s.heap.objs.size + 1) = none := I.hok.fresh (Nat.le_succ _)
    split at hg
    · rename_i ns h1
      cases hg
      have ev := h4.ints h1
      subst ev
      obtain ⟨its, rv', pl, hz⟩ := I.list (SqL.of h3)
      have el := each_ints rv'
      have hlen : ns.length ≤ sizeLine := by simpa using hz
      refine PySem.W.sorted_data (enc := fun i : Int => .int i) pl.isList el (el.mono fun u i ⟨t, e⟩ => ⟨[], by rw [e]; exact .int i t⟩) (PySem.W.AllAlike.of fun _ _ => by simp [PySem.W.alike]) (PySem.W.Sortable.others fun _ => ⟨by simp, by simp⟩) hlen (fun t _ => ?_) fun out hol eo => ?_
      · have := hr.un
        simp only [PyData.depth]
        omega
      · rw [PySem.W.dataLe_int (fun i => i)] at eo
        obtain ⟨ep, he'⟩ := PyProof.Rows.sortedAll_at s.heap its out.toArray
        refine ⟨.ref (s.heap.objs.size + 1), upd H (s.heap.objs.size + 1) (.lst ((ns.mergeSort fun a b => decide (a ≤ b)).map V.int)), I.laid (t' := s.toks) (fun _ _ => PyProof.Rows.sortedAll_old) (Nat.le_succ _) ⟨by simpa using hlen, out, ep, ints_each eo, he'⟩, rfl, ht.newL eF (vreps_ints _) _ hp⟩
    · split at hg
      · rename_i xs h1
        cases hg
        have ev := h4.strs h1
        subst ev
        obtain ⟨its, rv', pl, hz⟩ := I.list (SqL.of h3)
        have el := each_strs rv'
        have hlen : xs.length ≤ sizeLine := by simpa using hz
        refine PySem.W.sorted_data (enc := fun t : Tx => .str (S t)) pl.isList el (el.mono fun u i ⟨t, e⟩ => ⟨[], by rw [e]; exact .str _ t⟩) (PySem.W.AllAlike.of fun _ _ => by simp [PySem.W.alike]) (PySem.W.Sortable.others fun _ => ⟨by simp, by simp⟩) hlen (fun t _ => ?_) fun out hol eo => ?_
        · have := hr.un
          simp only [PyData.depth]
          omega
        · rw [PySem.W.dataLe_str (fun t => S t)] at eo
          simp only [S_cps] at eo
          obtain ⟨ep, he'⟩ := PyProof.Rows.sortedAll_at s.heap its out.toArray
          refine ⟨.ref (s.heap.objs.size + 1), upd H (s.heap.objs.size + 1) (.lst (((xs.mergeSort fun a b => decide (a ≤ b)).map S).map V.str)), I.laid (t' := s.toks) (fun _ _ => PyProof.Rows.sortedAll_old) (Nat.le_succ _) ⟨by simpa using hlen, out, ep, strs_each eo, he'⟩, rfl, ht.newL eF (vreps_strs _) _ hp⟩
      · obtain ⟨es, h1, h2⟩ := Option.map_eq_some_iff.mp hg
        subst h2
        unfold sortD at h1
        split at h1
        · rename_i hc
          cases h1
          obtain ⟨its, rv', pl, hz⟩ := I.list (SqL.of h3)
          have q1 := rv'.length
          have q2 := h4.length
          have hlen : its.length = ds.length := by omega
          have hle : its.length ≤ sizeLine := by
            rw [hlen, ← q2]
            exact hz
          refine Srt.sorted_any pl.isList hle (fun h2 => absurd h2 (by omega)) fun out ho => ?_
          have eo : out = its := by
            match its, hlen, ho with
            | [], _, ho => exact ho.eq_nil
            | [u], _, ho => exact List.perm_singleton.mp ho
            | _ :: _ :: _, hl, _ => simp at hl; omega
          subst eo
          obtain ⟨ep, he'⟩ := PyProof.Rows.sortedAll_at s.heap out out.toArray
          refine ⟨.ref (s.heap.objs.size + 1), upd H (s.heap.objs.size + 1) (.lst vs'), I.laid (t' := s.toks) (fun _ _ => PyProof.Rows.sortedAll_old) (Nat.le_succ _) ⟨hz, out, ep, rv', he'⟩, rfl, ht.newL eF h4 _ hp⟩
        split at h1
        · rename_i hc
          cases h1
          rw [Bool.and_eq_true, Bool.and_eq_true, Bool.or_eq_true, List.all_eq_true, List.all_eq_true, List.all_eq_true, List.all_eq_true] at hc
          obtain ⟨⟨c0, c1'⟩, c2⟩ := hc
          obtain ⟨its, rv', pl, hz⟩ := I.list (SqL.of h3)
          have el := each_data rv' h4
          have hlen : ds.length ≤ sizeLine := by rw [← h4.length]; exact hz
          have c2' : ∀ d ∈ ds, ∀ d' ∈ ds, D.alike d d' = true := fun d hd d' hd' => by
            have := c2 d hd
            rw [List.all_eq_true] at this
            exact this d' hd'
          have hsr : PySem.W.Sortable (ds.map toPy) := by
            rcases c0 with c0 | c0
            · refine .inl fun a ha => ?_
              obtain ⟨x, hx, rfl⟩ := List.mem_map.mp ha
              have := c0 x hx
              match x, this with
              | .tup (z :: r), _ => exact ⟨_, _, rfl⟩
            · refine .inr fun a ha => ?_
              obtain ⟨x, hx, rfl⟩ := List.mem_map.mp ha
              have := c0 x hx
              match x, this with
              | .lst r, _ => exact ⟨fun h => by simp [toPy] at h, fun xs h => by simp [toPy] at h⟩
          refine PySem.W.sorted_data (enc := toPy) (bs := ds) pl.isList el (each_reads I eF el c1') (fun a ha b hb => ?_) hsr hlen (fun d hd => ?_) fun out hol eo => ?_
          · obtain ⟨x, hx, rfl⟩ := List.mem_map.mp ha
            obtain ⟨y, hy, rfl⟩ := List.mem_map.mp hb
            exact alike_py _ _ (c2' x hx y hy)
          · have q1 := depth_py 59 d (c1' d hd)
            have := hr.un
            omega
          · have esrt : ds.mergeSort (PySem.W.dataLe false toPy) = ds.mergeSort D.le := by
              have := List.map_mergeSort (r := PySem.W.dataLe false toPy) (s := D.le) (f := id) (l := ds) fun a ha b hb => by
                show (!PySem.W.dataLt (toPy b) (toPy a)) = !D.lt b a
                rw [lt_py 59 59 b a (c1' b hb) (c1' a ha) (c2' b hb a ha)]
              simpa using this
            rw [esrt] at eo
            obtain ⟨vs'', q1, q2⟩ := data_each eo
            obtain ⟨ep, he'⟩ := PyProof.Rows.sortedAll_at s.heap its out.toArray
            refine ⟨.ref (s.heap.objs.size + 1), upd H (s.heap.objs.size + 1) (.lst vs''), I.laid (t' := s.toks) (fun _ _ => PyProof.Rows.sortedAll_old) (Nat.le_succ _) ⟨?_, out, ep, q1, he'⟩, rfl, ht.newL eF q2 _ hp⟩
            rw [q2.length, List.length_mergeSort]
            exact hlen
        · cases h1
theorem de_sorted {k : Nat} {x : Str} (hr : Room k X.A) (hm : X.mg x = none) (hv : bootBuiltins x = some (.builtin "sorted")) (ha : DE X C e ce) (hg : Gl X x := by rfl) (hn : x ≠ "__name__" := by decide) (hdb : (x == ("__debug__" : Str)) = false := by decide)
    (he : starEach [e] X.env = (false, eval e X.env) :: starEach [] X.env := by rfl) (hpl : (backTo pos (starEach [] X.env)).any (·.1) = false := by rfl) : DE X C (.Call (.Name x p) [e] [] pos) (.bi .sorted [ce]) := by
  have hA : PA X [e] (tCons (tD X.K C ce) tNil) := pa_cons ha pa_nil he
  refine PE.weak (pe_callB (sorted_ok hr) hg hm hv hA hn hdb he hpl) fun σ H Q ⟨F, env, fr, h⟩ => ?_
  simp only [evalE, evalAs] at h
  refine ⟨F, env, fr, h.bind.bind.mono fun x hx v F1 H1 g r => ?_⟩
  obtain ⟨y, ey, h2⟩ := (show Rd (lift (builtin .sorted ([x].map (·.2)))) _ _ from hx.bind).lift
  exact ⟨F1, _, x, v, y, rfl, g.fh, r, ey, h2.later g⟩
end
theorem lookup_relab {f : Str → NameKind → Bool} : ∀ {names : List (Str × NameKind)} {x : Str}, names.lookup x = some .cell ∨ names.lookup x = some .free →
    (names.map fun (n, k) => if (k == NameKind.free && f n k) then (n, NameKind.cell) else (n, k)).lookup x = some .cell ∨ (names.map fun (n, k) => if (k == NameKind.free && f n k) then (n, NameKind.cell) else (n, k)).lookup x = some .free
  | [], _, h => by simp at h
  | (n, k) :: r, x, h => by
    have ih := @lookup_relab f r x
    show List.lookup x ((if (k == NameKind.free && f n k) = true then (n, NameKind.cell) else (n, k)) :: _) = _ ∨ List.lookup x ((if (k == NameKind.free && f n k) = true then (n, NameKind.cell) else (n, k)) :: _) = _
    cases hx : x == n with
    | true =>
      simp only [List.lookup_cons, hx] at h
      by_cases hc : (k == NameKind.free && f n k) = true
      · rw [if_pos hc]; simp only [List.lookup_cons, hx]; exact .inl trivial
      · rw [if_neg hc]; simp only [List.lookup_cons, hx]; exact h
    | false =>
      simp only [List.lookup_cons, hx] at h
      by_cases hc : (k == NameKind.free && f n k) = true
      · rw [if_pos hc]; simp only [List.lookup_cons, hx]; exact ih h
      · rw [if_neg hc]; simp only [List.lookup_cons, hx]; exact ih h
/-- a comprehension within a comprehension -/
theorem blkOk_in {N : List Str} {sc scope : Scope} {env : PySem.Env} {own : List (Str × Nat)} (h : blkC N sc scope own = true) : BlkOk N (relabel sc env) scope own := by
  have b := blkOk_by h
  refine ⟨b.kind, b.uniq, b.ix, fun y hy e => ?_, b.own⟩
  have q := b.free y hy e
  have r := lookup_relab (f := fun n k => env.scope.kind == .function && env.kindOf n == some .cell) q
  unfold relabel
  simpa only [Bool.and_assoc] using r
end PF

/-! max, min of texts; max, min with default=. -/
namespace PF
open PySem PySem.Spec PyProof.Rows L2
theorem reads_txs {h : Heap} : ∀ {xs : List Tx} {us : List Value}, Vals ((xs.map S).map V.str) us → ∃ as, ReadsAll h us (xs.map fun t => PyData.str (S t)) as
  | [], _, v => by cases v; exact ⟨_, .nil⟩
  | x :: xs, _, v => by
    cases v with
    | cons h1 h2 =>
      obtain ⟨tk, rfl⟩ := h1
      obtain ⟨as, q⟩ := reads_txs (h := h) h2
      exact ⟨_, .cons (.str _ tk) q⟩
theorem reads_ints {h : Heap} : ∀ {xs : List Int} {us : List Value}, Vals (xs.map V.int) us → ∃ as, ReadsAll h us (xs.map PyData.int) as
  | [], _, v => by cases v; exact ⟨_, .nil⟩
  | x :: xs, _, v => by
    cases v with
    | cons h1 h2 =>
      obtain ⟨tk, rfl⟩ := h1
      obtain ⟨as, q⟩ := reads_ints (h := h) h2
      exact ⟨_, .cons (.int _ tk) q⟩
theorem depth_txs : ∀ xs : List Tx, PyData.depthAll (xs.map fun t => PyData.str (S t)) = 0
  | [] => rfl
  | x :: xs => by simp [PyData.depthAll, PyData.depth, depth_txs xs]
theorem depth_ints : ∀ xs : List Int, PyData.depthAll (xs.map PyData.int) = 0
  | [] => rfl
  | x :: xs => by simp [PyData.depthAll, PyData.depth, depth_ints xs]
theorem alike_txs (xs : List Tx) : PySem.W.AlikeAll (xs.map fun t => PyData.str (S t)) := by
  refine ⟨fun a ha b hb => ?_, fun a ha => ?_⟩
  · obtain ⟨s, _, rfl⟩ := List.mem_map.mp ha
    obtain ⟨t, _, rfl⟩ := List.mem_map.mp hb
    rfl
  · obtain ⟨s, _, rfl⟩ := List.mem_map.mp ha
    simp
theorem alike_ints (xs : List Int) : PySem.W.AlikeAll (xs.map PyData.int) := by
  refine ⟨fun a ha b hb => ?_, fun a ha => ?_⟩
  · obtain ⟨s, _, rfl⟩ := List.mem_map.mp ha
    obtain ⟨t, _, rfl⟩ := List.mem_map.mp hb
    rfl
  · obtain ⟨s, _, rfl⟩ := List.mem_map.mp ha
    simp
theorem minD_txs : ∀ (xs : List Tx) (t : Tx), PySem.W.minD (.str (S t)) (xs.map fun t => PyData.str (S t)) = .str (S (xs.foldl (fun a y => if ltTx y a then y else a) t))
  | [], t => rfl
  | x :: xs, t => by
    have ih := minD_txs xs (if ltTx x t then x else t)
    unfold PySem.W.minD at ih ⊢
    rw [List.map_cons, List.foldl_cons, List.foldl_cons, ← ih, PySem.W.dataLt_str, S_cps, S_cps]
    congr 1
    show (if ltTx x t = true then _ else _) = _
    split <;> rfl
theorem maxD_txs : ∀ (xs : List Tx) (t : Tx), PySem.W.maxD (.str (S t)) (xs.map fun t => PyData.str (S t)) = .str (S (xs.foldl (fun a y => if ltTx a y then y else a) t))
  | [], t => rfl
  | x :: xs, t => by
    have ih := maxD_txs xs (if ltTx t x then x else t)
    unfold PySem.W.maxD at ih ⊢
    rw [List.map_cons, List.foldl_cons, List.foldl_cons, ← ih, PySem.W.dataLt_str, S_cps, S_cps]
    congr 1
    show (if ltTx t x = true then _ else _) = _
    split <;> rfl
theorem fold_max : ∀ (xs : List Int) (n : Int), (xs.foldl max n = n ∨ xs.foldl max n ∈ xs) ∧ n ≤ xs.foldl max n ∧ ∀ y ∈ xs, y ≤ xs.foldl max n
  | [], n => by simp
  | x :: xs, n => by
    obtain ⟨h1, h2, h3⟩ := fold_max xs (max n x)
    rw [List.foldl_cons]
    refine ⟨?_, by omega, fun y hy => ?_⟩
    · rcases h1 with h1 | h1
      · rw [h1]
        by_cases h : n ≤ x
        · exact .inr (by rw [show max n x = x by omega]; exact List.mem_cons_self)
        · exact .inl (by omega)
      · exact .inr (List.mem_cons_of_mem _ h1)
    · rcases List.mem_cons.mp hy with e | hy
      · omega
      · exact h3 y hy
theorem fold_min : ∀ (xs : List Int) (n : Int), (xs.foldl min n = n ∨ xs.foldl min n ∈ xs) ∧ xs.foldl min n ≤ n ∧ ∀ y ∈ xs, xs.foldl min n ≤ y
  | [], n => by simp
  | x :: xs, n => by
    obtain ⟨h1, h2, h3⟩ := fold_min xs (min n x)
    rw [List.foldl_cons]
    refine ⟨?_, by omega, fun y hy => ?_⟩
    · rcases h1 with h1 | h1
      · rw [h1]
        by_cases h : x ≤ n
        · exact .inr (by rw [show min n x = x by omega]; exact List.mem_cons_self)
        · exact .inl (by omega)
      · exact .inr (List.mem_cons_of_mem _ h1)
    · rcases List.mem_cons.mp hy with e | hy
      · omega
      · exact h3 y hy
theorem maxI_fold {n : Int} {xs : List Int} {m : Int} (h : maxI (n :: xs) = some m) : xs.foldl max n = m := by
  obtain ⟨h1, h2⟩ := maxI_spec h
  obtain ⟨h3, h4, h5⟩ := fold_max xs n
  apply Int.le_antisymm
  · rcases h3 with h3 | h3
    · rw [h3]; exact h2 n List.mem_cons_self
    · exact h2 _ (List.mem_cons_of_mem _ h3)
  · rcases List.mem_cons.mp h1 with e | e
    · rw [e]; exact h4
    · exact h5 m e
theorem minI_fold {n : Int} {xs : List Int} {m : Int} (h : minI (n :: xs) = some m) : xs.foldl min n = m := by
  obtain ⟨h1, h2⟩ := minI_spec h
  obtain ⟨h3, h4, h5⟩ := fold_min xs n
  apply Int.le_antisymm
  · rcases List.mem_cons.mp h1 with e | e
    · rw [e]; exact h4
    · exact h5 m e
  · rcases h3 with h3 | h3
    · rw [h3]; exact h2 n List.mem_cons_self
    · exact h2 _ (List.mem_cons_of_mem _ h3)
def bestN (mx : Bool) : String := if mx then "max" else "min"
section
variable {X : Cx} {C : Ctx} {e e2 : PySem.Expr} {ce ce2 : CE} {pos p : Pos}
/-- the best of items, one at least, as a text or a number -/
theorem best_vals {K : PySem.W.Frag} {F : Hp} {mx : Bool} {ds : List D} {vs : List V} {us : List Value} {d : D} {h : Heap} (hg : bestD mx ds = some d) (rv : VReps K F vs ds) (qv : Vals vs us) :
    ∃ (x : PyData) (xs : List PyData) (as : List Addr), ReadsAll h us (x :: xs) as ∧ PySem.W.AlikeAll (x :: xs) ∧ PyData.depthAll (x :: xs) = 0 ∧
      ∀ v bs h', Reads h' v (if mx then PySem.W.maxD x xs else PySem.W.minD x xs) bs → ∃ w, RelV w v ∧ ∀ F', VRep K F' w d := by
  unfold bestD at hg
  split at hg
  · rename_i ns hn
    have ev := rv.ints hn
    subst ev
    obtain ⟨m, h1, h2⟩ := Option.map_eq_some_iff.mp hg
    subst h2
    cases ns with
    | nil => cases mx <;> simp [maxI, minI] at h1
    | cons n ns =>
      obtain ⟨as, q⟩ := reads_ints (h := h) qv
      refine ⟨.int n, ns.map PyData.int, as, q, alike_ints (n :: ns), depth_ints (n :: ns), fun v bs h' hr => ?_⟩
      cases mx with
      | true =>
        rw [if_pos rfl] at hr h1
        rw [PySem.W.maxD_ints, maxI_fold h1] at hr
        cases hr
        exact ⟨.int m, ⟨_, rfl⟩, fun F' => .int m⟩
      | false =>
        rw [if_neg Bool.false_ne_true] at hr h1
        rw [PySem.W.minD_ints, minI_fold h1] at hr
        cases hr
        exact ⟨.int m, ⟨_, rfl⟩, fun F' => .int m⟩
  · obtain ⟨xs, hx, hg⟩ := Option.bind_eq_some_iff.mp hg
    have ev := rv.strs hx
    subst ev
    obtain ⟨m, h1, h2⟩ := Option.map_eq_some_iff.mp hg
    subst h2
    cases xs with
    | nil => simp [bestT] at h1
    | cons x xs =>
      obtain ⟨as, q⟩ := reads_txs (h := h) qv
      simp only [bestT] at h1
      cases h1
      refine ⟨.str (S x), xs.map fun t => PyData.str (S t), as, q, alike_txs (x :: xs), depth_txs (x :: xs), fun v bs h' hr => ?_⟩
      cases mx with
      | true =>
        rw [if_pos rfl, maxD_txs] at hr
        cases hr
        exact ⟨.str (S _), ⟨_, rfl⟩, fun F' => .str _⟩
      | false =>
        rw [if_neg Bool.false_ne_true, minD_txs] at hr
        cases hr
        exact ⟨.str (S _), ⟨_, rfl⟩, fun F' => .str _⟩
def rBest (K : PySem.W.Frag) (mx : Bool) : List V → Hp → VK → Prop := fun vs H Q => ∃ F G x v r, vs = [v] ∧ Ex F H ∧ RRep K G F H x v ∧ builtin (.best mx) [x.2] = some r ∧ Then K F H r Q
theorem best_ok {k : Nat} (mx : Bool) (hc : X.calm = true) (hr : Room k X.A) : CallR X (.builtin (bestN mx)) (rBest X.K mx) := by
  intro pins s σ H vs us Q I rv h
  obtain ⟨F, G, x, v, r, rfl, eF, rx, hg, ht⟩ := h
  obtain ⟨u, rfl, ru⟩ := vals1 rv
  obtain ⟨fl, d⟩ := x
  cases d <;> simp only [builtin] at hg <;> try cases hg
  · rename_i ds
    obtain ⟨d, hd, he⟩ := Option.map_eq_some_iff.mp hg
    subst he
    obtain ⟨a, vs', rfl, h3, h4⟩ := rx.tup
    cases ru
    obtain ⟨its, rv', pl, hz⟩ := I.tuple (Evl.ex_t eF h3)
    obtain ⟨y, ys, as, q1, q2, q3, q4⟩ := best_vals (h := s.heap) hd h4 rv'
    have hu : X.A.units + 1 + PyData.depthAll (y :: ys) < cLine := by
      have := hr.un
      rw [q3]
      omega
    cases mx with
    | true =>
      refine PySem.W.max_tuple_data (I.ok.hd hc) (show s.heap.IsTuple a its.toArray from pl) (by simpa using q1) q2 hu fun i v h' tk bs _ hrd hk => ?_
      obtain ⟨w, r1, r2⟩ := q4 v bs h' hrd
      exact ⟨w, H, I.kept hk, r1, ht.pl eF (r2 _)⟩
    | false =>
      refine PySem.W.min_tuple_data (I.ok.hd hc) (show s.heap.IsTuple a its.toArray from pl) (by simpa using q1) q2 hu fun i v h' tk bs _ hrd hk => ?_
      obtain ⟨w, r1, r2⟩ := q4 v bs h' hrd
      exact ⟨w, H, I.kept hk, r1, ht.pl eF (r2 _)⟩
  · rename_i ds
    obtain ⟨d, hd, he⟩ := Option.map_eq_some_iff.mp hg
    subst he
    obtain ⟨a, vs', rfl, h3, h4⟩ := rx.lst eF
    cases ru
    obtain ⟨its, rv', pl, hz⟩ := I.list (SqL.of h3)
    obtain ⟨y, ys, as, q1, q2, q3, q4⟩ := best_vals (h := s.heap) hd h4 rv'
    have hu : X.A.units + 1 + PyData.depthAll (y :: ys) < cLine := by
      have := hr.un
      rw [q3]
      omega
    cases mx with
    | true =>
      refine PySem.W.max_list_data (I.ok.hd hc) pl.isList (by simpa using q1) q2 hu fun i v h' tk bs _ hrd hk => ?_
      obtain ⟨w, r1, r2⟩ := q4 v bs h' hrd
      exact ⟨w, H, I.kept hk, r1, ht.pl eF (r2 _)⟩
    | false =>
      refine PySem.W.min_list_data (I.ok.hd hc) pl.isList (by simpa using q1) q2 hu fun i v h' tk bs _ hrd hk => ?_
      obtain ⟨w, r1, r2⟩ := q4 v bs h' hrd
      exact ⟨w, H, I.kept hk, r1, ht.pl eF (r2 _)⟩
theorem de_best {k : Nat} (mx : Bool) {x : Str} (hr : Room k X.A) (hm : X.mg x = none) (hv : bootBuiltins x = some (.builtin (bestN mx))) (hc : X.calm = true) (ha : DE X C e ce) (hg : Gl X x := by rfl) (hn : x ≠ "__name__" := by decide) (hdb : (x == ("__debug__" : Str)) = false := by decide)
    (he : starEach [e] X.env = (false, eval e X.env) :: starEach [] X.env := by rfl) (hpl : (backTo pos (starEach [] X.env)).any (·.1) = false := by rfl) : DE X C (.Call (.Name x p) [e] [] pos) (.bi (.best mx) [ce]) := by
  have hA : PA X [e] (tCons (tD X.K C ce) tNil) := pa_cons ha pa_nil he
  refine PE.weak (pe_callB (best_ok mx hc hr) hg hm hv hA hn hdb he hpl) fun σ H Q ⟨F, env, fr, h⟩ => ?_
  simp only [evalE, evalAs] at h
  refine ⟨F, env, fr, h.bind.bind.mono fun x hx v F1 H1 g r => ?_⟩
  obtain ⟨y, ey, h2⟩ := (show Rd (lift (builtin (.best mx) ([x].map (·.2)))) _ _ from hx.bind).lift
  exact ⟨F1, _, x, v, y, rfl, g.fh, r, ey, h2.later g⟩
def rBestd (K : PySem.W.Frag) (mx : Bool) : List V → List V → Hp → VK → Prop := fun vs zs H Q => ∃ F G1 G2 x y v z r, vs = [v] ∧ zs = [z] ∧ Ex F H ∧ RRep K G1 F H x v ∧ RRep K G2 F H y z ∧ builtin (.bestd mx) [x.2, y.2] = some r ∧ Then K F H r Q
theorem bestd_ok {k : Nat} (mx : Bool) (hc : X.calm = true) (hr : Room k X.A) : CallRK X (.builtin (bestN mx)) [Str.ofString "default"] (rBestd X.K mx) := by
  intro pins s σ H vs us zs ws Q I rv rz h
  obtain ⟨F, G1, G2, x, y, v, z, r, rfl, rfl, eF, rx, ry, hg, ht⟩ := h
  obtain ⟨u, rfl, ru⟩ := vals1 rv
  obtain ⟨u2, rfl, ru2⟩ := vals1 rz
  obtain ⟨fl, d⟩ := x
  obtain ⟨fl2, d2⟩ := y
  cases d <;> simp only [builtin] at hg <;> try cases hg
  rename_i ds
  obtain ⟨a, vs', rfl, h3, h4⟩ := rx.lst eF
  cases ru
  obtain ⟨its, rv', pl, hz⟩ := I.list (SqL.of h3)
  cases ds with
  | nil =>
    cases h4
    cases rv'
    rw [if_pos (show (([] : List D).isEmpty = true) from rfl)] at hg
    split at hg
    · rename_i hfl
      cases hg
      have rz' : ∀ F', VRep X.K F' z d2 := fun F' => by
        cases fl2 with
        | pl => exact VRep.flatD (show VRep X.K F z d2 from ry) hfl
        | bo => obtain ⟨_, _, _, _, _, hb⟩ := ry; cases hb <;> cases hfl
        | fr => obtain ⟨⟨_, _, _, _, _, hb⟩, _⟩ := ry; cases hb <;> cases hfl
      have hu : X.A.units + 1 + PyData.depthAll [] < cLine := by
        have := hr.un
        simp only [PyData.depthAll]
        omega
      have al : PySem.W.AlikeAll ([] : List PyData) := ⟨fun a ha => by simp at ha, fun a ha => by simp at ha⟩
      cases mx with
      | true => exact PySem.W.max_list_default (I.ok.hd hc) pl.isList .nil al hu (fun _ h' tk hk => ⟨z, H, I.kept hk, ru2, ht.pl eF (rz' _)⟩) (fun y ys i v h' tk bs e => by cases e)
      | false => exact PySem.W.min_list_default (I.ok.hd hc) pl.isList .nil al hu (fun _ h' tk hk => ⟨z, H, I.kept hk, ru2, ht.pl eF (rz' _)⟩) (fun y ys i v h' tk bs e => by cases e)
    · cases hg
  | cons d0 ds =>
    rw [if_neg (by simp)] at hg
    obtain ⟨d, hd, he⟩ := Option.map_eq_some_iff.mp hg
    subst he
    obtain ⟨y, ys, as, q1, q2, q3, q4⟩ := best_vals (h := s.heap) hd h4 rv'
    have hu : X.A.units + 1 + PyData.depthAll (y :: ys) < cLine := by
      have := hr.un
      rw [q3]
      omega
    cases mx with
    | true =>
      refine PySem.W.max_list_default (I.ok.hd hc) pl.isList (by simpa using q1) q2 hu (fun e => by cases e) fun y' ys' i v h' tk bs e _ hrd hk => ?_
      cases e
      obtain ⟨w, r1, r2⟩ := q4 v bs h' hrd
      exact ⟨w, H, I.kept hk, r1, ht.pl eF (r2 _)⟩
    | false =>
      refine PySem.W.min_list_default (I.ok.hd hc) pl.isList (by simpa using q1) q2 hu (fun e => by cases e) fun y' ys' i v h' tk bs e _ hrd hk => ?_
      cases e
      obtain ⟨w, r1, r2⟩ := q4 v bs h' hrd
      exact ⟨w, H, I.kept hk, r1, ht.pl eF (r2 _)⟩
theorem de_bestd {k : Nat} (mx : Bool) {x : Str} {kp : Pos} (hr : Room k X.A) (hm : X.mg x = none) (hv : bootBuiltins x = some (.builtin (bestN mx))) (hc : X.calm = true) (ha : DE X C e ce) (hb : DE X C e2 ce2) (hg : Gl X x := by rfl)
    (hn : x ≠ "__name__" := by decide) (hdb : (x == ("__debug__" : Str)) = false := by decide) (he : starEach [e] X.env = (false, eval e X.env) :: starEach [] X.env := by rfl)
    (he2 : backTo pos (starEach [e] X.env) = (false, eval e X.env) :: backTo pos (starEach [] X.env) := by rfl) (hpl2 : (backTo pos (starEach [e] X.env)).any (·.1) = false := by rfl)
    (hall : (backToKw pos (keywordEach [⟨some "default", e2, kp⟩] X.env)).all (·.1.isSome) = true := by rfl) (hno : (backToKw pos (keywordEach [⟨some "default", e2, kp⟩] X.env)).any (·.1.isNone) = false := by rfl)
    (hks : (backToKw pos (keywordEach [⟨some "default", e2, kp⟩] X.env)).filterMap (·.1) = [Str.ofString "default"] := by rfl) :
    DE X C (.Call (.Name x p) [e] [⟨some "default", e2, kp⟩] pos) (.bi (.bestd mx) [ce, ce2]) := by
  have hA : PA X [e] (tCons (tD X.K C ce) tNil) := pa_cons ha pa_nil he
  have hK : PK X [⟨some "default", e2, kp⟩] (tCons (tD X.K C ce2) tNil) := pk_cons hb pk_nil
  refine PE.weak (pe_callBK (bestd_ok mx hc hr) hg hm hv hA hK hn hdb he2 hpl2 hall hno hks) fun σ H Q ⟨F, env, fr, h⟩ => ?_
  simp only [evalE, evalAs] at h
  refine ⟨F, env, fr, h.bind.bind.mono fun x hx v F1 H1 g r => ⟨F1, env, fr.grow g, hx.bind.bind.mono fun y hy w F2 H2 g2 r2 => ?_⟩⟩
  obtain ⟨z, ez, h2⟩ := (show Rd (lift (builtin (.bestd mx) ([x, y].map (·.2)))) _ _ from hy.bind).lift
  exact ⟨F2, _, _, x, y, v, w, z, rfl, rfl, g2.fh, r.grow g2, r2, ez, h2.later (g.trans g2)⟩
end
end PF

/-! list.pop(i), a list or a tuple walked, list(range(..)), math.gcd. -/
namespace PF
open PySem PySem.Spec PyProof.Rows L2
section
variable {X : Cx} {C : Ctx} {a b c e tg : PySem.Expr} {ca cb cc ce : CE} {pos p pos' : Pos} {es : List PySem.Expr} {cs : List CE}
theorem ds_popNi (i j : Nat) {x y : Str} {px apos cpos : Pos} (he : DE X C e ce) (hNd : X.N.Nodup) (hy : X.N[i]? = some y := by rfl) (hyl : Loc X.env.scope y := by first | exact Or.inl rfl | exact Or.inr rfl) (hN : X.N[j]? = some x := by rfl)
    (hv : Vis X.env.scope x := by first | exact Or.inl rfl | exact Or.inr (Or.inl rfl) | exact Or.inr (Or.inr rfl)) (hd : (x == ("__debug__" : Str)) = false := by decide) (hcd : (x == ("__classdict__" : Str)) = false := by decide)
    (hbase : attributeBase (.Name x px) "pop" X.env (eval (.Name x px) X.env) = eval (.Name x px) X.env := by rfl)
    (hfew : ((backTo cpos (starEach [e] X.env)).all (fun x => !x.1) && (backToKw cpos (keywordEach [] X.env)).all (fun x => x.1.isSome) && decide (([e] : List PySem.Expr).length + ([] : List Keyword).length + (if ([] : List Keyword).isEmpty then 0 else 1) < 30)) = true := by rfl)
    (hline : (apos.endLine == cpos.line) = true := by rfl) (hs : starEach [e] X.env = (false, eval e X.env) :: starEach [] X.env := by rfl) (hplain : (backTo cpos (starEach [] X.env)).any (·.1) = false := by rfl)
    (hsw : swapsWith (.Call (.Attribute (.Name x px) "pop" apos) [e] [] cpos) (some (.Name y pos')) pos.line X.env = pure false := by rfl) (hf : X.fn y = true ∨ X.env.scope.names.lookup y = some .local := by first | exact .inl rfl | exact .inr rfl) :
    DS X C (.Assign [.Name y pos'] (.Call (.Attribute (.Name x px) "pop" apos) [e] [] cpos) pos) (.pop [i] j (.yes ce)) :=
  PS.weak' (ps_set hNd hy hyl (pe_bm PySem.F.plainAttrs_list PySem.F.slot_list_pop PySem.F.type_list_pop mt_popAt (pe_var hN hv hd hcd) (pa_cons he pa_nil hs) hbase hfew hline hs hplain) hsw hf) fun D σ H ⟨F, env, f, h⟩ => by
    simp only [exec, evalO] at h
    obtain ⟨ds, ej, hx⟩ := h.bind.ownL
    obtain ⟨q, vs, q1, q2, q3, _⟩ := f.mut (ds' := []) ej
    refine ⟨_, q1, .inl ⟨rfl, vs, SqL.of q2⟩, F, env, f, hx.bind.bind.mono fun x hx v F1 H1 g r => ?_⟩
    obtain ⟨fl, k, rfl, hx2⟩ := hx.bind.asInt
    clear hx
    cases r.int
    have f1 := f.grow g
    by_cases hk : -1000000 ≤ k ∧ k ≤ 1000000
    · cases hn : PF.ixN ds.length k with
      | none => simp [R.pure_eq, R.ok_bind, hk, hn, Rd] at hx2
      | some n =>
        have hx2 := show Rd _ (fun a => Rd _ (EndS X.K C D F) C.E) C.E from hx2
        have hx2 := (show ∀ {α : Type} {a : α} {P : α → Prop}, Rd (R.ok a) P C.E → P a from fun h => h) hx2
        simp only [hk, and_self, if_true, hn] at hx2
        have hx2 := hx2.mono fun o ho => ho.up g.ff
        obtain ⟨q', vs', w, q1', q2', q3', q4', _, q6'⟩ := pop_of (t := [i]) (g := gName i) f1 ej (.inr (gok_name i)) hx2
        rw [q1] at q1'
        cases q1'
        refine ⟨q, vs', k, n, w, rfl, rfl, q2', by omega, by omega, ?_, q4', ?_⟩
        · rw [q3']
          exact (L2.ixN_seq (show L2.ixN ds.length k = some n from hn)).1
        · have := q6' (gok_name i) (by simp)
          exact this
    · simp [R.pure_eq, R.ok_bind, hk, Rd] at hx2
/-- a list or a tuple, walked -/
theorem di_any (ha : DE X C a ca) : DI X C tg a (.seq .any ca) := by
  refine ⟨fun pins s σ H R I ⟨F, env, f, h⟩ => ?_⟩
  cases hv : evalE C.Φ ca env with
  | stuck => simp only [evalI, hv] at h; exact h.elim
  | exc n d =>
    refine (di_list (tg := tg) ha).run pins s σ H R I ⟨F, env, f, ?_⟩
    simp only [evalI, hv] at h ⊢
    exact h
  | ok x =>
    obtain ⟨fl, d⟩ := x
    cases d with
    | lst ds =>
      refine (di_list (tg := tg) ha).run pins s σ H R I ⟨F, env, f, ?_⟩
      simp only [evalI, hv] at h ⊢
      exact h
    | tup ds =>
      refine (di_tup (tg := tg) ha).run pins s σ H R I ⟨F, env, f, ?_⟩
      simp only [evalI, hv] at h ⊢
      exact h
    | _ => simp only [evalI, hv] at h; exact h.elim
theorem rgV_rep {K : PySem.W.Frag} {F : Hp} (i j : Int) : VReps K F (rgV i j) (rangeI i (j - i).toNat) := by
  unfold rgV rangeI
  generalize List.range (j - i).toNat = l
  induction l with
  | nil => exact .nil
  | cons x l ih => exact .cons (.int _) ih
theorem lrg_fin {F H F1 H1 : Hp} {env : Env} {Q : VK} {i j : Int} (g : Grow F H F1 H1) (hr : rgOk i = true ∧ rgOk j = true) (h : Then X.K F H (.fr, .lst (rangeI i (j - i).toNat)) Q) : RgOk i j ∧ ∀ q, H1 q = none → Q (.ref q) (upd H1 q (.lst (rgV i j))) := by
  obtain ⟨a1, a2⟩ := rgOk_iff hr.1
  obtain ⟨b1, b2⟩ := rgOk_iff hr.2
  refine ⟨⟨by omega, by omega, by omega, by omega, by omega⟩, ?_⟩
  exact (h.later g).newL g.fh (rgV_rep i j)
theorem de_lrg1 {p2 pos2 : Pos} (ha : DE X C a ca) (hm : X.mg "range" = none) (hm2 : X.mg "list" = none) (hc : X.calm = true) (hg : Gl X "range" := by rfl) (hg2 : Gl X "list" := by rfl) (na : starEach [a] X.env = (false, eval a X.env) :: starEach [] X.env := by rfl)
    (nb : starEach [.Call (.Name "range" p) [a] [] pos] X.env = (false, eval (.Call (.Name "range" p) [a] [] pos) X.env) :: starEach [] X.env := by rfl) :
    DE X C (.Call (.Name "list" p2) [.Call (.Name "range" p) [a] [] pos] [] pos2) (.lrg (.cst (.int 0)) ca) :=
  PE.weak (pe_listRg hc hg2 hm2 (prg_1 hg hm ha na) nb) fun σ H Q ⟨F, env, f, h⟩ => by
    simp only [evalE] at h
    have h : Rd (evalE C.Φ ca env >>= fun y => asInt y >>= fun j => if rgOk 0 && rgOk j then pure (.fr, .lst (rangeI 0 (j - 0).toNat)) else .stuck) (fun r => Then X.K F H r Q) C.E := h
    refine ⟨F, env, f, h.bind.mono fun x hx w F1 H1 g r => ?_⟩
    obtain ⟨fl, i, rfl, hx2⟩ := hx.bind.asInt
    clear hx
    cases r.int
    split at hx2
    · rename_i hc
      rw [Bool.and_eq_true] at hc
      exact ⟨i, rfl, lrg_fin (env := env) g hc hx2⟩
    · exact hx2.elim
theorem de_lrg2 {p2 pos2 : Pos} (ha : DE X C a ca) (hb : DE X C b cb) (hm : X.mg "range" = none) (hm2 : X.mg "list" = none) (hc : X.calm = true) (hg : Gl X "range" := by rfl) (hg2 : Gl X "list" := by rfl) (na : starEach [a, b] X.env = (false, eval a X.env) :: starEach [b] X.env := by rfl)
    (nb : starEach [b] X.env = (false, eval b X.env) :: starEach [] X.env := by rfl) (hp : (backTo pos (starEach [b] X.env)).any (·.1) = false := by rfl)
    (nc : starEach [.Call (.Name "range" p) [a, b] [] pos] X.env = (false, eval (.Call (.Name "range" p) [a, b] [] pos) X.env) :: starEach [] X.env := by rfl) :
    DE X C (.Call (.Name "list" p2) [.Call (.Name "range" p) [a, b] [] pos] [] pos2) (.lrg ca cb) :=
  PE.weak (pe_listRg hc hg2 hm2 (prg_2 hg hm ha hb na nb hp) nc) fun σ H Q ⟨F, env, f, h⟩ => by
    simp only [evalE] at h
    refine ⟨F, env, f, h.bind.mono fun x hx w F1 H1 g r => ?_⟩
    obtain ⟨fl, i, rfl, hx2⟩ := hx.bind.asInt
    clear hx
    cases r.int
    refine ⟨F1, env, f.grow g, hx2.bind.mono fun y hy w2 F2 H2 g2 r2 => ?_⟩
    obtain ⟨fl2, j, rfl, hy2⟩ := hy.bind.asInt
    clear hy
    cases r2.int
    split at hy2
    · rename_i hc
      rw [Bool.and_eq_true] at hc
      exact ⟨i, j, rfl, rfl, lrg_fin (env := env) (g.trans g2) hc hy2⟩
    · exact hy2.elim
theorem de_gcd {x : Str} (hm : X.mg x = some (.builtin "math.gcd")) (ha : DA X C (e :: es) cs) (hc : X.calm = true) (hg : Gl X x := by rfl) (hdb : (x == ("__debug__" : Str)) = false := by decide)
    (he : starEach (e :: es) X.env = (false, eval e X.env) :: starEach es X.env := by rfl) (hpl : (backTo pos (starEach es X.env)).any (·.1) = false := by rfl) : DE X C (.Call (.Name x p) (e :: es) [] pos) (.bi .gcd cs) :=
  PE.weak (pe_callBfun (bi_callR hc .gcd rfl) hg hm ha hdb he hpl) fun σ H Q h => tCB_of .gcd σ H Q h
/-! ### len(set(xs)) -/
theorem firstMet_dd (ns : List Int) : PyProof.Rows.firstMet (fun i => ns.getD i 0) ns.length = ddI ns := by
  unfold PyProof.Rows.firstMet ddI
  have e : (List.range ns.length).map (fun i => ns.getD i 0) = ns := by
    apply List.ext_getElem (by simp)
    intro i h1 h2
    rw [List.getElem_map, List.getElem_range, List.getD_eq_getElem?_getD, List.getElem?_eq_getElem h2]
    rfl
  rw [e]
  rfl
theorem ints_vals : ∀ {ns : List Int} {us : List Value}, Vals (ns.map V.int) us → PyProof.Rows.IntsAre us ns
  | [], _, .nil => .nil
  | n :: ns, _, .cons r t => by
    obtain ⟨k, rfl⟩ := r
    exact .cons n k (ints_vals t)
def tLenS (K : PySem.W.Frag) (ta : TE) : TE := fun σ H Q => ta σ H fun x H1 => ∃ (l : Addr) (ns : List Int), x = .ref l ∧ SqL K H1 l (ns.map V.int) ∧ ns.length ≤ 4000 ∧ Q (.int ((ddI ns).length : Nat)) H1
theorem pe_lenS {X : Cx} {a : PySem.Expr} {ta : TE} {p p2 q pos : Pos} (hg : Gl X "len") (hm : X.mg "len" = none) (hg2 : Gl X "set") (hm2 : X.mg "set" = none) (ha : PE X a ta) (hc : X.calm = true := by rfl)
    (na : starEach [a] X.env = (false, eval a X.env) :: starEach [] X.env := by rfl) : PE X (.Call (.Name "len" p) [.Call (.Name "set" p2) [a] [] q] [] pos) (tLenS X.K ta) := by
  refine ⟨fun pins s σ H Q I h => ?_⟩
  refine Call_ (ld_blt I hg hm (show bootBuiltins "len" = some (.builtin "len") by decide +kernel) ?_)
  refine PyProof.Rows.callWith_builtin1 (PyProof.Rows.args_cons ?_ rfl) rfl rfl
  refine Call_ (ld_blt I hg2 hm2 (show bootBuiltins "set" = some (.type "set") by decide +kernel) ?_)
  refine PyProof.Rows.callWith_type1 (PyProof.Rows.args_cons (thn (ha.run pins s σ H _ I h) fun v s1 ⟨x, H1, I1, r1, q1⟩ => PyProof.Rows.args_nil ?_) na) na rfl
  obtain ⟨l, ns, rfl, hq, hl, q1⟩ := q1
  cases r1
  obtain ⟨its, r, pl, hz⟩ := I1.list hq
  have hlen : its.toArray.size = ns.length := by rw [List.size_toArray, ← r.length, List.length_map]
  refine call_set_list (I1.ok.hd hc) pl.isList (by simpa using ints_vals r) (by rw [hlen]; unfold scanBound; omega) fun h' tk hS hk => ?_
  refine PyProof.Rows.args_nil ?_
  rw [hlen, firstMet_dd] at hS
  have dl : (ddI ns).length ≤ ns.length := by rw [← firstMet_dd]; exact PyProof.Rows.firstMet_length_le _ _
  obtain ⟨o, es, ep, t, ho, hex, hd, _, _, _, hf, hn⟩ := hS
  have I2 : Inv X pins σ H1 { s1 with heap := h', toks := tk } := I1.kept fun b o e => hk b o (Heap.lt_size e) e
  exact call_len_set ho hex hd hf (by rw [hn] <;> omega) ⟨.int (ddI ns).length, H1, I2.tok _, ⟨_, by rw [hn]⟩, q1⟩
theorem de_lenset {p2 q : Pos} (ha : DE X C a ca) (hm : X.mg "len" = none) (hm2 : X.mg "set" = none) (hc : X.calm = true := by rfl) (hg : Gl X "len" := by rfl) (hg2 : Gl X "set" := by rfl)
    (na : starEach [a] X.env = (false, eval a X.env) :: starEach [] X.env := by rfl) : DE X C (.Call (.Name "len" p) [.Call (.Name "set" p2) [a] [] q] [] pos) (.lenset ca) := PE.weak (pe_lenS hg hm hg2 hm2 ha hc na) fun σ H Q ⟨F, env, f, h⟩ => by
  simp only [evalE] at h
  refine ⟨F, env, f, h.bind.mono fun x hx w F1 H1 g1 r1 => ?_⟩
  obtain ⟨fl, d⟩ := x
  cases d <;> first | exact hx.elim | skip
  rename_i ds
  obtain ⟨p, vs, rfl, h1, h2⟩ := r1.lst g1.fh
  cases hi : intsOf ds with
  | none =>
    have hx : Rd (match intsOf ds with
      | some ns => if ns.length ≤ 4000 then R.ok (Fl.pl, D.int ((ddI ns).length : Nat)) else R.stuck
      | none => R.stuck) _ _ := hx
    rw [hi] at hx
    exact hx.elim
  | some ns =>
    have hx : Rd (match intsOf ds with
      | some ns => if ns.length ≤ 4000 then R.ok (Fl.pl, D.int ((ddI ns).length : Nat)) else R.stuck
      | none => R.stuck) _ _ := hx
    rw [hi] at hx
    have hv := h2.ints hi
    subst hv
    have hx : Rd (if ns.length ≤ 4000 then R.ok (Fl.pl, D.int ((ddI ns).length : Nat)) else R.stuck) _ _ := hx
    split at hx
    · rename_i hl
      refine ⟨p, ns, rfl, SqL.of h1, hl, ?_⟩
      exact ((show Then X.K F H (.pl, .int ((ddI ns).length : Nat)) Q from hx).later g1).int g1.fh
    · exact hx.elim
end
end PF

/-! Plain Lean: how the core language runs; the helpers that every law has. -/
namespace PF
theorem R.bind_first {α β : Type} {m m' : R α} {f : α → R β} (h : m = m') : (m >>= f) = (m' >>= f) := by rw [h]
@[simp] theorem R.bind_ok {α β : Type} (a : α) (f : α → R β) : (R.ok a >>= f) = f a := Eq.trans rfl rfl
@[simp] theorem R.bind_stuck {α β : Type} (f : α → R β) : (R.stuck >>= f) = R.stuck := Eq.trans rfl rfl
@[simp] theorem R.bind_exc {α β : Type} (c : Nat) (d : D) (f : α → R β) : (R.exc c d >>= f) = R.exc c d := Eq.trans rfl rfl
@[simp] theorem R.pure_ok {α : Type} (a : α) : (pure a : R α) = R.ok a := Eq.trans rfl rfl
@[simp] theorem lift_some {α : Type} (a : α) : lift (some a) = R.ok a := Eq.trans rfl rfl
@[simp] theorem asInt_int (f : Fl) (i : Int) : asInt (f, .int i) = R.ok i := Eq.trans rfl rfl
@[simp] theorem asBl_bl (f : Fl) (i : Bool) : asBl (f, .bl i) = R.ok i := Eq.trans rfl rfl
@[simp] theorem escV_pl (d : D) : escV (.pl, d) = R.ok d := Eq.trans rfl rfl
@[simp] theorem escV_fr (d : D) : escV (.fr, d) = R.ok d := Eq.trans rfl rfl
@[simp] theorem isBo_pl : Fl.isBo .pl = false := Eq.trans rfl rfl
@[simp] theorem isBo_fr : Fl.isBo .fr = false := Eq.trans rfl rfl
@[simp] theorem isBo_bo : Fl.isBo .bo = true := Eq.trans rfl rfl
@[simp] theorem calm_ok {α : Type} (a : α) : calm (R.ok a) = R.ok a := Eq.trans rfl rfl
@[simp] theorem flat_int (i : Int) : D.flat (.int i) = true := Eq.trans rfl rfl
@[simp] theorem flat_bl (i : Bool) : D.flat (.bl i) = true := Eq.trans rfl rfl
@[simp] theorem flat_str (i : Tx) : D.flat (.str i) = true := Eq.trans rfl rfl
@[simp] theorem flat_non : D.flat .non = true := Eq.trans rfl rfl
@[simp] theorem flat_tup (ds : List D) : D.flat (.tup ds) = false := Eq.trans rfl rfl
@[simp] theorem flat_lst (ds : List D) : D.flat (.lst ds) = false := Eq.trans rfl rfl
/-! operators -/
@[simp] theorem bi_add (i j : Int) : binop .add (.int i) (.int j) = some (.pl, .int (i + j)) := Eq.trans rfl rfl
@[simp] theorem bi_sub (i j : Int) : binop .sub (.int i) (.int j) = some (.pl, .int (i - j)) := Eq.trans rfl rfl
theorem bi_mul {i j : Int} (h : (-(2 ^ 64) < i ∧ i < 2 ^ 64) ∨ (-(2 ^ 64) < j ∧ j < 2 ^ 64)) : binop .mul (.int i) (.int j) = some (.pl, .int (i * j)) := if_pos h
@[simp] theorem bi_mulN (i : Int) (j : Nat) (h : (OfNat.ofNat j : Nat) < 2 ^ 64) : binop .mul (.int i) (.int (OfNat.ofNat j)) = some (.pl, .int (i * (OfNat.ofNat j))) := bi_mul (.inr ⟨by
  have : (0 : Int) ≤ (OfNat.ofNat j : Nat) := Int.natCast_nonneg _
  omega, by omega⟩)
@[simp] theorem bi_fdiv {i j : Int} (h : 0 < j) (h2 : j < 1073741824) : binop .fdiv (.int i) (.int j) = some (.pl, .int (i / j)) := if_pos ⟨h, h2⟩
@[simp] theorem bi_mod {i j : Int} (h : 0 < j) : binop .mod (.int i) (.int j) = some (.pl, .int (i % j)) := if_pos h
@[simp] theorem bi_addS {s t : Tx} (h : s.length + t.length ≤ SZ) : binop .add (.str s) (.str t) = some (.pl, .str (s ++ t)) := if_pos h
@[simp] theorem bi_addL {s t : List D} (h : s.length + t.length ≤ SZ) : binop .add (.lst s) (.lst t) = some (.fr, .lst (s ++ t)) := if_pos h
@[simp] theorem bi_addT {s t : List D} (h : s.length + t.length ≤ SZ) : binop .add (.tup s) (.tup t) = some (.pl, .tup (s ++ t)) := if_pos h
@[simp] theorem bi_pow {i j : Int} (h : 0 ≤ j ∧ j ≤ 1000 ∧ i.natAbs < 2 ^ 64) : binop .pow (.int i) (.int j) = some (.pl, .int (i ^ j.toNat)) := if_pos h
/-! comparisons -/
@[simp] theorem cmp_lt (i j : Int) : cmpD .lt (.int i) (.int j) = some (decide (i < j)) := Eq.trans rfl rfl
@[simp] theorem cmp_gt (i j : Int) : cmpD .gt (.int i) (.int j) = some (decide (j < i)) := Eq.trans rfl rfl
@[simp] theorem cmp_le (i j : Int) : cmpD .le (.int i) (.int j) = some (decide (i ≤ j)) := by
  show some (!decide (j < i)) = _
  congr 1
  rw [← decide_not]
  congr 1
  exact propext Int.not_lt
@[simp] theorem cmp_ge (i j : Int) : cmpD .ge (.int i) (.int j) = some (decide (j ≤ i)) := by
  show some (!decide (i < j)) = _
  congr 1
  rw [← decide_not]
  congr 1
  exact propext Int.not_lt
theorem eqD_sc {a b : D} (h : D.sameScal a b = true) : eqD a b = some (D.eqv a b) := by
  unfold eqD
  rw [h]
  rfl
@[simp] theorem cmp_eqI (i j : Int) : cmpD .eq (.int i) (.int j) = some (i == j) := eqD_sc rfl
@[simp] theorem cmp_neI (i j : Int) : cmpD .ne (.int i) (.int j) = some (!(i == j)) := congrArg (Option.map (!·)) (eqD_sc (a := .int i) (b := .int j) rfl)
@[simp] theorem cmp_eqS (i j : Tx) : cmpD .eq (.str i) (.str j) = some (i == j) := eqD_sc rfl
@[simp] theorem cmp_neS (i j : Tx) : cmpD .ne (.str i) (.str j) = some (!(i == j)) := congrArg (Option.map (!·)) (eqD_sc (a := .str i) (b := .str j) rfl)
@[simp] theorem cmp_eqB (i j : Bool) : cmpD .eq (.bl i) (.bl j) = some (i == j) := eqD_sc rfl
@[simp] theorem cmp_neB (i j : Bool) : cmpD .ne (.bl i) (.bl j) = some (!(i == j)) := congrArg (Option.map (!·)) (eqD_sc (a := .bl i) (b := .bl j) rfl)
@[simp] theorem cmp_isNN : cmpD .is_ .non .non = some true := Eq.trans rfl rfl
@[simp] theorem cmp_isBN (b : Bool) : cmpD .is_ (.bl b) .non = some false := Eq.trans rfl rfl
@[simp] theorem cmp_isIN (b : Int) : cmpD .is_ (.int b) .non = some false := Eq.trans rfl rfl
@[simp] theorem cmp_isSN (b : Tx) : cmpD .is_ (.str b) .non = some false := Eq.trans rfl rfl
@[simp] theorem cmp_isTN (b : List D) : cmpD .is_ (.tup b) .non = some false := Eq.trans rfl rfl
@[simp] theorem cmp_isLN (b : List D) : cmpD .is_ (.lst b) .non = some false := Eq.trans rfl rfl
@[simp] theorem cmp_ntNN : cmpD .isnt .non .non = some false := Eq.trans rfl rfl
@[simp] theorem cmp_ntIN (b : Int) : cmpD .isnt (.int b) .non = some true := Eq.trans rfl rfl
@[simp] theorem cmp_ntSN (b : Tx) : cmpD .isnt (.str b) .non = some true := Eq.trans rfl rfl
@[simp] theorem cmp_ntTN (b : List D) : cmpD .isnt (.tup b) .non = some true := Eq.trans rfl rfl
@[simp] theorem cmp_ntLN (b : List D) : cmpD .isnt (.lst b) .non = some true := Eq.trans rfl rfl
/-! built-in functions -/
@[simp] theorem b_lenL (ds : List D) : builtin .len [.lst ds] = some (.pl, .int ds.length) := Eq.trans rfl rfl
@[simp] theorem b_lenT (ds : List D) : builtin .len [.tup ds] = some (.pl, .int ds.length) := Eq.trans rfl rfl
@[simp] theorem b_lenC (ns : List Int) : builtin .len [.scr ns] = some (.pl, .int ns.length) := Eq.trans rfl rfl
@[simp] theorem b_lenS {s : Tx} (h : s.length ≤ SZ) : builtin .len [.str s] = some (.pl, .int s.length) := if_pos h
@[simp] theorem b_abs (i : Int) : builtin .abs [.int i] = some (.pl, .int (if i < 0 then -i else i)) := Eq.trans rfl rfl
@[simp] theorem b_sumC (ns : List Int) : builtin .sum [.scr ns] = some (.pl, .int ns.sum) := Eq.trans rfl rfl
@[simp] theorem b_max2 (i j : Int) : builtin .max [.int i, .int j] = some (.pl, .int (if j > i then j else i)) := Eq.trans rfl rfl
@[simp] theorem b_min2 (i j : Int) : builtin .min [.int i, .int j] = some (.pl, .int (if j < i then j else i)) := Eq.trans rfl rfl
@[simp high] theorem b_min2N (i j : Nat) : builtin .min [.int (i : Nat), .int (j : Nat)] = some (.pl, .int ((min i j : Nat) : Int)) := by
  show some (Fl.pl, D.int _) = _
  congr 3
  split <;> omega
@[simp high] theorem b_max2N (i j : Nat) : builtin .max [.int (i : Nat), .int (j : Nat)] = some (.pl, .int ((max i j : Nat) : Int)) := by
  show some (Fl.pl, D.int _) = _
  congr 3
  split <;> omega
@[simp] theorem b_isin (t : Ty) (d : D) : builtin (.isin t) [d] = (isTy t d).map fun b => (.pl, .bl b) := Eq.trans rfl rfl
/-! places, cuts -/
theorem ixN_nat {n k : Nat} (h : k < n) : ixN n (k : Int) = some k := by
  unfold ixN
  simp [h]
theorem atI_nat {α : Type} {xs : List α} {k : Nat} (h : k < xs.length) : PF.atI xs (k : Int) = some xs[k] := by
  unfold PF.atI
  rw [ixN_nat h]
  simp [h]
@[simp] theorem start_eq (f : FnD) (args : List D) : startEnv f args = args.map (fun d => some (false, d)) ++ List.replicate (f.ns - args.length) none := Eq.trans rfl rfl
@[simp] theorem len_rangeI (lo : Int) (n : Nat) : (rangeI lo n).length = n := by simp [rangeI]
theorem get_rangeI {lo : Int} {n k : Nat} {d : D} (h : (rangeI lo n)[k]? = some d) : k < n ∧ d = .int (lo + k) := by
  unfold rangeI at h
  rw [List.getElem?_map] at h
  obtain ⟨j, h1, h2⟩ := Option.map_eq_some_iff.mp h
  obtain ⟨h3, h4⟩ := List.getElem?_eq_some_iff.mp h1
  rw [List.getElem_range] at h4
  rw [List.length_range] at h3
  subst h4
  exact ⟨h3, h2.symm⟩
/-- a for loop that runs through: α the state, mk its names -/
theorem forGo_inv {α : Type} {g : D → Env → R Out} (mk : α → Env) (J : Nat → α → Prop) : ∀ (xs : List D) (i : Nat) (a : α), J i a → (∀ k a x, xs[k]? = some x → J (i + k) a → ∃ a', g x (mk a) = .ok (.nx (mk a')) ∧ J (i + k + 1) a') →
    ∃ a', forGo g xs (mk a) = .ok (.nx (mk a')) ∧ J (i + xs.length) a'
  | [], i, a, h, _ => ⟨a, rfl, h⟩
  | x :: r, i, a, h, st => by
    obtain ⟨e1, h1, h2⟩ := st 0 a x rfl h
    obtain ⟨e2, h3, h4⟩ := forGo_inv mk J r (i + 1) e1 h2 fun k a' y hy hj => by
      have := st (k + 1) a' y (by simpa using hy) (by rw [show i + (k + 1) = i + 1 + k by omega]; exact hj)
      rw [show i + (k + 1) + 1 = i + 1 + k + 1 by omega] at this
      exact this
    refine ⟨e2, ?_, ?_⟩
    · show (g x (mk a) >>= _) = _
      rw [h1]
      exact h3
    · rw [List.length_cons, show i + (r.length + 1) = i + 1 + r.length by omega]
      exact h4
/-- a for loop over a range -/
theorem forGo_range {α : Type} {g : D → Env → R Out} (mk : α → Env) (J : Nat → α → Prop) (lo : Int) (n : Nat) (a : α) (h : J 0 a) (st : ∀ k a, k < n → J k a → ∃ a', g (.int (lo + k)) (mk a) = .ok (.nx (mk a')) ∧ J (k + 1) a') :
    ∃ a', forGo g (rangeI lo n) (mk a) = .ok (.nx (mk a')) ∧ J n a' := by
  have := forGo_inv (g := g) mk J (rangeI lo n) 0 a h fun k a x hx hj => by
    obtain ⟨h1, rfl⟩ := get_rangeI hx
    rw [Nat.zero_add] at hj ⊢
    exact st k a h1 hj
  rw [Nat.zero_add, len_rangeI] at this
  exact this
/-! ### statements, one at a time -/
section
variable (Φ : Nat → List D → R (Bool × D)) (W : Nat)
/-- what follows a statement -/
def thenS (r : List CS) : Out → R Out
  | .nx env => execs Φ W r env
  | o => .ok o
def bodyFor (t : List Nat) (b : List CS) : D → Env → R Out := fun x env => bindT t x env >>= execs Φ W b
def bodyWhl (b : List CS) : Env → R Out := fun env => execs Φ W b env
def condWhl (c : CE) : Env → R Bool := fun env => evalE Φ c env >>= asBl
def endRun : Out → R (Bool × D)
  | .nx _ => .ok (false, .non)
  | .ret fr d _ => .ok (fr, d)
  | _ => .stuck
def bodyLc (t : List Nat) (c : CO) (e : CE) (env : Env) : D → R (Option D) := fun x => calm (bindT t x (wipeE env t) >>= fun env' => evalC Φ c env' >>= fun k => if k then evalE Φ e env' >>= fun y => escV y >>= fun d => .ok (some d) else .ok none)
variable {Φ W}
@[simp] theorem x_nil (env : Env) : execs Φ W [] env = .ok (.nx env) := Eq.trans rfl rfl
@[simp] theorem x_cons (s : CS) (r : List CS) (env : Env) : execs Φ W (s :: r) env = (exec Φ W s env >>= thenS Φ W r) := by
  show (exec Φ W s env >>= _) = _
  refine congrArg (fun f => exec Φ W s env >>= f) ?_
  funext o
  cases o <;> rfl
@[simp] theorem thenS_nx (r : List CS) (env : Env) : thenS Φ W r (.nx env) = execs Φ W r env := Eq.trans rfl rfl
@[simp] theorem thenS_ret (r : List CS) (fr : Bool) (d : D) (env : Env) : thenS Φ W r (.ret fr d env) = .ok (.ret fr d env) := Eq.trans rfl rfl
@[simp] theorem thenS_brk (r : List CS) (env : Env) : thenS Φ W r (.brk env) = .ok (.brk env) := Eq.trans rfl rfl
@[simp] theorem thenS_cnt (r : List CS) (env : Env) : thenS Φ W r (.cnt env) = .ok (.cnt env) := Eq.trans rfl rfl
@[simp] theorem endRun_nx (env : Env) : endRun (.nx env) = .ok (false, .non) := Eq.trans rfl rfl
@[simp] theorem endRun_ret (fr : Bool) (d : D) (env : Env) : endRun (.ret fr d env) = .ok (fr, d) := Eq.trans rfl rfl
@[simp] theorem x_fz (js : List Nat) (s : CS) (env : Env) : exec Φ W (.fz js s) env = exec Φ W s (js.foldl freeze env) := Eq.trans rfl rfl
@[simp] theorem x_asg (j : Nat) (e : CE) (env : Env) : exec Φ W (.asg j e) env = (evalE Φ e env >>= fun x => if x.1.isBo || !decide (j < env.length) then .stuck else .ok (.nx (env.set j (some (decide (x.1 = .fr), x.2))))) := Eq.trans rfl rfl
@[simp] theorem x_asgT (js : List Nat) (e : CE) (env : Env) : exec Φ W (.asgT js e) env = (evalE Φ e env >>= fun x => if x.1.isBo || js.length < 2 then .stuck else bindT js x.2 env >>= fun env' => .ok (.nx env')) := Eq.trans rfl rfl
@[simp] theorem x_app (j : Nat) (e : CE) (env : Env) : exec Φ W (.app j e) env = (ownL env j >>= fun ds => evalE Φ e env >>= fun x => escV x >>= fun d => if ds.length < SZ then .ok (.nx (env.set j (some (true, .lst (ds ++ [d]))))) else .stuck) := Eq.trans rfl rfl
@[simp] theorem x_rvs (j : Nat) (env : Env) : exec Φ W (.rvs j) env = (ownL env j >>= fun ds => .ok (.nx (env.set j (some (true, .lst ds.reverse))))) := Eq.trans rfl rfl
@[simp] theorem x_ret (e : CE) (env : Env) : exec Φ W (.ret e) env = (evalE Φ e env >>= fun x => if x.1.isBo then .stuck else .ok (.ret (decide (x.1 = .fr)) x.2 env)) := Eq.trans rfl rfl
@[simp] theorem x_retV (j : Nat) (env : Env) : exec Φ W (.retV j) env = (match env[j]? with
    | some (some (o, d)) => .ok (.ret o d env)
    | _ => .stuck) := Eq.trans rfl rfl
@[simp] theorem x_retN (env : Env) : exec Φ W .retN env = .ok (.ret false .non env) := Eq.trans rfl rfl
@[simp] theorem x_pass (env : Env) : exec Φ W .pass env = .ok (.nx env) := Eq.trans rfl rfl
@[simp] theorem x_brk (env : Env) : exec Φ W .brk env = .ok (.brk env) := Eq.trans rfl rfl
@[simp] theorem x_cnt (env : Env) : exec Φ W .cnt env = .ok (.cnt env) := Eq.trans rfl rfl
@[simp] theorem x_drop (e : CE) (env : Env) : exec Φ W (.drop e) env = (evalE Φ e env >>= fun _ => .ok (.nx env)) := Eq.trans rfl rfl
@[simp] theorem e_quiet (c : CE) (env : Env) : evalE Φ (.quiet c) env = calm (evalE Φ c env) := Eq.trans rfl rfl
@[simp] theorem x_qS (c : CS) (env : Env) : exec Φ W (.qS c) env = calm (exec Φ W c env) := Eq.trans rfl rfl
@[simp] theorem x_tryR (i k : Nat) (es : List CE) (h : List CS) (env : Env) : exec Φ W (.tryR i es k h) env = (evalEs Φ es env >>= fun ds => match Φ i ds with
    | .ok r => .ok (.ret r.1 r.2 env)
    | .exc c _ => if c = k then execs Φ W h env else .stuck
    | .stuck => .stuck) := Eq.trans rfl rfl
@[simp] theorem x_tryF (i k : Nat) (es : List CE) (g : D → D) (env : Env) : exec Φ W (.tryF i es k g) env = (evalEs Φ es env >>= fun ds => match Φ i ds with
    | .ok r => .ok (.ret r.1 r.2 env)
    | .exc c d => if c = k then .ok (.ret false (g d) env) else .stuck
    | .stuck => .stuck) := Eq.trans rfl rfl
@[simp] theorem x_tryW (i : Nat) (es : List CE) (fr : Bool) (h : D → D) (g : Nat → D → Option D) (env : Env) : exec Φ W (.tryW i es fr h g) env = (evalEs Φ es env >>= fun ds => match Φ i ds with
    | .ok r => if r.1 then .stuck else .ok (.ret fr (h r.2) env)
    | .exc c d => match g c d with
      | some e => .ok (.ret false e env)
      | none => .stuck
    | .stuck => .stuck) := Eq.trans rfl rfl
@[simp] theorem i_quiet (c : CI) (env : Env) : evalI Φ (.quietI c) env = calm (evalI Φ c env) := Eq.trans rfl rfl
@[simp] theorem x_raiseY (c : Nat) (e : CE) (env : Env) : exec Φ W (.raise c (.yes e)) env = (evalE Φ e env >>= fun x => escV x >>= fun d => R.exc c d) := Eq.trans rfl rfl
@[simp] theorem x_raiseN (c : Nat) (env : Env) : exec Φ W (.raise c .no) env = R.exc c .non := Eq.trans rfl rfl
@[simp] theorem x_ife (c : CE) (a b : List CS) (env : Env) : exec Φ W (.ife c a b) env = (evalE Φ c env >>= fun x => asBl x >>= fun k => if k then execs Φ W a env else execs Φ W b env) := Eq.trans rfl rfl
@[simp] theorem x_for (t : List Nat) (it : CI) (b : List CS) (env : Env) : exec Φ W (.for_ t it b) env = (evalI Φ it env >>= fun w => (if w.1 then .stuck else .ok w.2) >>= fun xs => forGo (bodyFor Φ W t b) xs env) := Eq.trans rfl rfl
@[simp] theorem x_whl (c : CE) (b : List CS) (env : Env) : exec Φ W (.whl c b) env = whlGo (condWhl Φ c) (bodyWhl Φ W b) W env := Eq.trans rfl rfl
@[simp] theorem run_eq (f : FnD) (args : List D) (h : args.length = f.np) (h2 : f.np ≤ f.ns) : runBody Φ W f args = (execs Φ W f.body (startEnv f args) >>= endRun) := by
  unfold runBody
  rw [if_pos ⟨h, h2⟩]
  refine congrArg (fun g => execs Φ W f.body (startEnv f args) >>= g) ?_
  funext o
  cases o <;> rfl
@[simp] theorem e_lc (t : List Nat) (it : CI) (c : CO) (e : CE) (env : Env) : evalE Φ (.lc t it c e) env = (evalI Φ it env >>= fun w => lift (if w.2.length ≤ SZ then some () else none) >>= fun _ => lcGo (bodyLc Φ t c e env) w.2 >>= fun ys => .ok (.fr, .lst ys)) := Eq.trans rfl rfl
@[simp] theorem e_var (i : Nat) (env : Env) : evalE Φ (.var i) env = (match env[i]? with
    | some (some (true, d)) => .ok (.bo, d)
    | some (some (false, d)) => .ok (.pl, d)
    | _ => .stuck) := Eq.trans rfl rfl
@[simp] theorem e_cst (d : D) (env : Env) : evalE Φ (.cst d) env = .ok (.pl, d) := Eq.trans rfl rfl
@[simp] theorem e_bin (o : BOp) (a b : CE) (env : Env) : evalE Φ (.bin o a b) env = (evalE Φ a env >>= fun x => evalE Φ b env >>= fun y => lift (binop o x.2 y.2)) := Eq.trans rfl rfl
@[simp] theorem e_neg (a : CE) (env : Env) : evalE Φ (.neg a) env = (evalE Φ a env >>= fun x => asInt x >>= fun i => .ok (.pl, .int (-i))) := Eq.trans rfl rfl
@[simp] theorem e_cmp (o : COp) (a b : CE) (env : Env) : evalE Φ (.cmp o a b) env = (evalE Φ a env >>= fun x => evalE Φ b env >>= fun y => lift (cmpD o x.2 y.2) >>= fun r => .ok (.pl, .bl r)) := Eq.trans rfl rfl
@[simp] theorem e_not (a : CE) (env : Env) : evalE Φ (.not a) env = (evalE Φ a env >>= fun x => asBl x >>= fun r => .ok (.pl, .bl (!r))) := Eq.trans rfl rfl
@[simp] theorem e_and (a b : CE) (env : Env) : evalE Φ (.and a b) env = (evalE Φ a env >>= fun x => asBl x >>= fun r => if r then evalE Φ b env else .ok (.pl, .bl false)) := Eq.trans rfl rfl
@[simp] theorem e_or (a b : CE) (env : Env) : evalE Φ (.or a b) env = (evalE Φ a env >>= fun x => asBl x >>= fun r => if r then .ok (.pl, .bl true) else evalE Φ b env) := Eq.trans rfl rfl
@[simp] theorem e_ite (c a b : CE) (env : Env) : evalE Φ (.ite c a b) env = (evalE Φ c env >>= fun x => asBl x >>= fun r => if r then evalE Φ a env else evalE Φ b env) := Eq.trans rfl rfl
@[simp] theorem e_tup (es : List CE) (env : Env) : evalE Φ (.tup es) env = (evalEs Φ es env >>= fun xs => .ok (.pl, .tup xs)) := Eq.trans rfl rfl
@[simp] theorem e_lst (es : List CE) (env : Env) : evalE Φ (.lst es) env = (evalEs Φ es env >>= fun xs => .ok (.fr, .lst xs)) := Eq.trans rfl rfl
@[simp] theorem e_idx (a b : CE) (env : Env) : evalE Φ (.idx a b) env = (evalE Φ a env >>= fun x => evalE Φ b env >>= fun y => lift (idxD x.2 y.2) >>= fun d => .ok (.pl, d)) := Eq.trans rfl rfl
@[simp] theorem e_slc (a : CE) (l h : CO) (env : Env) : evalE Φ (.slc a l h) env = (evalE Φ a env >>= fun x => evalO Φ l env >>= fun l => evalO Φ h env >>= fun h => lift (slcD x.2 l h)) := Eq.trans rfl rfl
@[simp] theorem e_call (f : Nat) (es : List CE) (env : Env) : evalE Φ (.call f es) env = (evalAs Φ es env >>= fun xs => Φ f (xs.map (·.2)) >>= fun r => if xs.any (·.1.isBo) && !r.2.flat then .stuck else .ok (if r.1 then .fr else .pl, r.2)) := Eq.trans rfl rfl
@[simp] theorem e_bi (f : Bi) (es : List CE) (env : Env) : evalE Φ (.bi f es) env = (evalAs Φ es env >>= fun xs => lift (builtin f (xs.map (·.2)))) := Eq.trans rfl rfl
@[simp] theorem e_mt (m : Mt) (o : CE) (es : List CE) (env : Env) : evalE Φ (.mt m o es) env = (evalE Φ o env >>= fun x => lift (mtOn m x.2) >>= fun _ => evalAs Φ es env >>= fun xs => lift (method m x.2 (xs.map (·.2)))) := Eq.trans rfl rfl
@[simp] theorem as_nil (env : Env) : evalAs Φ [] env = .ok [] := Eq.trans rfl rfl
@[simp] theorem as_cons (e : CE) (es : List CE) (env : Env) : evalAs Φ (e :: es) env = (evalE Φ e env >>= fun x => evalAs Φ es env >>= fun xs => .ok (x :: xs)) := Eq.trans rfl rfl
@[simp] theorem es_nil (env : Env) : evalEs Φ [] env = .ok [] := Eq.trans rfl rfl
@[simp] theorem es_cons (e : CE) (es : List CE) (env : Env) : evalEs Φ (e :: es) env = (evalE Φ e env >>= fun x => escV x >>= fun d => evalEs Φ es env >>= fun ds => .ok (d :: ds)) := Eq.trans rfl rfl
@[simp] theorem o_no (env : Env) : evalO Φ .no env = .ok none := Eq.trans rfl rfl
@[simp] theorem o_yes (e : CE) (env : Env) : evalO Φ (.yes e) env = (evalE Φ e env >>= fun x => asInt x >>= fun i => .ok (some i)) := Eq.trans rfl rfl
@[simp] theorem c_no (env : Env) : evalC Φ .no env = .ok true := Eq.trans rfl rfl
@[simp] theorem c_yes (e : CE) (env : Env) : evalC Φ (.yes e) env = (evalE Φ e env >>= asBl) := Eq.trans rfl rfl
@[simp] theorem i_seq (t : Ty) (e : CE) (env : Env) : evalI Φ (.seq t e) env = (evalE Φ e env >>= fun x => itemsOf t x.2 >>= fun ds => .ok (x.1.isBo, ds)) := Eq.trans rfl rfl
@[simp] theorem i_rg1 (a : CE) (env : Env) : evalI Φ (.rg1 a) env = (evalE Φ a env >>= fun x => asInt x >>= fun j => if rgOk j then .ok (false, rangeI 0 j.toNat) else .stuck) := Eq.trans rfl rfl
@[simp] theorem i_rg2 (a b : CE) (env : Env) : evalI Φ (.rg2 a b) env = (evalE Φ a env >>= fun x => asInt x >>= fun i => evalE Φ b env >>= fun y => asInt y >>= fun j => if rgOk i && rgOk j then .ok (false, rangeI i (j - i).toNat) else .stuck) := Eq.trans rfl rfl
@[simp] theorem it_lst (ds : List D) : itemsOf .list (.lst ds) = .ok ds := Eq.trans rfl rfl
@[simp] theorem it_tup (ds : List D) : itemsOf .tuple (.tup ds) = .ok ds := Eq.trans rfl rfl
@[simp] theorem it_str (s : Tx) : itemsOf .str (.str s) = .ok (s.map fun c => .str [c]) := Eq.trans rfl rfl
end
section
variable {Φ : Nat → List D → R (Bool × D)} {W : Nat}
/-! ### _law_number -/
def fnNumber : FnD := ⟨2, 3, [.asg 2 (.bin .add (.bin .mul (.bi .sum [.var 0]) (.cst (.int 31))) (.bin .mul (.cst (.int 1000003)) (.bin .add (.var 1) (.cst (.int 1))))),
  .ife (.cmp .lt (.var 1) (.bi .len [.var 0])) [.asg 2 (.idx (.var 0) (.var 1))] [],
  .ret (.bi .abs [.var 2])]⟩
theorem number_ok (ns : List Int) (k : Nat) : ∃ n : Int, 0 ≤ n ∧ runBody Φ W fnNumber [.scr ns, .int k] = .ok (false, .int n) := by
  have m1 : ∀ x : Int, binop .mul (.int x) (.int 31) = some (.pl, .int (x * 31)) := fun x => bi_mul (.inr (by decide))
  have m2 : ∀ x : Int, binop .mul (.int 1000003) (.int x) = some (.pl, .int (1000003 * x)) := fun x => bi_mul (.inl (by decide))
  by_cases hk : k < ns.length
  · refine ⟨if ns[k] < 0 then -ns[k] else ns[k], by split <;> omega, ?_⟩
    have hk' : (k : Int) < (ns.length : Int) := by omega
    simp [fnNumber, hk', idxD, atI_nat hk, m1, m2]
  · have hk' : ¬ (k : Int) < (ns.length : Int) := by omega
    refine ⟨_, ?_, by simp [fnNumber, hk', m1, m2]; rfl⟩
    split <;> omega
/-! ### _law_draws -/
def fnDraws (iN : Nat) : FnD := ⟨4, 9, [.asg 4 (.call iN [.var 0, .var 1]),
  .asg 5 (.lst []),
  .ife (.cmp .ge (.var 4) (.bin .pow (.cst (.int 10)) (.cst (.int 18)))) [.asg 4 (.bin .sub (.var 4) (.bin .pow (.cst (.int 10)) (.cst (.int 18)))),
    .for_ [7] (.rg1 (.var 2)) [.app 5 (.bin .mod (.var 4) (.var 3)),
      .asg 4 (.bin .fdiv (.var 4) (.var 3))],
    .retV 5] [],
  .asg 6 (.bin .add (.bin .mod (.var 4) (.cst (.int 2147483647))) (.cst (.int 1))),
  .for_ [7] (.rg1 (.var 2)) [.asg 6 (.bin .mod (.bin .add (.bin .add (.bin .mul (.var 6) (.cst (.int 48271))) (.bin .mul (.cst (.int 11)) (.var 7))) (.cst (.int 7))) (.cst (.int 2147483647))),
    .asg 8 (.bin .mod (.bin .add (.bin .add (.bin .mul (.var 6) (.var 6)) (.bin .mul (.cst (.int 69621)) (.var 7))) (.cst (.int 5))) (.cst (.int 2147483629))),
    .app 5 (.bin .mod (.bin .fdiv (.var 8) (.cst (.int 64))) (.var 3))],
  .retV 5]⟩
theorem draws_ok {iN : Nat} (ns : List Int) (k c m : Nat) (hm : 0 < m) (hm2 : m < 1000000) (hc : c ≤ 10000) (hN : ∃ n : Int, 0 ≤ n ∧ Φ iN [.scr ns, .int k] = .ok (false, .int n)) :
    ∃ ds : List Int, ds.length = c ∧ (∀ x ∈ ds, 0 ≤ x ∧ x < m) ∧ runBody Φ W (fnDraws iN) [.scr ns, .int k, .int c, .int m] = .ok (true, .lst (ds.map .int)) := by
  obtain ⟨n, hn, eN⟩ := hN
  have hrg : rgOk (c : Int) = true := by simp [rgOk]; omega
  have hm1 : (0 : Int) < m := by omega
  have hm3 : (m : Int) < 1073741824 := by omega
  have hm2' : m < 1073741824 := by omega
  by_cases hb : (1000000000000000000 : Int) ≤ n
  · obtain ⟨⟨ds, x, lv⟩, h1, hl, hx⟩ := forGo_range (g := bodyFor Φ W [7] [.app 5 (.bin .mod (.var 4) (.var 3)), .asg 4 (.bin .fdiv (.var 4) (.var 3))])
      (fun (a : List Int × Int × Option Slot) => [some (false, .scr ns), some (false, .int k), some (false, .int c), some (false, .int m), some (false, .int a.2.1), some (true, .lst (a.1.map .int)), none, a.2.2, none])
      (fun i a => a.1.length = i ∧ ∀ y ∈ a.1, 0 ≤ y ∧ y < m) 0 c ([], n - 1000000000000000000, none) ⟨rfl, by simp⟩ (by
        rintro i ⟨ds, x, lv⟩ hi ⟨hl, hx⟩
        simp only at hl hx
        have h3 : ds.length < SZ := by
          rw [hl]
          unfold SZ
          omega
        refine ⟨(ds ++ [x % m], x / m, some (false, .int (0 + i))), ?_, by simp [hl], fun y hy => ?_⟩
        · simp [bodyFor, bindT, hm, hm2', hm1, hm3, ownL, h3]
        · rcases List.mem_append.mp hy with h | h
          · exact hx y h
          · rw [List.mem_singleton] at h
            subst h
            exact ⟨Int.emod_nonneg _ (by omega), Int.emod_lt_of_pos _ hm1⟩)
    refine ⟨ds, hl, hx, ?_⟩
    simp only [List.map_nil] at h1
    simp [fnDraws, eN, hb, hrg, h1]
  · obtain ⟨⟨ds, x, lv, ov⟩, h1, hl, hx, _⟩ := forGo_range (g := bodyFor Φ W [7] [.asg 6 (.bin .mod (.bin .add (.bin .add (.bin .mul (.var 6) (.cst (.int 48271))) (.bin .mul (.cst (.int 11)) (.var 7))) (.cst (.int 7))) (.cst (.int 2147483647))),
    .asg 8 (.bin .mod (.bin .add (.bin .add (.bin .mul (.var 6) (.var 6)) (.bin .mul (.cst (.int 69621)) (.var 7))) (.cst (.int 5))) (.cst (.int 2147483629))),
    .app 5 (.bin .mod (.bin .fdiv (.var 8) (.cst (.int 64))) (.var 3))])
      (fun (a : List Int × Int × Option Slot × Option Slot) => [some (false, .scr ns), some (false, .int k), some (false, .int c), some (false, .int m), some (false, .int n), some (true, .lst (a.1.map .int)), some (false, .int a.2.1), a.2.2.1, a.2.2.2])
      (fun i a => a.1.length = i ∧ (∀ y ∈ a.1, 0 ≤ y ∧ y < m) ∧ 0 ≤ a.2.1 ∧ a.2.1 ≤ 2147483647) 0 c ([], n % 2147483647 + 1, none, none) ⟨rfl, by simp, by simp only; omega, by simp only; omega⟩ (by
        rintro i ⟨ds, x, lv, ov⟩ hi ⟨hl, hx, x0, x1⟩
        simp only at hl hx x0 x1
        have h3 : ds.length < SZ := by
          rw [hl]
          unfold SZ
          omega
        have m1 : binop .mul (.int x) (.int 48271) = some (.pl, .int (x * 48271)) := bi_mul (.inr (by decide))
        have m2 : ∀ x : Int, binop .mul (.int 11) (.int x) = some (.pl, .int (11 * x)) := fun x => bi_mul (.inl (by decide))
        have m3 : ∀ x : Int, binop .mul (.int 69621) (.int x) = some (.pl, .int (69621 * x)) := fun x => bi_mul (.inl (by decide))
        generalize ey : (x * 48271 + 11 * ((i : Int)) + 7) % 2147483647 = y
        have m4 : binop .mul (.int y) (.int y) = some (.pl, .int (y * y)) := bi_mul (.inr (by omega))
        generalize ez : (y * y + 69621 * ((i : Int)) + 5) % 2147483629 = z
        refine ⟨(ds ++ [z / 64 % m], y, some (false, .int (0 + i)), some (false, .int z)), ?_, by simp [hl], fun y hy => ?_, by simp only; omega, by simp only; omega⟩
        · simp [bodyFor, bindT, hm, hm2', hm1, hm3, ownL, h3, m1, m2, m3, m4, ey, ez]
        · rcases List.mem_append.mp hy with h | h
          · exact hx y h
          · rw [List.mem_singleton] at h
            subst h
            exact ⟨Int.emod_nonneg _ (by omega), Int.emod_lt_of_pos _ hm1⟩)
    refine ⟨ds, hl, hx, ?_⟩
    simp only [List.map_nil] at h1
    simp [fnDraws, eN, hb, hrg, h1]
end
end PF

/-! The helpers that most laws have: words, equal answers. -/
namespace PF
theorem lcGo_map {g : D → R (Option D)} {f : D → D} : ∀ {xs : List D}, (∀ x ∈ xs, g x = .ok (some (f x))) → lcGo g xs = .ok (xs.map f)
  | [], _ => rfl
  | x :: r, h => by
    show (g x >>= _) = _
    rw [h x List.mem_cons_self]
    show (lcGo g r >>= _) = _
    rw [lcGo_map fun y hy => h y (List.mem_cons_of_mem _ hy)]
    rfl
theorem lcGo_filter {g : D → R (Option D)} {p : D → Bool} {f : D → D} : ∀ {xs : List D}, (∀ x ∈ xs, g x = .ok (if p x then some (f x) else none)) → lcGo g xs = .ok ((xs.filter p).map f)
  | [], _ => rfl
  | x :: r, h => by
    show (g x >>= _) = _
    rw [h x List.mem_cons_self]
    show (lcGo g r >>= _) = _
    rw [lcGo_filter fun y hy => h y (List.mem_cons_of_mem _ hy)]
    by_cases hp : p x
    · rw [List.filter_cons_of_pos hp, hp]
      rfl
    · rw [List.filter_cons_of_neg hp, if_neg hp]
      rfl
theorem strsOf_map (xs : List Tx) : strsOf (xs.map .str) = some xs := by
  induction xs with
  | nil => rfl
  | cons x r ih => simp [strsOf, ih]
theorem intsOf_map (xs : List Int) : intsOf (xs.map .int) = some xs := by
  induction xs with
  | nil => rfl
  | cons x r ih => simp [intsOf, ih]
theorem joinTx_nil (xs : List Tx) : joinTx [] xs = xs.flatten := by
  induction xs with
  | nil => rfl
  | cons x r ih =>
    cases r with
    | nil => simp [joinTx]
    | cons y r => simp [joinTx, ih]
theorem join_one (cs : List Nat) : joinTx [] (cs.map fun c => [c]) = cs := by
  rw [joinTx_nil]
  induction cs with
  | nil => rfl
  | cons c r ih => simp [ih]
section
variable {Φ : Nat → List D → R (Bool × D)} {W : Nat}
/-! ### _law_word -/
def fnWord : FnD := ⟨2, 3, [.ret (.mt .join (.cst (.str [])) [.lc [2] (.seq .list (.var 0)) .no (.idx (.cst (.str [97, 98, 99])) (.bin .mod (.var 2) (.var 1)))])]⟩
/-- a word of the first m letters -/
def isWord (m : Nat) (w : Tx) : Bool := w.all fun c => decide (97 ≤ c) && decide (c < 97 + m)
theorem abc_at (m : Nat) (hm : 0 < m) (h3 : m ≤ 3) (x : Int) : ∃ c : Nat, 97 ≤ c ∧ c < 97 + m ∧ idxD (.str [97, 98, 99]) (.int (x % (m : Int))) = some (.str [c]) := by
  have h1 := Int.emod_nonneg x (show (m : Int) ≠ 0 by omega)
  have h2 := Int.emod_lt_of_pos x (show (0 : Int) < m by omega)
  generalize x % (m : Int) = y at h1 h2
  obtain ⟨n, rfl⟩ := Int.eq_ofNat_of_zero_le h1
  have h4 : n < m := by omega
  refine ⟨97 + n, by omega, by omega, ?_⟩
  have h5 : n = 0 ∨ n = 1 ∨ n = 2 := by omega
  rcases h5 with rfl | rfl | rfl <;> rfl
theorem word_ok (ds : List Int) (m : Nat) (hm : 0 < m) (h3 : m ≤ 3) (hl : ds.length ≤ 10000) : ∃ w : Tx, w.length = ds.length ∧ isWord m w = true ∧ runBody Φ W fnWord [.lst (ds.map .int), .int m] = .ok (false, .str w) := by
  obtain ⟨f, hf⟩ := Classical.axiomOfChoice (abc_at m hm h3)
  refine ⟨ds.map f, by simp, ?_, ?_⟩
  · unfold isWord
    rw [List.all_eq_true]
    intro c hc
    obtain ⟨x, _, rfl⟩ := List.mem_map.mp hc
    have := hf x
    simp
    omega
  · have hg : lcGo (bodyLc Φ [2] .no (.idx (.cst (.str [97, 98, 99])) (.bin .mod (.var 2) (.var 1))) [some (false, .lst (ds.map .int)), some (false, .int m), none]) (ds.map D.int) = .ok ((ds.map D.int).map fun d => match d with | .int x => D.str [f x] | _ => .non) := by
      refine lcGo_map fun x hx => ?_
      obtain ⟨i, _, rfl⟩ := List.mem_map.mp hx
      have h1 := (hf i).2.2
      simp [bodyLc, bindT, wipeE, hm, h1]
    have hs : ds.length ≤ SZ := by
      unfold SZ
      omega
    have e1 : ((ds.map D.int).map fun d => match d with | .int x => D.str [f x] | _ => .non) = ((ds.map f).map fun c => [c]).map D.str := by
      simp
    rw [e1] at hg
    have e2 : method .join (.str []) [.lst (((ds.map f).map fun c => [c]).map D.str)] = some (.pl, .str (ds.map f)) := by
      show ((strsOf _).bind _) = _
      rw [strsOf_map]
      show (if _ then _ else _) = _
      rw [join_one, if_pos]
      have e3 : (((ds.map f).map fun c => [c]).map List.length) = List.replicate ds.length 1 := by
        rw [List.map_map, List.map_map]
        exact List.map_eq_replicate_iff.mpr (fun _ _ => rfl) |>.trans (by simp)
      rw [e3]
      simp
      exact hs
    simp only [List.map_map] at hg e2
    simp [fnWord, mtOn, hs, hg, e2]
end
end PF

/-! _law_same of two equal answers, _law_is_int. -/
namespace PF
def fnIsInt : FnD := ⟨1, 1, [.ret (.and (.bi (.isin .int) [.var 0]) (.not (.bi (.isin .bool) [.var 0])))]⟩
def fnSame (i : Nat) : FnD := ⟨2, 3, [.ife (.or (.bi (.isin .bool) [.var 1]) (.bi (.isin .bool) [.var 0])) [.ret (.and (.bi (.isin .bool) [.var 1]) (.and (.bi (.isin .bool) [.var 0]) (.cmp .eq (.var 0) (.var 1))))] [],
  .ife (.or (.cmp .is_ (.var 1) (.cst .non)) (.bi (.isin .int) [.var 1])) [.ret (.and (.cmp .eq (.var 0) (.var 1)) (.or (.cmp .is_ (.var 1) (.cst .non)) (.bi (.isin .int) [.var 0])))] [],
  .ife (.bi (.isin .str) [.var 1]) [.ret (.and (.bi (.isin .str) [.var 0]) (.cmp .eq (.var 0) (.var 1)))] [],
  .ife (.or (.cmp .ne (.bi (.isin .list) [.var 1]) (.bi (.isin .list) [.var 0])) (.cmp .ne (.bi (.isin .tuple) [.var 1]) (.bi (.isin .tuple) [.var 0]))) [.ret (.cst (.bl false))] [],
  .ife (.cmp .ne (.bi .len [.var 0]) (.bi .len [.var 1])) [.ret (.cst (.bl false))] [],
  .for_ [2] (.rg1 (.bi .len [.var 1])) [.ife (.not (.call i [.idx (.var 0) (.var 2), .idx (.var 1) (.var 2)])) [.ret (.cst (.bl false))] []],
  .ret (.cst (.bl true))]⟩
mutual
/-- data of a bounded depth, lists that are not long -/
def D.small : Nat → D → Bool
  | _, .non => true | _, .bl _ => true | _, .int _ => true | _, .str s => true
  | n + 1, .tup ds => decide (ds.length ≤ SZ) && D.smalls n ds
  | n + 1, .lst ds => decide (ds.length ≤ SZ) && D.smalls n ds
  | _, _ => false
def D.smalls : Nat → List D → Bool
  | _, [] => true
  | n, d :: ds => D.small n d && D.smalls n ds
end
theorem smalls_at : ∀ {n : Nat} {ds : List D} {k : Nat} (h : k < ds.length), D.smalls n ds = true → D.small n ds[k] = true
  | n, d :: ds, 0, _, h => by
    simp only [D.smalls, Bool.and_eq_true] at h
    exact h.1
  | n, d :: ds, k + 1, hk, h => by
    simp only [D.smalls, Bool.and_eq_true] at h
    exact smalls_at (k := k) (by simpa using hk) h.2
section
variable {Φ : Nat → List D → R (Bool × D)} {W : Nat}
theorem isInt_int (i : Int) : runBody Φ W fnIsInt [.int i] = .ok (false, .bl true) := by simp [fnIsInt, isTy]
theorem same_int (i : Nat) (x : Int) : runBody Φ W (fnSame i) [.int x, .int x] = .ok (false, .bl true) := by simp [fnSame, isTy]
theorem same_bl (i : Nat) (x : Bool) : runBody Φ W (fnSame i) [.bl x, .bl x] = .ok (false, .bl true) := by simp [fnSame, isTy]
theorem same_str (i : Nat) (x : Tx) : runBody Φ W (fnSame i) [.str x, .str x] = .ok (false, .bl true) := by simp [fnSame, isTy]
theorem cmp_eqNN : cmpD .eq .non .non = some true := eqD_sc rfl
theorem same_non (i : Nat) : runBody Φ W (fnSame i) [.non, .non] = .ok (false, .bl true) := by simp [fnSame, isTy, cmp_eqNN]
theorem same_loop (i : Nat) (a : D) (ds : List D) (ha : ∀ k : Nat, (h : k < ds.length) → idxD a (.int k) = some ds[k]) (h : ∀ k : Nat, (hk : k < ds.length) → Φ i [ds[k], ds[k]] = .ok (false, .bl true)) :
    ∃ lv : Option Slot, forGo (bodyFor Φ W [2] [.ife (.not (.call i [.idx (.var 0) (.var 2), .idx (.var 1) (.var 2)])) [.ret (.cst (.bl false))] []]) (rangeI 0 ds.length) [some (false, a), some (false, a), none] = .ok (.nx [some (false, a), some (false, a), lv]) := by
  obtain ⟨lv, h1, _⟩ := forGo_range (g := bodyFor Φ W [2] [.ife (.not (.call i [.idx (.var 0) (.var 2), .idx (.var 1) (.var 2)])) [.ret (.cst (.bl false))] []]) (fun (a' : Option Slot) => [some (false, a), some (false, a), a']) (fun _ _ => True) 0 ds.length none trivial
    (fun k lv hk _ => ⟨some (false, .int (0 + k)), by
      have e1 := ha k hk
      have e2 := h k hk
      simp [bodyFor, bindT, e1, e2], trivial⟩)
  exact ⟨lv, h1⟩
theorem rgOk_len {n : Nat} (h : n ≤ SZ) : rgOk (n : Int) = true := by
  unfold SZ at h
  simp [rgOk]
  omega
theorem idx_lst {ds : List D} {k : Nat} (h : k < ds.length) : idxD (.lst ds) (.int k) = some ds[k] := atI_nat h
theorem idx_tup {ds : List D} {k : Nat} (h : k < ds.length) : idxD (.tup ds) (.int k) = some ds[k] := atI_nat h
theorem same_lst (i : Nat) (ds : List D) (hs : ds.length ≤ SZ) (h : ∀ k : Nat, (hk : k < ds.length) → Φ i [ds[k], ds[k]] = .ok (false, .bl true)) : runBody Φ W (fnSame i) [.lst ds, .lst ds] = .ok (false, .bl true) := by
  obtain ⟨lv, h1⟩ := same_loop (W := W) i (.lst ds) ds (fun k hk => idx_lst hk) h
  have h2 := rgOk_len hs
  simp [fnSame, isTy, h1, h2]
theorem same_tup (i : Nat) (ds : List D) (hs : ds.length ≤ SZ) (h : ∀ k : Nat, (hk : k < ds.length) → Φ i [ds[k], ds[k]] = .ok (false, .bl true)) : runBody Φ W (fnSame i) [.tup ds, .tup ds] = .ok (false, .bl true) := by
  obtain ⟨lv, h1⟩ := same_loop (W := W) i (.tup ds) ds (fun k hk => idx_tup hk) h
  have h2 := rgOk_len hs
  simp [fnSame, isTy, h1, h2]
end
theorem den_at {prog : List FnD} {W i k : Nat} {f : FnD} (h : prog[i]? = some f) (args : List D) : den prog W (k + 1) i args = runBody (den prog W k) W f args := by
  show (match prog[i]? with | some fd => runBody (den prog W k) W fd args | none => R.stuck) = _
  rw [h]
/-- equal answers are told to be the same -/
theorem same_ok {prog : List FnD} {W i : Nat} (hi : prog[i]? = some (fnSame i)) : ∀ (n k : Nat) (d : D), n ≤ k → D.small n d = true → den prog W (k + 1) i [d, d] = .ok (false, .bl true) := by
  intro n
  induction n with
  | zero =>
    intro k d hk h
    rw [den_at hi]
    cases d with
    | non => exact same_non i
    | bl b => exact same_bl i b
    | int j => exact same_int i j
    | str s => exact same_str i s
    | tup ds => simp [D.small] at h
    | lst ds => simp [D.small] at h
    | dct a b c => simp [D.small] at h
    | dtt a b c => simp [D.small] at h
    | scr a => simp [D.small] at h
  | succ n ih =>
    intro k d hk h
    obtain ⟨k, rfl⟩ : ∃ j, k = j + 1 := ⟨k - 1, by omega⟩
    rw [den_at hi]
    cases d with
    | non => exact same_non i
    | bl b => exact same_bl i b
    | int j => exact same_int i j
    | str s => exact same_str i s
    | tup ds =>
      simp only [D.small, Bool.and_eq_true, decide_eq_true_eq] at h
      exact same_tup i ds h.1 fun j hj => ih k _ (by omega) (smalls_at hj h.2)
    | lst ds =>
      simp only [D.small, Bool.and_eq_true, decide_eq_true_eq] at h
      exact same_lst i ds h.1 fun j hj => ih k _ (by omega) (smalls_at hj h.2)
    | dct a b c => simp [D.small] at h
    | dtt a b c => simp [D.small] at h
    | scr a => simp [D.small] at h
end PF

/-! Loops by a fold, cuts, greatest members. -/
namespace PF
/-- a loop, by a fold that may fail -/
theorem forGo_rel {α : Type} {g : D → Env → R Out} (J : α → Env → Prop) (f : α → D → Option α) : ∀ (xs : List D), (∀ a env x a', x ∈ xs → J a env → f a x = some a' → ∃ env', g x env = .ok (.nx env') ∧ J a' env') → ∀ (a a' : α) (env : Env), xs.foldlM f a = some a' → J a env →
    ∃ env', forGo g xs env = .ok (.nx env') ∧ J a' env'
  | [], _, a, a', env, h, j => by
    cases h
    exact ⟨env, rfl, j⟩
  | x :: r, st, a, a', env, h, j => by
    rw [List.foldlM_cons] at h
    obtain ⟨b, h1, h2⟩ := Option.bind_eq_some_iff.mp h
    obtain ⟨e1, h3, h4⟩ := st a env x b List.mem_cons_self j h1
    obtain ⟨e2, h5, h6⟩ := forGo_rel J f r (fun a env y a' hy => st a env y a' (List.mem_cons_of_mem _ hy)) b a' e1 h2 h4
    refine ⟨e2, ?_, h6⟩
    show (g x env >>= _) = _
    rw [h3]
    exact h5
/-- a loop over a range, by a fold of natural numbers: s the loop's value -/
theorem forGo_nat {α : Type} {g : D → Env → R Out} (mk : α → Env) (J : Nat → α → Prop) (lo n : Nat) (a : α) (h : J lo a) (st : ∀ (s : Nat) (a : α), lo ≤ s → s < lo + n → J s a → ∃ a', g (.int (s : Nat)) (mk a) = .ok (.nx (mk a')) ∧ J (s + 1) a') :
    ∃ a', forGo g (rangeI (lo : Nat) n) (mk a) = .ok (.nx (mk a')) ∧ J (lo + n) a' :=
  forGo_range mk (fun i a => J (lo + i) a) (lo : Nat) n a h fun k a hk hj => by
    obtain ⟨a', h1, h2⟩ := st (lo + k) a (by omega) (by omega) hj
    refine ⟨a', ?_, h2⟩
    rw [← Int.natCast_add]
    exact h1
theorem cut_from {α : Type} (xs : List α) (i : Nat) : cut xs (some (i : Int)) none = xs.drop i := by
  unfold cut sIx
  simp only [if_neg (Int.not_lt.mpr (Int.natCast_nonneg i)), Int.toNat_natCast]
  by_cases h : i ≤ xs.length
  · rw [Nat.min_eq_left h]
    exact List.take_of_length_le (by simp)
  · rw [Nat.min_eq_right (by omega), List.drop_length, List.drop_eq_nil_of_le (by omega)]
    simp
theorem cut_to {α : Type} (xs : List α) (i : Nat) : cut xs none (some (i : Int)) = xs.take i := by
  unfold cut sIx
  simp only [if_neg (Int.not_lt.mpr (Int.natCast_nonneg i)), Int.toNat_natCast, List.drop_zero, Nat.sub_zero]
  by_cases h : i ≤ xs.length
  · rw [Nat.min_eq_left h]
  · rw [Nat.min_eq_right (by omega), List.take_of_length_le (Nat.le_refl _), List.take_of_length_le (by omega)]
theorem slc_from {s : Tx} (h : s.length ≤ SZ) (i : Nat) : slcD (.str s) (some (i : Int)) none = some (.pl, .str (s.drop i)) := by
  show (if _ then _ else _) = _
  rw [if_pos h, cut_from]
theorem slc_to {s : Tx} (h : s.length ≤ SZ) (i : Nat) : slcD (.str s) none (some (i : Int)) = some (.pl, .str (s.take i)) := by
  show (if _ then _ else _) = _
  rw [if_pos h, cut_to]
theorem idx_ints {ns : List Int} {k : Nat} {v : Int} (h : ns[k]? = some v) : idxD (.lst (ns.map .int)) (.int (k : Nat)) = some (.int v) := by
  obtain ⟨hk, e⟩ := List.getElem?_eq_some_iff.mp h
  show PF.atI _ _ = _
  rw [atI_nat (by simpa using hk)]
  simp [e]
theorem idx_str {s : Tx} {k : Nat} {c : Nat} (hs : s.length ≤ SZ) (h : s[k]? = some c) : idxD (.str s) (.int (k : Nat)) = some (.str [c]) := by
  obtain ⟨hk, e⟩ := List.getElem?_eq_some_iff.mp h
  show (if _ then _ else _) = _
  rw [if_pos hs, atI_nat hk, e]
  rfl
theorem maxI_of : ∀ {ns : List Int} {m : Int}, m ∈ ns → (∀ y ∈ ns, y ≤ m) → maxI ns = some m
  | [], m, h, _ => by cases h
  | [x], m, h, _ => by
    rw [List.mem_singleton] at h
    rw [h]
    rfl
  | x :: z :: r, m, h, hb => by
    by_cases hm : m ∈ z :: r
    · have ih := maxI_of hm fun y hy => hb y (List.mem_cons_of_mem _ hy)
      show (maxI (z :: r)).map _ = _
      rw [ih]
      have := hb x List.mem_cons_self
      by_cases he : m > x
      · simp [he]
      · have : m = x := by omega
        simp [he, this]
    · rcases List.mem_cons.mp h with e | h'
      · subst e
        -- the rest has a greatest member below it
        have : ∀ (l : List Int), l ≠ [] → ∃ k, maxI l = some k ∧ k ∈ l := by
          intro l
          induction l with
          | nil => intro h; exact absurd rfl h
          | cons a t ih =>
            intro _
            cases t with
            | nil => exact ⟨a, rfl, List.mem_cons_self⟩
            | cons b t =>
              obtain ⟨k, h1, h2⟩ := ih (by simp)
              by_cases hk : k > a
              · refine ⟨k, ?_, List.mem_cons_of_mem _ h2⟩
                show (maxI (b :: t)).map _ = _
                rw [h1]
                simp [hk]
              · refine ⟨a, ?_, List.mem_cons_self⟩
                show (maxI (b :: t)).map _ = _
                rw [h1]
                simp [hk]
        obtain ⟨k, h1, h2⟩ := this (z :: r) (by simp)
        show (maxI (z :: r)).map _ = _
        rw [h1]
        have := hb k (List.mem_cons_of_mem _ h2)
        simp
        omega
      · exact absurd h' hm
/-- all words of n signs over the first m letters -/
def words (m : Nat) : Nat → List Tx
  | 0 => [[]]
  | n + 1 => (List.range m).flatMap fun c => (words m n).map fun w => (97 + c) :: w
theorem mem_words {m : Nat} : ∀ {w : Tx}, isWord m w = true → w ∈ words m w.length
  | [], _ => by simp [words]
  | c :: w, h => by
    unfold isWord at h
    rw [List.all_cons, Bool.and_eq_true, Bool.and_eq_true, decide_eq_true_eq, decide_eq_true_eq] at h
    have ih := mem_words (m := m) (w := w) h.2
    show _ ∈ words m (w.length + 1)
    unfold words
    rw [List.mem_flatMap]
    exact ⟨c - 97, List.mem_range.mpr (by omega), List.mem_map.mpr ⟨w, ih, by rw [show 97 + (c - 97) = c by omega]⟩⟩
end PF

/-! _law_short, _law_book: drawn books. -/
namespace PF
theorem eqv_str (a b : Tx) : D.eqv (.str a) (.str b) = (a == b) := by simp [D.eqv]
theorem all_flat_strs (ws : List Tx) : (ws.map D.str).all D.flat = true := by
  rw [List.all_map, List.all_eq_true]
  intro _ _
  rfl
theorem any_strs (ws : List Tx) (w : Tx) : ((ws.map D.str).any fun y => D.eqv y (.str w)) = decide (w ∈ ws) := by
  rw [List.any_map]
  rw [Bool.eq_iff_iff, List.any_eq_true, decide_eq_true_eq]
  constructor
  · rintro ⟨x, h1, h2⟩
    have : x = w := by simpa [eqv_str] using h2
    exact this ▸ h1
  · intro h
    exact ⟨w, h, by simp [eqv_str]⟩
theorem in_lst (w : Tx) (ws : List Tx) : cmpD .in_ (.str w) (.lst (ws.map .str)) = some (decide (w ∈ ws)) := by
  show inD (.str w) (.lst (ws.map .str)) = _
  unfold inD
  show (if _ then some _ else none) = _
  rw [if_pos (by rw [all_flat_strs]; rfl), any_strs]
theorem in_tup (w : Tx) (ws : List Tx) : cmpD .in_ (.str w) (.tup (ws.map .str)) = some (decide (w ∈ ws)) := by
  show inD (.str w) (.tup (ws.map .str)) = _
  unfold inD
  show (if _ then some _ else none) = _
  rw [if_pos (by rw [all_flat_strs]; rfl), any_strs]
theorem notin_lst (w : Tx) (ws : List Tx) : cmpD .notin (.str w) (.lst (ws.map .str)) = some (!decide (w ∈ ws)) := by
  show (inD _ _).map _ = _
  rw [show inD (.str w) (.lst (ws.map .str)) = some (decide (w ∈ ws)) from in_lst w ws]
  rfl
theorem notin_tup (w : Tx) (ws : List Tx) : cmpD .notin (.str w) (.tup (ws.map .str)) = some (!decide (w ∈ ws)) := by
  show (inD _ _).map _ = _
  rw [show inD (.str w) (.tup (ws.map .str)) = some (decide (w ∈ ws)) from in_tup w ws]
  rfl
theorem cut_map {α β : Type} (f : α → β) (xs : List α) (lo hi : Option Int) : cut (xs.map f) lo hi = (cut xs lo hi).map f := by
  unfold cut
  rw [List.length_map, List.map_take, List.map_drop]
theorem idx_strs {ws : List Tx} {k : Nat} {v : Tx} (h : ws[k]? = some v) : idxD (.lst (ws.map .str)) (.int (k : Nat)) = some (.str v) := by
  obtain ⟨hk, e⟩ := List.getElem?_eq_some_iff.mp h
  show PF.atI _ _ = _
  rw [atI_nat (by simpa using hk)]
  simp [e]
theorem idx_strsT {ws : List Tx} {k : Nat} {v : Tx} (h : ws[k]? = some v) : idxD (.tup (ws.map .str)) (.int (k : Nat)) = some (.str v) := by
  obtain ⟨hk, e⟩ := List.getElem?_eq_some_iff.mp h
  show PF.atI _ _ = _
  rw [atI_nat (by simpa using hk)]
  simp [e]
theorem slcL_to (ds : List D) (i : Nat) : slcD (.lst ds) none (some (i : Int)) = some (.fr, .lst (ds.take i)) := by
  show some (Fl.fr, D.lst _) = _
  rw [cut_to]
theorem slcL_from (ds : List D) (i : Nat) : slcD (.lst ds) (some (i : Int)) none = some (.fr, .lst (ds.drop i)) := by
  show some (Fl.fr, D.lst _) = _
  rw [cut_from]
theorem cut_both {α : Type} (xs : List α) (i j : Nat) (hi : i ≤ xs.length) (hj : j ≤ xs.length) : cut xs (some (i : Int)) (some (j : Int)) = (xs.drop i).take (j - i) := by
  unfold cut sIx
  simp only [if_neg (Int.not_lt.mpr (Int.natCast_nonneg i)), if_neg (Int.not_lt.mpr (Int.natCast_nonneg j)), Int.toNat_natCast]
  rw [Nat.min_eq_left hi, Nat.min_eq_left hj]
theorem rangeI_range' (n : Nat) : rangeI 0 n = (List.range' 0 n).map fun i => .int (i : Nat) := by
  unfold rangeI
  rw [List.range_eq_range']
  congr 1
  funext i
  rw [Int.zero_add]
/-! ### _law_short -/
/-- each word once, the empty one never -/
def uq : List Tx → List Tx → List Tx
  | _, [] => []
  | seen, w :: r => if w = [] ∨ w ∈ seen then uq (seen ++ [w]) r else w :: uq (seen ++ [w]) r
theorem uq_mem : ∀ {r seen : List Tx} {w : Tx}, w ∈ uq seen r ↔ w ∈ r ∧ w ≠ [] ∧ w ∉ seen
  | [], seen, w => by simp [uq]
  | x :: r, seen, w => by
    unfold uq
    by_cases h : x = [] ∨ x ∈ seen
    · rw [if_pos h, uq_mem]
      simp only [List.mem_append, List.mem_singleton, List.mem_cons]
      constructor
      · rintro ⟨h1, h2, h3⟩
        exact ⟨.inr h1, h2, fun z => h3 (.inl z)⟩
      · rintro ⟨h1 | h1, h2, h3⟩
        · subst h1
          rcases h with h | h
          · exact absurd h h2
          · exact absurd h h3
        · by_cases e : w = x
          · subst e
            rcases h with h | h
            · exact absurd h h2
            · exact absurd h h3
          · exact ⟨h1, h2, fun z => z.elim h3 fun q => q.elim e (by simp)⟩
    · rw [if_neg h, List.mem_cons, uq_mem]
      simp only [List.mem_append, List.mem_singleton, List.mem_cons]
      simp only [not_or] at h
      constructor
      · rintro (rfl | ⟨h1, h2, h3⟩)
        · exact ⟨.inl rfl, h.1, h.2⟩
        · exact ⟨.inr h1, h2, fun z => h3 (.inl z)⟩
      · rintro ⟨h1 | h1, h2, h3⟩
        · exact .inl h1
        · by_cases e : w = x
          · exact .inl e
          · exact .inr ⟨h1, h2, fun z => z.elim h3 fun q => q.elim e (by simp)⟩
theorem uq_nodup : ∀ {r seen : List Tx}, (uq seen r).Nodup
  | [], seen => by simp [uq]
  | x :: r, seen => by
    unfold uq
    split
    · exact uq_nodup
    · refine List.nodup_cons.mpr ⟨fun h => ?_, uq_nodup⟩
      have := (uq_mem.mp h).2.2
      exact this (List.mem_append_right _ (List.mem_singleton.mpr rfl))
theorem uq_len : ∀ {r seen : List Tx}, (uq seen r).length ≤ r.length
  | [], seen => by simp [uq]
  | x :: r, seen => by
    unfold uq
    have := uq_len (r := r) (seen := seen ++ [x])
    split <;> (simp only [List.length_cons]; omega)
def shortW (ws : List Tx) : List Tx := (uq [] ws).mergeSort leK
theorem shortW_mem {ws : List Tx} {w : Tx} : w ∈ shortW ws ↔ w ∈ ws ∧ w ≠ [] := by
  unfold shortW
  rw [List.mem_mergeSort, uq_mem]
  simp
theorem shortW_nodup (ws : List Tx) : (shortW ws).Nodup := (List.mergeSort_perm _ _).nodup_iff.mpr uq_nodup
theorem shortW_len (ws : List Tx) : (shortW ws).length ≤ ws.length := by
  unfold shortW
  rw [List.length_mergeSort]
  exact uq_len
section
variable {Φ : Nat → List D → R (Bool × D)} {W : Nat}
def fnShort : FnD := ⟨1, 2, [.ret (.bi .tuple [.bi .sortK [.lc [1] (.rg1 (.bi .len [.var 0])) (.yes (.and (.cmp .ne (.idx (.var 0) (.var 1)) (.cst (.str []))) (.cmp .notin (.idx (.var 0) (.var 1)) (.slc (.var 0) .no (.yes (.var 1)))))) (.idx (.var 0) (.var 1))]])]⟩
abbrev shortBody (Φ : Nat → List D → R (Bool × D)) (ws : List Tx) : D → R (Option D) := bodyLc Φ [1] (.yes (.and (.cmp .ne (.idx (.var 0) (.var 1)) (.cst (.str []))) (.cmp .notin (.idx (.var 0) (.var 1)) (.slc (.var 0) .no (.yes (.var 1)))))) (.idx (.var 0) (.var 1)) [some (false, .lst (ws.map .str)), none]
theorem short_lc : ∀ (rest seen ws : List Tx), ws = seen ++ rest → lcGo (shortBody Φ ws) ((List.range' seen.length rest.length).map fun i => .int (i : Nat)) = .ok ((uq seen rest).map .str)
  | [], seen, ws, _ => rfl
  | w :: rest, seen, ws, e => by
    have hk : ws[seen.length]? = some w := by
      rw [e, List.getElem?_append_right (Nat.le_refl _), Nat.sub_self]
      rfl
    have ht : ws.take seen.length = seen := by rw [e, List.take_left']; rfl
    have i1 := idx_strs hk
    have s1 := slcL_to (ws.map .str) seen.length
    rw [← List.map_take, ht] at s1
    have n1 := notin_lst w seen
    have ih := short_lc rest (seen ++ [w]) ws (by rw [e, List.append_assoc]; rfl)
    rw [List.length_append, List.length_singleton] at ih
    rw [List.length_cons, List.range'_succ, List.map_cons]
    show (shortBody Φ ws (.int (seen.length : Nat)) >>= _) = _
    have g : shortBody Φ ws (.int (seen.length : Nat)) = .ok (if w = [] ∨ w ∈ seen then none else some (.str w)) := by
      by_cases h1 : w = []
      · subst h1
        simp [shortBody, bodyLc, bindT, wipeE, i1]
      · by_cases h2 : w ∈ seen
        · simp [shortBody, bodyLc, bindT, wipeE, i1, s1, n1, h1, h2]
        · simp [shortBody, bodyLc, bindT, wipeE, i1, s1, n1, h1, h2]
    rw [g]
    show (lcGo _ _ >>= _) = _
    rw [ih]
    rw [show uq seen (w :: rest) = if w = [] ∨ w ∈ seen then uq (seen ++ [w]) rest else w :: uq (seen ++ [w]) rest from Eq.trans rfl rfl]
    by_cases h : w = [] ∨ w ∈ seen
    · rw [if_pos h, if_pos h]
      rfl
    · rw [if_neg h, if_neg h]
      rfl
theorem short_ok (ws : List Tx) (h : ws.length ≤ SZ) (hw : ∀ w ∈ ws, w.length ≤ SZ) : runBody Φ W fnShort [.lst (ws.map .str)] = .ok (false, .tup ((shortW ws).map .str)) := by
  have h1 := short_lc (Φ := Φ) ws [] ws rfl
  have hr : rgOk (ws.length : Int) = true := rgOk_len h
  have h2 : builtin .sortK [.lst ((uq [] ws).map .str)] = some (.fr, .lst ((shortW ws).map .str)) := by
    show (strsOf _).bind _ = _
    rw [strsOf_map]
    show (if _ then _ else _) = _
    rw [if_pos]
    · rfl
    · rw [List.all_eq_true]
      intro w hwm
      exact decide_eq_true (hw w (uq_mem.mp hwm).1)
  have h3 : ∀ ds : List D, builtin .tuple [.lst ds] = some (.pl, .tup ds) := fun ds => Eq.trans rfl rfl
  unfold shortBody at h1
  rw [List.length_nil, ← rangeI_range'] at h1
  simp [fnShort, hr, h, h1, h2, h3]
/-! ### _law_book -/
def fnBook (iD iW iS : Nat) : FnD := ⟨5, 8, [.asg 5 (.lst []),
  .for_ [6] (.rg1 (.var 3)) [.fz [0] (.asg 7 (.call iD [.var 0, .bin .add (.var 1) (.var 6), .bin .add (.var 4) (.cst (.int 1)), .cst (.int 5040)])),
    .app 5 (.call iW [.slc (.var 7) (.yes (.cst (.int 1))) (.yes (.bin .add (.cst (.int 2)) (.bin .mod (.idx (.var 7) (.cst (.int 0))) (.var 4)))), .var 2])],
  .fz [5] (.ret (.tup [.var 2, .call iS [.var 5]]))]⟩
/-- a list of drawn words -/
structure Drawn (m c len : Nat) (ws : List Tx) : Prop where
  size : ws.length = c
  one : ∀ w ∈ ws, isWord m w = true ∧ 1 ≤ w.length ∧ w.length ≤ len
theorem book_ok {iD iW iS : Nat} (ns : List Int) (k m c len : Nat) (hm : 0 < m) (hm3 : m ≤ 3) (hl0 : 0 < len) (hl : len ≤ 1000) (hc : c ≤ 1000)
    (hD : ∀ j : Nat, ∃ ds : List Int, ds.length = len + 1 ∧ (∀ x ∈ ds, 0 ≤ x ∧ x < 5040) ∧ Φ iD [.scr ns, .int j, .int (len + 1 : Nat), .int 5040] = .ok (true, .lst (ds.map .int)))
    (hW : ∀ ds : List Int, ds.length ≤ 10000 → ∃ w : Tx, w.length = ds.length ∧ isWord m w = true ∧ Φ iW [.lst (ds.map .int), .int m] = .ok (false, .str w))
    (hS : ∀ ws : List Tx, ws.length ≤ SZ → (∀ w ∈ ws, w.length ≤ SZ) → Φ iS [.lst (ws.map .str)] = .ok (false, .tup ((shortW ws).map .str))) :
    ∃ ws : List Tx, Drawn m c len ws ∧ runBody Φ W (fnBook iD iW iS) [.scr ns, .int k, .int m, .int c, .int len] = .ok (false, .tup [.int m, .tup ((shortW ws).map .str)]) := by
  obtain ⟨⟨ws, l6, l7⟩, h1, h2, h3⟩ := forGo_nat (g := bodyFor Φ W [6] [.fz [0] (.asg 7 (.call iD [.var 0, .bin .add (.var 1) (.var 6), .bin .add (.var 4) (.cst (.int 1)), .cst (.int 5040)])),
    .app 5 (.call iW [.slc (.var 7) (.yes (.cst (.int 1))) (.yes (.bin .add (.cst (.int 2)) (.bin .mod (.idx (.var 7) (.cst (.int 0))) (.var 4)))), .var 2])])
    (fun (a : List Tx × Option Slot × Option Slot) => [some (false, .scr ns), some (false, .int k), some (false, .int m), some (false, .int c), some (false, .int len), some (true, .lst (a.1.map .str)), a.2.1, a.2.2])
    (fun i a => a.1.length = i ∧ ∀ w ∈ a.1, isWord m w = true ∧ 1 ≤ w.length ∧ w.length ≤ len) 0 c ([], none, none) ⟨rfl, by simp⟩ (by
      rintro s ⟨ws, l6, l7⟩ hs1 hs2 ⟨hl1, hw1⟩
      simp only at hl1 hw1
      obtain ⟨ds, d1, d2, d3⟩ := hD (k + s)
      obtain ⟨x, r, rfl⟩ : ∃ x r, ds = x :: r := by
        cases ds with
        | nil => simp at d1
        | cons x r => exact ⟨x, r, rfl⟩
      have hx := d2 x List.mem_cons_self
      obtain ⟨q, hq, eq⟩ : ∃ q : Nat, q < len ∧ x % (len : Int) = (q : Int) := ⟨(x % (len : Int)).toNat, by
        have a1 := Int.emod_nonneg x (show (len : Int) ≠ 0 by omega)
        have a2 := Int.emod_lt_of_pos x (show (0 : Int) < len by omega)
        omega, by
        have a1 := Int.emod_nonneg x (show (len : Int) ≠ 0 by omega)
        omega⟩
      have hrl : r.length = len := by simpa using d1
      have c1 : slcD (.lst ((x :: r).map .int)) (some 1) (some (2 + (q : Int))) = some (.fr, .lst ((r.take (q + 1)).map .int)) := by
        show some (Fl.fr, D.lst _) = _
        rw [cut_map, show (1 : Int) = ((1 : Nat) : Int) from rfl, show (2 : Int) + (q : Int) = ((q + 2 : Nat) : Int) by omega, cut_both _ _ _ (by simp) (by simp; omega)]
        rfl
      obtain ⟨w, w1, w2, w3⟩ := hW (r.take (q + 1)) (by rw [List.length_take]; omega)
      have hwl : w.length = q + 1 := by rw [w1, List.length_take]; omega
      have i0 : idxD (.lst ((x :: r).map .int)) (.int 0) = some (.int x) := idx_ints (ns := x :: r) (k := 0) rfl
      have hsz : ws.length < SZ := by
        unfold SZ
        omega
      have a1 : ((k : Int) + (s : Int)) = ((k + s : Nat) : Int) := by omega
      have a2 : ((len : Int) + 1) = ((len + 1 : Nat) : Int) := by omega
      have hl0' : (0 : Int) < len := by omega
      refine ⟨(ws ++ [w], some (false, .int s), some (true, .lst ((x :: r).map .int))), ?_, by simp [hl1], fun v hv => ?_⟩
      · rw [← a1, ← a2] at d3
        simp only [List.map_cons, List.map_take] at c1 d3 i0 w3
        simp [bodyFor, bindT, freeze, d3, i0, hl0, eq, c1, w3, ownL, hsz]
      · rcases List.mem_append.mp hv with h | h
        · exact hw1 v h
        · rw [List.mem_singleton] at h
          subst h
          exact ⟨w2, by omega, by omega⟩)
  simp only at h2 h3
  rw [Nat.zero_add] at h2
  refine ⟨ws, ⟨h2, h3⟩, ?_⟩
  have hr : rgOk (c : Int) = true := rgOk_len (by unfold SZ; omega)
  have sw := hS ws (by unfold SZ; omega) fun w hw => by have := h3 w hw; unfold SZ; omega
  simp only [List.map_nil, Int.natCast_zero] at h1
  simp [fnBook, hr, h1, freeze, sw]
end
end PF

/-! The drawn things of any law's program; loops that end early; least members. -/
namespace PF
section
variable {prog : List FnD} {W iN iD iW iS iB : Nat}
theorem g_number (hN : prog[iN]? = some fnNumber) (k : Nat) (ns : List Int) (j : Nat) : ∃ n : Int, 0 ≤ n ∧ den prog W (k + 1) iN [.scr ns, .int j] = .ok (false, .int n) := by
  rw [den_at hN]
  exact number_ok ns j
theorem g_draws (hN : prog[iN]? = some fnNumber) (hD : prog[iD]? = some (fnDraws iN)) (k : Nat) (ns : List Int) (j c m : Nat) (hm : 0 < m) (hm2 : m < 1000000) (hc : c ≤ 10000) :
    ∃ ds : List Int, ds.length = c ∧ (∀ x ∈ ds, 0 ≤ x ∧ x < m) ∧ den prog W (k + 2) iD [.scr ns, .int j, .int c, .int m] = .ok (true, .lst (ds.map .int)) := by
  rw [den_at hD]
  exact draws_ok ns j c m hm hm2 hc (g_number hN k ns j)
theorem g_word (hW : prog[iW]? = some fnWord) (k : Nat) (ds : List Int) (m : Nat) (hm : 0 < m) (h3 : m ≤ 3) (hl : ds.length ≤ 10000) : ∃ w : Tx, w.length = ds.length ∧ isWord m w = true ∧ den prog W (k + 1) iW [.lst (ds.map .int), .int m] = .ok (false, .str w) := by
  rw [den_at hW]
  exact word_ok ds m hm h3 hl
theorem g_short (hS : prog[iS]? = some fnShort) (k : Nat) (ws : List Tx) (h : ws.length ≤ SZ) (hw : ∀ w ∈ ws, w.length ≤ SZ) : den prog W (k + 1) iS [.lst (ws.map .str)] = .ok (false, .tup ((shortW ws).map .str)) := by
  rw [den_at hS]
  exact short_ok ws h hw
theorem g_book (hN : prog[iN]? = some fnNumber) (hD : prog[iD]? = some (fnDraws iN)) (hW : prog[iW]? = some fnWord) (hS : prog[iS]? = some fnShort) (hB : prog[iB]? = some (fnBook iD iW iS)) (k : Nat) (ns : List Int) (j m c len : Nat) (hm : 0 < m) (hm3 : m ≤ 3)
    (hl0 : 0 < len) (hl : len ≤ 1000) (hc : c ≤ 1000) : ∃ ws : List Tx, Drawn m c len ws ∧ den prog W (k + 3) iB [.scr ns, .int j, .int m, .int c, .int len] = .ok (false, .tup [.int m, .tup ((shortW ws).map .str)]) := by
  rw [den_at hB]
  exact book_ok ns j m c len hm hm3 hl0 hl hc (fun j => g_draws hN hD k ns j (len + 1) 5040 (by decide) (by decide) (by omega)) (fun ds h => g_word hW (k + 1) ds m hm hm3 h) fun ws h hw => g_short hS (k + 1) ws h hw
end
theorem rangeI_cons (lo n : Nat) : rangeI (lo : Nat) (n + 1) = .int (lo : Nat) :: rangeI ((lo + 1 : Nat) : Int) n := by
  unfold rangeI
  rw [List.range_succ_eq_map, List.map_cons, List.map_map]
  have e0 : D.int ((lo : Int) + ((0 : Nat) : Int)) = D.int (lo : Nat) := by simp
  rw [e0]
  refine congrArg (D.int (lo : Nat) :: ·) (List.map_congr_left fun i _ => ?_)
  show D.int ((lo : Nat) + ((i + 1 : Nat) : Int)) = D.int (((lo + 1 : Nat) : Int) + (i : Nat))
  refine congrArg D.int ?_
  omega
/-- a loop that returns at the first s with P s -/
theorem forGo_first {α : Type} {g : D → Env → R Out} (mk : α → Env) (P : Nat → Bool) (r : Nat → Bool × D) : ∀ (n lo : Nat) (a : α),
    (∀ s a, lo ≤ s → s < lo + n → if P s then ∃ env, g (.int (s : Nat)) (mk a) = .ok (.ret (r s).1 (r s).2 env) else ∃ a', g (.int (s : Nat)) (mk a) = .ok (.nx (mk a'))) →
    match (List.range' lo n).find? P with
    | some s => ∃ env, forGo g (rangeI (lo : Nat) n) (mk a) = .ok (.ret (r s).1 (r s).2 env)
    | none => ∃ a', forGo g (rangeI (lo : Nat) n) (mk a) = .ok (.nx (mk a'))
  | 0, lo, a, _ => ⟨a, rfl⟩
  | n + 1, lo, a, h => by
    have e : rangeI (lo : Nat) (n + 1) = .int (lo : Nat) :: rangeI ((lo + 1 : Nat) : Int) n := by
      unfold rangeI
      rw [List.range_succ_eq_map, List.map_cons, List.map_map]
      have e0 : D.int ((lo : Int) + ((0 : Nat) : Int)) = D.int (lo : Nat) := by simp
      rw [e0]
      refine congrArg (D.int (lo : Nat) :: ·) (List.map_congr_left fun i _ => ?_)
      show D.int ((lo : Nat) + ((i + 1 : Nat) : Int)) = D.int (((lo + 1 : Nat) : Int) + (i : Nat))
      refine congrArg D.int ?_
      omega
    have h0 := h lo a (Nat.le_refl _) (by omega)
    rw [List.range'_succ, e]
    by_cases hp : P lo = true
    · rw [List.find?_cons_of_pos hp]
      rw [if_pos hp] at h0
      obtain ⟨env, h1⟩ := h0
      refine ⟨env, ?_⟩
      show (g _ _ >>= _) = _
      rw [h1]
      rfl
    · rw [List.find?_cons_of_neg hp]
      rw [if_neg hp] at h0
      obtain ⟨a', h1⟩ := h0
      have ih := forGo_first mk P r n (lo + 1) a' fun s a h2 h3 => h s a (by omega) (by omega)
      have e2 : forGo g (D.int (lo : Nat) :: rangeI ((lo + 1 : Nat) : Int) n) (mk a) = forGo g (rangeI ((lo + 1 : Nat) : Int) n) (mk a') := by
        show (g _ _ >>= _) = _
        rw [h1]
        rfl
      rw [e2]
      exact ih
theorem minI_of : ∀ {ns : List Int} {m : Int}, m ∈ ns → (∀ y ∈ ns, m ≤ y) → minI ns = some m
  | [], m, h, _ => by cases h
  | [x], m, h, _ => by
    rw [List.mem_singleton] at h
    rw [h]
    rfl
  | x :: z :: r, m, h, hb => by
    have some_of : ∀ (l : List Int), l ≠ [] → ∃ k, minI l = some k ∧ k ∈ l := by
      intro l
      induction l with
      | nil => intro h; exact absurd rfl h
      | cons a t ih =>
        intro _
        cases t with
        | nil => exact ⟨a, rfl, List.mem_cons_self⟩
        | cons b t =>
          obtain ⟨k, h1, h2⟩ := ih (by simp)
          by_cases hk : k < a
          · refine ⟨k, ?_, List.mem_cons_of_mem _ h2⟩
            show (minI (b :: t)).map _ = _
            rw [h1]
            simp [hk]
          · refine ⟨a, ?_, List.mem_cons_self⟩
            show (minI (b :: t)).map _ = _
            rw [h1]
            simp [hk]
    by_cases hm : m ∈ z :: r
    · have ih := minI_of hm fun y hy => hb y (List.mem_cons_of_mem _ hy)
      show (minI (z :: r)).map _ = _
      rw [ih]
      have := hb x List.mem_cons_self
      by_cases he : m < x
      · simp [he]
      · have : m = x := by omega
        simp [this]
    · rcases List.mem_cons.mp h with e | h'
      · subst e
        obtain ⟨k, h1, h2⟩ := some_of (z :: r) (by simp)
        show (minI (z :: r)).map _ = _
        rw [h1]
        have := hb k (List.mem_cons_of_mem _ h2)
        simp
        omega
      · exact absurd h' hm
theorem slcL_both (ds : List D) (i j : Nat) (hi : i ≤ ds.length) (hj : j ≤ ds.length) : slcD (.lst ds) (some (i : Int)) (some (j : Int)) = some (.fr, .lst ((ds.drop i).take (j - i))) := by
  show some (Fl.fr, D.lst _) = _
  rw [cut_both _ _ _ hi hj]
theorem slc_both {s : Tx} (h : s.length ≤ SZ) (i j : Nat) (hi : i ≤ s.length) (hj : j ≤ s.length) : slcD (.str s) (some (i : Int)) (some (j : Int)) = some (.pl, .str ((s.drop i).take (j - i))) := by
  show (if _ then _ else _) = _
  rw [if_pos h, cut_both _ _ _ hi hj]
end PF

namespace PF.K90
open PF
def c_row_counts : FnD := ⟨2, 4, [.asg 2 (.lst [.cst (.int 1)]),
  .for_ [3] (.rg2 (.cst (.int 1)) (.bin .add (.var 1) (.cst (.int 1)))) [.app 2 (.call 1 [.var 0, .var 2])],
  .retV 2]⟩
def c_next_count : FnD := ⟨2, 3, [.ret (.bi .sum [.lc [2] (.seq .tuple (.idx (.var 0) (.cst (.int 1)))) (.yes (.cmp .le (.bi .len [.var 2]) (.bi .len [.var 1]))) (.idx (.var 1) (.bin .sub (.bi .len [.var 1]) (.bi .len [.var 2])))])]⟩
def c_row_number : FnD := ⟨2, 7, [.asg 2 (.bi .sum [.lc [5] (.seq .tuple (.var 1)) .no (.bi .len [.idx (.idx (.var 0) (.cst (.int 1))) (.var 5)])]),
  .asg 3 (.call 0 [.var 0, .var 2]),
  .asg 4 (.bi .sum [.slc (.var 3) .no (.yes (.var 2))]),
  .for_ [5] (.seq .tuple (.var 1)) [.for_ [6] (.rg1 (.var 5)) [.ife (.cmp .le (.bi .len [.idx (.idx (.var 0) (.cst (.int 1))) (.var 6)]) (.var 2)) [.asg 4 (.bin .add (.var 4) (.idx (.var 3) (.bin .sub (.var 2) (.bi .len [.idx (.idx (.var 0) (.cst (.int 1))) (.var 6)]))))] []],
    .asg 2 (.bin .sub (.var 2) (.bi .len [.idx (.idx (.var 0) (.cst (.int 1))) (.var 5)]))],
  .retV 4]⟩
def c_row_by_number : FnD := ⟨2, 4, [.ife (.quiet (.or (.cmp .lt (.var 1) (.cst (.int 0))) (.cmp .gt (.var 1) (.cst (.int 1000))))) [.raise 1 (.yes (.quiet (.var 1)))] [],
  .qS (.ife (.cmp .eq (.bi .len [.idx (.var 0) (.cst (.int 1))]) (.cst (.int 0))) [.ife (.cmp .eq (.var 1) (.cst (.int 0))) [.ret (.tup [])] [],
    .ret (.cst .non)] []),
  .qS (.asg 2 (.cst (.int 0))),
  .qS (.asg 3 (.lst [.cst (.int 1)])),
  .qS (.whl (.cmp .ge (.var 1) (.idx (.var 3) (.var 2))) [.asg 1 (.bin .sub (.var 1) (.idx (.var 3) (.var 2))),
    .asg 2 (.bin .add (.var 2) (.cst (.int 1))),
    .app 3 (.call 1 [.var 0, .var 3])]),
  .qS (.fz [3] (.ret (.call 4 [.var 0, .var 3, .var 2, .var 1])))]⟩
def c_row_of_size : FnD := ⟨4, 6, [.asg 4 (.tup []),
  .whl (.cmp .gt (.var 2) (.cst (.int 0))) [.fz [1] (.asgT [5, 3] (.call 5 [.var 0, .var 1, .var 2, .var 3])),
    .asg 4 (.bin .add (.var 4) (.tup [.var 5])),
    .asg 2 (.bin .sub (.var 2) (.bi .len [.idx (.idx (.var 0) (.cst (.int 1))) (.var 5)]))],
  .retV 4]⟩
def c_next_index : FnD := ⟨4, 6, [.for_ [4] (.rg1 (.bi .len [.idx (.var 0) (.cst (.int 1))])) [.ife (.cmp .le (.bi .len [.idx (.idx (.var 0) (.cst (.int 1))) (.var 4)]) (.var 2)) [.asg 5 (.idx (.var 1) (.bin .sub (.var 2) (.bi .len [.idx (.idx (.var 0) (.cst (.int 1))) (.var 4)]))),
      .ife (.cmp .lt (.var 3) (.var 5)) [.ret (.tup [.var 4, .var 3])] [],
      .asg 3 (.bin .sub (.var 3) (.var 5))] []],
  .ret (.cst .non)]⟩
def c__law_is_int : FnD := ⟨1, 1, [.ret (.and (.bi (.isin .int) [.var 0]) (.not (.bi (.isin .bool) [.var 0])))]⟩
def c__law_same : FnD := ⟨2, 3, [.ife (.or (.bi (.isin .bool) [.var 1]) (.bi (.isin .bool) [.var 0])) [.ret (.and (.bi (.isin .bool) [.var 1]) (.and (.bi (.isin .bool) [.var 0]) (.cmp .eq (.var 0) (.var 1))))] [],
  .ife (.or (.cmp .is_ (.var 1) (.cst .non)) (.bi (.isin .int) [.var 1])) [.ret (.and (.cmp .eq (.var 0) (.var 1)) (.or (.cmp .is_ (.var 1) (.cst .non)) (.bi (.isin .int) [.var 0])))] [],
  .ife (.bi (.isin .str) [.var 1]) [.ret (.and (.bi (.isin .str) [.var 0]) (.cmp .eq (.var 0) (.var 1)))] [],
  .ife (.or (.cmp .ne (.bi (.isin .list) [.var 1]) (.bi (.isin .list) [.var 0])) (.cmp .ne (.bi (.isin .tuple) [.var 1]) (.bi (.isin .tuple) [.var 0]))) [.ret (.cst (.bl false))] [],
  .ife (.cmp .ne (.bi .len [.var 0]) (.bi .len [.var 1])) [.ret (.cst (.bl false))] [],
  .for_ [2] (.rg1 (.bi .len [.var 1])) [.ife (.not (.call 7 [.idx (.var 0) (.var 2), .idx (.var 1) (.var 2)])) [.ret (.cst (.bl false))] []],
  .ret (.cst (.bl true))]⟩
def c__law_number : FnD := ⟨2, 3, [.asg 2 (.bin .add (.bin .mul (.bi .sum [.var 0]) (.cst (.int 31))) (.bin .mul (.cst (.int 1000003)) (.bin .add (.var 1) (.cst (.int 1))))),
  .ife (.cmp .lt (.var 1) (.bi .len [.var 0])) [.asg 2 (.idx (.var 0) (.var 1))] [],
  .ret (.bi .abs [.var 2])]⟩
def c__law_draws : FnD := ⟨4, 9, [.asg 4 (.call 8 [.var 0, .var 1]),
  .asg 5 (.lst []),
  .ife (.cmp .ge (.var 4) (.bin .pow (.cst (.int 10)) (.cst (.int 18)))) [.asg 4 (.bin .sub (.var 4) (.bin .pow (.cst (.int 10)) (.cst (.int 18)))),
    .for_ [7] (.rg1 (.var 2)) [.app 5 (.bin .mod (.var 4) (.var 3)),
      .asg 4 (.bin .fdiv (.var 4) (.var 3))],
    .retV 5] [],
  .asg 6 (.bin .add (.bin .mod (.var 4) (.cst (.int 2147483647))) (.cst (.int 1))),
  .for_ [7] (.rg1 (.var 2)) [.asg 6 (.bin .mod (.bin .add (.bin .add (.bin .mul (.var 6) (.cst (.int 48271))) (.bin .mul (.cst (.int 11)) (.var 7))) (.cst (.int 7))) (.cst (.int 2147483647))),
    .asg 8 (.bin .mod (.bin .add (.bin .add (.bin .mul (.var 6) (.var 6)) (.bin .mul (.cst (.int 69621)) (.var 7))) (.cst (.int 5))) (.cst (.int 2147483629))),
    .app 5 (.bin .mod (.bin .fdiv (.var 8) (.cst (.int 64))) (.var 3))],
  .retV 5]⟩
def c__law_word : FnD := ⟨2, 3, [.ret (.mt .join (.cst (.str [])) [.lc [2] (.seq .list (.var 0)) .no (.idx (.cst (.str [97, 98, 99])) (.bin .mod (.var 2) (.var 1)))])]⟩
def c__law_short : FnD := ⟨1, 2, [.ret (.bi .tuple [.bi .sortK [.lc [1] (.rg1 (.bi .len [.var 0])) (.yes (.and (.cmp .ne (.idx (.var 0) (.var 1)) (.cst (.str []))) (.cmp .notin (.idx (.var 0) (.var 1)) (.slc (.var 0) .no (.yes (.var 1)))))) (.idx (.var 0) (.var 1))]])]⟩
def c__law_key : FnD := ⟨1, 1, [.fz [0] (.ret (.tup [.bi .len [.var 0], .var 0]))]⟩
def c__law_book : FnD := ⟨5, 8, [.asg 5 (.lst []),
  .for_ [6] (.rg1 (.var 3)) [.fz [0] (.asg 7 (.call 9 [.var 0, .bin .add (.var 1) (.var 6), .bin .add (.var 4) (.cst (.int 1)), .cst (.int 5040)])),
    .app 5 (.call 10 [.slc (.var 7) (.yes (.cst (.int 1))) (.yes (.bin .add (.cst (.int 2)) (.bin .mod (.idx (.var 7) (.cst (.int 0))) (.var 4)))), .var 2])],
  .fz [5] (.ret (.tup [.var 2, .call 11 [.var 5]]))]⟩
def c__law_is_row : FnD := ⟨2, 3, [.ife (.not (.bi (.isin .tuple) [.var 1])) [.ret (.cst (.bl false))] [],
  .ret (.cmp .eq (.bi .len [.lc [2] (.seq .tuple (.var 1)) (.yes (.or (.not (.call 6 [.var 2])) (.not (.chain .le .lt (.cst (.int 0)) (.var 2) (.bi .len [.idx (.var 0) (.cst (.int 1))]))))) (.var 2)]) (.cst (.int 0)))]⟩
def c__law_told : FnD := ⟨2, 3, [.tryW 3 [.var 0, .var 1] false (fun d => .tup [.str [114, 111, 119], d]) (fun c d => if c = 1 then some (.tup [.str [98, 97, 100], d]) else none)]⟩
def c_law : FnD := ⟨1, 15, [.fz [0] (.asg 1 (.call 9 [.var 0, .cst (.int 0), .cst (.int 3), .cst (.int 720)])),
  .asg 2 (.bin .add (.cst (.int 1)) (.bin .mod (.idx (.var 1) (.cst (.int 0))) (.cst (.int 3)))),
  .fz [0] (.asg 3 (.tup [.var 2, .tup [.call 10 [.call 9 [.var 0, .cst (.int 8), .cst (.int 12), .cst (.int 5040)], .var 2]]])),
  .fz [0] (.for_ [4] (.seq .list (.lst [.call 13 [.var 0, .cst (.int 1), .var 2, .bin .mod (.idx (.var 1) (.cst (.int 1))) (.cst (.int 7)), .cst (.int 3)], .var 3])) [.asg 5 (.lst [.tup [.tup [], .cst (.int 0)]]),
    .asg 6 (.cst (.int 0)),
    .whl (.cmp .lt (.var 6) (.bi .len [.var 5])) [.asgT [11, 12] (.idx (.var 5) (.var 6)),
      .for_ [13] (.rg1 (.bi .len [.idx (.var 4) (.cst (.int 1))])) [.ife (.cmp .le (.bin .add (.var 12) (.bi .len [.idx (.idx (.var 4) (.cst (.int 1))) (.var 13)])) (.cst (.int 5))) [.app 5 (.tup [.bin .add (.var 11) (.tup [.var 13]), .bin .add (.var 12) (.bi .len [.idx (.idx (.var 4) (.cst (.int 1))) (.var 13)])])] []],
      .asg 6 (.bin .add (.var 6) (.cst (.int 1)))],
    .asg 7 (.lc [14] (.seq .list (.bi .sorted [.lc [14] (.seq .list (.var 5)) .no (.tup [.idx (.var 14) (.cst (.int 1)), .idx (.var 14) (.cst (.int 0))])])) .no (.idx (.var 14) (.cst (.int 1)))),
    .for_ [8] (.rg1 (.bi .min [.bi .len [.var 7], .cst (.int 40)])) [.ife (.not (.call 7 [.call 15 [.var 4, .var 8], .tup [.cst (.str [114, 111, 119]), .idx (.var 7) (.var 8)]])) [.ret (.cst (.bl false))] [],
      .ife (.not (.call 7 [.call 2 [.var 4, .idx (.var 7) (.var 8)], .var 8])) [.ret (.cst (.bl false))] []],
    .asg 9 (.bin .mod (.idx (.var 1) (.cst (.int 2))) (.cst (.int 1001))),
    .asg 10 (.call 15 [.var 4, .var 9]),
    .ife (.cmp .eq (.bi .len [.idx (.var 4) (.cst (.int 1))]) (.cst (.int 0))) [.ife (.cmp .ne (.var 10) (.tup [.cst (.str [114, 111, 119]), .idx (.lst [.cst .non, .tup []]) (.bi .int [.cmp .eq (.var 9) (.cst (.int 0))])])) [.ret (.cst (.bl false))] []] [.ife (.or (.cmp .ne (.idx (.var 10) (.cst (.int 0))) (.cst (.str [114, 111, 119]))) (.or (.not (.call 14 [.var 4, .idx (.var 10) (.cst (.int 1))])) (.not (.call 7 [.call 2 [.var 4, .idx (.var 10) (.cst (.int 1))], .var 9])))) [.ret (.cst (.bl false))] []],
    .for_ [8] (.seq .list (.lst [.bin .sub (.cst (.int 0)) (.cst (.int 1)), .cst (.int 1001), .bin .pow (.cst (.int 10)) (.cst (.int 20))])) [.ife (.not (.call 7 [.call 15 [.var 4, .var 8], .tup [.cst (.str [98, 97, 100]), .var 8]])) [.ret (.cst (.bl false))] []]]),
  .ret (.cst (.bl true))]⟩
def prog : List FnD := [c_row_counts, c_next_count, c_row_number, c_row_by_number, c_row_of_size, c_next_index, c__law_is_int, c__law_same, c__law_number, c__law_draws, c__law_word, c__law_short, c__law_key, c__law_book, c__law_is_row, c__law_told, c_law]
end PF.K90

namespace PF.K90
open PySem PySem.Spec PyProof.Rows L2 PF
def topS (i : Nat) : Stmt := PySem.Challenge.pw_readapart_k90_numbers_of_rows.main.body.getD i (.Pass ⟨0, 0, 0, 0⟩)
abbrev s_row_counts : Stmt := topS 5
theorem sc_row_counts : FnScope ["book", "length", "counts", "size"] ["book", "length"] (defScope s_row_counts) := ⟨rfl, rfl, rfl, by decide +kernel, rfl, by decide +kernel, by decide +kernel⟩
abbrev s_next_count : Stmt := topS 6
theorem sc_next_count : FnScope ["book", "counts", "word"] ["book", "counts"] (defScope s_next_count) := ⟨rfl, rfl, rfl, by decide +kernel, rfl, by decide +kernel, by decide +kernel⟩
abbrev s_row_number : Stmt := topS 7
theorem sc_row_number : FnScope ["book", "row", "size", "counts", "number", "index", "other"] ["book", "row"] (defScope s_row_number) := ⟨rfl, rfl, rfl, by decide +kernel, rfl, by decide +kernel, by decide +kernel⟩
abbrev s_row_by_number : Stmt := topS 8
theorem sc_row_by_number : FnScope ["book", "number", "size", "counts"] ["book", "number"] (defScope s_row_by_number) := ⟨rfl, rfl, rfl, by decide +kernel, rfl, by decide +kernel, by decide +kernel⟩
abbrev s_row_of_size : Stmt := topS 9
theorem sc_row_of_size : FnScope ["book", "counts", "size", "number", "row", "index"] ["book", "counts", "size", "number"] (defScope s_row_of_size) := ⟨rfl, rfl, rfl, by decide +kernel, rfl, by decide +kernel, by decide +kernel⟩
abbrev s_next_index : Stmt := topS 10
theorem sc_next_index : FnScope ["book", "counts", "size", "number", "index", "count"] ["book", "counts", "size", "number"] (defScope s_next_index) := ⟨rfl, rfl, rfl, by decide +kernel, rfl, by decide +kernel, by decide +kernel⟩
abbrev s__law_is_int : Stmt := topS 12
theorem sc__law_is_int : FnScope ["x"] ["x"] (defScope s__law_is_int) := ⟨rfl, rfl, rfl, by decide +kernel, rfl, by decide +kernel, by decide +kernel⟩
abbrev s__law_same : Stmt := topS 13
theorem sc__law_same : FnScope ["told", "due", "k"] ["told", "due"] (defScope s__law_same) := ⟨rfl, rfl, rfl, by decide +kernel, rfl, by decide +kernel, by decide +kernel⟩
abbrev s__law_number : Stmt := topS 14
theorem sc__law_number : FnScope ["script", "k", "number"] ["script", "k"] (defScope s__law_number) := ⟨rfl, rfl, rfl, by decide +kernel, rfl, by decide +kernel, by decide +kernel⟩
abbrev s__law_draws : Stmt := topS 15
theorem sc__law_draws : FnScope ["script", "k", "count", "many", "number", "found", "state", "at", "other"] ["script", "k", "count", "many"] (defScope s__law_draws) := ⟨rfl, rfl, rfl, by decide +kernel, rfl, by decide +kernel, by decide +kernel⟩
abbrev s__law_word : Stmt := topS 16
theorem sc__law_word : FnScope ["picks", "letters", "pick"] ["picks", "letters"] (defScope s__law_word) := ⟨rfl, rfl, rfl, by decide +kernel, rfl, by decide +kernel, by decide +kernel⟩
abbrev s__law_short : Stmt := topS 17
theorem sc__law_short : FnScope ["words", "k"] ["words"] (defScope s__law_short) := ⟨rfl, rfl, rfl, by decide +kernel, rfl, by decide +kernel, by decide +kernel⟩
abbrev s__law_key : Stmt := topS 18
theorem sc__law_key : FnScope ["word"] ["word"] (defScope s__law_key) := ⟨rfl, rfl, rfl, by decide +kernel, rfl, by decide +kernel, by decide +kernel⟩
abbrev s__law_book : Stmt := topS 19
theorem sc__law_book : FnScope ["script", "k", "letters", "count", "length", "words", "j", "picks"] ["script", "k", "letters", "count", "length"] (defScope s__law_book) := ⟨rfl, rfl, rfl, by decide +kernel, rfl, by decide +kernel, by decide +kernel⟩
abbrev s__law_is_row : Stmt := topS 20
theorem sc__law_is_row : FnScope ["book", "row", "index"] ["book", "row"] (defScope s__law_is_row) := ⟨rfl, rfl, rfl, by decide +kernel, rfl, by decide +kernel, by decide +kernel⟩
abbrev s__law_told : Stmt := topS 21
theorem sc__law_told : FnScope ["book", "number", "error"] ["book", "number"] (defScope s__law_told) := ⟨rfl, rfl, rfl, by decide +kernel, rfl, by decide +kernel, by decide +kernel⟩
abbrev s_law : Stmt := topS 22
theorem sc_law : FnScope ["script", "shape", "letters", "long", "book", "found", "at", "ordered", "number", "far", "told", "row", "size", "k", "pair"] ["script"] (defScope s_law) := ⟨rfl, rfl, rfl, by decide +kernel, rfl, by decide +kernel, by decide +kernel⟩
def ps (i : Nat) : List Str := match i with
  | 0 => ["book", "length"]
  | 1 => ["book", "counts"]
  | 2 => ["book", "row"]
  | 3 => ["book", "number"]
  | 4 => ["book", "counts", "size", "number"]
  | 5 => ["book", "counts", "size", "number"]
  | 6 => ["x"]
  | 7 => ["told", "due"]
  | 8 => ["script", "k"]
  | 9 => ["script", "k", "count", "many"]
  | 10 => ["picks", "letters"]
  | 11 => ["words"]
  | 12 => ["word"]
  | 13 => ["script", "k", "letters", "count", "length"]
  | 14 => ["book", "row"]
  | 15 => ["book", "number"]
  | 16 => ["script"]
  | _ => []
theorem kd__law_key : KeyDef s__law_key := ⟨sc__law_key, rfl, rfl, _, _, _, _, _, _, _, rfl⟩
def isX (i : Nat) : Bool := i == 3
structure Fc (P : Program) (w : World) (cl : Nat → Addr) (fl : Nat → Option Str) (K : PySem.W.Frag) (mg : Str → Option Value) (fa : Nat → Addr) (fd : Nat → FuncData) : Prop where
  i_BadNumber : InitK P w K mg "BadNumber" (cl 1) "number"
  n_1 : fl 1 = some "number"
  e_1_1 : PySem.W.exmOne K (.ref (cl 1)) (.ref (cl 1)) = some true
  d0 : DefAt K mg "row_counts" s_row_counts (fa 0) (fd 0) (ps 0)
  d1 : DefAt K mg "next_count" s_next_count (fa 1) (fd 1) (ps 1)
  d2 : DefAt K mg "row_number" s_row_number (fa 2) (fd 2) (ps 2)
  d3 : DefAt K mg "row_by_number" s_row_by_number (fa 3) (fd 3) (ps 3)
  d4 : DefAt K mg "row_of_size" s_row_of_size (fa 4) (fd 4) (ps 4)
  d5 : DefAt K mg "next_index" s_next_index (fa 5) (fd 5) (ps 5)
  d6 : DefAt K mg "_law_is_int" s__law_is_int (fa 6) (fd 6) (ps 6)
  d7 : DefAt K mg "_law_same" s__law_same (fa 7) (fd 7) (ps 7)
  d8 : DefAt K mg "_law_number" s__law_number (fa 8) (fd 8) (ps 8)
  d9 : DefAt K mg "_law_draws" s__law_draws (fa 9) (fd 9) (ps 9)
  d10 : DefAt K mg "_law_word" s__law_word (fa 10) (fd 10) (ps 10)
  d11 : DefAt K mg "_law_short" s__law_short (fa 11) (fd 11) (ps 11)
  d12 : DefAt K mg "_law_key" s__law_key (fa 12) (fd 12) (ps 12)
  d13 : DefAt K mg "_law_book" s__law_book (fa 13) (fd 13) (ps 13)
  d14 : DefAt K mg "_law_is_row" s__law_is_row (fa 14) (fd 14) (ps 14)
  d15 : DefAt K mg "_law_told" s__law_told (fa 15) (fd 15) (ps 15)
  d16 : DefAt K mg "law" s_law (fa 16) (fd 16) (ps 16)
  z_abs : mg "abs" = none
  z_bool : mg "bool" = none
  z_int : mg "int" = none
  z_isinstance : mg "isinstance" = none
  z_len : mg "len" = none
  z_list : mg "list" = none
  z_min : mg "min" = none
  z_range : mg "range" = none
  z_sorted : mg "sorted" = none
  z_str : mg "str" = none
  z_sum : mg "sum" = none
  z_tuple : mg "tuple" = none
  g_MOST_NUMBER : ∃ tk, mg "MOST_NUMBER" = some (.int 1000 tk)
def W : Nat := 100000
section
variable {P : Program} {w : World} {K : PySem.W.Frag} {mg : Str → Option Value} {base : Heap} {fa : Nat → Addr} {fd : Nat → FuncData} {k : Nat} {cl : Nat → Addr} {fl : Nat → Option Str}
abbrev All (cl : Nat → Addr) (fl : Nat → Option Str) (P : Program) (w : World) (K : PySem.W.Frag) (mg : Str → Option Value) (base : Heap) (fa : Nat → Addr) (fd : Nat → FuncData) (k : Nat) : Prop := (∀ i, i < 17 → isX i = false → FnOk P w K mg base CX0 (k + 2) (fa i) (fd i) (ps i) (spOf K XW0 (den prog W k i) (ps i).length)) ∧ (∀ i, i < 17 → isX i = true → FnOk P w K mg base (L2.CX P w) (k + 2) (fa i) (fd i) (ps i) (spX K cl fl (den prog W k i) (ps i).length))
theorem bd_row_counts (Z : Fc P w cl fl K mg fa fd) (hA : All cl fl P w K mg base fa fd k) (cdv : Value) (A : Around) (outer : List PySem.Env) (s : Shared) (H : Hp) (E : XK) (F0 H0 : Hp) (hr : Room (k + 2) (A.deeper (envOfC "row_counts" (defScope s_row_counts) s.heap.objs.size (fa 0) cdv))) :
    DSs (bx P w K mg base ["book", "length", "counts", "size"] "row_counts" s_row_counts (fa 0) cdv A outer s H E) (mkC F0 H0 prog W k) (defBody s_row_counts) c_row_counts.body := by
  have hN := sc_row_counts.nd
  have hu := Room.u70 hr
  exact (dss_cons (ds_asg 2 (de_lst (dd_cons de_int dd_nil)) hN)
  (dss_cons (ds_for PassesOwn.never rfl (di_rg2 de_int (de_bin .add (de_var 1) de_int) Z.z_range) (pg_name hN rfl (by first | exact Or.inl rfl | exact Or.inr rfl)) (gok_name 3) (dss_cons (ds_app 2 (de_call (hA.1 1 (by decide) rfl) hr Z.d1.mg Z.d1.fn.kp Z.d1.bi pass0 rfl (da_cons (de_var 0) (da_cons (de_var 2) da_nil))))
    dss_nil))
  (dss_cons (ds_retV 2)
  dss_nil)))
theorem bd_next_count (Z : Fc P w cl fl K mg fa fd) (hA : All cl fl P w K mg base fa fd k) (cdv : Value) (A : Around) (outer : List PySem.Env) (s : Shared) (H : Hp) (E : XK) (F0 H0 : Hp) (hr : Room (k + 2) (A.deeper (envOfC "next_count" (defScope s_next_count) s.heap.objs.size (fa 1) cdv))) :
    DSs (bx P w K mg base ["book", "counts", "word"] "next_count" s_next_count (fa 1) cdv A outer s H E) (mkC F0 H0 prog W k) (defBody s_next_count) c_next_count.body := by
  have hN := sc_next_count.nd
  have hu := Room.u70 hr
  exact (dss_cons (ds_ret (de_biB .sum Z.z_sum bb_sum (da_cons (de_lc (own := [("word", 2)]) rfl hN (di_tup (de_idx (de_var 0) de_int)) (blkOk_by (N := ["book", "counts", "word"]) (sc := defScope s_next_count) (by decide +kernel)) (gok_name 2) (fun _ _ _ _ _ => (pg_name hN rfl (by first | exact Or.inl rfl | exact Or.inr rfl))) (fun _ _ _ _ _ => (dc_one (dt_cmp .le (de_biB .len Z.z_len bb_len (da_cons (de_var 2) da_nil) rfl) (de_biB .len Z.z_len bb_len (da_cons (de_var 1) da_nil) rfl) hu (nomark _)))) (fun _ _ _ _ _ => (de_idx (de_var 1) (de_bin .sub (de_biB .len Z.z_len bb_len (da_cons (de_var 1) da_nil) rfl) (de_biB .len Z.z_len bb_len (da_cons (de_var 2) da_nil) rfl))))) da_nil) rfl))
  dss_nil)
theorem bd_row_number (Z : Fc P w cl fl K mg fa fd) (hA : All cl fl P w K mg base fa fd k) (cdv : Value) (A : Around) (outer : List PySem.Env) (s : Shared) (H : Hp) (E : XK) (F0 H0 : Hp) (hr : Room (k + 2) (A.deeper (envOfC "row_number" (defScope s_row_number) s.heap.objs.size (fa 2) cdv))) :
    DSs (bx P w K mg base ["book", "row", "size", "counts", "number", "index", "other"] "row_number" s_row_number (fa 2) cdv A outer s H E) (mkC F0 H0 prog W k) (defBody s_row_number) c_row_number.body := by
  have hN := sc_row_number.nd
  have hu := Room.u70 hr
  exact (dss_cons (ds_asg 2 (de_biB .sum Z.z_sum bb_sum (da_cons (de_lc (own := [("index", 5)]) rfl hN (di_tup (de_var 1)) (blkOk_by (N := ["book", "row", "size", "counts", "number", "index", "other"]) (sc := defScope s_row_number) (by decide +kernel)) (gok_name 5) (fun _ _ _ _ _ => (pg_name hN rfl (by first | exact Or.inl rfl | exact Or.inr rfl))) (fun _ _ _ _ _ => dc_nil) (fun _ _ _ _ _ => (de_biB .len Z.z_len bb_len (da_cons (de_idx (de_idx (de_var 0) de_int) (de_var 5)) da_nil) rfl))) da_nil) rfl) hN)
  (dss_cons (ds_asg 3 (de_call (hA.1 0 (by decide) rfl) hr Z.d0.mg Z.d0.fn.kp Z.d0.bi pass0 rfl (da_cons (de_var 0) (da_cons (de_var 2) da_nil))) hN)
  (dss_cons (ds_asg 4 (de_biB .sum Z.z_sum bb_sum (da_cons (de_slc (de_var 3) do_none (do_some (de_var 2))) da_nil) rfl) hN)
  (dss_cons (ds_for PassesOwn.never rfl (di_tup (de_var 1)) (pg_name hN rfl (by first | exact Or.inl rfl | exact Or.inr rfl)) (gok_name 5) (dss_cons (ds_for PassesOwn.never rfl (di_rg1 (de_var 5) Z.z_range) (pg_name hN rfl (by first | exact Or.inl rfl | exact Or.inr rfl)) (gok_name 6) (dss_cons (ds_if (dt_cmp .le (de_biB .len Z.z_len bb_len (da_cons (de_idx (de_idx (de_var 0) de_int) (de_var 6)) da_nil) rfl) (de_var 2) hu (nomark _)) (dss_cons (ds_asg 4 (de_bin .add (de_var 4) (de_idx (de_var 3) (de_bin .sub (de_var 2) (de_biB .len Z.z_len bb_len (da_cons (de_idx (de_idx (de_var 0) de_int) (de_var 6)) da_nil) rfl)))) hN)
        dss_nil) dss_nil)
      dss_nil))
    (dss_cons (ds_asg 2 (de_bin .sub (de_var 2) (de_biB .len Z.z_len bb_len (da_cons (de_idx (de_idx (de_var 0) de_int) (de_var 5)) da_nil) rfl)) hN)
    dss_nil)))
  (dss_cons (ds_retV 4)
  dss_nil)))))
theorem bd_row_by_number (Z : Fc P w cl fl K mg fa fd) (hA : All cl fl P w K mg base fa fd k) (cdv : Value) (A : Around) (outer : List PySem.Env) (s : Shared) (H : Hp) (E : XK) (F0 H0 : Hp) (hr : Room (k + 2) (A.deeper (envOfC "row_by_number" (defScope s_row_by_number) s.heap.objs.size (fa 3) cdv))) :
    DSs (bxX P w K mg base ["book", "number", "size", "counts"] "row_by_number" s_row_by_number (fa 3) cdv A outer s H E) (mkX F0 H0 prog W k K cl fl E) (defBody s_row_by_number) c_row_by_number.body := by
  have hN := sc_row_by_number.nd
  have hu := Room.u70 hr
  have hpo : PassesOwn (model P w) (bxX P w K mg base ["book", "number", "size", "counts"] "row_by_number" s_row_by_number (fa 3) cdv A outer s H E).A (bxX P w K mg base ["book", "number", "size", "counts"] "row_by_number" s_row_by_number (fa 3) cdv A outer s H E).env (bxX P w K mg base ["book", "number", "size", "counts"] "row_by_number" s_row_by_number (fa 3) cdv A outer s H E).xe := ownsX
  exact (dss_cons (ds_if (dt_quiet (PW.pt (dw_or (dt_cmp .lt (de_var 1) de_int hu (nomark _)) (dw_or1 (dt_cmp .gt (de_var 1) (de_gI Z.g_MOST_NUMBER) hu (nomark _)))))) (dss_cons (ds_raiseI (cl := cl) (fl := fl) Z.i_BadNumber hr rfl takesX rfl rfl Z.n_1 (dd_cons (de_quiet (de_var 1)) dd_nil))
    dss_nil) dss_nil)
  (dss_cons (ds_quiet (ds_if (dt_cmp .eq (de_biB .len Z.z_len bb_len (da_cons (de_idx (de_var 0) de_int) da_nil) rfl) de_int hu (nomark _)) (dss_cons (ds_if (dt_cmp .eq (de_var 1) de_int hu (nomark _)) (dss_cons (ds_ret (de_tup dd_nil))
      dss_nil) dss_nil)
    (dss_cons (ds_ret de_non)
    dss_nil)) dss_nil))
  (dss_cons (ds_quiet (ds_asg 2 de_int hN))
  (dss_cons (ds_quiet (ds_asg 3 (de_lst (dd_cons de_int dd_nil)) hN))
  (dss_cons (ds_quiet (ds_while hpo (dt_cmp .ge (de_var 1) (de_idx (de_var 3) (de_var 2)) hu (nomark _)) (dss_cons (ds_asg 1 (de_bin .sub (de_var 1) (de_idx (de_var 3) (de_var 2))) hN)
    (dss_cons (ds_asg 2 (de_bin .add (de_var 2) de_int) hN)
    (dss_cons (ds_app 3 (de_call (hA.1 1 (by decide) rfl) hr Z.d1.mg Z.d1.fn.kp Z.d1.bi pass0 rfl (da_cons (de_var 0) (da_cons (de_var 3) da_nil))))
    dss_nil)))))
  (dss_cons (ds_quiet (ds_fz [3] (ds_ret (de_call (hA.1 4 (by decide) rfl) hr Z.d4.mg Z.d4.fn.kp Z.d4.bi pass0 rfl (da_cons (de_var 0) (da_cons (de_var 3) (da_cons (de_var 2) (da_cons (de_var 1) da_nil))))))))
  dss_nil))))))
theorem bd_row_of_size (Z : Fc P w cl fl K mg fa fd) (hA : All cl fl P w K mg base fa fd k) (cdv : Value) (A : Around) (outer : List PySem.Env) (s : Shared) (H : Hp) (E : XK) (F0 H0 : Hp) (hr : Room (k + 2) (A.deeper (envOfC "row_of_size" (defScope s_row_of_size) s.heap.objs.size (fa 4) cdv))) :
    DSs (bx P w K mg base ["book", "counts", "size", "number", "row", "index"] "row_of_size" s_row_of_size (fa 4) cdv A outer s H E) (mkC F0 H0 prog W k) (defBody s_row_of_size) c_row_of_size.body := by
  have hN := sc_row_of_size.nd
  have hu := Room.u70 hr
  exact (dss_cons (ds_asg 4 (de_tup dd_nil) hN)
  (dss_cons (ds_while PassesOwn.never (dt_cmp .gt (de_var 2) de_int hu (nomark _)) (dss_cons (ds_fz [1] (ds_asgT (de_call (hA.1 5 (by decide) rfl) hr Z.d5.mg Z.d5.fn.kp Z.d5.bi pass0 rfl (da_cons (de_var 0) (da_cons (de_var 1) (da_cons (de_var 2) (da_cons (de_var 3) da_nil))))) (pgn_tup (js := [5, 3]) rfl (pgn_cons (i := 5) (pgn_cons (i := 3) pgn_nil hN) hN) 2)))
    (dss_cons (ds_asg 4 (de_bin .add (de_var 4) (de_tup (dd_cons (de_var 5) dd_nil))) hN)
    (dss_cons (ds_asg 2 (de_bin .sub (de_var 2) (de_biB .len Z.z_len bb_len (da_cons (de_idx (de_idx (de_var 0) de_int) (de_var 5)) da_nil) rfl)) hN)
    dss_nil))))
  (dss_cons (ds_retV 4)
  dss_nil)))
theorem bd_next_index (Z : Fc P w cl fl K mg fa fd) (hA : All cl fl P w K mg base fa fd k) (cdv : Value) (A : Around) (outer : List PySem.Env) (s : Shared) (H : Hp) (E : XK) (F0 H0 : Hp) (hr : Room (k + 2) (A.deeper (envOfC "next_index" (defScope s_next_index) s.heap.objs.size (fa 5) cdv))) :
    DSs (bx P w K mg base ["book", "counts", "size", "number", "index", "count"] "next_index" s_next_index (fa 5) cdv A outer s H E) (mkC F0 H0 prog W k) (defBody s_next_index) c_next_index.body := by
  have hN := sc_next_index.nd
  have hu := Room.u70 hr
  exact (dss_cons (ds_for PassesOwn.never rfl (di_rg1 (de_biB .len Z.z_len bb_len (da_cons (de_idx (de_var 0) de_int) da_nil) rfl) Z.z_range) (pg_name hN rfl (by first | exact Or.inl rfl | exact Or.inr rfl)) (gok_name 4) (dss_cons (ds_if (dt_cmp .le (de_biB .len Z.z_len bb_len (da_cons (de_idx (de_idx (de_var 0) de_int) (de_var 4)) da_nil) rfl) (de_var 2) hu (nomark _)) (dss_cons (ds_asg 5 (de_idx (de_var 1) (de_bin .sub (de_var 2) (de_biB .len Z.z_len bb_len (da_cons (de_idx (de_idx (de_var 0) de_int) (de_var 4)) da_nil) rfl))) hN)
      (dss_cons (ds_if (dt_cmp .lt (de_var 3) (de_var 5) hu (nomark _)) (dss_cons (ds_ret (de_tup (dd_cons (de_var 4) (dd_cons (de_var 3) dd_nil))))
        dss_nil) dss_nil)
      (dss_cons (ds_asg 3 (de_bin .sub (de_var 3) (de_var 5)) hN)
      dss_nil))) dss_nil)
    dss_nil))
  (dss_cons (ds_ret de_non)
  dss_nil))
theorem bd__law_is_int (Z : Fc P w cl fl K mg fa fd) (hA : All cl fl P w K mg base fa fd k) (cdv : Value) (A : Around) (outer : List PySem.Env) (s : Shared) (H : Hp) (E : XK) (F0 H0 : Hp) (hr : Room (k + 2) (A.deeper (envOfC "_law_is_int" (defScope s__law_is_int) s.heap.objs.size (fa 6) cdv))) :
    DSs (bx P w K mg base ["x"] "_law_is_int" s__law_is_int (fa 6) cdv A outer s H E) (mkC F0 H0 prog W k) (defBody s__law_is_int) c__law_is_int.body := by
  have hN := sc__law_is_int.nd
  have hu := Room.u70 hr
  exact (dss_cons (ds_ret (de_and (de_isin .int Z.z_isinstance bb_isinstance Z.z_int bb_int (de_var 0)) (de_one (de_not (de_isin .bool Z.z_isinstance bb_isinstance Z.z_bool bb_bool (de_var 0))))))
  dss_nil)
theorem bd__law_same (Z : Fc P w cl fl K mg fa fd) (hA : All cl fl P w K mg base fa fd k) (cdv : Value) (A : Around) (outer : List PySem.Env) (s : Shared) (H : Hp) (E : XK) (F0 H0 : Hp) (hr : Room (k + 2) (A.deeper (envOfC "_law_same" (defScope s__law_same) s.heap.objs.size (fa 7) cdv))) :
    DSs (bx P w K mg base ["told", "due", "k"] "_law_same" s__law_same (fa 7) cdv A outer s H E) (mkC F0 H0 prog W k) (defBody s__law_same) c__law_same.body := by
  have hN := sc__law_same.nd
  have hu := Room.u70 hr
  exact (dss_cons (ds_if (PW.pt (dw_or (dt_val (de_isin .bool Z.z_isinstance bb_isinstance Z.z_bool bb_bool (de_var 1))) (dw_or1 (dt_val (de_isin .bool Z.z_isinstance bb_isinstance Z.z_bool bb_bool (de_var 0)))))) (dss_cons (ds_ret (de_and (de_isin .bool Z.z_isinstance bb_isinstance Z.z_bool bb_bool (de_var 1)) (de_and (de_isin .bool Z.z_isinstance bb_isinstance Z.z_bool bb_bool (de_var 0)) (de_one (de_cmp .eq (de_var 0) (de_var 1) hu (nomark _))))))
    dss_nil) dss_nil)
  (dss_cons (ds_if (PW.pt (dw_or (dt_cmp .is_ (de_var 1) de_non hu (nomark _)) (dw_or1 (dt_val (de_isin .int Z.z_isinstance bb_isinstance Z.z_int bb_int (de_var 1)))))) (dss_cons (ds_ret (de_and (de_cmp .eq (de_var 0) (de_var 1) hu (nomark _)) (de_one (de_or (de_cmp .is_ (de_var 1) de_non hu (nomark _)) (de_one (de_isin .int Z.z_isinstance bb_isinstance Z.z_int bb_int (de_var 0)))))))
    dss_nil) dss_nil)
  (dss_cons (ds_if (dt_val (de_isin .str Z.z_isinstance bb_isinstance Z.z_str bb_str (de_var 1))) (dss_cons (ds_ret (de_and (de_isin .str Z.z_isinstance bb_isinstance Z.z_str bb_str (de_var 0)) (de_one (de_cmp .eq (de_var 0) (de_var 1) hu (nomark _)))))
    dss_nil) dss_nil)
  (dss_cons (ds_if (PW.pt (dw_or (dt_cmp .ne (de_isin .list Z.z_isinstance bb_isinstance Z.z_list bb_list (de_var 1)) (de_isin .list Z.z_isinstance bb_isinstance Z.z_list bb_list (de_var 0)) hu (nomark _)) (dw_or1 (dt_cmp .ne (de_isin .tuple Z.z_isinstance bb_isinstance Z.z_tuple bb_tuple (de_var 1)) (de_isin .tuple Z.z_isinstance bb_isinstance Z.z_tuple bb_tuple (de_var 0)) hu (nomark _))))) (dss_cons (ds_ret de_bl)
    dss_nil) dss_nil)
  (dss_cons (ds_if (dt_cmp .ne (de_biB .len Z.z_len bb_len (da_cons (de_var 0) da_nil) rfl) (de_biB .len Z.z_len bb_len (da_cons (de_var 1) da_nil) rfl) hu (nomark _)) (dss_cons (ds_ret de_bl)
    dss_nil) dss_nil)
  (dss_cons (ds_for PassesOwn.never rfl (di_rg1 (de_biB .len Z.z_len bb_len (da_cons (de_var 1) da_nil) rfl) Z.z_range) (pg_name hN rfl (by first | exact Or.inl rfl | exact Or.inr rfl)) (gok_name 2) (dss_cons (ds_if (dt_not (dt_val (de_call (hA.1 7 (by decide) rfl) hr Z.d7.mg Z.d7.fn.kp Z.d7.bi pass0 rfl (da_cons (de_idx (de_var 0) (de_var 2)) (da_cons (de_idx (de_var 1) (de_var 2)) da_nil))))) (dss_cons (ds_ret de_bl)
      dss_nil) dss_nil)
    dss_nil))
  (dss_cons (ds_ret de_bl)
  dss_nil)))))))
theorem bd__law_number (Z : Fc P w cl fl K mg fa fd) (hA : All cl fl P w K mg base fa fd k) (cdv : Value) (A : Around) (outer : List PySem.Env) (s : Shared) (H : Hp) (E : XK) (F0 H0 : Hp) (hr : Room (k + 2) (A.deeper (envOfC "_law_number" (defScope s__law_number) s.heap.objs.size (fa 8) cdv))) :
    DSs (bx P w K mg base ["script", "k", "number"] "_law_number" s__law_number (fa 8) cdv A outer s H E) (mkC F0 H0 prog W k) (defBody s__law_number) c__law_number.body := by
  have hN := sc__law_number.nd
  have hu := Room.u70 hr
  exact (dss_cons (ds_asg 2 (de_bin .add (de_bin .mul (de_biB .sum Z.z_sum bb_sum (da_cons (de_var 0) da_nil) rfl) de_int) (de_bin .mul de_int (de_bin .add (de_var 1) de_int))) hN)
  (dss_cons (ds_if (dt_cmp .lt (de_var 1) (de_biB .len Z.z_len bb_len (da_cons (de_var 0) da_nil) rfl) hu (nomark _)) (dss_cons (ds_asg 2 (de_idx (de_var 0) (de_var 1)) hN)
    dss_nil) dss_nil)
  (dss_cons (ds_ret (de_biB .abs Z.z_abs bb_abs (da_cons (de_var 2) da_nil) rfl))
  dss_nil)))
theorem bd__law_draws (Z : Fc P w cl fl K mg fa fd) (hA : All cl fl P w K mg base fa fd k) (cdv : Value) (A : Around) (outer : List PySem.Env) (s : Shared) (H : Hp) (E : XK) (F0 H0 : Hp) (hr : Room (k + 2) (A.deeper (envOfC "_law_draws" (defScope s__law_draws) s.heap.objs.size (fa 9) cdv))) :
    DSs (bx P w K mg base ["script", "k", "count", "many", "number", "found", "state", "at", "other"] "_law_draws" s__law_draws (fa 9) cdv A outer s H E) (mkC F0 H0 prog W k) (defBody s__law_draws) c__law_draws.body := by
  have hN := sc__law_draws.nd
  have hu := Room.u70 hr
  exact (dss_cons (ds_asg 4 (de_call (hA.1 8 (by decide) rfl) hr Z.d8.mg Z.d8.fn.kp Z.d8.bi pass0 rfl (da_cons (de_var 0) (da_cons (de_var 1) da_nil))) hN)
  (dss_cons (ds_asg 5 (de_lst dd_nil) hN)
  (dss_cons (ds_if (dt_cmp .ge (de_var 4) (de_bin .pow de_int de_int) hu (nomark _)) (dss_cons (ds_asg 4 (de_bin .sub (de_var 4) (de_bin .pow de_int de_int)) hN)
    (dss_cons (ds_for PassesOwn.never rfl (di_rg1 (de_var 2) Z.z_range) (pg_name hN rfl (by first | exact Or.inl rfl | exact Or.inr rfl)) (gok_name 7) (dss_cons (ds_app 5 (de_bin .mod (de_var 4) (de_var 3)))
      (dss_cons (ds_asg 4 (de_bin .fdiv (de_var 4) (de_var 3)) hN)
      dss_nil)))
    (dss_cons (ds_retV 5)
    dss_nil))) dss_nil)
  (dss_cons (ds_asg 6 (de_bin .add (de_bin .mod (de_var 4) de_int) de_int) hN)
  (dss_cons (ds_for PassesOwn.never rfl (di_rg1 (de_var 2) Z.z_range) (pg_name hN rfl (by first | exact Or.inl rfl | exact Or.inr rfl)) (gok_name 7) (dss_cons (ds_asg 6 (de_bin .mod (de_bin .add (de_bin .add (de_bin .mul (de_var 6) de_int) (de_bin .mul de_int (de_var 7))) de_int) de_int) hN)
    (dss_cons (ds_asg 8 (de_bin .mod (de_bin .add (de_bin .add (de_bin .mul (de_var 6) (de_var 6)) (de_bin .mul de_int (de_var 7))) de_int) de_int) hN)
    (dss_cons (ds_app 5 (de_bin .mod (de_bin .fdiv (de_var 8) de_int) (de_var 3)))
    dss_nil))))
  (dss_cons (ds_retV 5)
  dss_nil))))))
theorem bd__law_word (Z : Fc P w cl fl K mg fa fd) (hA : All cl fl P w K mg base fa fd k) (cdv : Value) (A : Around) (outer : List PySem.Env) (s : Shared) (H : Hp) (E : XK) (F0 H0 : Hp) (hr : Room (k + 2) (A.deeper (envOfC "_law_word" (defScope s__law_word) s.heap.objs.size (fa 10) cdv))) :
    DSs (bx P w K mg base ["picks", "letters", "pick"] "_law_word" s__law_word (fa 10) cdv A outer s H E) (mkC F0 H0 prog W k) (defBody s__law_word) c__law_word.body := by
  have hN := sc__law_word.nd
  have hu := Room.u70 hr
  exact (dss_cons (ds_ret (de_join de_str (de_lc (own := [("pick", 2)]) rfl hN (di_list (de_var 0)) (blkOk_by (N := ["picks", "letters", "pick"]) (sc := defScope s__law_word) (by decide +kernel)) (gok_name 2) (fun _ _ _ _ _ => (pg_name hN rfl (by first | exact Or.inl rfl | exact Or.inr rfl))) (fun _ _ _ _ _ => dc_nil) (fun _ _ _ _ _ => (de_idx de_str (de_bin .mod (de_var 2) (de_var 1)))))))
  dss_nil)
theorem bd__law_short (Z : Fc P w cl fl K mg fa fd) (hA : All cl fl P w K mg base fa fd k) (cdv : Value) (A : Around) (outer : List PySem.Env) (s : Shared) (H : Hp) (E : XK) (F0 H0 : Hp) (hr : Room (k + 2) (A.deeper (envOfC "_law_short" (defScope s__law_short) s.heap.objs.size (fa 11) cdv))) :
    DSs (bx P w K mg base ["words", "k"] "_law_short" s__law_short (fa 11) cdv A outer s H E) (mkC F0 H0 prog W k) (defBody s__law_short) c__law_short.body := by
  have hN := sc__law_short.nd
  have hu := Room.u70 hr
  exact (dss_cons (ds_ret (de_biT .tuple Z.z_tuple bb_tuple (da_cons (de_sortK Z.d12 kd__law_key Z.z_len hr Z.z_sorted bb_sorted (de_lc (own := [("k", 1)]) rfl hN (di_rg1 (de_biB .len Z.z_len bb_len (da_cons (de_var 0) da_nil) rfl) Z.z_range) (blkOk_by (N := ["words", "k"]) (sc := defScope s__law_short) (by decide +kernel)) (gok_name 1) (fun _ _ _ _ _ => (pg_name hN rfl (by first | exact Or.inl rfl | exact Or.inr rfl))) (fun _ _ _ _ _ => (dc_one (PW.pt (dw_and (dt_cmp .ne (de_idx (de_var 0) (de_var 1)) de_str hu (nomark _)) (dw_and1 (dt_cmp .notin (de_idx (de_var 0) (de_var 1)) (de_slc (de_var 0) do_none (do_some (de_var 1))) hu rfl)))))) (fun _ _ _ _ _ => (de_idx (de_var 0) (de_var 1))))) da_nil) rfl))
  dss_nil)
theorem bd__law_key (Z : Fc P w cl fl K mg fa fd) (hA : All cl fl P w K mg base fa fd k) (cdv : Value) (A : Around) (outer : List PySem.Env) (s : Shared) (H : Hp) (E : XK) (F0 H0 : Hp) (hr : Room (k + 2) (A.deeper (envOfC "_law_key" (defScope s__law_key) s.heap.objs.size (fa 12) cdv))) :
    DSs (bx P w K mg base ["word"] "_law_key" s__law_key (fa 12) cdv A outer s H E) (mkC F0 H0 prog W k) (defBody s__law_key) c__law_key.body := by
  have hN := sc__law_key.nd
  have hu := Room.u70 hr
  exact (dss_cons (ds_fz [0] (ds_ret (de_tup (dd_cons (de_biB .len Z.z_len bb_len (da_cons (de_var 0) da_nil) rfl) (dd_cons (de_var 0) dd_nil)))))
  dss_nil)
theorem bd__law_book (Z : Fc P w cl fl K mg fa fd) (hA : All cl fl P w K mg base fa fd k) (cdv : Value) (A : Around) (outer : List PySem.Env) (s : Shared) (H : Hp) (E : XK) (F0 H0 : Hp) (hr : Room (k + 2) (A.deeper (envOfC "_law_book" (defScope s__law_book) s.heap.objs.size (fa 13) cdv))) :
    DSs (bx P w K mg base ["script", "k", "letters", "count", "length", "words", "j", "picks"] "_law_book" s__law_book (fa 13) cdv A outer s H E) (mkC F0 H0 prog W k) (defBody s__law_book) c__law_book.body := by
  have hN := sc__law_book.nd
  have hu := Room.u70 hr
  exact (dss_cons (ds_asg 5 (de_lst dd_nil) hN)
  (dss_cons (ds_for PassesOwn.never rfl (di_rg1 (de_var 3) Z.z_range) (pg_name hN rfl (by first | exact Or.inl rfl | exact Or.inr rfl)) (gok_name 6) (dss_cons (ds_fz [0] (ds_asg 7 (de_call (hA.1 9 (by decide) rfl) hr Z.d9.mg Z.d9.fn.kp Z.d9.bi pass0 rfl (da_cons (de_var 0) (da_cons (de_bin .add (de_var 1) (de_var 6)) (da_cons (de_bin .add (de_var 4) de_int) (da_cons de_int da_nil))))) hN))
    (dss_cons (ds_app 5 (de_call (hA.1 10 (by decide) rfl) hr Z.d10.mg Z.d10.fn.kp Z.d10.bi pass0 rfl (da_cons (de_slc (de_var 7) (do_some de_int) (do_some (de_bin .add de_int (de_bin .mod (de_idx (de_var 7) de_int) (de_var 4))))) (da_cons (de_var 2) da_nil))))
    dss_nil)))
  (dss_cons (ds_fz [5] (ds_ret (de_tup (dd_cons (de_var 2) (dd_cons (de_call (hA.1 11 (by decide) rfl) hr Z.d11.mg Z.d11.fn.kp Z.d11.bi pass0 rfl (da_cons (de_var 5) da_nil)) dd_nil)))))
  dss_nil)))
theorem bd__law_is_row (Z : Fc P w cl fl K mg fa fd) (hA : All cl fl P w K mg base fa fd k) (cdv : Value) (A : Around) (outer : List PySem.Env) (s : Shared) (H : Hp) (E : XK) (F0 H0 : Hp) (hr : Room (k + 2) (A.deeper (envOfC "_law_is_row" (defScope s__law_is_row) s.heap.objs.size (fa 14) cdv))) :
    DSs (bx P w K mg base ["book", "row", "index"] "_law_is_row" s__law_is_row (fa 14) cdv A outer s H E) (mkC F0 H0 prog W k) (defBody s__law_is_row) c__law_is_row.body := by
  have hN := sc__law_is_row.nd
  have hu := Room.u70 hr
  exact (dss_cons (ds_if (dt_not (dt_val (de_isin .tuple Z.z_isinstance bb_isinstance Z.z_tuple bb_tuple (de_var 1)))) (dss_cons (ds_ret de_bl)
    dss_nil) dss_nil)
  (dss_cons (ds_ret (de_cmp .eq (de_biB .len Z.z_len bb_len (da_cons (de_lc (own := [("index", 2)]) rfl hN (di_tup (de_var 1)) (blkOk_by (N := ["book", "row", "index"]) (sc := defScope s__law_is_row) (by decide +kernel)) (gok_name 2) (fun _ _ _ _ _ => (pg_name hN rfl (by first | exact Or.inl rfl | exact Or.inr rfl))) (fun _ _ _ _ _ => (dc_one (PW.pt (dw_or (dt_not (dt_val (de_call (hA.1 6 (by decide) rfl) hr Z.d6.mg Z.d6.fn.kp Z.d6.bi pass0 rfl (da_cons (de_var 2) da_nil)))) (dw_or1 (dt_not (dt_chain .le .lt de_int (de_var 2) (de_biB .len Z.z_len bb_len (da_cons (de_idx (de_var 0) de_int) da_nil) rfl) hu (by with_unfolding_all rfl)))))))) (fun _ _ _ _ _ => (de_var 2))) da_nil) rfl) de_int hu (nomark _)))
  dss_nil))
theorem bd__law_told (Z : Fc P w cl fl K mg fa fd) (hA : All cl fl P w K mg base fa fd k) (cdv : Value) (A : Around) (outer : List PySem.Env) (s : Shared) (H : Hp) (E : XK) (F0 H0 : Hp) (hr : Room (k + 2) (A.deeper (envOfC "_law_told" (defScope s__law_told) s.heap.objs.size (fa 15) cdv))) :
    DSs (bx P w K mg base ["book", "number", "error"] "_law_told" s__law_told (fa 15) cdv A outer s H E) (mkC F0 H0 prog W k) (defBody s__law_told) c__law_told.body := by
  have hN := sc__law_told.nd
  have hu := Room.u70 hr
  exact (dss_cons (ds_tryWT (tx := [98, 97, 100]) (ty := [114, 111, 119]) (cl := cl) (fl := fl) (j := 1) (Cl := cl 1) (hA.2 3 (by decide) rfl) hr Z.d3.mg Z.d3.fn.kp Z.d3.bi rfl rfl hN (sl := 2) rfl rfl Z.i_BadNumber.g Z.e_1_1 Z.n_1 Z.i_BadNumber.xf Z.i_BadNumber.hno (fun _ _ => (dd_cons (de_var 0) (dd_cons (de_var 1) dd_nil))) (fun _ => rfl))
  dss_nil)
theorem bd_law (Z : Fc P w cl fl K mg fa fd) (hA : All cl fl P w K mg base fa fd k) (cdv : Value) (A : Around) (outer : List PySem.Env) (s : Shared) (H : Hp) (E : XK) (F0 H0 : Hp) (hr : Room (k + 2) (A.deeper (envOfC "law" (defScope s_law) s.heap.objs.size (fa 16) cdv))) :
    DSs (bx P w K mg base ["script", "shape", "letters", "long", "book", "found", "at", "ordered", "number", "far", "told", "row", "size", "k", "pair"] "law" s_law (fa 16) cdv A outer s H E) (mkC F0 H0 prog W k) (defBody s_law) c_law.body := by
  have hN := sc_law.nd
  have hu := Room.u70 hr
  exact (dss_cons (ds_fz [0] (ds_asg 1 (de_call (hA.1 9 (by decide) rfl) hr Z.d9.mg Z.d9.fn.kp Z.d9.bi pass0 rfl (da_cons (de_var 0) (da_cons de_int (da_cons de_int (da_cons de_int da_nil))))) hN))
  (dss_cons (ds_asg 2 (de_bin .add de_int (de_bin .mod (de_idx (de_var 1) de_int) de_int)) hN)
  (dss_cons (ds_fz [0] (ds_asg 3 (de_tup (dd_cons (de_var 2) (dd_cons (de_tup (dd_cons (de_call (hA.1 10 (by decide) rfl) hr Z.d10.mg Z.d10.fn.kp Z.d10.bi pass0 rfl (da_cons (de_call (hA.1 9 (by decide) rfl) hr Z.d9.mg Z.d9.fn.kp Z.d9.bi pass0 rfl (da_cons (de_var 0) (da_cons de_int (da_cons de_int (da_cons de_int da_nil))))) (da_cons (de_var 2) da_nil))) dd_nil)) dd_nil))) hN))
  (dss_cons (ds_fz [0] (ds_for PassesOwn.never rfl (di_list (de_lst (dd_cons (de_call (hA.1 13 (by decide) rfl) hr Z.d13.mg Z.d13.fn.kp Z.d13.bi pass0 rfl (da_cons (de_var 0) (da_cons de_int (da_cons (de_var 2) (da_cons (de_bin .mod (de_idx (de_var 1) de_int) de_int) (da_cons de_int da_nil)))))) (dd_cons (de_var 3) dd_nil)))) (pg_name hN rfl (by first | exact Or.inl rfl | exact Or.inr rfl)) (gok_name 4) (dss_cons (ds_asg 5 (de_lst (dd_cons (de_tup (dd_cons (de_tup dd_nil) (dd_cons de_int dd_nil))) dd_nil)) hN)
    (dss_cons (ds_asg 6 de_int hN)
    (dss_cons (ds_while PassesOwn.never (dt_cmp .lt (de_var 6) (de_biB .len Z.z_len bb_len (da_cons (de_var 5) da_nil) rfl) hu (nomark _)) (dss_cons (ds_asgT (de_idx (de_var 5) (de_var 6)) (pgn_tup (js := [11, 12]) rfl (pgn_cons (i := 11) (pgn_cons (i := 12) pgn_nil hN) hN) 2))
      (dss_cons (ds_for PassesOwn.never rfl (di_rg1 (de_biB .len Z.z_len bb_len (da_cons (de_idx (de_var 4) de_int) da_nil) rfl) Z.z_range) (pg_name hN rfl (by first | exact Or.inl rfl | exact Or.inr rfl)) (gok_name 13) (dss_cons (ds_if (dt_cmp .le (de_bin .add (de_var 12) (de_biB .len Z.z_len bb_len (da_cons (de_idx (de_idx (de_var 4) de_int) (de_var 13)) da_nil) rfl)) de_int hu (nomark _)) (dss_cons (ds_app 5 (de_tup (dd_cons (de_bin .add (de_var 11) (de_tup (dd_cons (de_var 13) dd_nil))) (dd_cons (de_bin .add (de_var 12) (de_biB .len Z.z_len bb_len (da_cons (de_idx (de_idx (de_var 4) de_int) (de_var 13)) da_nil) rfl)) dd_nil))))
          dss_nil) dss_nil)
        dss_nil))
      (dss_cons (ds_asg 6 (de_bin .add (de_var 6) de_int) hN)
      dss_nil))))
    (dss_cons (ds_asgLc 7 (own := [("pair", 14)]) rfl hN (di_list (de_sorted hr Z.z_sorted bb_sorted (de_lc (own := [("pair", 14)]) rfl hN (di_list (de_var 5)) (blkOk_by (N := ["script", "shape", "letters", "long", "book", "found", "at", "ordered", "number", "far", "told", "row", "size", "k", "pair"]) (sc := defScope s_law) (by decide +kernel)) (gok_name 14) (fun _ _ _ _ _ => (pg_name hN rfl (by first | exact Or.inl rfl | exact Or.inr rfl))) (fun _ _ _ _ _ => dc_nil) (fun _ _ _ _ _ => (de_tup (dd_cons (de_idx (de_var 14) de_int) (dd_cons (de_idx (de_var 14) de_int) dd_nil))))))) (blkOk_by (N := ["script", "shape", "letters", "long", "book", "found", "at", "ordered", "number", "far", "told", "row", "size", "k", "pair"]) (sc := defScope s_law) (by decide +kernel)) (gok_name 14) (fun _ _ _ _ _ => (pg_name hN rfl (by first | exact Or.inl rfl | exact Or.inr rfl))) (fun _ _ _ _ _ => dc_nil) (fun _ _ _ _ _ => (de_idx (de_var 14) de_int)))
    (dss_cons (ds_for PassesOwn.never rfl (di_rg1 (de_biB .min Z.z_min bb_min (da_cons (de_biB .len Z.z_len bb_len (da_cons (de_var 7) da_nil) rfl) (da_cons de_int da_nil)) rfl) Z.z_range) (pg_name hN rfl (by first | exact Or.inl rfl | exact Or.inr rfl)) (gok_name 8) (dss_cons (ds_if (dt_not (dt_val (de_call (hA.1 7 (by decide) rfl) hr Z.d7.mg Z.d7.fn.kp Z.d7.bi pass0 rfl (da_cons (de_call (hA.1 15 (by decide) rfl) hr Z.d15.mg Z.d15.fn.kp Z.d15.bi pass0 rfl (da_cons (de_var 4) (da_cons (de_var 8) da_nil))) (da_cons (de_tup (dd_cons de_str (dd_cons (de_idx (de_var 7) (de_var 8)) dd_nil))) da_nil))))) (dss_cons (ds_ret de_bl)
        dss_nil) dss_nil)
      (dss_cons (ds_if (dt_not (dt_val (de_call (hA.1 7 (by decide) rfl) hr Z.d7.mg Z.d7.fn.kp Z.d7.bi pass0 rfl (da_cons (de_call (hA.1 2 (by decide) rfl) hr Z.d2.mg Z.d2.fn.kp Z.d2.bi pass0 rfl (da_cons (de_var 4) (da_cons (de_idx (de_var 7) (de_var 8)) da_nil))) (da_cons (de_var 8) da_nil))))) (dss_cons (ds_ret de_bl)
        dss_nil) dss_nil)
      dss_nil)))
    (dss_cons (ds_asg 9 (de_bin .mod (de_idx (de_var 1) de_int) de_int) hN)
    (dss_cons (ds_asg 10 (de_call (hA.1 15 (by decide) rfl) hr Z.d15.mg Z.d15.fn.kp Z.d15.bi pass0 rfl (da_cons (de_var 4) (da_cons (de_var 9) da_nil))) hN)
    (dss_cons (ds_if (dt_cmp .eq (de_biB .len Z.z_len bb_len (da_cons (de_idx (de_var 4) de_int) da_nil) rfl) de_int hu (nomark _)) (dss_cons (ds_if (dt_cmp .ne (de_var 10) (de_tup (dd_cons de_str (dd_cons (de_idx (de_lst (dd_cons de_non (dd_cons (de_tup dd_nil) dd_nil))) (de_biT .int Z.z_int bb_int (da_cons (de_cmp .eq (de_var 9) de_int hu (nomark _)) da_nil) rfl)) dd_nil))) hu (nomark _)) (dss_cons (ds_ret de_bl)
        dss_nil) dss_nil)
      dss_nil) (dss_cons (ds_if (PW.pt (dw_or (dt_cmp .ne (de_idx (de_var 10) de_int) de_str hu (nomark _)) (dw_or (dt_not (dt_val (de_call (hA.1 14 (by decide) rfl) hr Z.d14.mg Z.d14.fn.kp Z.d14.bi pass0 rfl (da_cons (de_var 4) (da_cons (de_idx (de_var 10) de_int) da_nil))))) (dw_or1 (dt_not (dt_val (de_call (hA.1 7 (by decide) rfl) hr Z.d7.mg Z.d7.fn.kp Z.d7.bi pass0 rfl (da_cons (de_call (hA.1 2 (by decide) rfl) hr Z.d2.mg Z.d2.fn.kp Z.d2.bi pass0 rfl (da_cons (de_var 4) (da_cons (de_idx (de_var 10) de_int) da_nil))) (da_cons (de_var 9) da_nil))))))))) (dss_cons (ds_ret de_bl)
        dss_nil) dss_nil)
      dss_nil))
    (dss_cons (ds_for PassesOwn.never rfl (di_list (de_lst (dd_cons (de_bin .sub de_int de_int) (dd_cons de_int (dd_cons (de_bin .pow de_int de_int) dd_nil))))) (pg_name hN rfl (by first | exact Or.inl rfl | exact Or.inr rfl)) (gok_name 8) (dss_cons (ds_if (dt_not (dt_val (de_call (hA.1 7 (by decide) rfl) hr Z.d7.mg Z.d7.fn.kp Z.d7.bi pass0 rfl (da_cons (de_call (hA.1 15 (by decide) rfl) hr Z.d15.mg Z.d15.fn.kp Z.d15.bi pass0 rfl (da_cons (de_var 4) (da_cons (de_var 8) da_nil))) (da_cons (de_tup (dd_cons de_str (dd_cons (de_var 8) dd_nil))) da_nil))))) (dss_cons (ds_ret de_bl)
        dss_nil) dss_nil)
      dss_nil))
    dss_nil)))))))))))
  (dss_cons (ds_ret de_bl)
  dss_nil)))))
theorem all_ok (Z : Fc P w cl fl K mg fa fd) (k : Nat) : All cl fl P w K mg base fa fd k := by
  induction k with
  | zero => exact ⟨fun i _ _ => fn_zero rfl, fun i _ _ => fn_zeroX rfl⟩
  | succ k ih =>
    refine ⟨?_, ?_⟩
    · intro i hi hx
      match i, hi, hx with
      | 0, _, _ => exact fn_ok Z.d0 sc_row_counts (fdef := c_row_counts) rfl rfl rfl (fun cdv A outer s H E F0 H0 hr => bd_row_counts Z ih cdv A outer s H E F0 H0 hr)
      | 1, _, _ => exact fn_ok Z.d1 sc_next_count (fdef := c_next_count) rfl rfl rfl (fun cdv A outer s H E F0 H0 hr => bd_next_count Z ih cdv A outer s H E F0 H0 hr)
      | 2, _, _ => exact fn_ok Z.d2 sc_row_number (fdef := c_row_number) rfl rfl rfl (fun cdv A outer s H E F0 H0 hr => bd_row_number Z ih cdv A outer s H E F0 H0 hr)
      | 3, _, hx => exact absurd hx (by decide)
      | 4, _, _ => exact fn_ok Z.d4 sc_row_of_size (fdef := c_row_of_size) rfl rfl rfl (fun cdv A outer s H E F0 H0 hr => bd_row_of_size Z ih cdv A outer s H E F0 H0 hr)
      | 5, _, _ => exact fn_ok Z.d5 sc_next_index (fdef := c_next_index) rfl rfl rfl (fun cdv A outer s H E F0 H0 hr => bd_next_index Z ih cdv A outer s H E F0 H0 hr)
      | 6, _, _ => exact fn_ok Z.d6 sc__law_is_int (fdef := c__law_is_int) rfl rfl rfl (fun cdv A outer s H E F0 H0 hr => bd__law_is_int Z ih cdv A outer s H E F0 H0 hr)
      | 7, _, _ => exact fn_ok Z.d7 sc__law_same (fdef := c__law_same) rfl rfl rfl (fun cdv A outer s H E F0 H0 hr => bd__law_same Z ih cdv A outer s H E F0 H0 hr)
      | 8, _, _ => exact fn_ok Z.d8 sc__law_number (fdef := c__law_number) rfl rfl rfl (fun cdv A outer s H E F0 H0 hr => bd__law_number Z ih cdv A outer s H E F0 H0 hr)
      | 9, _, _ => exact fn_ok Z.d9 sc__law_draws (fdef := c__law_draws) rfl rfl rfl (fun cdv A outer s H E F0 H0 hr => bd__law_draws Z ih cdv A outer s H E F0 H0 hr)
      | 10, _, _ => exact fn_ok Z.d10 sc__law_word (fdef := c__law_word) rfl rfl rfl (fun cdv A outer s H E F0 H0 hr => bd__law_word Z ih cdv A outer s H E F0 H0 hr)
      | 11, _, _ => exact fn_ok Z.d11 sc__law_short (fdef := c__law_short) rfl rfl rfl (fun cdv A outer s H E F0 H0 hr => bd__law_short Z ih cdv A outer s H E F0 H0 hr)
      | 12, _, _ => exact fn_ok Z.d12 sc__law_key (fdef := c__law_key) rfl rfl rfl (fun cdv A outer s H E F0 H0 hr => bd__law_key Z ih cdv A outer s H E F0 H0 hr)
      | 13, _, _ => exact fn_ok Z.d13 sc__law_book (fdef := c__law_book) rfl rfl rfl (fun cdv A outer s H E F0 H0 hr => bd__law_book Z ih cdv A outer s H E F0 H0 hr)
      | 14, _, _ => exact fn_ok Z.d14 sc__law_is_row (fdef := c__law_is_row) rfl rfl rfl (fun cdv A outer s H E F0 H0 hr => bd__law_is_row Z ih cdv A outer s H E F0 H0 hr)
      | 15, _, _ => exact fn_ok Z.d15 sc__law_told (fdef := c__law_told) rfl rfl rfl (fun cdv A outer s H E F0 H0 hr => bd__law_told Z ih cdv A outer s H E F0 H0 hr)
      | 16, _, _ => exact fn_ok Z.d16 sc_law (fdef := c_law) rfl rfl rfl (fun cdv A outer s H E F0 H0 hr => bd_law Z ih cdv A outer s H E F0 H0 hr)
      | i + 17, hi, _ => exact absurd hi (by omega)
    · intro i hi hx
      match i, hi, hx with
      | 0, _, hx => exact absurd hx (by decide)
      | 1, _, hx => exact absurd hx (by decide)
      | 2, _, hx => exact absurd hx (by decide)
      | 3, _, _ => exact fn_okX Z.d3 sc_row_by_number (fdef := c_row_by_number) rfl rfl rfl (fun cdv A outer s H E F0 H0 hr => bd_row_by_number Z ih cdv A outer s H E F0 H0 hr)
      | 4, _, hx => exact absurd hx (by decide)
      | 5, _, hx => exact absurd hx (by decide)
      | 6, _, hx => exact absurd hx (by decide)
      | 7, _, hx => exact absurd hx (by decide)
      | 8, _, hx => exact absurd hx (by decide)
      | 9, _, hx => exact absurd hx (by decide)
      | 10, _, hx => exact absurd hx (by decide)
      | 11, _, hx => exact absurd hx (by decide)
      | 12, _, hx => exact absurd hx (by decide)
      | 13, _, hx => exact absurd hx (by decide)
      | 14, _, hx => exact absurd hx (by decide)
      | 15, _, hx => exact absurd hx (by decide)
      | 16, _, hx => exact absurd hx (by decide)
      | i + 17, hi, _ => exact absurd hi (by omega)
end
theorem all_mk {l : PySem.W.OpenLaw} {w : World} {K : PySem.W.Frag} {h : Heap} {mg : Str → Option Value} {fa : Addr} (X : K.In h) (G : h.Ns mainGlobals mg) (hfa : mg "law" = some (.ref fa))
    {od0 an0 : Option Addr} {sl0 : Array (Option Value)} {oc0 kV0 dc0 pm0 cd0 ct0 : Value} {f0 : Addr}
    {od1 an1 : Option Addr} {sl1 : Array (Option Value)} {oc1 kV1 dc1 pm1 cd1 ct1 : Value} {f1 : Addr}
    {od2 an2 : Option Addr} {sl2 : Array (Option Value)} {oc2 kV2 dc2 pm2 cd2 ct2 : Value} {f2 : Addr}
    {od3 an3 : Option Addr} {sl3 : Array (Option Value)} {oc3 kV3 dc3 pm3 cd3 ct3 : Value} {f3 : Addr}
    {od4 an4 : Option Addr} {sl4 : Array (Option Value)} {oc4 kV4 dc4 pm4 cd4 ct4 : Value} {f4 : Addr}
    {od5 an5 : Option Addr} {sl5 : Array (Option Value)} {oc5 kV5 dc5 pm5 cd5 ct5 : Value} {f5 : Addr}
    {od6 an6 : Option Addr} {sl6 : Array (Option Value)} {oc6 kV6 dc6 pm6 cd6 ct6 : Value} {f6 : Addr}
    {od7 an7 : Option Addr} {sl7 : Array (Option Value)} {oc7 kV7 dc7 pm7 cd7 ct7 : Value} {f7 : Addr}
    {od8 an8 : Option Addr} {sl8 : Array (Option Value)} {oc8 kV8 dc8 pm8 cd8 ct8 : Value} {f8 : Addr}
    {od9 an9 : Option Addr} {sl9 : Array (Option Value)} {oc9 kV9 dc9 pm9 cd9 ct9 : Value} {f9 : Addr}
    {od10 an10 : Option Addr} {sl10 : Array (Option Value)} {oc10 kV10 dc10 pm10 cd10 ct10 : Value} {f10 : Addr}
    {od11 an11 : Option Addr} {sl11 : Array (Option Value)} {oc11 kV11 dc11 pm11 cd11 ct11 : Value} {f11 : Addr}
    {od12 an12 : Option Addr} {sl12 : Array (Option Value)} {oc12 kV12 dc12 pm12 cd12 ct12 : Value} {f12 : Addr}
    {od13 an13 : Option Addr} {sl13 : Array (Option Value)} {oc13 kV13 dc13 pm13 cd13 ct13 : Value} {f13 : Addr}
    {od14 an14 : Option Addr} {sl14 : Array (Option Value)} {oc14 kV14 dc14 pm14 cd14 ct14 : Value} {f14 : Addr}
    {od15 an15 : Option Addr} {sl15 : Array (Option Value)} {oc15 kV15 dc15 pm15 cd15 ct15 : Value} {f15 : Addr}
    {od16 an16 : Option Addr} {sl16 : Array (Option Value)} {oc16 kV16 dc16 pm16 cd16 ct16 : Value} {f16 : Addr}
    (a0 : PySem.W.nsIn K mainGlobals "row_counts" = some (some (.ref f0))) (l0 : K.lookup f0 = some ⟨oc0, od0, .func (PySem.W.fnOf "row_counts" "row_counts" (defArgs s_row_counts) (defBody s_row_counts) (defScope s_row_counts) .none kV0 dc0 pm0 an0 cd0 ct0), sl0⟩) (c0 : PySem.W.codeIn K cd0 "row_counts" = true) (k0 : PySem.W.keepIn K (.ref f0) = true)
    (a1 : PySem.W.nsIn K mainGlobals "next_count" = some (some (.ref f1))) (l1 : K.lookup f1 = some ⟨oc1, od1, .func (PySem.W.fnOf "next_count" "next_count" (defArgs s_next_count) (defBody s_next_count) (defScope s_next_count) .none kV1 dc1 pm1 an1 cd1 ct1), sl1⟩) (c1 : PySem.W.codeIn K cd1 "next_count" = true) (k1 : PySem.W.keepIn K (.ref f1) = true)
    (a2 : PySem.W.nsIn K mainGlobals "row_number" = some (some (.ref f2))) (l2 : K.lookup f2 = some ⟨oc2, od2, .func (PySem.W.fnOf "row_number" "row_number" (defArgs s_row_number) (defBody s_row_number) (defScope s_row_number) .none kV2 dc2 pm2 an2 cd2 ct2), sl2⟩) (c2 : PySem.W.codeIn K cd2 "row_number" = true) (k2 : PySem.W.keepIn K (.ref f2) = true)
    (a3 : PySem.W.nsIn K mainGlobals "row_by_number" = some (some (.ref f3))) (l3 : K.lookup f3 = some ⟨oc3, od3, .func (PySem.W.fnOf "row_by_number" "row_by_number" (defArgs s_row_by_number) (defBody s_row_by_number) (defScope s_row_by_number) .none kV3 dc3 pm3 an3 cd3 ct3), sl3⟩) (c3 : PySem.W.codeIn K cd3 "row_by_number" = true) (k3 : PySem.W.keepIn K (.ref f3) = true)
    (a4 : PySem.W.nsIn K mainGlobals "row_of_size" = some (some (.ref f4))) (l4 : K.lookup f4 = some ⟨oc4, od4, .func (PySem.W.fnOf "row_of_size" "row_of_size" (defArgs s_row_of_size) (defBody s_row_of_size) (defScope s_row_of_size) .none kV4 dc4 pm4 an4 cd4 ct4), sl4⟩) (c4 : PySem.W.codeIn K cd4 "row_of_size" = true) (k4 : PySem.W.keepIn K (.ref f4) = true)
    (a5 : PySem.W.nsIn K mainGlobals "next_index" = some (some (.ref f5))) (l5 : K.lookup f5 = some ⟨oc5, od5, .func (PySem.W.fnOf "next_index" "next_index" (defArgs s_next_index) (defBody s_next_index) (defScope s_next_index) .none kV5 dc5 pm5 an5 cd5 ct5), sl5⟩) (c5 : PySem.W.codeIn K cd5 "next_index" = true) (k5 : PySem.W.keepIn K (.ref f5) = true)
    (a6 : PySem.W.nsIn K mainGlobals "_law_is_int" = some (some (.ref f6))) (l6 : K.lookup f6 = some ⟨oc6, od6, .func (PySem.W.fnOf "_law_is_int" "_law_is_int" (defArgs s__law_is_int) (defBody s__law_is_int) (defScope s__law_is_int) .none kV6 dc6 pm6 an6 cd6 ct6), sl6⟩) (c6 : PySem.W.codeIn K cd6 "_law_is_int" = true) (k6 : PySem.W.keepIn K (.ref f6) = true)
    (a7 : PySem.W.nsIn K mainGlobals "_law_same" = some (some (.ref f7))) (l7 : K.lookup f7 = some ⟨oc7, od7, .func (PySem.W.fnOf "_law_same" "_law_same" (defArgs s__law_same) (defBody s__law_same) (defScope s__law_same) .none kV7 dc7 pm7 an7 cd7 ct7), sl7⟩) (c7 : PySem.W.codeIn K cd7 "_law_same" = true) (k7 : PySem.W.keepIn K (.ref f7) = true)
    (a8 : PySem.W.nsIn K mainGlobals "_law_number" = some (some (.ref f8))) (l8 : K.lookup f8 = some ⟨oc8, od8, .func (PySem.W.fnOf "_law_number" "_law_number" (defArgs s__law_number) (defBody s__law_number) (defScope s__law_number) .none kV8 dc8 pm8 an8 cd8 ct8), sl8⟩) (c8 : PySem.W.codeIn K cd8 "_law_number" = true) (k8 : PySem.W.keepIn K (.ref f8) = true)
    (a9 : PySem.W.nsIn K mainGlobals "_law_draws" = some (some (.ref f9))) (l9 : K.lookup f9 = some ⟨oc9, od9, .func (PySem.W.fnOf "_law_draws" "_law_draws" (defArgs s__law_draws) (defBody s__law_draws) (defScope s__law_draws) .none kV9 dc9 pm9 an9 cd9 ct9), sl9⟩) (c9 : PySem.W.codeIn K cd9 "_law_draws" = true) (k9 : PySem.W.keepIn K (.ref f9) = true)
    (a10 : PySem.W.nsIn K mainGlobals "_law_word" = some (some (.ref f10))) (l10 : K.lookup f10 = some ⟨oc10, od10, .func (PySem.W.fnOf "_law_word" "_law_word" (defArgs s__law_word) (defBody s__law_word) (defScope s__law_word) .none kV10 dc10 pm10 an10 cd10 ct10), sl10⟩) (c10 : PySem.W.codeIn K cd10 "_law_word" = true) (k10 : PySem.W.keepIn K (.ref f10) = true)
    (a11 : PySem.W.nsIn K mainGlobals "_law_short" = some (some (.ref f11))) (l11 : K.lookup f11 = some ⟨oc11, od11, .func (PySem.W.fnOf "_law_short" "_law_short" (defArgs s__law_short) (defBody s__law_short) (defScope s__law_short) .none kV11 dc11 pm11 an11 cd11 ct11), sl11⟩) (c11 : PySem.W.codeIn K cd11 "_law_short" = true) (k11 : PySem.W.keepIn K (.ref f11) = true)
    (a12 : PySem.W.nsIn K mainGlobals "_law_key" = some (some (.ref f12))) (l12 : K.lookup f12 = some ⟨oc12, od12, .func (PySem.W.fnOf "_law_key" "_law_key" (defArgs s__law_key) (defBody s__law_key) (defScope s__law_key) .none kV12 dc12 pm12 an12 cd12 ct12), sl12⟩) (c12 : PySem.W.codeIn K cd12 "_law_key" = true) (k12 : PySem.W.keepIn K (.ref f12) = true)
    (a13 : PySem.W.nsIn K mainGlobals "_law_book" = some (some (.ref f13))) (l13 : K.lookup f13 = some ⟨oc13, od13, .func (PySem.W.fnOf "_law_book" "_law_book" (defArgs s__law_book) (defBody s__law_book) (defScope s__law_book) .none kV13 dc13 pm13 an13 cd13 ct13), sl13⟩) (c13 : PySem.W.codeIn K cd13 "_law_book" = true) (k13 : PySem.W.keepIn K (.ref f13) = true)
    (a14 : PySem.W.nsIn K mainGlobals "_law_is_row" = some (some (.ref f14))) (l14 : K.lookup f14 = some ⟨oc14, od14, .func (PySem.W.fnOf "_law_is_row" "_law_is_row" (defArgs s__law_is_row) (defBody s__law_is_row) (defScope s__law_is_row) .none kV14 dc14 pm14 an14 cd14 ct14), sl14⟩) (c14 : PySem.W.codeIn K cd14 "_law_is_row" = true) (k14 : PySem.W.keepIn K (.ref f14) = true)
    (a15 : PySem.W.nsIn K mainGlobals "_law_told" = some (some (.ref f15))) (l15 : K.lookup f15 = some ⟨oc15, od15, .func (PySem.W.fnOf "_law_told" "_law_told" (defArgs s__law_told) (defBody s__law_told) (defScope s__law_told) .none kV15 dc15 pm15 an15 cd15 ct15), sl15⟩) (c15 : PySem.W.codeIn K cd15 "_law_told" = true) (k15 : PySem.W.keepIn K (.ref f15) = true)
    (a16 : PySem.W.nsIn K mainGlobals "law" = some (some (.ref f16))) (l16 : K.lookup f16 = some ⟨oc16, od16, .func (PySem.W.fnOf "law" "law" (defArgs s_law) (defBody s_law) (defScope s_law) .none kV16 dc16 pm16 an16 cd16 ct16), sl16⟩) (c16 : PySem.W.codeIn K cd16 "law" = true) (k16 : PySem.W.keepIn K (.ref f16) = true)
    (z_abs : PySem.W.nsIn K mainGlobals "abs" = some none)
    (z_bool : PySem.W.nsIn K mainGlobals "bool" = some none)
    (z_int : PySem.W.nsIn K mainGlobals "int" = some none)
    (z_isinstance : PySem.W.nsIn K mainGlobals "isinstance" = some none)
    (z_len : PySem.W.nsIn K mainGlobals "len" = some none)
    (z_list : PySem.W.nsIn K mainGlobals "list" = some none)
    (z_min : PySem.W.nsIn K mainGlobals "min" = some none)
    (z_range : PySem.W.nsIn K mainGlobals "range" = some none)
    (z_sorted : PySem.W.nsIn K mainGlobals "sorted" = some none)
    (z_str : PySem.W.nsIn K mainGlobals "str" = some none)
    (z_sum : PySem.W.nsIn K mainGlobals "sum" = some none)
    (z_tuple : PySem.W.nsIn K mainGlobals "tuple" = some none)
    {tk_MOST_NUMBER : Tok} (g_MOST_NUMBER : PySem.W.nsIn K mainGlobals "MOST_NUMBER" = some (some (.int 1000 tk_MOST_NUMBER)))
    (xz_super : PySem.W.nsIn K mainGlobals "super" = some none) (xz_top : (l.prog.main.scope.names.lookup ("super" : Str)).isSome = false)
    {cx_BadNumber cc_BadNumber ca_BadNumber fi_BadNumber : Addr} {ikV_BadNumber idc_BadNumber ipm_BadNumber ict_BadNumber ioc_BadNumber : Value} {ian_BadNumber iod_BadNumber : Option Addr} {isl_BadNumber : Array (Option Value)}
    (xg_BadNumber : PySem.W.nsIn K mainGlobals "BadNumber" = some (some (.ref cx_BadNumber))) (xf_BadNumber : PySem.W.findIn K (.ref cx_BadNumber) "__init__" = some (some (.ref fi_BadNumber)))
    (xl_BadNumber : K.lookup fi_BadNumber = some ⟨ioc_BadNumber, iod_BadNumber, .func (PySem.W.ksFn "__init__" "BadNumber.__init__" (defArgs (initS (topS 2))) (defBody (initS (topS 2))) (defScope (initS (topS 2))) .none ikV_BadNumber idc_BadNumber ipm_BadNumber ian_BadNumber (.ref ca_BadNumber) ict_BadNumber cc_BadNumber), isl_BadNumber⟩)
    (xi_BadNumber : initB K cx_BadNumber cc_BadNumber ca_BadNumber fi_BadNumber "number" "BadNumber.__init__" l.prog.main.file = true)
    (i_1_1 : PySem.W.isClsIn K cx_BadNumber = true) (s_1_1 : PySem.W.subIn K (.ref cx_BadNumber) (.ref cx_BadNumber) = some true) :
    ∃ fd : FuncData, (∀ (s : Shared) (v : Value), BindsTo s fd ⟨[v], []⟩ [("script", v)]) ∧ ∀ base : Heap, K.In base → base.Ns mainGlobals mg → FnOk l.prog w K mg base CX0 32 fa fd ["script"] (spOf K XW0 (den prog W 30 16) 1) := by
  have e := hfa.symm.trans (PySem.W.mg_of X G a16)
  cases e
  let fA : Nat → Addr := fun i => match i with
    | 0 => f0
    | 1 => f1
    | 2 => f2
    | 3 => f3
    | 4 => f4
    | 5 => f5
    | 6 => f6
    | 7 => f7
    | 8 => f8
    | 9 => f9
    | 10 => f10
    | 11 => f11
    | 12 => f12
    | 13 => f13
    | 14 => f14
    | 15 => f15
    | 16 => fa
    | _ => 0
  let fD : Nat → FuncData := fun i => match i with
    | 0 => PySem.W.fnOf "row_counts" "row_counts" (defArgs s_row_counts) (defBody s_row_counts) (defScope s_row_counts) .none kV0 dc0 pm0 an0 cd0 ct0
    | 1 => PySem.W.fnOf "next_count" "next_count" (defArgs s_next_count) (defBody s_next_count) (defScope s_next_count) .none kV1 dc1 pm1 an1 cd1 ct1
    | 2 => PySem.W.fnOf "row_number" "row_number" (defArgs s_row_number) (defBody s_row_number) (defScope s_row_number) .none kV2 dc2 pm2 an2 cd2 ct2
    | 3 => PySem.W.fnOf "row_by_number" "row_by_number" (defArgs s_row_by_number) (defBody s_row_by_number) (defScope s_row_by_number) .none kV3 dc3 pm3 an3 cd3 ct3
    | 4 => PySem.W.fnOf "row_of_size" "row_of_size" (defArgs s_row_of_size) (defBody s_row_of_size) (defScope s_row_of_size) .none kV4 dc4 pm4 an4 cd4 ct4
    | 5 => PySem.W.fnOf "next_index" "next_index" (defArgs s_next_index) (defBody s_next_index) (defScope s_next_index) .none kV5 dc5 pm5 an5 cd5 ct5
    | 6 => PySem.W.fnOf "_law_is_int" "_law_is_int" (defArgs s__law_is_int) (defBody s__law_is_int) (defScope s__law_is_int) .none kV6 dc6 pm6 an6 cd6 ct6
    | 7 => PySem.W.fnOf "_law_same" "_law_same" (defArgs s__law_same) (defBody s__law_same) (defScope s__law_same) .none kV7 dc7 pm7 an7 cd7 ct7
    | 8 => PySem.W.fnOf "_law_number" "_law_number" (defArgs s__law_number) (defBody s__law_number) (defScope s__law_number) .none kV8 dc8 pm8 an8 cd8 ct8
    | 9 => PySem.W.fnOf "_law_draws" "_law_draws" (defArgs s__law_draws) (defBody s__law_draws) (defScope s__law_draws) .none kV9 dc9 pm9 an9 cd9 ct9
    | 10 => PySem.W.fnOf "_law_word" "_law_word" (defArgs s__law_word) (defBody s__law_word) (defScope s__law_word) .none kV10 dc10 pm10 an10 cd10 ct10
    | 11 => PySem.W.fnOf "_law_short" "_law_short" (defArgs s__law_short) (defBody s__law_short) (defScope s__law_short) .none kV11 dc11 pm11 an11 cd11 ct11
    | 12 => PySem.W.fnOf "_law_key" "_law_key" (defArgs s__law_key) (defBody s__law_key) (defScope s__law_key) .none kV12 dc12 pm12 an12 cd12 ct12
    | 13 => PySem.W.fnOf "_law_book" "_law_book" (defArgs s__law_book) (defBody s__law_book) (defScope s__law_book) .none kV13 dc13 pm13 an13 cd13 ct13
    | 14 => PySem.W.fnOf "_law_is_row" "_law_is_row" (defArgs s__law_is_row) (defBody s__law_is_row) (defScope s__law_is_row) .none kV14 dc14 pm14 an14 cd14 ct14
    | 15 => PySem.W.fnOf "_law_told" "_law_told" (defArgs s__law_told) (defBody s__law_told) (defScope s__law_told) .none kV15 dc15 pm15 an15 cd15 ct15
    | 16 => PySem.W.fnOf "law" "law" (defArgs s_law) (defBody s_law) (defScope s_law) .none kV16 dc16 pm16 an16 cd16 ct16
    | _ => PySem.W.fnOf "law" "law" (defArgs s_law) (defBody s_law) (defScope s_law) .none kV16 dc16 pm16 an16 cd16 ct16
  let cL : Nat → Addr := fun i => match i with
    | 1 => cx_BadNumber
    | _ => 0
  let fL : Nat → Option Str := fun i => match i with
    | 1 => some "number"
    | _ => none
  have Z : Fc l.prog w cL fL K mg fA fD := {
    i_BadNumber := initK_mk (slf := "self") (y := "number") (PySem.W.mg_of X G xg_BadNumber) (PySem.W.mg_none_of X G xz_super) xl_BadNumber xi_BadNumber rfl ⟨_, rfl, rfl⟩ xz_top rfl rfl rfl rfl rfl rfl (by decide) rfl (by decide +kernel) (by decide +kernel) ⟨by decide, by decide, by decide, by decide⟩ (fun _ => rfl) (fun _ => rfl) (fun _ => rfl) (fun _ => rfl) (fun _ => rfl) (fun us hl => match us, hl with | [_, _], _ => rfl)
    n_1 := rfl
    e_1_1 := exm_of (initB_sub xi_BadNumber) i_1_1 (initB_type xi_BadNumber) s_1_1
    d0 := by
      have F := fun_mk (st := s_row_counts) l0 c0 k0
      exact ⟨F, PySem.W.mg_of X G a0, F.binds (ps := ["book", "length"]) fun _ _ _ _ _ _ us hl => match us, hl with | [_, _], _ => rfl⟩
    d1 := by
      have F := fun_mk (st := s_next_count) l1 c1 k1
      exact ⟨F, PySem.W.mg_of X G a1, F.binds (ps := ["book", "counts"]) fun _ _ _ _ _ _ us hl => match us, hl with | [_, _], _ => rfl⟩
    d2 := by
      have F := fun_mk (st := s_row_number) l2 c2 k2
      exact ⟨F, PySem.W.mg_of X G a2, F.binds (ps := ["book", "row"]) fun _ _ _ _ _ _ us hl => match us, hl with | [_, _], _ => rfl⟩
    d3 := by
      have F := fun_mk (st := s_row_by_number) l3 c3 k3
      exact ⟨F, PySem.W.mg_of X G a3, F.binds (ps := ["book", "number"]) fun _ _ _ _ _ _ us hl => match us, hl with | [_, _], _ => rfl⟩
    d4 := by
      have F := fun_mk (st := s_row_of_size) l4 c4 k4
      exact ⟨F, PySem.W.mg_of X G a4, F.binds (ps := ["book", "counts", "size", "number"]) fun _ _ _ _ _ _ us hl => match us, hl with | [_, _, _, _], _ => rfl⟩
    d5 := by
      have F := fun_mk (st := s_next_index) l5 c5 k5
      exact ⟨F, PySem.W.mg_of X G a5, F.binds (ps := ["book", "counts", "size", "number"]) fun _ _ _ _ _ _ us hl => match us, hl with | [_, _, _, _], _ => rfl⟩
    d6 := by
      have F := fun_mk (st := s__law_is_int) l6 c6 k6
      exact ⟨F, PySem.W.mg_of X G a6, F.binds (ps := ["x"]) fun _ _ _ _ _ _ us hl => match us, hl with | [_], _ => rfl⟩
    d7 := by
      have F := fun_mk (st := s__law_same) l7 c7 k7
      exact ⟨F, PySem.W.mg_of X G a7, F.binds (ps := ["told", "due"]) fun _ _ _ _ _ _ us hl => match us, hl with | [_, _], _ => rfl⟩
    d8 := by
      have F := fun_mk (st := s__law_number) l8 c8 k8
      exact ⟨F, PySem.W.mg_of X G a8, F.binds (ps := ["script", "k"]) fun _ _ _ _ _ _ us hl => match us, hl with | [_, _], _ => rfl⟩
    d9 := by
      have F := fun_mk (st := s__law_draws) l9 c9 k9
      exact ⟨F, PySem.W.mg_of X G a9, F.binds (ps := ["script", "k", "count", "many"]) fun _ _ _ _ _ _ us hl => match us, hl with | [_, _, _, _], _ => rfl⟩
    d10 := by
      have F := fun_mk (st := s__law_word) l10 c10 k10
      exact ⟨F, PySem.W.mg_of X G a10, F.binds (ps := ["picks", "letters"]) fun _ _ _ _ _ _ us hl => match us, hl with | [_, _], _ => rfl⟩
    d11 := by
      have F := fun_mk (st := s__law_short) l11 c11 k11
      exact ⟨F, PySem.W.mg_of X G a11, F.binds (ps := ["words"]) fun _ _ _ _ _ _ us hl => match us, hl with | [_], _ => rfl⟩
    d12 := by
      have F := fun_mk (st := s__law_key) l12 c12 k12
      exact ⟨F, PySem.W.mg_of X G a12, F.binds (ps := ["word"]) fun _ _ _ _ _ _ us hl => match us, hl with | [_], _ => rfl⟩
    d13 := by
      have F := fun_mk (st := s__law_book) l13 c13 k13
      exact ⟨F, PySem.W.mg_of X G a13, F.binds (ps := ["script", "k", "letters", "count", "length"]) fun _ _ _ _ _ _ us hl => match us, hl with | [_, _, _, _, _], _ => rfl⟩
    d14 := by
      have F := fun_mk (st := s__law_is_row) l14 c14 k14
      exact ⟨F, PySem.W.mg_of X G a14, F.binds (ps := ["book", "row"]) fun _ _ _ _ _ _ us hl => match us, hl with | [_, _], _ => rfl⟩
    d15 := by
      have F := fun_mk (st := s__law_told) l15 c15 k15
      exact ⟨F, PySem.W.mg_of X G a15, F.binds (ps := ["book", "number"]) fun _ _ _ _ _ _ us hl => match us, hl with | [_, _], _ => rfl⟩
    d16 := by
      have F := fun_mk (st := s_law) l16 c16 k16
      exact ⟨F, PySem.W.mg_of X G a16, F.binds (ps := ["script"]) fun _ _ _ _ _ _ us hl => match us, hl with | [_], _ => rfl⟩
    z_abs := PySem.W.mg_none_of X G z_abs
    z_bool := PySem.W.mg_none_of X G z_bool
    z_int := PySem.W.mg_none_of X G z_int
    z_isinstance := PySem.W.mg_none_of X G z_isinstance
    z_len := PySem.W.mg_none_of X G z_len
    z_list := PySem.W.mg_none_of X G z_list
    z_min := PySem.W.mg_none_of X G z_min
    z_range := PySem.W.mg_none_of X G z_range
    z_sorted := PySem.W.mg_none_of X G z_sorted
    z_str := PySem.W.mg_none_of X G z_str
    z_sum := PySem.W.mg_none_of X G z_sum
    z_tuple := PySem.W.mg_none_of X G z_tuple
    g_MOST_NUMBER := ⟨_, PySem.W.mg_of X G g_MOST_NUMBER⟩
  }
  exact ⟨PySem.W.fnOf "law" "law" (defArgs s_law) (defBody s_law) (defScope s_law) .none kV16 dc16 pm16 an16 cd16 ct16, fun s v => .of_eq rfl, fun base _ _ => (all_ok (fl := fL) (P := l.prog) (w := w) (base := base) Z 30).1 16 (by decide) rfl⟩
end PF.K90

/-! Rows of words: the plain side of _law_rows, count_readings, is_message. -/
namespace PF
/-- the word at an index -/
abbrev wAt (ws : List Tx) (i : Nat) : Tx := ws.getD i []
/-- all rows whose text is the word, ascending; n bounds the word's length -/
def rowsF (ws : List Tx) : Nat → Tx → List (List Nat)
  | 0, w => if w = [] then [[]] else []
  | n + 1, w => if w = [] then [[]] else (List.range ws.length).flatMap fun i => if w.take (wAt ws i).length = wAt ws i then (rowsF ws n (w.drop (wAt ws i).length)).map (i :: ·) else []
def rows (ws : List Tx) (w : Tx) : List (List Nat) := rowsF ws w.length w
def textR (ws : List Tx) (r : List Nat) : Tx := (r.map (wAt ws)).flatten
def Msg (ws : List Tx) (w : Tx) : Prop := ∃ us : List Tx, (∀ u ∈ us, u ∈ ws) ∧ us.flatten = w
/-- no empty word -/
abbrev Full (ws : List Tx) : Prop := ∀ u ∈ ws, u ≠ []
theorem wAt_mem {ws : List Tx} {i : Nat} (h : i < ws.length) : wAt ws i ∈ ws := by
  unfold wAt
  rw [List.getD_eq_getElem?_getD, List.getElem?_eq_getElem h]
  exact List.getElem_mem h
theorem wAt_get {ws : List Tx} {i : Nat} (h : i < ws.length) : ws[i]? = some (wAt ws i) := by
  unfold wAt
  rw [List.getD_eq_getElem?_getD, List.getElem?_eq_getElem h]
  rfl
theorem wAt_pos {ws : List Tx} (hf : Full ws) {i : Nat} (h : i < ws.length) : 1 ≤ (wAt ws i).length := by
  have := hf _ (wAt_mem h)
  exact List.length_pos_iff.mpr this
theorem flatMap_eq {α β : Type} {l : List α} {f g : α → List β} (h : ∀ x ∈ l, f x = g x) : l.flatMap f = l.flatMap g := by
  induction l with
  | nil => rfl
  | cons a t ih =>
    rw [List.flatMap_cons, List.flatMap_cons, h a List.mem_cons_self, ih fun x hx => h x (List.mem_cons_of_mem _ hx)]
theorem rowsF_eq {ws : List Tx} (hf : Full ws) : ∀ (n m : Nat) (w : Tx), w.length ≤ n → w.length ≤ m → rowsF ws n w = rowsF ws m w
  | n, m, [], _, _ => by cases n <;> cases m <;> rfl
  | n + 1, m + 1, c :: w, h1, h2 => by
    unfold rowsF
    rw [if_neg (by simp), if_neg (by simp)]
    refine flatMap_eq fun i hi => ?_
    have hp := wAt_pos hf (List.mem_range.mp hi)
    split
    · rw [rowsF_eq hf n m _ (by rw [List.length_drop]; omega) (by rw [List.length_drop]; omega)]
    · rfl
theorem rows_nil (ws : List Tx) : rows ws [] = [[]] := rfl
theorem rows_step {ws : List Tx} (hf : Full ws) {w : Tx} (hw : w ≠ []) : rows ws w = (List.range ws.length).flatMap fun i => if w.take (wAt ws i).length = wAt ws i then (rows ws (w.drop (wAt ws i).length)).map (i :: ·) else [] := by
  cases w with
  | nil => exact absurd rfl hw
  | cons c w =>
    show rowsF ws (w.length + 1) (c :: w) = _
    rw [show rowsF ws (w.length + 1) (c :: w) = if c :: w = [] then [[]] else (List.range ws.length).flatMap fun i => if (c :: w).take (wAt ws i).length = wAt ws i then (rowsF ws w.length ((c :: w).drop (wAt ws i).length)).map (i :: ·) else [] from rfl, if_neg hw]
    refine flatMap_eq fun i hi => ?_
    have hp := wAt_pos hf (List.mem_range.mp hi)
    split
    · rw [rowsF_eq hf w.length _ _ (by rw [List.length_drop, List.length_cons]; omega) (Nat.le_refl _)]
      rfl
    · rfl
theorem mem_rows {ws : List Tx} (hf : Full ws) : ∀ (n : Nat) (w : Tx) (r : List Nat), w.length ≤ n → (r ∈ rows ws w ↔ (∀ i ∈ r, i < ws.length) ∧ textR ws r = w)
  | n, [], r, _ => by
    rw [rows_nil, List.mem_singleton]
    constructor
    · rintro rfl
      exact ⟨by simp, rfl⟩
    · rintro ⟨h1, h2⟩
      cases r with
      | nil => rfl
      | cons i r =>
        exfalso
        have hp := wAt_pos hf (h1 i List.mem_cons_self)
        have := congrArg List.length h2
        unfold textR at this
        rw [List.map_cons, List.flatten_cons, List.length_append] at this
        simp only [List.length_nil] at this
        omega
  | n + 1, c :: w, r, hn => by
    rw [rows_step hf (by simp), List.mem_flatMap]
    constructor
    · rintro ⟨i, hi, h⟩
      have hi2 := List.mem_range.mp hi
      have hp := wAt_pos hf hi2
      split at h
      · rename_i hpre
        obtain ⟨r', h1, rfl⟩ := List.mem_map.mp h
        obtain ⟨h2, h3⟩ := (mem_rows hf n _ r' (by rw [List.length_drop]; omega)).mp h1
        refine ⟨fun j hj => ?_, ?_⟩
        · rcases List.mem_cons.mp hj with rfl | hj
          · exact hi2
          · exact h2 j hj
        · show ((_ :: _).map _).flatten = _
          rw [List.map_cons, List.flatten_cons]
          show wAt ws i ++ textR ws r' = _
          rw [h3]
          conv => lhs; lhs; rw [← hpre]
          exact List.take_append_drop _ _
      · cases h
    · rintro ⟨h1, h2⟩
      cases r with
      | nil => cases h2
      | cons i r =>
        have hi := h1 i List.mem_cons_self
        have hp := wAt_pos hf hi
        have h3 : wAt ws i ++ textR ws r = c :: w := h2
        refine ⟨i, List.mem_range.mpr hi, ?_⟩
        rw [if_pos (by rw [← h3, List.take_left'] ; rfl)]
        refine List.mem_map.mpr ⟨r, (mem_rows hf n _ r (by rw [List.length_drop]; omega)).mpr ⟨fun j hj => h1 j (List.mem_cons_of_mem _ hj), ?_⟩, rfl⟩
        rw [← h3, List.drop_left']
        rfl
theorem in_rows {ws : List Tx} (hf : Full ws) {w : Tx} {r : List Nat} : r ∈ rows ws w ↔ (∀ i ∈ r, i < ws.length) ∧ textR ws r = w := mem_rows hf w.length w r (Nat.le_refl _)
/-- a row of given words -/
theorem row_of {ws : List Tx} : ∀ {us : List Tx}, (∀ u ∈ us, u ∈ ws) → ∃ r : List Nat, (∀ i ∈ r, i < ws.length) ∧ r.map (wAt ws) = us
  | [], _ => ⟨[], by simp, rfl⟩
  | u :: us, h => by
    obtain ⟨r, h1, h2⟩ := row_of fun v hv => h v (List.mem_cons_of_mem _ hv)
    obtain ⟨i, hi, e⟩ := List.getElem_of_mem (h u List.mem_cons_self)
    refine ⟨i :: r, fun j hj => ?_, ?_⟩
    · rcases List.mem_cons.mp hj with rfl | hj
      · exact hi
      · exact h1 j hj
    · rw [List.map_cons, h2]
      have := wAt_get hi
      rw [List.getElem?_eq_getElem hi] at this
      rw [← Option.some.inj this, e]
theorem rows_msg {ws : List Tx} (hf : Full ws) {w : Tx} : rows ws w ≠ [] ↔ Msg ws w := by
  constructor
  · intro h
    obtain ⟨r, t, e⟩ := List.exists_cons_of_ne_nil h
    obtain ⟨h1, h2⟩ := (in_rows hf (w := w) (r := r)).mp (by rw [e]; exact List.mem_cons_self)
    refine ⟨r.map (wAt ws), fun u hu => ?_, h2⟩
    obtain ⟨i, hi, rfl⟩ := List.mem_map.mp hu
    exact wAt_mem (h1 i hi)
  · rintro ⟨us, h1, h2⟩ h
    obtain ⟨r, h3, h4⟩ := row_of h1
    have : r ∈ rows ws w := (in_rows hf).mpr ⟨h3, by unfold textR; rw [h4, h2]⟩
    rw [h] at this
    cases this
theorem row_len {ws : List Tx} (hf : Full ws) {r : List Nat} (h : ∀ i ∈ r, i < ws.length) : r.length ≤ (textR ws r).length := by
  induction r with
  | nil => exact Nat.zero_le _
  | cons i r ih =>
    have := ih fun j hj => h j (List.mem_cons_of_mem _ hj)
    have hp := wAt_pos hf (h i List.mem_cons_self)
    show r.length + 1 ≤ (wAt ws i ++ textR ws r).length
    rw [List.length_append]
    omega
/-! ### how many -/
theorem pow_sum : ∀ (L : Nat) (ls : List Nat), ls.Nodup → (∀ l ∈ ls, 1 ≤ l ∧ l ≤ L) → (ls.map fun l => 2 ^ (L - l)).sum + 1 ≤ 2 ^ L
  | 0, ls, _, h => by
    have : ls = [] := by
      rw [List.eq_nil_iff_forall_not_mem]
      intro l hl
      have := h l hl
      omega
    subst this
    simp
  | L + 1, ls, hn, h => by
    have key : ∀ l : List Nat, (∀ x ∈ l, 1 ≤ x ∧ x ≤ L) → (l.map fun x => 2 ^ (L + 1 - x)).sum = 2 * (l.map fun x => 2 ^ (L - x)).sum := by
      intro l
      induction l with
      | nil => intro _; rfl
      | cons a t ih =>
        intro h
        rw [List.map_cons, List.map_cons, List.sum_cons, List.sum_cons, ih fun x hx => h x (List.mem_cons_of_mem _ hx), Nat.mul_add]
        have := h a List.mem_cons_self
        rw [show L + 1 - a = (L - a) + 1 by omega, Nat.pow_succ, Nat.mul_comm]
    by_cases hm : L + 1 ∈ ls
    · have hp := List.perm_cons_erase hm
      have hn2 := hp.nodup_iff.mp hn
      rw [List.nodup_cons] at hn2
      have hs := (hp.map fun l => 2 ^ (L + 1 - l)).sum_nat
      have hb : ∀ x ∈ ls.erase (L + 1), 1 ≤ x ∧ x ≤ L := fun x hx => by
        have := h x (List.mem_of_mem_erase hx)
        have : x ≠ L + 1 := fun e => hn2.1 (e ▸ hx)
        omega
      have ih := pow_sum L _ hn2.2 hb
      rw [hs, List.map_cons, List.sum_cons, key _ hb, Nat.sub_self, Nat.pow_zero, Nat.pow_succ]
      omega
    · have hb : ∀ x ∈ ls, 1 ≤ x ∧ x ≤ L := fun x hx => by
        have := h x hx
        have : x ≠ L + 1 := fun e => hm (e ▸ hx)
        omega
      have ih := pow_sum L _ hn hb
      rw [key _ hb, Nat.pow_succ]
      omega
theorem sum_filter_le {l : List Tx} {p : Tx → Bool} {g h : Tx → Nat} (h1 : ∀ u ∈ l, p u = true → g u ≤ h u) (h2 : ∀ u ∈ l, p u = false → g u = 0) : (l.map g).sum ≤ ((l.filter p).map h).sum := by
  induction l with
  | nil => exact Nat.le_refl _
  | cons a t ih =>
    have := ih (fun u hu => h1 u (List.mem_cons_of_mem _ hu)) (fun u hu => h2 u (List.mem_cons_of_mem _ hu))
    rw [List.map_cons, List.sum_cons]
    cases hp : p a with
    | true =>
      rw [List.filter_cons_of_pos hp, List.map_cons, List.sum_cons]
      have := h1 a List.mem_cons_self hp
      omega
    | false =>
      rw [List.filter_cons_of_neg (by rw [hp]; exact Bool.false_ne_true)]
      have := h2 a List.mem_cons_self hp
      omega
theorem map_wAt (ws : List Tx) : (List.range ws.length).map (wAt ws) = ws := by
  refine List.ext_getElem? fun i => ?_
  rw [List.getElem?_map]
  by_cases h : i < ws.length
  · rw [List.getElem?_eq_getElem (by simpa using h), List.getElem_range, wAt_get h]
    rfl
  · rw [List.getElem?_eq_none (by simpa using h), List.getElem?_eq_none (by omega)]
    rfl
theorem rows_few {ws : List Tx} (hf : Full ws) (hn : ws.Nodup) : ∀ (n : Nat) (w : Tx), w.length ≤ n → (rows ws w).length ≤ 2 ^ w.length
  | n, [], _ => by rw [rows_nil]; exact Nat.le_refl _
  | n + 1, c :: w, h => by
    rw [rows_step hf (by simp), List.length_flatMap]
    have e1 : ((List.range ws.length).map fun i => (if (c :: w).take (wAt ws i).length = wAt ws i then (rows ws ((c :: w).drop (wAt ws i).length)).map (i :: ·) else []).length) =
        ws.map fun u => if (c :: w).take u.length = u then (rows ws ((c :: w).drop u.length)).length else 0 := by
      conv => rhs; rw [← map_wAt ws, List.map_map]
      refine List.map_congr_left fun i _ => ?_
      simp only [Function.comp]
      rw [map_wAt]
      split
      · rw [List.length_map]
      · rfl
    rw [e1]
    have e2 := sum_filter_le (l := ws) (p := fun u => decide ((c :: w).take u.length = u)) (g := fun u => if (c :: w).take u.length = u then (rows ws ((c :: w).drop u.length)).length else 0) (h := fun u => 2 ^ ((c :: w).length - u.length)) (fun u hu hp => by
      have hp := of_decide_eq_true hp
      simp only [if_pos hp]
      have h1 : 1 ≤ u.length := List.length_pos_iff.mpr (hf u hu)
      have h2 := rows_few hf hn n ((c :: w).drop u.length) (by rw [List.length_drop]; omega)
      rw [List.length_drop] at h2
      exact h2) (fun u hu hp => if_neg (of_decide_eq_false hp))
    have e3 := pow_sum (c :: w).length ((ws.filter fun u => decide ((c :: w).take u.length = u)).map List.length) (by
      refine List.pairwise_map.mpr ((hn.filter _).imp_of_mem fun {a b} ha hb hab e => hab ?_)
      have h1 := of_decide_eq_true (List.mem_filter.mp ha).2
      have h2 := of_decide_eq_true (List.mem_filter.mp hb).2
      rw [← h1, ← h2, e]) (fun l hl => by
      obtain ⟨u, hu, rfl⟩ := List.mem_map.mp hl
      obtain ⟨h1, h2⟩ := List.mem_filter.mp hu
      have h2 := congrArg List.length (of_decide_eq_true h2)
      rw [List.length_take] at h2
      exact ⟨List.length_pos_iff.mpr (hf u h1), by omega⟩)
    rw [List.map_map] at e3
    have e4 : ((ws.filter fun u => decide ((c :: w).take u.length = u)).map ((fun l => 2 ^ ((c :: w).length - l)) ∘ List.length)) = ((ws.filter fun u => decide ((c :: w).take u.length = u)).map fun u => 2 ^ ((c :: w).length - u.length)) := rfl
    rw [e4] at e3
    exact Nat.le_trans e2 (Nat.le_of_succ_le e3)
end PF

/-! Rows of words: the functions. -/
namespace PF
abbrev dBook (m : Nat) (ws : List Tx) : D := .tup [.int m, .tup (ws.map .str)]
def rowD (r : List Nat) : D := .tup (r.map fun i => .int (i : Nat))
theorem b1_at (m : Nat) (ws : List Tx) : idxD (dBook m ws) (.int 1) = some (.tup (ws.map .str)) := Eq.trans rfl rfl
theorem b0_at (m : Nat) (ws : List Tx) : idxD (dBook m ws) (.int 0) = some (.int m) := Eq.trans rfl rfl
theorem bw_at {ws : List Tx} {i : Nat} (h : i < ws.length) : idxD (.tup (ws.map .str)) (.int (i : Nat)) = some (.str (wAt ws i)) := idx_strsT (wAt_get h)
/-- a book that is not large -/
structure Bk (ws : List Tx) : Prop where
  full : Full ws
  nd : ws.Nodup
  few : ws.length ≤ 1000
  one : ∀ u ∈ ws, u.length ≤ 1000
section
variable {Φ : Nat → List D → R (Bool × D)} {W : Nat}
@[simp] theorem i_rg3 (a b c : CE) (env : Env) : evalI Φ (.rg3 a b c) env = (evalE Φ a env >>= fun x => asInt x >>= fun i => evalE Φ b env >>= fun y => asInt y >>= fun j => evalE Φ c env >>= fun z => asInt z >>= fun k => if rgOk i && rgOk j && rgOk k && decide (k ≠ 0) then .ok (false, rangeC i k (rgN i j k)) else .stuck) := Eq.trans rfl rfl
@[simp] theorem x_setI (j : Nat) (i e : CE) (env : Env) : exec Φ W (.setI j i e) env = (evalE Φ e env >>= fun x => escV x >>= fun d => ownL env j >>= fun ds => evalE Φ i env >>= fun y => asInt y >>= fun k => (match ixN ds.length k with
    | some n => .ok (.nx (env.set j (some (true, .lst (ds.set n d)))))
    | none => .stuck)) := Eq.trans rfl rfl
/-! ### next_words -/
def fnNext : FnD := ⟨3, 4, [.ret (.lc [3] (.rg1 (.bi .len [.idx (.var 0) (.cst (.int 1))])) (.yes (.cmp .eq (.slc (.var 1) (.yes (.var 2)) (.yes (.bin .add (.var 2) (.bi .len [.idx (.idx (.var 0) (.cst (.int 1))) (.var 3)])))) (.idx (.idx (.var 0) (.cst (.int 1))) (.var 3)))) (.var 3))]⟩
def nextW (ws : List Tx) (w : Tx) : List Nat := (List.range ws.length).filter fun i => decide (w.take (wAt ws i).length = wAt ws i)
theorem cut_long {α : Type} (xs : List α) (i j : Nat) (hi : i ≤ xs.length) (hij : i ≤ j) : cut xs (some (i : Int)) (some (j : Int)) = (xs.drop i).take (j - i) := by
  unfold cut sIx
  simp only [if_neg (Int.not_lt.mpr (Int.natCast_nonneg i)), if_neg (Int.not_lt.mpr (Int.natCast_nonneg j)), Int.toNat_natCast]
  rw [Nat.min_eq_left hi]
  by_cases hj : j ≤ xs.length
  · rw [Nat.min_eq_left hj]
  · rw [Nat.min_eq_right (by omega), List.take_of_length_le (by rw [List.length_drop]; omega), List.take_of_length_le (by rw [List.length_drop]; omega)]
theorem slc_long {s : Tx} (h : s.length ≤ SZ) (i j : Nat) (hi : i ≤ s.length) (hij : i ≤ j) : slcD (.str s) (some (i : Int)) (some (j : Int)) = some (.pl, .str ((s.drop i).take (j - i))) := by
  show (if _ then _ else _) = _
  rw [if_pos h, cut_long _ _ _ hi hij]
theorem ranges_eq (n : Nat) : rangeI 0 n = (List.range n).map fun i => .int (i : Nat) := by
  unfold rangeI
  congr 1
  funext i
  rw [Int.zero_add]
theorem lcGo_range {g : D → R (Option D)} {p : Nat → Bool} {f : Nat → D} (n : Nat) (h : ∀ i, i < n → g (.int (i : Nat)) = .ok (if p i then some (f i) else none)) : lcGo g (rangeI 0 n) = .ok (((List.range n).filter p).map f) := by
  rw [ranges_eq]
  have := lcGo_filter (g := g) (p := fun d => match d with | .int k => p k.toNat | _ => false) (f := fun d => match d with | .int k => f k.toNat | _ => .non) (xs := (List.range n).map fun i => .int (i : Nat)) (fun x hx => by
    obtain ⟨i, hi, rfl⟩ := List.mem_map.mp hx
    exact h i (List.mem_range.mp hi))
  rw [this, List.filter_map, List.map_map]
  rfl
theorem next_ok (m : Nat) (ws : List Tx) (w : Tx) (p : Nat) (hb : Bk ws) (hw : w.length ≤ 1000) (hp : p ≤ w.length) :
    runBody Φ W fnNext [dBook m ws, .str w, .int (p : Nat)] = .ok (true, .lst ((nextW ws (w.drop p)).map fun i => .int (i : Nat))) := by
  have hz : ws.length ≤ SZ := by have := hb.few; unfold SZ; omega
  have hw2 : w.length ≤ SZ := by unfold SZ; omega
  have hr : rgOk (ws.length : Int) = true := rgOk_len hz
  have hlc : lcGo (bodyLc Φ [3] (.yes (.cmp .eq (.slc (.var 1) (.yes (.var 2)) (.yes (.bin .add (.var 2) (.bi .len [.idx (.idx (.var 0) (.cst (.int 1))) (.var 3)])))) (.idx (.idx (.var 0) (.cst (.int 1))) (.var 3)))) (.var 3) [some (false, dBook m ws), some (false, .str w), some (false, .int (p : Nat)), none]) (rangeI 0 ws.length) =
      .ok ((nextW ws (w.drop p)).map fun i => .int (i : Nat)) := by
    refine lcGo_range _ fun i hi => ?_
    have i1 := b1_at m ws
    have i2 := bw_at hi
    have h3 : (wAt ws i).length ≤ SZ := by have := hb.one _ (wAt_mem hi); unfold SZ; omega
    have s1 := slc_long hw2 p (p + (wAt ws i).length) hp (by omega)
    rw [Nat.add_sub_cancel_left, Int.natCast_add] at s1
    generalize wAt ws i = u at *
    generalize dBook m ws = B at *
    generalize D.tup (ws.map D.str) = T at *
    by_cases hc : (w.drop p).take u.length = u
    · rw [hc] at s1
      simp [bodyLc, bindT, wipeE, i1, i2, h3, s1, hc]
    · simp [bodyLc, bindT, wipeE, i1, i2, h3, s1, hc]
  have i1 := b1_at m ws
  simp only [dBook] at i1 hlc
  simp [fnNext, dBook, i1, hr, hz, hlc]
/-! ### reading_counts -/
def fnCounts (iN : Nat) : FnD := ⟨2, 6, [.asg 2 (.bin .add (.lc [4] (.rg1 (.bi .len [.var 1])) .no (.cst (.int 0))) (.lst [.cst (.int 1)])),
  .for_ [3] (.rg3 (.bin .sub (.bi .len [.var 1]) (.cst (.int 1))) (.neg (.cst (.int 1))) (.neg (.cst (.int 1)))) [.setI 2 (.var 3) (.bi .sum [.lc [5] (.seq .list (.call iN [.var 0, .var 1, .var 3])) .no (.idx (.var 2) (.bin .add (.var 3) (.bi .len [.idx (.idx (.var 0) (.cst (.int 1))) (.var 5)])))])],
  .retV 2]⟩
/-- the number of rows -/
def cntR (ws : List Tx) (w : Tx) : Nat := (rows ws w).length
theorem sum_ite {l : List Nat} {p : Nat → Prop} [DecidablePred p] {g : Nat → Nat} : (l.map fun i => if p i then g i else 0).sum = ((l.filter fun i => decide (p i)).map g).sum := by
  induction l with
  | nil => rfl
  | cons a t ih =>
    rw [List.map_cons, List.sum_cons, ih]
    by_cases h : p a
    · rw [if_pos h, List.filter_cons_of_pos (p := fun i => decide (p i)) (by simpa using h), List.map_cons, List.sum_cons]
    · rw [if_neg h, List.filter_cons_of_neg (p := fun i => decide (p i)) (by simpa using h), Nat.zero_add]
theorem cnt_step {ws : List Tx} (hf : Full ws) {w : Tx} (hw : w ≠ []) : cntR ws w = ((nextW ws w).map fun i => cntR ws (w.drop (wAt ws i).length)).sum := by
  unfold cntR nextW
  rw [rows_step hf hw, List.length_flatMap, ← sum_ite]
  refine congrArg List.sum (List.map_congr_left fun i _ => ?_)
  split
  · rw [List.length_map]
  · rfl
theorem sum_nats (l : List Nat) : (l.map fun n => ((n : Nat) : Int)).sum = ((l.sum : Nat) : Int) := by
  induction l with
  | nil => rfl
  | cons a t ih => rw [List.map_cons, List.sum_cons, List.sum_cons, ih]; omega
theorem natD (l : List Nat) : (l.map fun n => D.int (n : Nat)) = (l.map fun n => ((n : Nat) : Int)).map D.int := by rw [List.map_map]; rfl
theorem idx_nats {l : List Nat} {k v : Nat} (h : l[k]? = some v) : idxD (.lst (l.map fun n => D.int (n : Nat))) (.int (k : Nat)) = some (.int (v : Nat)) := by
  rw [natD]
  refine idx_ints ?_
  rw [List.getElem?_map, h]
  rfl
theorem b_sum (l : List Nat) : builtin .sum [.lst (l.map fun n => D.int (n : Nat))] = some (.pl, .int (l.sum : Nat)) := by
  show (intsOf _).map _ = _
  rw [natD, intsOf_map]
  show some (Fl.pl, D.int _) = _
  rw [sum_nats]
theorem counts_ok {iN : Nat} (m : Nat) (ws : List Tx) (w : Tx) (hb : Bk ws) (hw : w.length ≤ 900)
    (hN : ∀ p : Nat, p ≤ w.length → Φ iN [dBook m ws, .str w, .int (p : Nat)] = .ok (true, .lst ((nextW ws (w.drop p)).map fun i => .int (i : Nat)))) :
    ∃ cs : List Nat, cs.length = w.length + 1 ∧ (∀ p, p ≤ w.length → cs[p]? = some (cntR ws (w.drop p))) ∧ runBody Φ W (fnCounts iN) [dBook m ws, .str w] = .ok (true, .lst (cs.map fun n => .int (n : Nat))) := by
  have hw2 : w.length ≤ SZ := by unfold SZ; omega
  obtain ⟨⟨cs, l3⟩, h1, h2, h3⟩ := forGo_inv (g := bodyFor Φ W [3] [.setI 2 (.var 3) (.bi .sum [.lc [5] (.seq .list (.call iN [.var 0, .var 1, .var 3])) .no (.idx (.var 2) (.bin .add (.var 3) (.bi .len [.idx (.idx (.var 0) (.cst (.int 1))) (.var 5)])))])])
    (fun (a : List Nat × Option Slot) => [some (false, dBook m ws), some (false, .str w), some (true, .lst (a.1.map fun n => .int (n : Nat))), a.2, none, none])
    (fun t a => a.1.length = w.length + 1 ∧ ∀ p, w.length - t ≤ p → p ≤ w.length → a.1[p]? = some (cntR ws (w.drop p)))
    (rangeC ((w.length : Int) - 1) (-1) w.length) 0 (List.replicate w.length 0 ++ [1], none) ⟨by simp, fun p hp1 hp2 => by
      have : p = w.length := by omega
      subst this
      rw [List.getElem?_append_right (by simp), List.length_replicate, Nat.sub_self, List.drop_length]
      rfl⟩ (by
      rintro t ⟨cs, l3⟩ x hx ⟨hc1, hc2⟩
      simp only [Nat.zero_add] at hc1 hc2 ⊢
      obtain ⟨ht, rfl⟩ : t < w.length ∧ x = .int ((w.length - 1 - t : Nat) : Int) := by
        unfold rangeC at hx
        rw [List.getElem?_map] at hx
        obtain ⟨j, g1, g2⟩ := Option.map_eq_some_iff.mp hx
        obtain ⟨g3, g4⟩ := List.getElem?_eq_some_iff.mp g1
        rw [List.getElem_range] at g4
        rw [List.length_range] at g3
        subst g4
        refine ⟨g3, ?_⟩
        rw [← g2]
        congr 1
        omega
      generalize hp : w.length - 1 - t = p
      have hpl : p < w.length := by omega
      have n1 := hN p (by omega)
      have hlc : lcGo (bodyLc Φ [5] .no (.idx (.var 2) (.bin .add (.var 3) (.bi .len [.idx (.idx (.var 0) (.cst (.int 1))) (.var 5)]))) [some (false, dBook m ws), some (false, .str w), some (true, .lst (cs.map fun n => .int (n : Nat))), some (false, .int (p : Nat)), none, none]) ((nextW ws (w.drop p)).map fun i => .int (i : Nat)) =
          .ok (((nextW ws (w.drop p)).map fun i => cntR ws ((w.drop p).drop (wAt ws i).length)).map fun n => .int (n : Nat)) := by
        have := lcGo_map (g := bodyLc Φ [5] .no (.idx (.var 2) (.bin .add (.var 3) (.bi .len [.idx (.idx (.var 0) (.cst (.int 1))) (.var 5)]))) [some (false, dBook m ws), some (false, .str w), some (true, .lst (cs.map fun n => .int (n : Nat))), some (false, .int (p : Nat)), none, none])
          (f := fun d => match d with | .int k => D.int ((cntR ws ((w.drop p).drop (wAt ws k.toNat).length) : Nat) : Int) | _ => .non) (xs := (nextW ws (w.drop p)).map fun i => .int (i : Nat)) (fun x hx => by
            obtain ⟨i, hi, rfl⟩ := List.mem_map.mp hx
            obtain ⟨g1, g2⟩ := List.mem_filter.mp hi
            have hi2 := List.mem_range.mp g1
            have g3 := congrArg List.length (of_decide_eq_true g2)
            rw [List.length_take, List.length_drop] at g3
            have hpos := wAt_pos hb.full hi2
            have e1 := idx_nats (hc2 (p + (wAt ws i).length) (by omega) (by omega))
            have i1 := b1_at m ws
            have i2 := bw_at hi2
            have h5 : (wAt ws i).length ≤ SZ := by have := hb.one _ (wAt_mem hi2); unfold SZ; omega
            rw [Int.natCast_add] at e1
            simp only [Int.toNat_natCast, List.drop_drop]
            generalize wAt ws i = u at *
            generalize dBook m ws = B at *
            generalize D.tup (ws.map D.str) = T at *
            generalize cs.map (fun n => D.int (n : Nat)) = C at *
            simp [bodyLc, bindT, wipeE, i1, i2, h5, e1])
        rw [this, List.map_map, List.map_map]
        rfl
      rw [show (fun i => cntR ws ((w.drop p).drop (wAt ws i).length)) = fun i => cntR ws ((w.drop p).drop (wAt ws i).length) from rfl] at hlc
      have hs := cnt_step hb.full (w := w.drop p) (by intro z; have := congrArg List.length z; rw [List.length_drop, List.length_nil] at this; omega)
      have hnl : (nextW ws (w.drop p)).length ≤ SZ := by
        unfold nextW
        refine Nat.le_trans (List.length_filter_le _ _) ?_
        rw [List.length_range]
        have := hb.few
        unfold SZ
        omega
      have bs := b_sum ((nextW ws (w.drop p)).map fun i => cntR ws ((w.drop p).drop (wAt ws i).length))
      rw [← hs] at bs
      have hix : ixN (cs.map fun n => D.int (n : Nat)).length (p : Int) = some p := ixN_nat (by rw [List.length_map, hc1]; omega)
      have hset : ((cs.map fun n => D.int (n : Nat)).set p (D.int ((cntR ws (w.drop p) : Nat) : Int))) = (cs.set p (cntR ws (w.drop p))).map fun n => D.int (n : Nat) := by rw [List.map_set]
      refine ⟨(cs.set p (cntR ws (w.drop p)), some (false, .int (p : Nat))), ?_, by rw [List.length_set]; exact hc1, fun q hq1 hq2 => ?_⟩
      · simp only [hset.symm]
        generalize cs.map (fun n => D.int (n : Nat)) = C at *
        generalize ((nextW ws (w.drop p)).map fun i => cntR ws ((w.drop p).drop (wAt ws i).length)).map (fun n => D.int (n : Nat)) = E at *
        have hnl' : ((nextW ws (w.drop p)).map fun i => D.int (i : Nat)).length ≤ SZ := by rw [List.length_map]; exact hnl
        generalize (nextW ws (w.drop p)).map (fun i => D.int (i : Nat)) = N at *
        generalize cntR ws (w.drop p) = v at *
        generalize dBook m ws = B at *
        simp [bodyFor, bindT, n1, hnl', hlc, bs, ownL, hix]
      · by_cases e : q = p
        · subst e
          rw [List.getElem?_set_self (by omega)]
        · rw [List.getElem?_set_ne (fun z => e z.symm)]
          exact hc2 q (by omega) hq2)
  simp only [Nat.zero_add] at h2 h3
  rw [show (rangeC ((w.length : Int) - 1) (-1) w.length).length = w.length by simp [rangeC]] at h3
  refine ⟨cs, h2, fun p hp => h3 p (by omega) hp, ?_⟩
  have hr : rgOk (w.length : Int) = true := rgOk_len hw2
  have hr1 : rgOk ((w.length : Int) - 1) = true := by simp [rgOk]; omega
  have hr2 : rgOk (-1) = true := by decide
  have hn : rgN ((w.length : Int) - 1) (-1) (-1) = w.length := by
    unfold rgN
    rw [if_neg (by decide)]
    by_cases h0 : w.length = 0
    · rw [h0]; decide
    · rw [if_pos (by omega)]
      simp
  have hlc : ∀ env : Env, 4 < env.length → lcGo (bodyLc Φ [4] .no (.cst (.int 0)) env) (rangeI 0 w.length) = .ok (List.replicate w.length (.int 0)) := fun env he => by
    rw [lcGo_map (f := fun _ => .int 0)]
    · congr 1
      rw [ranges_eq, List.map_map]
      exact List.map_eq_replicate_iff.mpr (fun _ _ => rfl) |>.trans (by simp)
    · intro x hx
      simp [bodyLc, bindT, wipeE, he]
  have hl2 := hlc [some (false, dBook m ws), some (false, .str w), none, none, none, none] (by simp)
  have hsz : w.length + 1 ≤ SZ := by unfold SZ; omega
  have e1 : (List.replicate w.length 0 ++ [1]).map (fun n => D.int ((n : Nat) : Int)) = List.replicate w.length (.int 0) ++ [.int 1] := by
    rw [List.map_append, List.map_replicate]
    rfl
  simp only [e1] at h1
  generalize dBook m ws = B at *
  generalize cs.map (fun n => D.int (n : Nat)) = C at *
  simp [fnCounts, hw2, hr, hr1, hr2, hn, hl2, hsz, h1]
end
end PF

/-! Rows of words: count_readings, is_message, _law_rows, _law_text, _law_words. -/
namespace PF
section
variable {Φ : Nat → List D → R (Bool × D)} {W : Nat}
def fnCount (iC : Nat) : FnD := ⟨2, 2, [.ret (.idx (.call iC [.var 0, .var 1]) (.cst (.int 0)))]⟩
def fnMsg (iK : Nat) : FnD := ⟨2, 2, [.ret (.cmp .gt (.call iK [.var 0, .var 1]) (.cst (.int 0)))]⟩
theorem count_ok {iC : Nat} (m : Nat) (ws : List Tx) (w : Tx) (hC : ∃ cs : List Nat, cs.length = w.length + 1 ∧ (∀ p, p ≤ w.length → cs[p]? = some (cntR ws (w.drop p))) ∧ Φ iC [dBook m ws, .str w] = .ok (true, .lst (cs.map fun n => .int (n : Nat)))) :
    runBody Φ W (fnCount iC) [dBook m ws, .str w] = .ok (false, .int (cntR ws w : Nat)) := by
  obtain ⟨cs, h1, h2, h3⟩ := hC
  have e1 := idx_nats (h2 0 (Nat.zero_le _))
  rw [List.drop_zero] at e1
  simp only [Int.natCast_zero] at e1
  generalize dBook m ws = B at *
  generalize cs.map (fun n => D.int (n : Nat)) = C at *
  simp [fnCount, h3, e1]
/-- whether a word is a message -/
def msgB (ws : List Tx) (w : Tx) : Bool := decide (rows ws w ≠ [])
theorem msgB_iff {ws : List Tx} (hf : Full ws) {w : Tx} : msgB ws w = true ↔ Msg ws w := by
  unfold msgB
  rw [decide_eq_true_eq]
  exact rows_msg hf
theorem msg_ok {iK : Nat} (m : Nat) (ws : List Tx) (w : Tx) (hK : Φ iK [dBook m ws, .str w] = .ok (false, .int (cntR ws w : Nat))) :
    runBody Φ W (fnMsg iK) [dBook m ws, .str w] = .ok (false, .bl (msgB ws w)) := by
  have e1 : decide ((0 : Int) < ((cntR ws w : Nat) : Int)) = msgB ws w := by
    unfold cntR msgB
    rw [Bool.eq_iff_iff, decide_eq_true_eq, decide_eq_true_eq, ← List.length_pos_iff]
    omega
  rw [← e1]
  generalize dBook m ws = B at *
  generalize cntR ws w = c at *
  simp [fnMsg, hK]
/-! ### _law_rows -/
def fnRows (i : Nat) : FnD := ⟨2, 5, [.ife (.cmp .eq (.var 1) (.cst (.str []))) [.ret (.lst [.tup []])] [],
  .asg 2 (.lst []),
  .for_ [3] (.rg1 (.bi .len [.idx (.var 0) (.cst (.int 1))])) [.ife (.cmp .eq (.slc (.var 1) .no (.yes (.bi .len [.idx (.idx (.var 0) (.cst (.int 1))) (.var 3)]))) (.idx (.idx (.var 0) (.cst (.int 1))) (.var 3))) [.for_ [4] (.seq .list (.call i [.var 0, .slc (.var 1) (.yes (.bi .len [.idx (.idx (.var 0) (.cst (.int 1))) (.var 3)])) .no])) [.app 2 (.bin .add (.tup [.var 3]) (.var 4))]] []],
  .retV 2]⟩
theorem rows_inner (B : D) (w : Tx) (s : Nat) : ∀ (rs acc : List (List Nat)) (l4 : Option Slot), (∀ r ∈ rs, r.length < SZ) → acc.length + rs.length ≤ SZ → ∃ l4',
    forGo (bodyFor Φ W [4] [.app 2 (.bin .add (.tup [.var 3]) (.var 4))]) (rs.map rowD) [some (false, B), some (false, .str w), some (true, .lst (acc.map rowD)), some (false, .int (s : Nat)), l4] =
      .ok (.nx [some (false, B), some (false, .str w), some (true, .lst ((acc ++ rs.map (s :: ·)).map rowD)), some (false, .int (s : Nat)), l4'])
  | [], acc, l4, _, _ => ⟨l4, by rw [List.map_nil, List.map_nil, List.append_nil]; rfl⟩
  | r :: rs, acc, l4, h1, h2 => by
    rw [List.length_cons] at h2
    obtain ⟨l4', ih⟩ := rows_inner B w s rs (acc ++ [s :: r]) (some (false, rowD r)) (fun x hx => h1 x (List.mem_cons_of_mem _ hx)) (by rw [List.length_append, List.length_singleton]; omega)
    refine ⟨l4', ?_⟩
    have hr := h1 r List.mem_cons_self
    have ad : binop .add (.tup [.int (s : Nat)]) (rowD r) = some (.pl, rowD (s :: r)) := by
      unfold rowD
      rw [bi_addT (by rw [List.length_map, List.length_singleton]; omega)]
      rfl
    have turn : bodyFor Φ W [4] [.app 2 (.bin .add (.tup [.var 3]) (.var 4))] (rowD r) [some (false, B), some (false, .str w), some (true, .lst (acc.map rowD)), some (false, .int (s : Nat)), l4] =
        .ok (.nx [some (false, B), some (false, .str w), some (true, .lst ((acc ++ [s :: r]).map rowD)), some (false, .int (s : Nat)), some (false, rowD r)]) := by
      have ha : acc.length < SZ := by omega
      rw [List.map_append, List.map_singleton]
      generalize rowD (s :: r) = x at *
      generalize rowD r = y at *
      simp [bodyFor, bindT, ad, ownL, ha]
    rw [List.map_cons]
    show (bodyFor Φ W [4] _ _ _ >>= _) = _
    rw [turn]
    show forGo _ _ _ = _
    rw [ih, List.append_assoc]
    rfl
/-- the rows that begin with one of the first words -/
def rowsTo (ws : List Tx) (w : Tx) (s : Nat) : List (List Nat) := (List.range s).flatMap fun i => if w.take (wAt ws i).length = wAt ws i then (rows ws (w.drop (wAt ws i).length)).map (i :: ·) else []
theorem rowsTo_succ (ws : List Tx) (w : Tx) (s : Nat) : rowsTo ws w (s + 1) = rowsTo ws w s ++ if w.take (wAt ws s).length = wAt ws s then (rows ws (w.drop (wAt ws s).length)).map (s :: ·) else [] := by
  unfold rowsTo
  rw [List.range_succ, List.flatMap_append, List.flatMap_cons, List.flatMap_nil, List.append_nil]
theorem rowsTo_le {ws : List Tx} {w : Tx} : ∀ {s t : Nat}, s ≤ t → (rowsTo ws w s).length ≤ (rowsTo ws w t).length
  | s, 0, h => by
    have : s = 0 := by omega
    subst this
    exact Nat.le_refl _
  | s, t + 1, h => by
    by_cases e : s = t + 1
    · subst e
      exact Nat.le_refl _
    · have := rowsTo_le (ws := ws) (w := w) (s := s) (t := t) (by omega)
      rw [rowsTo_succ, List.length_append]
      omega
theorem rows_okN {i : Nat} (m : Nat) (ws : List Tx) (w : Tx) (hb : Bk ws) (hw : w.length ≤ 900) (hfew : (rows ws w).length ≤ 4096)
    (hR : ∀ v : Tx, v.length < w.length → Φ i [dBook m ws, .str v] = .ok (true, .lst ((rows ws v).map rowD))) : runBody Φ W (fnRows i) [dBook m ws, .str w] = .ok (true, .lst ((rows ws w).map rowD)) := by
  by_cases h0 : w = []
  · subst h0
    rw [rows_nil]
    simp [fnRows, rowD]
  · have hz : ws.length ≤ SZ := by have := hb.few; unfold SZ; omega
    have hr : rgOk (ws.length : Int) = true := rgOk_len hz
    have hw2 : w.length ≤ SZ := by unfold SZ; omega
    have i1 := b1_at m ws
    have hstep := rows_step hb.full h0
    have hall : rows ws w = rowsTo ws w ws.length := hstep
    obtain ⟨⟨acc, l3, l4⟩, h1, h2⟩ := forGo_nat (g := bodyFor Φ W [3] [.ife (.cmp .eq (.slc (.var 1) .no (.yes (.bi .len [.idx (.idx (.var 0) (.cst (.int 1))) (.var 3)]))) (.idx (.idx (.var 0) (.cst (.int 1))) (.var 3))) [.for_ [4] (.seq .list (.call i [.var 0, .slc (.var 1) (.yes (.bi .len [.idx (.idx (.var 0) (.cst (.int 1))) (.var 3)])) .no])) [.app 2 (.bin .add (.tup [.var 3]) (.var 4))]] []])
      (fun (a : List (List Nat) × Option Slot × Option Slot) => [some (false, dBook m ws), some (false, .str w), some (true, .lst (a.1.map rowD)), a.2.1, a.2.2])
      (fun s a => a.1 = rowsTo ws w s) 0 ws.length ([], none, none) rfl (by
        rintro s ⟨acc, l3, l4⟩ _ hs hacc
        simp only [Nat.zero_add] at hs hacc
        subst hacc
        have i2 := bw_at hs
        have hup := wAt_pos hb.full hs
        have h3 : (wAt ws s).length ≤ SZ := by have := hb.one _ (wAt_mem hs); unfold SZ; omega
        have s1 := slc_to hw2 (wAt ws s).length
        have s2 := slc_from hw2 (wAt ws s).length
        have hsucc := rowsTo_succ ws w s
        by_cases hc : w.take (wAt ws s).length = wAt ws s
        · rw [if_pos hc] at hsucc
          have hul := congrArg List.length hc
          rw [List.length_take] at hul
          have r1 := hR (w.drop (wAt ws s).length) (by rw [List.length_drop]; omega)
          have hle := rowsTo_le (ws := ws) (w := w) (s := s + 1) (t := ws.length) hs
          rw [← hall] at hle
          have hle2 := congrArg List.length hsucc
          rw [List.length_append, List.length_map] at hle2
          obtain ⟨l4', g1⟩ := rows_inner (Φ := Φ) (W := W) (dBook m ws) w s (rows ws (w.drop (wAt ws s).length)) (rowsTo ws w s) l4 (fun r hr => by
            obtain ⟨g1, g2⟩ := (in_rows hb.full).mp hr
            have := row_len hb.full g1
            rw [g2, List.length_drop] at this
            unfold SZ
            omega) (by unfold SZ; omega)
          refine ⟨(rowsTo ws w (s + 1), some (false, .int (s : Nat)), l4'), ?_, rfl⟩
          rw [← hsucc] at g1
          generalize (rowsTo ws w (s + 1)).map rowD = A' at *
          generalize (rowsTo ws w s).map rowD = A at *
          generalize (rows ws (w.drop (wAt ws s).length)).map rowD = C at *
          generalize wAt ws s = u at *
          generalize dBook m ws = B at *
          generalize D.tup (ws.map D.str) = T at *
          rw [hc] at s1
          simp [bodyFor, bindT, i1, i2, h3, s1, s2, r1, g1]
        · rw [if_neg hc, List.append_nil] at hsucc
          refine ⟨(rowsTo ws w (s + 1), some (false, .int (s : Nat)), l4), ?_, rfl⟩
          rw [hsucc]
          generalize (rowsTo ws w s).map rowD = A at *
          generalize wAt ws s = u at *
          generalize dBook m ws = B at *
          generalize D.tup (ws.map D.str) = T at *
          simp [bodyFor, bindT, i1, i2, h3, s1, hc])
    simp only [Nat.zero_add] at h2
    subst h2
    rw [← hall] at h1
    simp only [List.map_nil, Int.natCast_zero] at h1
    generalize (rows ws w).map rowD = A at *
    simp only [dBook] at i1 h1
    simp [fnRows, dBook, h0, i1, hr, h1]
theorem rows_ok {i : Nat} (m : Nat) (ws : List Tx) (w : Tx) (hb : Bk ws) (hw : w.length ≤ 12)
    (hR : ∀ v : Tx, v.length < w.length → Φ i [dBook m ws, .str v] = .ok (true, .lst ((rows ws v).map rowD))) : runBody Φ W (fnRows i) [dBook m ws, .str w] = .ok (true, .lst ((rows ws w).map rowD)) :=
  rows_okN m ws w hb (by omega) (Nat.le_trans (rows_few hb.full hb.nd w.length w (Nat.le_refl _)) (Nat.pow_le_pow_right (by decide) hw)) hR
/-! ### _law_text -/
def fnText : FnD := ⟨2, 3, [.ret (.mt .join (.cst (.str [])) [.lc [2] (.seq .list (.var 1)) .no (.idx (.idx (.var 0) (.cst (.int 1))) (.var 2))])]⟩
theorem text_ok (m : Nat) (ws : List Tx) (r : List Nat) (o : Bool) (hr : ∀ i ∈ r, i < ws.length) (hl : r.length ≤ 1000) (ht : (textR ws r).length ≤ 10000) : runBody Φ W fnText [dBook m ws, .lst (r.map fun i => .int (i : Nat))] = .ok (false, .str (textR ws r)) := by
  have i1 := b1_at m ws
  have hlc : lcGo (bodyLc Φ [2] .no (.idx (.idx (.var 0) (.cst (.int 1))) (.var 2)) [some (false, dBook m ws), some (false, .lst (r.map fun i => .int (i : Nat))), none]) (r.map fun i => .int (i : Nat)) = .ok ((r.map (wAt ws)).map .str) := by
    rw [lcGo_map (f := fun d => match d with | .int k => .str (wAt ws k.toNat) | _ => .non)]
    · rw [List.map_map, List.map_map]
      rfl
    · intro x hx
      obtain ⟨i, hi, rfl⟩ := List.mem_map.mp hx
      have i2 := bw_at (hr i hi)
      simp only [Int.toNat_natCast]
      generalize wAt ws i = u at *
      generalize dBook m ws = B at *
      generalize D.tup (ws.map D.str) = T at *
      simp [bodyLc, bindT, wipeE, i1, i2]
  have hj : method .join (.str []) [.lst ((r.map (wAt ws)).map .str)] = some (.pl, .str (textR ws r)) := by
    show (strsOf _).bind _ = _
    rw [strsOf_map]
    show (if _ then _ else _) = _
    rw [joinTx_nil, if_pos]
    · rfl
    · have : ((r.map (wAt ws)).map List.length).sum = (textR ws r).length := by unfold textR; rw [List.length_flatten]
      rw [this]
      simp
      unfold SZ
      omega
  have hsz : (r.map fun i => D.int (i : Nat)).length ≤ SZ := by rw [List.length_map]; unfold SZ; omega
  generalize (r.map (wAt ws)).map D.str = A at *
  generalize (r.map fun i => D.int (i : Nat)) = Q at *
  generalize dBook m ws = B at *
  simp [fnText, mtOn, hsz, hlc, hj]
end
end PF

/-! _law_words: all words in the short order. -/
namespace PF
def wlev (m : Nat) : Nat → List Tx
  | 0 => [[]]
  | n + 1 => (wlev m n).flatMap fun w => (List.range m).map fun c => w ++ [97 + c]
/-- all words of at most L signs -/
def wall (m : Nat) : Nat → List Tx
  | 0 => [[]]
  | n + 1 => wall m n ++ wlev m (n + 1)
theorem wlev_len {m : Nat} (hm : m ≤ 3) : ∀ k : Nat, (wlev m k).length ≤ 3 ^ k
  | 0 => Nat.le_refl _
  | k + 1 => by
    have ih := wlev_len hm k
    unfold wlev
    rw [List.length_flatMap]
    have : ∀ l : List Tx, (l.map fun w => ((List.range m).map fun c => w ++ [97 + c]).length).sum = l.length * m := by
      intro l
      induction l with
      | nil => simp
      | cons a t ih => rw [List.map_cons, List.sum_cons, ih, List.length_map, List.length_range, List.length_cons, Nat.add_mul]; omega
    rw [this, Nat.pow_succ]
    exact Nat.mul_le_mul ih hm
theorem wall_len {m : Nat} (hm : m ≤ 3) : ∀ k : Nat, (wall m k).length ≤ 3 ^ (k + 1)
  | 0 => by
    show 1 ≤ 3 ^ 1
    decide
  | k + 1 => by
    have ih := wall_len hm k
    have h2 := wlev_len hm (k + 1)
    unfold wall
    rw [List.length_append]
    rw [Nat.pow_succ]
    omega
theorem wlev_mem {m : Nat} : ∀ {k : Nat} {w : Tx}, w ∈ wlev m k ↔ w.length = k ∧ isWord m w = true
  | 0, w => by
    unfold wlev
    rw [List.mem_singleton]
    constructor
    · rintro rfl
      exact ⟨rfl, rfl⟩
    · rintro ⟨h, _⟩
      exact List.length_eq_zero_iff.mp h
  | k + 1, w => by
    unfold wlev
    rw [List.mem_flatMap]
    constructor
    · rintro ⟨v, hv, h⟩
      obtain ⟨h1, h2⟩ := wlev_mem.mp hv
      obtain ⟨c, hc, rfl⟩ := List.mem_map.mp h
      have := List.mem_range.mp hc
      refine ⟨by rw [List.length_append, List.length_singleton, h1], ?_⟩
      unfold isWord at h2 ⊢
      rw [List.all_append, h2]
      simp
      omega
    · rintro ⟨h1, h2⟩
      have hne : w ≠ [] := by intro z; rw [z] at h1; cases h1
      have e := List.dropLast_concat_getLast hne
      have hl : (w.dropLast).length = k := by rw [List.length_dropLast]; omega
      generalize w.getLast hne = c at e
      generalize w.dropLast = v at *
      subst e
      unfold isWord at h2
      rw [List.all_append, Bool.and_eq_true] at h2
      refine ⟨v, wlev_mem.mpr ⟨hl, h2.1⟩, List.mem_map.mpr ⟨c - 97, List.mem_range.mpr ?_, ?_⟩⟩
      · have := h2.2
        simp at this
        omega
      · have := h2.2
        simp at this
        rw [show 97 + (c - 97) = c by omega]
theorem wall_mem {m : Nat} : ∀ {k : Nat} {w : Tx}, w ∈ wall m k ↔ w.length ≤ k ∧ isWord m w = true
  | 0, w => by
    show w ∈ wlev m 0 ↔ _
    rw [wlev_mem]
    constructor
    · rintro ⟨h1, h2⟩; exact ⟨by omega, h2⟩
    · rintro ⟨h1, h2⟩; exact ⟨by omega, h2⟩
  | k + 1, w => by
    unfold wall
    rw [List.mem_append, wall_mem, wlev_mem]
    constructor
    · rintro (⟨h1, h2⟩ | ⟨h1, h2⟩)
      · exact ⟨by omega, h2⟩
      · exact ⟨by omega, h2⟩
    · rintro ⟨h1, h2⟩
      by_cases e : w.length = k + 1
      · exact .inr ⟨e, h2⟩
      · exact .inl ⟨by omega, h2⟩
theorem wall_mono {m : Nat} : ∀ {k L : Nat}, k ≤ L → (wall m k).length ≤ (wall m L).length
  | k, 0, h => by
    have : k = 0 := by omega
    subst this
    exact Nat.le_refl _
  | k, L + 1, h => by
    by_cases e : k = L + 1
    · subst e
      exact Nat.le_refl _
    · have := wall_mono (m := m) (k := k) (L := L) (by omega)
      rw [show wall m (L + 1) = wall m L ++ wlev m (L + 1) from rfl, List.length_append]
      omega
theorem wall_in {m : Nat} {k L : Nat} (h : k ≤ L) : (wlev m k).length ≤ (wall m L).length := by
  refine Nat.le_trans ?_ (wall_mono h)
  cases k with
  | zero => exact Nat.le_refl _
  | succ k =>
    rw [show wall m (k + 1) = wall m k ++ wlev m (k + 1) from rfl, List.length_append]
    omega
theorem wlev_one : ∀ k : Nat, (wlev 1 k).length = 1
  | 0 => rfl
  | k + 1 => by
    unfold wlev
    rw [List.length_flatMap]
    have := wlev_one k
    generalize wlev 1 k = l at this
    match l, this with
    | [w], _ => rfl
theorem wall_one : ∀ k : Nat, (wall 1 k).length = k + 1
  | 0 => rfl
  | k + 1 => by
    rw [show wall 1 (k + 1) = wall 1 k ++ wlev 1 (k + 1) from rfl, List.length_append, wlev_one, wall_one k]
section
variable {Φ : Nat → List D → R (Bool × D)} {W : Nat}
abbrev wdLetter : List CS := [.app 5 (.bin .add (.var 6) (.var 7))]
abbrev wdWord : List CS := [.for_ [7] (.seq .str (.slc (.cst (.str [97, 98, 99])) .no (.yes (.var 0)))) wdLetter]
def fnWords : FnD := ⟨2, 8, [.asg 2 (.lst [.cst (.str [])]),
  .asg 3 (.lst [.cst (.str [])]),
  .for_ [4] (.rg1 (.var 1)) [.asg 5 (.lst []),
    .fz [3] (.for_ [6] (.seq .list (.var 3)) [.for_ [7] (.seq .str (.slc (.cst (.str [97, 98, 99])) .no (.yes (.var 0)))) [.app 5 (.bin .add (.var 6) (.var 7))]]),
    .asg 2 (.bin .add (.var 2) (.var 5)),
    .fz [5] (.asg 3 (.var 5))],
  .retV 2]⟩
theorem abc_take {m : Nat} (h : m ≤ 3) : ([97, 98, 99] : Tx).take m = (List.range m).map (97 + ·) := by
  have : m = 0 ∨ m = 1 ∨ m = 2 ∨ m = 3 := by omega
  rcases this with rfl | rfl | rfl | rfl <;> rfl
theorem wd_letters (l0 l1 l2 l3 l4 : Option Slot) (w : Tx) (hw : w.length < SZ) : ∀ (cs : List Nat) (acc : List Tx) (l7 : Option Slot), acc.length + cs.length ≤ SZ → ∃ l7',
    forGo (bodyFor Φ W [7] wdLetter) (cs.map fun c => .str [c]) [l0, l1, l2, l3, l4, some (true, .lst (acc.map .str)), some (false, .str w), l7] = .ok (.nx [l0, l1, l2, l3, l4, some (true, .lst ((acc ++ cs.map fun c => w ++ [c]).map .str)), some (false, .str w), l7'])
  | [], acc, l7, _ => ⟨l7, by rw [List.map_nil, List.map_nil, List.append_nil]; rfl⟩
  | c :: cs, acc, l7, h => by
    rw [List.length_cons] at h
    obtain ⟨l7', ih⟩ := wd_letters l0 l1 l2 l3 l4 w hw cs (acc ++ [w ++ [c]]) (some (false, .str [c])) (by rw [List.length_append, List.length_singleton]; omega)
    refine ⟨l7', ?_⟩
    have ha : acc.length < SZ := by omega
    have hw' : w.length + 1 ≤ SZ := hw
    have turn : bodyFor Φ W [7] wdLetter (.str [c]) [l0, l1, l2, l3, l4, some (true, .lst (acc.map .str)), some (false, .str w), l7] = .ok (.nx [l0, l1, l2, l3, l4, some (true, .lst ((acc ++ [w ++ [c]]).map .str)), some (false, .str w), some (false, .str [c])]) := by
      simp [bodyFor, bindT, ownL, ha, hw']
    rw [List.map_cons]
    show (bodyFor Φ W [7] _ _ _ >>= _) = _
    rw [turn]
    show forGo _ _ _ = _
    rw [ih, List.append_assoc]
    rfl
theorem wd_words {m : Nat} (hm : m ≤ 3) (l1 l2 l4 : Option Slot) (l3 : Option Slot) : ∀ (vs acc : List Tx) (l6 l7 : Option Slot), (∀ v ∈ vs, v.length < SZ) → acc.length + 3 * vs.length ≤ SZ → ∃ l6' l7',
    forGo (bodyFor Φ W [6] wdWord) (vs.map .str) [some (false, .int m), l1, l2, l3, l4, some (true, .lst (acc.map .str)), l6, l7] = .ok (.nx [some (false, .int m), l1, l2, l3, l4, some (true, .lst ((acc ++ vs.flatMap fun w => (List.range m).map fun c => w ++ [97 + c]).map .str)), l6', l7'])
  | [], acc, l6, l7, _, _ => ⟨l6, l7, by rw [List.map_nil, List.flatMap_nil, List.append_nil]; rfl⟩
  | v :: vs, acc, l6, l7, h1, h2 => by
    rw [List.length_cons] at h2
    have hv := h1 v List.mem_cons_self
    obtain ⟨a7, g1⟩ := wd_letters (Φ := Φ) (W := W) (some (false, .int m)) l1 l2 l3 l4 v hv ((List.range m).map (97 + ·)) acc l7 (by rw [List.length_map, List.length_range]; omega)
    obtain ⟨l6', l7', ih⟩ := wd_words hm l1 l2 l4 l3 vs (acc ++ (List.range m).map fun c => v ++ [97 + c]) (some (false, .str v)) a7 (fun x hx => h1 x (List.mem_cons_of_mem _ hx)) (by rw [List.length_append, List.length_map, List.length_range]; omega)
    refine ⟨l6', l7', ?_⟩
    have e1 : ((List.range m).map (97 + ·)).map (fun c => v ++ [c]) = (List.range m).map fun c => v ++ [97 + c] := by rw [List.map_map]; rfl
    rw [e1] at g1
    have s1 := slc_to (s := [97, 98, 99]) (by decide) m
    rw [abc_take hm] at s1
    have turn : bodyFor Φ W [6] wdWord (.str v) [some (false, .int m), l1, l2, l3, l4, some (true, .lst (acc.map .str)), l6, l7] = .ok (.nx [some (false, .int m), l1, l2, l3, l4, some (true, .lst ((acc ++ (List.range m).map fun c => v ++ [97 + c]).map .str)), some (false, .str v), a7]) := by
      generalize (acc ++ (List.range m).map fun c => v ++ [97 + c]).map D.str = A' at *
      generalize acc.map D.str = A at *
      generalize (List.range m).map (97 + ·) = cs at *
      simp only [bodyFor, bindT]
      simp [s1, g1]
    rw [List.map_cons]
    show (bodyFor Φ W [6] _ _ _ >>= _) = _
    rw [turn]
    show forGo _ _ _ = _
    rw [ih, List.append_assoc]
    rfl
theorem words_ok' (m L : Nat) (hm : m ≤ 3) (hL : L ≤ 1000) (hz : 4 * (wall m L).length ≤ SZ) : runBody Φ W fnWords [.int m, .int L] = .ok (true, .lst ((wall m L).map .str)) := by
  obtain ⟨⟨o, l4, l5, l6, l7⟩, h1, h2⟩ := forGo_nat (g := bodyFor Φ W [4] [.asg 5 (.lst []),
    .fz [3] (.for_ [6] (.seq .list (.var 3)) wdWord),
    .asg 2 (.bin .add (.var 2) (.var 5)),
    .fz [5] (.asg 3 (.var 5))]) (fun (a : (Bool × Nat) × Option Slot × Option Slot × Option Slot × Option Slot) => [some (false, .int m), some (false, .int L), some (true, .lst ((wall m a.1.2).map .str)), some (a.1.1, .lst ((wlev m a.1.2).map .str)), a.2.1, a.2.2.1, a.2.2.2.1, a.2.2.2.2])
    (fun s a => a.1.2 = s) 0 L ((true, 0), none, none, none, none) rfl (by
      rintro s ⟨⟨o, t⟩, l4, l5, l6, l7⟩ _ hs h
      simp only at h
      subst h
      have hl1 := wall_in (m := m) (k := t) (L := L) (by omega)
      have hl2 := wall_mono (m := m) (k := t) (L := L) (by omega)
      have hl3 := wall_mono (m := m) (k := t + 1) (L := L) (by omega)
      have hl4 : (wall m (t + 1)).length = (wall m t).length + (wlev m (t + 1)).length := by rw [show wall m (t + 1) = wall m t ++ wlev m (t + 1) from rfl, List.length_append]
      obtain ⟨l6', l7', g1⟩ := wd_words (Φ := Φ) (W := W) hm (some (false, .int L)) (some (true, .lst ((wall m t).map .str))) (some (false, .int (t : Nat))) (some (false, .lst ((wlev m t).map .str))) (wlev m t) [] l6 l7 (fun v hv => by
        have := (wlev_mem.mp hv).1
        unfold SZ
        omega) (by rw [List.length_nil]; omega)
      rw [List.nil_append, show (wlev m t).flatMap (fun w => (List.range m).map fun c => w ++ [97 + c]) = wlev m (t + 1) from rfl] at g1
      have ad : binop .add (.lst ((wall m t).map .str)) (.lst ((wlev m (t + 1)).map .str)) = some (.fr, .lst ((wall m (t + 1)).map .str)) := by
        rw [show wall m (t + 1) = wall m t ++ wlev m (t + 1) from rfl, List.map_append]
        refine bi_addL ?_
        rw [List.length_map, List.length_map]
        omega
      refine ⟨((false, t + 1), some (false, .int (t : Nat)), some (false, .lst ((wlev m (t + 1)).map .str)), l6', l7'), ?_, rfl⟩
      simp only [List.map_nil] at g1
      generalize (wall m (t + 1)).map D.str = A' at *
      generalize (wall m t).map D.str = A at *
      generalize (wlev m (t + 1)).map D.str = V' at *
      generalize (wlev m t).map D.str = V at *
      cases o <;> simp [bodyFor, bindT, freeze, g1, ad])
  obtain ⟨o, t⟩ := o
  simp only [Nat.zero_add] at h2
  subst h2
  have hr : rgOk (t : Int) = true := rgOk_len (by unfold SZ; omega)
  have e1 : (wall m 0).map D.str = [.str []] := rfl
  have e2 : (wlev m 0).map D.str = [.str []] := rfl
  simp only [e1, e2, Int.natCast_zero] at h1
  generalize (wall m t).map D.str = A' at *
  generalize (wlev m t).map D.str = A at *
  simp only [fnWords, run_eq]
  simp [hr, h1]
theorem words_ok (m L : Nat) (hm : m ≤ 3) (hL : L ≤ 8) : runBody Φ W fnWords [.int m, .int L] = .ok (true, .lst ((wall m L).map .str)) := by
  refine words_ok' m L hm (by omega) ?_
  have := wall_len hm L
  have hp : 3 ^ (L + 1) ≤ 3 ^ 9 := Nat.pow_le_pow_right (by decide) (by omega)
  unfold SZ
  omega
end
end PF

/-! Messages of books; the short order; bases. -/
namespace PF
/-! ### the short order -/
theorem leK_iff {a b : Tx} : leK a b = true ↔ a.length < b.length ∨ (a.length = b.length ∧ a ≤ b) := by
  unfold leK
  rw [Bool.or_eq_true, Bool.and_eq_true, decide_eq_true_eq, decide_eq_true_eq, decide_eq_true_eq]
theorem leK_trans (a b c : Tx) (h1 : leK a b = true) (h2 : leK b c = true) : leK a c = true := by
  rw [leK_iff] at *
  rcases h1 with h1 | ⟨h1, h3⟩ <;> rcases h2 with h2 | ⟨h2, h4⟩
  · exact .inl (by omega)
  · exact .inl (by omega)
  · exact .inl (by omega)
  · exact .inr ⟨by omega, List.le_trans h3 h4⟩
theorem leK_total (a b : Tx) : (leK a b || leK b a) = true := by
  rw [Bool.or_eq_true, leK_iff, leK_iff]
  by_cases h1 : a.length < b.length
  · exact .inl (.inl h1)
  · by_cases h2 : b.length < a.length
    · exact .inr (.inl h2)
    · rcases List.le_total a b with h | h
      · exact .inl (.inr ⟨by omega, h⟩)
      · exact .inr (.inr ⟨by omega, h⟩)
theorem leK_anti {a b : Tx} (h1 : leK a b = true) (h2 : leK b a = true) : a = b := by
  rw [leK_iff] at *
  rcases h1 with h1 | ⟨h1, h3⟩ <;> rcases h2 with h2 | ⟨h2, h4⟩
  · omega
  · omega
  · omega
  · exact List.le_antisymm h3 h4
/-- ascending in the short order -/
abbrev Asc (ws : List Tx) : Prop := ws.Pairwise fun a b => leK a b = true
theorem shortW_asc (ws : List Tx) : Asc (shortW ws) := List.pairwise_mergeSort (fun a b c => leK_trans a b c) (fun a b => leK_total a b) _
theorem asc_ext : ∀ {xs ys : List Tx}, Asc xs → Asc ys → xs.Nodup → ys.Nodup → (∀ w, w ∈ xs ↔ w ∈ ys) → xs = ys
  | [], [], _, _, _, _, _ => rfl
  | [], y :: ys, _, _, _, _, h => by
    have := (h y).mpr List.mem_cons_self
    cases this
  | x :: xs, [], _, _, _, _, h => by
    have := (h x).mp List.mem_cons_self
    cases this
  | x :: xs, y :: ys, a1, a2, n1, n2, h => by
    have a1 := List.pairwise_cons.mp a1
    have a2 := List.pairwise_cons.mp a2
    rw [List.nodup_cons] at n1 n2
    have e : x = y := by
      rcases List.mem_cons.mp ((h x).mp List.mem_cons_self) with e | hx
      · exact e
      · rcases List.mem_cons.mp ((h y).mpr List.mem_cons_self) with e | hy
        · exact e.symm
        · exact leK_anti (a1.1 y hy) (a2.1 x hx)
    subst e
    have : xs = ys := asc_ext a1.2 a2.2 n1.2 n2.2 fun w => by
      constructor
      · intro hw
        rcases List.mem_cons.mp ((h w).mp (List.mem_cons_of_mem _ hw)) with e | h'
        · subst e
          exact absurd hw n1.1
        · exact h'
      · intro hw
        rcases List.mem_cons.mp ((h w).mpr (List.mem_cons_of_mem _ hw)) with e | h'
        · subst e
          exact absurd hw n2.1
        · exact h'
    rw [this]
/-! ### messages -/
theorem msg_word {ws : List Tx} {w : Tx} (h : w ∈ ws) : Msg ws w := ⟨[w], by simpa using h, by simp⟩
theorem msg_sub {ws vs : List Tx} {w : Tx} (h : ∀ u ∈ ws, u ∈ vs) (m : Msg ws w) : Msg vs w := by
  obtain ⟨us, h1, h2⟩ := m
  exact ⟨us, fun u hu => h u (h1 u hu), h2⟩
theorem msg_flat {vs : List Tx} : ∀ {us : List Tx}, (∀ u ∈ us, Msg vs u) → Msg vs us.flatten
  | [], _ => ⟨[], by simp, rfl⟩
  | u :: us, h => by
    obtain ⟨a, h1, h2⟩ := h u List.mem_cons_self
    obtain ⟨b, h3, h4⟩ := msg_flat fun v hv => h v (List.mem_cons_of_mem _ hv)
    refine ⟨a ++ b, fun v hv => ?_, ?_⟩
    · rcases List.mem_append.mp hv with h' | h'
      · exact h1 v h'
      · exact h3 v h'
    · rw [List.flatten_append, h2, h4, List.flatten_cons]
theorem msg_trans {ws vs : List Tx} {w : Tx} (h : ∀ u ∈ ws, Msg vs u) (m : Msg ws w) : Msg vs w := by
  obtain ⟨us, h1, h2⟩ := m
  rw [← h2]
  exact msg_flat fun u hu => h u (h1 u hu)
theorem msg_app {ws : List Tx} {u v : Tx} (h1 : Msg ws u) (h2 : Msg ws v) : Msg ws (u ++ v) := by
  have := msg_flat (vs := ws) (us := [u, v]) fun x hx => by
    rcases List.mem_cons.mp hx with rfl | hx
    · exact h1
    · rw [List.mem_singleton] at hx
      exact hx ▸ h2
  simpa using this
theorem flat_ge {ws : List Tx} (hf : Full ws) : ∀ {us : List Tx}, (∀ u ∈ us, u ∈ ws) → us.length ≤ us.flatten.length
  | [], _ => Nat.le_refl _
  | u :: us, h => by
    have ih := flat_ge hf fun v hv => h v (List.mem_cons_of_mem _ hv)
    have := List.length_pos_iff.mpr (hf u (h u List.mem_cons_self))
    rw [List.flatten_cons, List.length_append, List.length_cons]
    omega
theorem flat_lt {ws : List Tx} (hf : Full ws) {us : List Tx} (h : ∀ u ∈ us, u ∈ ws) (h2 : 2 ≤ us.length) {u : Tx} (hu : u ∈ us) : u.length < us.flatten.length := by
  obtain ⟨a, b, rfl⟩ := List.append_of_mem hu
  have g1 := flat_ge hf (us := a) fun v hv => h v (List.mem_append_left _ hv)
  have g2 := flat_ge hf (us := b) fun v hv => h v (List.mem_append_right _ (List.mem_cons_of_mem _ hv))
  rw [List.flatten_append, List.flatten_cons, List.length_append, List.length_append]
  rw [List.length_append, List.length_cons] at h2
  omega
/-! ### bases -/
def madeB (ws : List Tx) (w : Tx) : Bool := msgB (ws.filter fun v => decide (v ≠ w)) w
def baseW (ws : List Tx) : List Tx := ws.filter fun w => !madeB ws w
/-- made of two words or more -/
def Two (ws : List Tx) (w : Tx) : Prop := ∃ us : List Tx, (∀ u ∈ us, u ∈ ws) ∧ us.flatten = w ∧ 2 ≤ us.length
theorem full_filter {ws : List Tx} {p : Tx → Bool} (hf : Full ws) : Full (ws.filter p) := fun u hu => hf u (List.mem_filter.mp hu).1
theorem made_iff {ws : List Tx} (hf : Full ws) {w : Tx} (hw : w ∈ ws) : madeB ws w = true ↔ Two ws w := by
  unfold madeB
  rw [msgB_iff (full_filter hf)]
  constructor
  · rintro ⟨us, h1, h2⟩
    refine ⟨us, fun u hu => (List.mem_filter.mp (h1 u hu)).1, h2, ?_⟩
    match us, h1, h2 with
    | [], _, h2 => exact absurd h2.symm (hf w hw)
    | [u], h1, h2 =>
      exfalso
      have := of_decide_eq_true (List.mem_filter.mp (h1 u List.mem_cons_self)).2
      exact this (by simpa using h2)
    | _ :: _ :: _, _, _ => simp
  · rintro ⟨us, h1, h2, h3⟩
    refine ⟨us, fun u hu => List.mem_filter.mpr ⟨h1 u hu, decide_eq_true fun e => ?_⟩, h2⟩
    have := flat_lt hf h1 h3 hu
    rw [h2, e] at this
    omega
theorem two_iff {ws : List Tx} (hf : Full ws) {w : Tx} : Two ws w ↔ ∃ r ∈ rows ws w, 1 < r.length := by
  constructor
  · rintro ⟨us, h1, h2, h3⟩
    obtain ⟨r, g1, g2⟩ := row_of h1
    refine ⟨r, (in_rows hf).mpr ⟨g1, by unfold textR; rw [g2, h2]⟩, ?_⟩
    have := congrArg List.length g2
    rw [List.length_map] at this
    omega
  · rintro ⟨r, h1, h2⟩
    obtain ⟨g1, g2⟩ := (in_rows hf).mp h1
    refine ⟨r.map (wAt ws), fun u hu => ?_, g2, by rw [List.length_map]; omega⟩
    obtain ⟨i, hi, rfl⟩ := List.mem_map.mp hu
    exact wAt_mem (g1 i hi)
theorem mem_base {ws : List Tx} (hf : Full ws) {w : Tx} : w ∈ baseW ws ↔ w ∈ ws ∧ ¬ Two ws w := by
  unfold baseW
  rw [List.mem_filter]
  constructor
  · rintro ⟨h1, h2⟩
    refine ⟨h1, fun z => ?_⟩
    rw [(made_iff hf h1).mpr z] at h2
    cases h2
  · rintro ⟨h1, h2⟩
    refine ⟨h1, ?_⟩
    cases h : madeB ws w with
    | false => rfl
    | true => exact absurd ((made_iff hf h1).mp h) h2
theorem base_word {ws : List Tx} (hf : Full ws) : ∀ (n : Nat) (w : Tx), w.length ≤ n → w ∈ ws → Msg (baseW ws) w
  | 0, w, h, hw => absurd (List.length_eq_zero_iff.mp (by omega)) (hf w hw)
  | n + 1, w, h, hw => by
    by_cases ht : Two ws w
    · obtain ⟨us, h1, h2, h3⟩ := ht
      rw [← h2]
      refine msg_flat fun u hu => base_word hf n u ?_ (h1 u hu)
      have := flat_lt hf h1 h3 hu
      rw [h2] at this
      omega
    · exact msg_word ((mem_base hf).mpr ⟨hw, ht⟩)
theorem base_msg {ws : List Tx} (hf : Full ws) {w : Tx} : Msg (baseW ws) w ↔ Msg ws w :=
  ⟨msg_sub fun _ hu => (List.mem_filter.mp hu).1, msg_trans fun u hu => base_word hf u.length u (Nat.le_refl _) hu⟩
/-- a message that is not made of two messages -/
def Irr (P : Tx → Prop) (w : Tx) : Prop := w ≠ [] ∧ P w ∧ ¬ ∃ u v, u ≠ [] ∧ v ≠ [] ∧ P u ∧ P v ∧ u ++ v = w
theorem base_irr {ws : List Tx} (hf : Full ws) {w : Tx} : w ∈ baseW ws ↔ Irr (Msg ws) w := by
  rw [mem_base hf]
  constructor
  · rintro ⟨h1, h2⟩
    refine ⟨hf w h1, msg_word h1, ?_⟩
    rintro ⟨u, v, hu, hv, ⟨a, a1, a2⟩, ⟨b, b1, b2⟩, e⟩
    refine h2 ⟨a ++ b, fun x hx => ?_, by rw [List.flatten_append, a2, b2, e], ?_⟩
    · rcases List.mem_append.mp hx with h | h
      · exact a1 x h
      · exact b1 x h
    · have ha : a ≠ [] := fun z => hu (by rw [← a2, z]; rfl)
      have hb : b ≠ [] := fun z => hv (by rw [← b2, z]; rfl)
      have := List.length_pos_iff.mpr ha
      have := List.length_pos_iff.mpr hb
      rw [List.length_append]
      omega
  · rintro ⟨h1, ⟨us, u1, u2⟩, h3⟩
    have hno : ¬ Two ws w := by
      rintro ⟨vs, v1, v2, v3⟩
      match vs, v1, v2, v3 with
      | x :: y :: t, v1, v2, _ =>
        refine h3 ⟨x, (y :: t).flatten, hf x (v1 x List.mem_cons_self), fun z => ?_, msg_word (v1 x List.mem_cons_self), ⟨y :: t, fun q hq => v1 q (List.mem_cons_of_mem _ hq), rfl⟩, v2⟩
        have := flat_ge hf (us := y :: t) fun q hq => v1 q (List.mem_cons_of_mem _ hq)
        rw [z] at this
        simp at this
    refine ⟨?_, hno⟩
    match us, u1, u2 with
    | [], _, u2 => exact absurd u2.symm h1
    | [x], u1, u2 =>
      have : x = w := by simpa using u2
      exact this ▸ u1 x List.mem_cons_self
    | x :: y :: t, u1, u2 => exact absurd ⟨x :: y :: t, u1, u2, by simp⟩ hno
theorem base_asc {ws : List Tx} (h : Asc ws) : Asc (baseW ws) := h.filter _
theorem base_nd {ws : List Tx} (h : ws.Nodup) : (baseW ws).Nodup := h.filter _
theorem base_eq {ws vs : List Tx} (f1 : Full ws) (f2 : Full vs) (a1 : Asc ws) (a2 : Asc vs) (n1 : ws.Nodup) (n2 : vs.Nodup) (h : ∀ w, Msg ws w ↔ Msg vs w) : baseW ws = baseW vs := by
  refine asc_ext (base_asc a1) (base_asc a2) (base_nd n1) (base_nd n2) fun w => ?_
  rw [base_irr f1, base_irr f2]
  have : Msg ws = Msg vs := funext fun w => propext (h w)
  rw [this]
theorem base_iff {ws vs : List Tx} (f1 : Full ws) (f2 : Full vs) (a1 : Asc ws) (a2 : Asc vs) (n1 : ws.Nodup) (n2 : vs.Nodup) : baseW ws = baseW vs ↔ (∀ w ∈ ws, Msg vs w) ∧ (∀ w ∈ vs, Msg ws w) := by
  constructor
  · intro e
    have q : ∀ w, Msg ws w ↔ Msg vs w := fun w => by rw [← base_msg f1, ← base_msg f2, e]
    exact ⟨fun w hw => (q w).mp (msg_word hw), fun w hw => (q w).mpr (msg_word hw)⟩
  · rintro ⟨h1, h2⟩
    exact base_eq f1 f2 a1 a2 n1 n2 fun w => ⟨msg_trans h1, msg_trans h2⟩
/-- the first word that is no message of another book -/
def strangerW (ws vs : List Tx) : Option Tx := ws.find? fun w => !msgB vs w
theorem stranger_none {ws vs : List Tx} (hf : Full vs) : strangerW ws vs = none ↔ ∀ w ∈ ws, Msg vs w := by
  unfold strangerW
  rw [List.find?_eq_none]
  constructor
  · intro h w hw
    have := h w hw
    rw [← msgB_iff hf]
    cases q : msgB vs w with
    | true => rfl
    | false => rw [q] at this; exact absurd rfl this
  · intro h w hw
    rw [(msgB_iff hf).mpr (h w hw)]
    exact Bool.false_ne_true
end PF

/-! Rows of words: what the calls give, by levels. -/
namespace PF
section
variable {prog : List FnD} {W iN iC iK iM iR iT iW : Nat}
theorem g_next (hN : prog[iN]? = some fnNext) (k m : Nat) {ws : List Tx} (w : Tx) (p : Nat) (hb : Bk ws) (hw : w.length ≤ 900) (hp : p ≤ w.length) :
    den prog W (k + 1) iN [dBook m ws, .str w, .int (p : Nat)] = .ok (true, .lst ((nextW ws (w.drop p)).map fun i => .int (i : Nat))) := by
  rw [den_at hN]
  exact next_ok m ws w p hb (by omega) hp
theorem g_counts (hN : prog[iN]? = some fnNext) (hC : prog[iC]? = some (fnCounts iN)) (k m : Nat) {ws : List Tx} (w : Tx) (hb : Bk ws) (hw : w.length ≤ 900) :
    ∃ cs : List Nat, cs.length = w.length + 1 ∧ (∀ p, p ≤ w.length → cs[p]? = some (cntR ws (w.drop p))) ∧ den prog W (k + 2) iC [dBook m ws, .str w] = .ok (true, .lst (cs.map fun n => .int (n : Nat))) := by
  rw [den_at hC]
  exact counts_ok m ws w hb hw fun p hp => g_next hN k m w p hb hw hp
theorem g_count (hN : prog[iN]? = some fnNext) (hC : prog[iC]? = some (fnCounts iN)) (hK : prog[iK]? = some (fnCount iC)) (k m : Nat) {ws : List Tx} (w : Tx) (hb : Bk ws) (hw : w.length ≤ 900) :
    den prog W (k + 3) iK [dBook m ws, .str w] = .ok (false, .int (cntR ws w : Nat)) := by
  rw [den_at hK]
  exact count_ok m ws w (g_counts hN hC k m w hb hw)
theorem g_msg (hN : prog[iN]? = some fnNext) (hC : prog[iC]? = some (fnCounts iN)) (hK : prog[iK]? = some (fnCount iC)) (hM : prog[iM]? = some (fnMsg iK)) (k m : Nat) {ws : List Tx} (w : Tx) (hb : Bk ws) (hw : w.length ≤ 900) :
    den prog W (k + 4) iM [dBook m ws, .str w] = .ok (false, .bl (msgB ws w)) := by
  rw [den_at hM]
  exact msg_ok m ws w (g_count hN hC hK k m w hb hw)
theorem g_rows (hR : prog[iR]? = some (fnRows iR)) (m : Nat) {ws : List Tx} (hb : Bk ws) : ∀ (n k : Nat) (w : Tx), n ≤ k → w.length ≤ n → n ≤ 12 → den prog W (k + 1) iR [dBook m ws, .str w] = .ok (true, .lst ((rows ws w).map rowD)) := by
  intro n
  induction n with
  | zero =>
    intro k w hk hw hn
    rw [den_at hR]
    exact rows_ok m ws w hb (by omega) fun v hv => by omega
  | succ n ih =>
    intro k w hk hw hn
    obtain ⟨k, rfl⟩ : ∃ j, k = j + 1 := ⟨k - 1, by omega⟩
    rw [den_at hR]
    exact rows_ok m ws w hb (by omega) fun v hv => ih k v (by omega) (by omega) (by omega)
theorem g_rowsN (hR : prog[iR]? = some (fnRows iR)) (m : Nat) {ws : List Tx} (hb : Bk ws) : ∀ (n k : Nat) (w : Tx), n ≤ k → w.length ≤ n → n ≤ 900 → (∀ v : Tx, v.length ≤ n → (rows ws v).length ≤ 4096) → den prog W (k + 1) iR [dBook m ws, .str w] = .ok (true, .lst ((rows ws w).map rowD)) := by
  intro n
  induction n with
  | zero =>
    intro k w hk hw hn hf
    rw [den_at hR]
    exact rows_okN m ws w hb (by omega) (hf w hw) fun v hv => by omega
  | succ n ih =>
    intro k w hk hw hn hf
    obtain ⟨k, rfl⟩ : ∃ j, k = j + 1 := ⟨k - 1, by omega⟩
    rw [den_at hR]
    exact rows_okN m ws w hb (by omega) (hf w hw) fun v hv => ih k v (by omega) (by omega) (by omega) fun u hu => hf u (by omega)
theorem g_text (hT : prog[iT]? = some fnText) (k m : Nat) {ws : List Tx} (r : List Nat) (hr : ∀ i ∈ r, i < ws.length) (hl : r.length ≤ 1000) (ht : (textR ws r).length ≤ 10000) :
    den prog W (k + 1) iT [dBook m ws, .lst (r.map fun i => .int (i : Nat))] = .ok (false, .str (textR ws r)) := by
  rw [den_at hT]
  exact text_ok m ws r false hr hl ht
theorem g_words (hW : prog[iW]? = some fnWords) (k m L : Nat) (hm : m ≤ 3) (hL : L ≤ 8) : den prog W (k + 1) iW [.int m, .int L] = .ok (true, .lst ((wall m L).map .str)) := by
  rw [den_at hW]
  exact words_ok m L hm hL
end
theorem small_strs (n : Nat) : ∀ ws : List Tx, D.smalls n (ws.map .str) = true
  | [] => by simp [D.smalls]
  | w :: ws => by
    simp only [List.map_cons, D.smalls, D.small, Bool.true_and]
    exact small_strs n ws
theorem small_book (m : Nat) {ws : List Tx} (h : ws.length ≤ SZ) : D.small 2 (dBook m ws) = true := by
  simp only [dBook, D.small, D.smalls, small_strs, List.length_cons, List.length_nil, List.length_map, Bool.and_true, Bool.true_and, Bool.and_eq_true, decide_eq_true_eq]
  exact ⟨by decide, h⟩
theorem text_len {ws : List Tx} {L : Nat} (h : ∀ u ∈ ws, u.length ≤ L) : ∀ {r : List Nat}, (∀ i ∈ r, i < ws.length) → (textR ws r).length ≤ r.length * L
  | [], _ => by simp [textR]
  | i :: r, hr => by
    have ih := text_len h fun j hj => hr j (List.mem_cons_of_mem _ hj)
    have := h _ (wAt_mem (hr i List.mem_cons_self))
    show (wAt ws i ++ textR ws r).length ≤ _
    rw [List.length_append, List.length_cons, Nat.add_mul]
    omega
theorem text_msg {ws : List Tx} {r : List Nat} (hr : ∀ i ∈ r, i < ws.length) : Msg ws (textR ws r) := ⟨r.map (wAt ws), fun u hu => by
  obtain ⟨i, hi, rfl⟩ := List.mem_map.mp hu
  exact wAt_mem (hr i hi), rfl⟩
theorem isWord_app {m : Nat} {u v : Tx} : isWord m (u ++ v) = (isWord m u && isWord m v) := by
  unfold isWord
  rw [List.all_append]
theorem isWord_flat {m : Nat} : ∀ {us : List Tx}, (∀ u ∈ us, isWord m u = true) → isWord m us.flatten = true
  | [], _ => rfl
  | u :: us, h => by
    rw [List.flatten_cons, isWord_app, h u List.mem_cons_self, isWord_flat fun v hv => h v (List.mem_cons_of_mem _ hv)]
    rfl
theorem isWord_msg {m : Nat} {ws : List Tx} (h : ∀ u ∈ ws, isWord m u = true) {w : Tx} (hw : Msg ws w) : isWord m w = true := by
  obtain ⟨us, h1, h2⟩ := hw
  rw [← h2]
  exact isWord_flat fun u hu => h u (h1 u hu)
theorem isWord_ok {m : Nat} (hm : m ≤ 3) {w : Tx} (h : isWord m w = true) : txOk w = true := by
  unfold isWord at h
  unfold txOk
  rw [List.all_eq_true] at *
  intro c hc
  have := h c hc
  simp at this ⊢
  omega
theorem eqOks_strs (n : Nat) : ∀ {ws : List Tx}, (∀ w ∈ ws, txOk w = true) → D.eqOks n (ws.map .str) = true
  | [], _ => by simp [D.eqOks]
  | w :: ws, h => by
    simp only [List.map_cons, D.eqOks, D.eqOk, Bool.and_eq_true]
    exact ⟨h w List.mem_cons_self, eqOks_strs n fun v hv => h v (List.mem_cons_of_mem _ hv)⟩
theorem eqvs_strs : ∀ (ws vs : List Tx), D.eqvs (ws.map .str) (vs.map .str) = decide (ws = vs)
  | [], [] => by simp [D.eqvs]
  | [], v :: vs => by simp [D.eqvs]
  | w :: ws, [] => by simp [D.eqvs]
  | w :: ws, v :: vs => by
    simp only [List.map_cons, D.eqvs, D.eqv, eqvs_strs ws vs]
    rw [Bool.eq_iff_iff, Bool.and_eq_true, beq_iff_eq, decide_eq_true_eq, decide_eq_true_eq, List.cons.injEq]
theorem cmp_books (m : Nat) {ws vs : List Tx} (h1 : ∀ w ∈ ws, txOk w = true) (h2 : ∀ w ∈ vs, txOk w = true) : cmpD .eq (dBook m ws) (dBook m vs) = some (decide (ws = vs)) := by
  show eqD (dBook m ws) (dBook m vs) = _
  unfold eqD
  rw [if_pos]
  · simp only [dBook, D.eqv, D.eqvs, eqvs_strs]
    simp
  · have e : ∀ us : List Tx, (∀ w ∈ us, txOk w = true) → D.eqOk 60 (dBook m us) = true := fun us hu => by
      simp only [dBook, D.eqOk, D.eqOks, eqOks_strs 58 hu, Bool.true_and]
    rw [e ws h1, e vs h2]
    simp
end PF

/-! Lists and rows of numbers in order. -/
namespace PF
theorem eqv_nat (i j : Nat) : D.eqv (.int (i : Nat)) (.int (j : Nat)) = decide (i = j) := by
  simp only [D.eqv]
  rw [Bool.eq_iff_iff, beq_iff_eq, decide_eq_true_eq]
  omega
theorem eqvs_nats : ∀ r s : List Nat, D.eqvs (r.map fun i => D.int (i : Nat)) (s.map fun i => D.int (i : Nat)) = decide (r = s)
  | [], [] => by simp [D.eqvs]
  | [], j :: s => by simp [D.eqvs]
  | i :: r, [] => by simp [D.eqvs]
  | i :: r, j :: s => by
    simp only [List.map_cons, D.eqvs, eqv_nat, eqvs_nats r s]
    rw [Bool.eq_iff_iff, Bool.and_eq_true, decide_eq_true_eq, decide_eq_true_eq, decide_eq_true_eq, List.cons.injEq]
theorem lts_yes {x y : D} {xs ys : List D} (h : D.eqv x y = true) : D.lts (x :: xs) (y :: ys) = D.lts xs ys := by
  simp only [D.lts]
  rw [if_pos h]
theorem lts_no {x y : D} {xs ys : List D} (h : D.eqv x y = false) : D.lts (x :: xs) (y :: ys) = D.lt x y := by
  simp only [D.lts]
  rw [if_neg (by rw [h]; exact Bool.false_ne_true)]
theorem lts_nats : ∀ r s : List Nat, D.lts (r.map fun i => D.int (i : Nat)) (s.map fun i => D.int (i : Nat)) = decide (r < s)
  | [], [] => by simp [D.lts]
  | [], j :: s => by simp [D.lts]
  | i :: r, [] => by simp [D.lts]
  | i :: r, j :: s => by
    rw [List.map_cons, List.map_cons]
    by_cases h : i = j
    · subst h
      rw [lts_yes (by rw [eqv_nat]; simp), lts_nats r s, Bool.eq_iff_iff, decide_eq_true_eq, decide_eq_true_eq, List.cons_lt_cons_iff]
      simp
    · rw [lts_no (by rw [eqv_nat]; simpa using h), Bool.eq_iff_iff, decide_eq_true_eq, List.cons_lt_cons_iff]
      simp [D.lt, h]
theorem alikes_nats : ∀ r s : List Nat, D.alikes (r.map fun i => D.int (i : Nat)) (s.map fun i => D.int (i : Nat)) = true
  | [], [] => by simp [D.alikes]
  | [], j :: s => by simp [D.alikes]
  | i :: r, [] => by simp [D.alikes]
  | i :: r, j :: s => by
    simp only [List.map_cons, D.alikes, D.alike, Bool.true_and]
    exact alikes_nats r s
theorem eqOks_nats (n : Nat) : ∀ r : List Nat, D.eqOks n (r.map fun i => D.int (i : Nat)) = true
  | [] => by simp [D.eqOks]
  | i :: r => by
    simp only [List.map_cons, D.eqOks, D.eqOk, Bool.true_and]
    exact eqOks_nats n r
/-- a list of numbers -/
def lD (r : List Nat) : D := .lst (r.map fun i => .int (i : Nat))
def leR (a b : List Nat) : Bool := !decide (b < a)
theorem leR_iff {a b : List Nat} : leR a b = true ↔ a ≤ b := by
  unfold leR
  rw [Bool.not_eq_true', decide_eq_false_iff_not]
  exact List.not_lt
theorem leR_trans (a b c : List Nat) (h1 : leR a b = true) (h2 : leR b c = true) : leR a c = true := leR_iff.mpr (List.le_trans (leR_iff.mp h1) (leR_iff.mp h2))
theorem leR_total (a b : List Nat) : (leR a b || leR b a) = true := by
  rw [Bool.or_eq_true]
  rcases List.le_total a b with h | h
  · exact .inl (leR_iff.mpr h)
  · exact .inr (leR_iff.mpr h)
theorem leR_anti {a b : List Nat} (h1 : leR a b = true) (h2 : leR b a = true) : a = b := List.le_antisymm (leR_iff.mp h1) (leR_iff.mp h2)
theorem le_lD (a b : List Nat) : D.le (lD a) (lD b) = leR a b := by
  unfold D.le lD leR
  simp only [D.lt, lts_nats]
theorem le_rowD (a b : List Nat) : D.le (rowD a) (rowD b) = leR a b := by
  unfold D.le rowD leR
  simp only [D.lt, lts_nats]
theorem sortD_map {f : List Nat → D} (h1 : ∀ a b, D.le (f a) (f b) = leR a b) (h2 : ∀ a b, D.alike (f a) (f b) = true) (h3 : ∀ a, D.eqOk 59 (f a) = true) (rs : List (List Nat)) (h4 : (rs.map f).all D.isRow = true ∨ (rs.map f).all D.isLst = true ∨ rs.length ≤ 1) :
    sortD (rs.map f) = some ((rs.mergeSort leR).map f) := by
  have em : (rs.map f).mergeSort D.le = (rs.mergeSort leR).map f := (List.map_mergeSort (r := leR) (s := D.le) (f := f) (l := rs) fun a _ b _ => (h1 a b).symm).symm
  unfold sortD
  split
  · rename_i hl
    rw [List.length_map] at hl
    match rs, hl with
    | [], _ => simp
    | [r], _ => simp
    | _ :: _ :: _, hl => simp at hl
  · rename_i hl
    rw [List.length_map] at hl
    rw [if_pos, em]
    rw [Bool.and_eq_true, Bool.and_eq_true, Bool.or_eq_true]
    refine ⟨⟨?_, ?_⟩, ?_⟩
    · rcases h4 with h | h | h
      · exact .inl h
      · exact .inr h
      · exact absurd h hl
    · rw [List.all_eq_true]
      intro d hd
      obtain ⟨k, _, rfl⟩ := List.mem_map.mp hd
      exact h3 k
    · rw [List.all_eq_true]
      intro d hd
      rw [List.all_eq_true]
      intro d' hd'
      obtain ⟨k, _, rfl⟩ := List.mem_map.mp hd
      obtain ⟨k', _, rfl⟩ := List.mem_map.mp hd'
      exact h2 k k'
theorem alike_lD (a b : List Nat) : D.alike (lD a) (lD b) = true := by
  unfold lD
  simp only [D.alike, alikes_nats]
theorem alike_rowD (a b : List Nat) : D.alike (rowD a) (rowD b) = true := by
  unfold rowD
  simp only [D.alike, alikes_nats]
theorem eqOk_lD (a : List Nat) : D.eqOk 59 (lD a) = true := by
  unfold lD
  show D.eqOks 58 _ = true
  exact eqOks_nats _ a
theorem eqOk_rowD (a : List Nat) : D.eqOk 59 (rowD a) = true := by
  unfold rowD
  show D.eqOks 58 _ = true
  exact eqOks_nats _ a
theorem sorted_lists (rs : List (List Nat)) : builtin .sorted [.lst (rs.map lD)] = some (.fr, .lst ((rs.mergeSort leR).map lD)) := by
  cases rs with
  | nil => simp [builtin, intsOf]
  | cons r rs =>
    have e1 : intsOf ((r :: rs).map lD) = none := rfl
    have e2 : strsOf ((r :: rs).map lD) = none := rfl
    simp only [builtin, e1, e2]
    rw [sortD_map le_lD alike_lD eqOk_lD _ (.inr (.inl (by rw [List.all_eq_true]; intro d hd; obtain ⟨k, _, rfl⟩ := List.mem_map.mp hd; rfl)))]
    rfl
theorem sorted_rows (rs : List (List Nat)) (h : (∀ r ∈ rs, r ≠ []) ∨ rs.length ≤ 1) : builtin .sorted [.lst (rs.map rowD)] = some (.fr, .lst ((rs.mergeSort leR).map rowD)) := by
  cases rs with
  | nil => simp [builtin, intsOf]
  | cons r rs =>
    have e1 : intsOf ((r :: rs).map rowD) = none := rfl
    have e2 : strsOf ((r :: rs).map rowD) = none := rfl
    simp only [builtin, e1, e2]
    rw [sortD_map le_rowD alike_rowD eqOk_rowD _ (h.elim (fun h => .inl (by
      rw [List.all_eq_true]; intro d hd; obtain ⟨k, hk, rfl⟩ := List.mem_map.mp hd
      have := h k hk
      match k, this with
      | i :: k, _ => rfl)) fun h => .inr (.inr h))]
    rfl
/-! ### keys: a number and a list of numbers -/
abbrev Ky := Int × List Nat
def kyLt (a b : Ky) : Bool := decide (a.1 < b.1) || (decide (a.1 = b.1) && decide (a.2 < b.2))
def kyD (a : Ky) : D := .tup [.int a.1, rowD a.2]
theorem lt_ky (a b : Ky) : D.lt (kyD a) (kyD b) = kyLt a b := by
  obtain ⟨c, r⟩ := a
  obtain ⟨c', r'⟩ := b
  unfold kyD kyLt rowD
  show D.lts [.int c, .tup (r.map fun i => .int (i : Nat))] [.int c', .tup (r'.map fun i => .int (i : Nat))] = _
  by_cases h : c = c'
  · subst h
    rw [lts_yes (by simp [D.eqv])]
    by_cases h2 : r = r'
    · subst h2
      rw [lts_yes (by simp only [D.eqv, eqvs_nats]; simp)]
      simp [D.lts]
    · rw [lts_no (by simp only [D.eqv, eqvs_nats]; simpa using h2)]
      simp only [D.lt, lts_nats]
      simp
  · rw [lts_no (by simpa [D.eqv] using h)]
    simp [D.lt, h]
theorem alike_ky (a b : Ky) : D.alike (kyD a) (kyD b) = true := by
  unfold kyD rowD
  simp only [D.alike, D.alikes, alikes_nats, Bool.and_true]
theorem eqOk_ky (a : Ky) (n : Nat) (h : 2 ≤ n) : D.eqOk n (kyD a) = true := by
  obtain ⟨k, rfl⟩ : ∃ k, n = k + 2 := ⟨n - 2, by omega⟩
  unfold kyD rowD
  simp only [D.eqOk, D.eqOks, eqOks_nats, Bool.and_true]
theorem cmp_ky (a b : Ky) : cmpD .lt (kyD a) (kyD b) = some (kyLt a b) := by
  show ltD (kyD a) (kyD b) = _
  have h1 := eqOk_ky a 60 (by omega)
  have h2 := eqOk_ky b 60 (by omega)
  have h3 := alike_ky a b
  have h4 := lt_ky a b
  unfold kyD at *
  simp only [D.eqOk] at h1 h2
  simp only [D.alike] at h3
  simp only [D.lt] at h4
  simp only [ltD]
  rw [h1, h2, h3, h4]
  rfl
theorem ky_irr (a : Ky) : kyLt a a = false := by
  unfold kyLt
  simp
theorem ky_anti {a b : Ky} (h1 : kyLt a b = false) (h2 : kyLt b a = false) : a = b := by
  obtain ⟨c, r⟩ := a
  obtain ⟨c', r'⟩ := b
  unfold kyLt at h1 h2
  simp only [Bool.or_eq_false_iff, Bool.and_eq_false_iff, decide_eq_false_iff_not] at h1 h2
  have e : c = c' := by omega
  subst e
  have : r = r' := List.le_antisymm (h2.2.resolve_left (fun z => z rfl)) (h1.2.resolve_left (fun z => z rfl))
  rw [this]
theorem ky_trans {a b c : Ky} (h1 : kyLt b a = false) (h2 : kyLt c b = false) : kyLt c a = false := by
  obtain ⟨x, r⟩ := a
  obtain ⟨y, s⟩ := b
  obtain ⟨z, t⟩ := c
  unfold kyLt at *
  simp only [Bool.or_eq_false_iff, Bool.and_eq_false_iff, decide_eq_false_iff_not] at *
  refine ⟨by omega, ?_⟩
  by_cases h : z = x
  · right
    have e1 : y = x := by omega
    have e2 : z = y := by omega
    have g1 : r ≤ s := h1.2.resolve_left (fun q => q e1)
    have g2 : s ≤ t := h2.2.resolve_left (fun q => q e2)
    exact List.le_trans g1 g2
  · exact .inl h
theorem ky_total (a b : Ky) : kyLt b a = false ∨ kyLt a b = false := by
  obtain ⟨x, r⟩ := a
  obtain ⟨y, s⟩ := b
  unfold kyLt
  simp only [Bool.or_eq_false_iff, Bool.and_eq_false_iff, decide_eq_false_iff_not]
  by_cases h : x < y
  · exact .inl ⟨by omega, .inl (by omega)⟩
  · by_cases h' : y < x
    · exact .inr ⟨by omega, .inl (by omega)⟩
    · rcases List.le_total r s with g | g
      · exact .inl ⟨by omega, .inr g⟩
      · exact .inr ⟨by omega, .inr g⟩
/-! ### the least key -/
def stepK (o : Option Ky) (x : Ky) : Option Ky := match o with
  | none => some x
  | some y => if kyLt x y then some x else some y
def bestK (l : List Ky) : Option Ky := l.foldl stepK none
def Best (o : Option Ky) (l : List Ky) : Prop := match o with
  | none => l = []
  | some x => x ∈ l ∧ ∀ y ∈ l, kyLt y x = false
theorem best_step {o : Option Ky} {l : List Ky} {x : Ky} (h : Best o l) : Best (stepK o x) (l ++ [x]) := by
  cases o with
  | none =>
    have : l = [] := h
    subst this
    exact ⟨by simp, fun y hy => by simp at hy; rw [hy]; exact ky_irr x⟩
  | some z =>
    obtain ⟨h1, h2⟩ := h
    unfold stepK
    simp only
    split
    · rename_i hlt
      refine ⟨by simp, fun y hy => ?_⟩
      rcases List.mem_append.mp hy with h' | h'
      · have g1 := h2 y h'
        -- x < z ≤ y
        rcases ky_total x y with g | g
        · exact g
        · have := ky_trans g1 g
          have g3 := ky_trans (a := z) (b := y) (c := x) g1 g
          rw [hlt] at g3
          cases g3
      · rw [List.mem_singleton] at h'
        rw [h']
        exact ky_irr x
    · rename_i hlt
      refine ⟨List.mem_append_left _ h1, fun y hy => ?_⟩
      rcases List.mem_append.mp hy with h' | h'
      · exact h2 y h'
      · rw [List.mem_singleton] at h'
        rw [h']
        simpa using hlt
theorem best_fold : ∀ (l l0 : List Ky) (o : Option Ky), Best o l0 → Best (l.foldl stepK o) (l0 ++ l)
  | [], l0, o, h => by rw [List.append_nil]; exact h
  | x :: l, l0, o, h => by
    rw [List.foldl_cons]
    have := best_fold l (l0 ++ [x]) _ (best_step h)
    rw [List.append_assoc] at this
    exact this
theorem bestK_spec (l : List Ky) : Best (bestK l) l := best_fold l [] none rfl
theorem best_uniq {o o' : Option Ky} {l : List Ky} (h : Best o l) (h' : Best o' l) : o = o' := by
  cases o with
  | none =>
    have e : l = [] := h
    subst e
    cases o' with
    | none => rfl
    | some x => cases h'.1
  | some x =>
    cases o' with
    | none =>
      have e : l = [] := h'
      rw [e] at h
      cases h.1
    | some y => rw [ky_anti (h'.2 x h.1) (h.2 y h'.1)]
end PF

/-! first_readings: the first rows, by a stack. -/
namespace PF
/-- rows that begin with r, from a place on -/
def extS (ws : List Tx) (w : Tx) (s : List Nat × Nat) : List (List Nat) := (rows ws (w.drop s.2)).map (s.1 ++ ·)
def totS (ws : List Tx) (w : Tx) (st : List (List Nat × Nat)) : List (List Nat) := st.reverse.flatMap (extS ws w)
theorem tot_app (ws : List Tx) (w : Tx) (st p : List (List Nat × Nat)) : totS ws w (st ++ p) = totS ws w p ++ totS ws w st := by
  unfold totS
  rw [List.reverse_append, List.flatMap_append]
theorem tot_one (ws : List Tx) (w : Tx) (s : List Nat × Nat) : totS ws w [s] = extS ws w s := by
  unfold totS
  simp
theorem rows_next {ws : List Tx} (hf : Full ws) {w : Tx} (hw : w ≠ []) : rows ws w = (nextW ws w).flatMap fun i => (rows ws (w.drop (wAt ws i).length)).map (i :: ·) := by
  rw [rows_step hf hw]
  unfold nextW
  generalize List.range ws.length = l
  induction l with
  | nil => rfl
  | cons a t ih =>
    rw [List.flatMap_cons, ih]
    by_cases h : w.take (wAt ws a).length = wAt ws a
    · rw [if_pos h, List.filter_cons_of_pos (by simpa using h), List.flatMap_cons]
    · rw [if_neg h, List.filter_cons_of_neg (by simpa using h), List.nil_append]
theorem next_nil {ws : List Tx} (hf : Full ws) : nextW ws [] = [] := by
  unfold nextW
  rw [List.filter_eq_nil_iff]
  intro i hi
  have := wAt_pos hf (List.mem_range.mp hi)
  rw [decide_eq_true_eq]
  intro h
  rw [← h] at this
  simp at this
/-- what comes on the stack -/
def pushS (ws : List Tx) (w : Tx) (r : List Nat) (a : Nat) (is : List Nat) : List (List Nat × Nat) := (is.filter fun i => decide (0 < cntR ws (w.drop (a + (wAt ws i).length)))).map fun i => (r ++ [i], a + (wAt ws i).length)
theorem tot_push {ws : List Tx} (hf : Full ws) {w : Tx} {r : List Nat} {a : Nat} (ha : a < w.length) : totS ws w (pushS ws w r a (nextW ws (w.drop a)).reverse) = extS ws w (r, a) := by
  have hne : w.drop a ≠ [] := by intro z; have := congrArg List.length z; rw [List.length_drop, List.length_nil] at this; omega
  unfold totS pushS extS
  simp only
  rw [rows_next hf hne, ← List.map_reverse, ← List.filter_reverse, List.reverse_reverse]
  generalize nextW ws (w.drop a) = l
  induction l with
  | nil => rfl
  | cons i t ih =>
    rw [List.flatMap_cons, List.map_append, List.map_map, List.drop_drop]
    by_cases h : 0 < cntR ws (w.drop (a + (wAt ws i).length))
    · rw [List.filter_cons_of_pos (by simpa using h), List.map_cons, List.flatMap_cons, ih]
      congr 1
      refine List.map_congr_left fun x _ => ?_
      simp
    · rw [List.filter_cons_of_neg (by simpa using h), ih]
      have : rows ws (w.drop (a + (wAt ws i).length)) = [] := List.length_eq_zero_iff.mp (by unfold cntR at h; omega)
      rw [this]
      rfl
def sD (s : List Nat × Nat) : D := .tup [rowD s.1, .int (s.2 : Nat)]
section
variable {Φ : Nat → List D → R (Bool × D)} {W : Nat}
@[simp] theorem i_rvd (e : CE) (env : Env) : evalI Φ (.rvd e) env = (evalE Φ e env >>= fun x => match x.2 with
    | .lst ds => .ok (x.1.isBo, ds.reverse)
    | _ => .stuck) := Eq.trans rfl rfl
theorem x_pop {t : List Nat} {j : Nat} {env : Env} {ds : List D} {d : D} (h : ownL env j = .ok (ds ++ [d])) (ht : t ≠ []) : exec Φ W (.pop t j .no) env = (bindT t d (env.set j (some (true, .lst ds))) >>= fun env' => .ok (.nx env')) := by
  have e1 : ¬ (ds ++ [d]).length = 0 := by simp
  have e2 : (ds ++ [d])[(ds ++ [d]).length - 1]? = some d := by simp
  have e3 : (ds ++ [d]).eraseIdx ((ds ++ [d]).length - 1) = ds := by simp [List.eraseIdx_append_of_length_le]
  simp only [exec, evalO]
  rw [h]
  simp only [R.ok_bind]
  rw [if_neg e1]
  simp only [e2, e3]
  rw [if_neg ht]
  rfl
def firstsCond : CE := .and (.cmp .gt (.bi .len [.var 5]) (.cst (.int 0))) (.cmp .lt (.bi .len [.var 4]) (.var 2))
def firstsTurn : List CS := [.ife (.cmp .gt (.idx (.var 3) (.bin .add (.var 7) (.bi .len [.idx (.idx (.var 0) (.cst (.int 1))) (.var 8)]))) (.cst (.int 0))) [.app 5 (.tup [.bin .add (.var 6) (.tup [.var 8]), .bin .add (.var 7) (.bi .len [.idx (.idx (.var 0) (.cst (.int 1))) (.var 8)])])] []]
def firstsBody (iN : Nat) : List CS := [.pop [6, 7] 5 .no,
    .ife (.cmp .eq (.var 7) (.bi .len [.var 1])) [.app 4 (.var 6)] [],
    .for_ [8] (.rvd (.call iN [.var 0, .var 1, .var 7])) firstsTurn]
def fnFirsts (iC iN : Nat) : FnD := ⟨3, 9, [.asg 3 (.call iC [.var 0, .var 1]),
  .asg 4 (.lst []),
  .asg 5 (.lst [.tup [.tup [], .cst (.int 0)]]),
  .whl firstsCond (firstsBody iN),
  .retV 4]⟩
abbrev EF (m : Nat) (ws : List Tx) (w : Tx) (M : Nat) (cs : List Nat) (fd : List (List Nat)) (st : List (List Nat × Nat)) (l6 l7 l8 : Option Slot) : Env := [some (false, dBook m ws), some (false, .str w), some (false, .int (M : Nat)), some (true, .lst (cs.map fun n => .int (n : Nat))), some (true, .lst (fd.map rowD)), some (true, .lst (st.map sD)), l6, l7, l8]
theorem firsts_inner (m : Nat) {ws : List Tx} (w : Tx) (M : Nat) (cs : List Nat) (hb : Bk ws) (hc : ∀ p, p ≤ w.length → cs[p]? = some (cntR ws (w.drop p))) (fd : List (List Nat)) (r : List Nat) (a : Nat) (hr : r.length + 1 ≤ SZ) : ∀ (is : List Nat) (st : List (List Nat × Nat)) (l8 : Option Slot),
    (∀ i ∈ is, i < ws.length ∧ a + (wAt ws i).length ≤ w.length) → st.length + is.length ≤ SZ → ∃ l8',
    forGo (bodyFor Φ W [8] firstsTurn) (is.map fun i => .int (i : Nat)) (EF m ws w M cs fd st (some (false, rowD r)) (some (false, .int (a : Nat))) l8) =
      .ok (.nx (EF m ws w M cs fd (st ++ pushS ws w r a is) (some (false, rowD r)) (some (false, .int (a : Nat))) l8'))
  | [], st, l8, _, _ => ⟨l8, by rw [show pushS ws w r a [] = [] from rfl, List.append_nil]; rfl⟩
  | i :: is, st, l8, h1, h2 => by
    obtain ⟨g1, g2⟩ := h1 i List.mem_cons_self
    rw [List.length_cons] at h2
    have i1 := b1_at m ws
    have i2 := bw_at g1
    have h3 : (wAt ws i).length ≤ SZ := by have := hb.one _ (wAt_mem g1); unfold SZ; omega
    have e1 := idx_nats (hc _ g2)
    rw [Int.natCast_add] at e1
    have hst : st.length < SZ := by omega
    by_cases hp : 0 < cntR ws (w.drop (a + (wAt ws i).length))
    · obtain ⟨l8', ih⟩ := firsts_inner m w M cs hb hc fd r a hr is (st ++ [(r ++ [i], a + (wAt ws i).length)]) (some (false, .int (i : Nat))) (fun j hj => h1 j (List.mem_cons_of_mem _ hj)) (by rw [List.length_append, List.length_singleton]; omega)
      refine ⟨l8', ?_⟩
      have ep : pushS ws w r a (i :: is) = (r ++ [i], a + (wAt ws i).length) :: pushS ws w r a is := by
        unfold pushS
        rw [List.filter_cons_of_pos (by simpa using hp), List.map_cons]
      have ad : binop .add (rowD r) (.tup [.int (i : Nat)]) = some (.pl, rowD (r ++ [i])) := by
        unfold rowD
        rw [bi_addT (by rw [List.length_map, List.length_singleton]; exact hr), List.map_append]
        rfl
      have es : D.tup [rowD (r ++ [i]), .int ((a : Int) + ((wAt ws i).length : Int))] = sD (r ++ [i], a + (wAt ws i).length) := by
        unfold sD
        simp
      have turn : bodyFor Φ W [8] firstsTurn (.int (i : Nat)) (EF m ws w M cs fd st (some (false, rowD r)) (some (false, .int (a : Nat))) l8) = .ok (.nx (EF m ws w M cs fd (st ++ [(r ++ [i], a + (wAt ws i).length)]) (some (false, rowD r)) (some (false, .int (a : Nat))) (some (false, .int (i : Nat))))) := by
        simp only [EF]
        rw [List.map_append, List.map_singleton]
        have hst' : (st.map sD).length < SZ := by rw [List.length_map]; exact hst
        generalize sD (r ++ [i], a + (wAt ws i).length) = x at *
        generalize rowD (r ++ [i]) = r1 at *
        generalize rowD r = r0 at *
        generalize cntR ws (w.drop (a + (wAt ws i).length)) = c at *
        generalize wAt ws i = u at *
        generalize st.map sD = T at *
        generalize fd.map rowD = Fd at *
        generalize cs.map (fun n => D.int (n : Nat)) = C at *
        generalize dBook m ws = B at *
        generalize D.tup (ws.map D.str) = T1 at *
        simp [bodyFor, bindT, firstsTurn, i1, i2, h3, e1, hp, ad, es, ownL, hst']
      rw [List.map_cons]
      show (bodyFor Φ W [8] firstsTurn _ _ >>= _) = _
      rw [turn, ep]
      show forGo _ _ _ = _
      rw [ih, List.append_assoc]
      rfl
    · obtain ⟨l8', ih⟩ := firsts_inner m w M cs hb hc fd r a hr is st (some (false, .int (i : Nat))) (fun j hj => h1 j (List.mem_cons_of_mem _ hj)) (by omega)
      refine ⟨l8', ?_⟩
      have ep : pushS ws w r a (i :: is) = pushS ws w r a is := by
        unfold pushS
        rw [List.filter_cons_of_neg (by simpa using hp)]
      have turn : bodyFor Φ W [8] firstsTurn (.int (i : Nat)) (EF m ws w M cs fd st (some (false, rowD r)) (some (false, .int (a : Nat))) l8) = .ok (.nx (EF m ws w M cs fd st (some (false, rowD r)) (some (false, .int (a : Nat))) (some (false, .int (i : Nat))))) := by
        simp only [EF]
        have hp0 : cntR ws (w.drop (a + (wAt ws i).length)) = 0 := by omega
        rw [hp0] at e1
        generalize rowD r = r0 at *
        generalize wAt ws i = u at *
        generalize st.map sD = T at *
        generalize fd.map rowD = Fd at *
        generalize cs.map (fun n => D.int (n : Nat)) = C at *
        generalize dBook m ws = B at *
        generalize D.tup (ws.map D.str) = T1 at *
        simp [bodyFor, bindT, firstsTurn, i1, i2, h3, e1]
      rw [List.map_cons]
      show (bodyFor Φ W [8] firstsTurn _ _ >>= _) = _
      rw [turn, ep]
      exact ih
/-- what stands on the stack -/
structure StOk (ws : List Tx) (w : Tx) (st : List (List Nat × Nat)) : Prop where
  low : ∀ s ∈ st, s.2 ≤ w.length ∧ s.1.length ≤ s.2
  pos : ∀ s ∈ st, s.2 = 0 ∨ rows ws (w.drop s.2) ≠ []
  deep : ∀ (j : Nat) (s : List Nat × Nat), st[j]? = some s → j ≤ ws.length * s.2
theorem next_mem {ws : List Tx} {v : Tx} {i : Nat} (h : i ∈ nextW ws v) : i < ws.length ∧ (wAt ws i).length ≤ v.length := by
  obtain ⟨g1, g2⟩ := List.mem_filter.mp h
  have g3 := congrArg List.length (of_decide_eq_true g2)
  rw [List.length_take] at g3
  exact ⟨List.mem_range.mp g1, by omega⟩
theorem push_ok {ws : List Tx} (hf : Full ws) {w : Tx} {st : List (List Nat × Nat)} {r : List Nat} {a : Nat} (ha : a ≤ w.length) (hr : r.length ≤ a) (hl : st.length ≤ ws.length * a) (h : StOk ws w st) : StOk ws w (st ++ pushS ws w r a (nextW ws (w.drop a)).reverse) := by
  have hm : ∀ s ∈ pushS ws w r a (nextW ws (w.drop a)).reverse, ∃ i, i ∈ nextW ws (w.drop a) ∧ s = (r ++ [i], a + (wAt ws i).length) ∧ 0 < cntR ws (w.drop (a + (wAt ws i).length)) := fun s hs => by
    obtain ⟨i, hi, rfl⟩ := List.mem_map.mp hs
    obtain ⟨h1, h2⟩ := List.mem_filter.mp hi
    exact ⟨i, List.mem_reverse.mp h1, rfl, of_decide_eq_true h2⟩
  have hlen : (pushS ws w r a (nextW ws (w.drop a)).reverse).length ≤ ws.length := by
    unfold pushS nextW
    rw [List.length_map]
    refine Nat.le_trans (List.length_filter_le _ _) ?_
    rw [List.length_reverse]
    refine Nat.le_trans (List.length_filter_le _ _) ?_
    rw [List.length_range]
    exact Nat.le_refl _
  refine ⟨fun s hs => ?_, fun s hs => ?_, fun j s hj => ?_⟩
  · rcases List.mem_append.mp hs with h' | h'
    · exact h.low s h'
    · obtain ⟨i, h1, rfl, h3⟩ := hm s h'
      obtain ⟨g1, g2⟩ := next_mem h1
      have := wAt_pos hf g1
      rw [List.length_drop] at g2
      refine ⟨by show a + _ ≤ _; omega, ?_⟩
      show (r ++ [i]).length ≤ a + _
      rw [List.length_append, List.length_singleton]
      omega
  · rcases List.mem_append.mp hs with h' | h'
    · exact h.pos s h'
    · obtain ⟨i, h1, rfl, h3⟩ := hm s h'
      right
      intro z
      unfold cntR at h3
      simp only at z
      rw [z] at h3
      simp at h3
  · by_cases hlt : j < st.length
    · rw [List.getElem?_append_left hlt] at hj
      exact h.deep j s hj
    · rw [List.getElem?_append_right (by omega)] at hj
      obtain ⟨hk, e⟩ := List.getElem?_eq_some_iff.mp hj
      obtain ⟨i, h1, h2, h3⟩ := hm s (by rw [← e]; exact List.getElem_mem hk)
      obtain ⟨g1, g2⟩ := next_mem h1
      have := wAt_pos hf g1
      have q : ws.length * (a + 1) ≤ ws.length * s.2 := Nat.mul_le_mul_left _ (by rw [h2]; show a + 1 ≤ a + _; omega)
      rw [Nat.mul_add, Nat.mul_one] at q
      omega
/-- enough turns -/
def needS (n M f : Nat) (st : List (List Nat × Nat)) : Nat := if M ≤ f then 1 else match st.getLast? with
  | none => 1
  | some s => (M - f - 1) * (n + 2) + (n - s.2) + 2
theorem firsts_loop {iN : Nat} (m : Nat) {ws : List Tx} (w : Tx) (M : Nat) (cs : List Nat) (hb : Bk ws) (hw : w.length ≤ 900) (hc : ∀ p, p ≤ w.length → cs[p]? = some (cntR ws (w.drop p))) (hM : M ≤ 10000) (hsz : ws.length * (w.length + 1) + 1 ≤ SZ)
    (hN : ∀ p : Nat, p ≤ w.length → Φ iN [dBook m ws, .str w, .int (p : Nat)] = .ok (true, .lst ((nextW ws (w.drop p)).map fun i => .int (i : Nat)))) :
    ∀ (k : Nat) (fd : List (List Nat)) (st : List (List Nat × Nat)) (l6 l7 l8 : Option Slot), StOk ws w st → fd.length ≤ M → needS w.length M fd.length st ≤ k → ∃ st' l6' l7' l8',
    whlGo (condWhl Φ firstsCond) (bodyWhl Φ W (firstsBody iN)) k (EF m ws w M cs fd st l6 l7 l8) = .ok (.nx (EF m ws w M cs ((fd ++ totS ws w st).take M) st' l6' l7' l8'))
  | 0, fd, st, l6, l7, l8, _, _, hk => by
    exfalso
    unfold needS at hk
    split at hk
    · omega
    · split at hk <;> omega
  | k + 1, fd, st, l6, l7, l8, ok, hf, hk => by
    have hcond : condWhl Φ firstsCond (EF m ws w M cs fd st l6 l7 l8) = .ok (decide (0 < st.length) && decide (fd.length < M)) := by
      have e1 : (st.map sD).length = st.length := List.length_map _
      have e2 : (fd.map rowD).length = fd.length := List.length_map _
      rw [← e1, ← e2]
      simp only [EF]
      generalize st.map sD = T
      generalize fd.map rowD = Fd
      generalize cs.map (fun n => D.int (n : Nat)) = C
      generalize dBook m ws = B
      by_cases h1 : T = []
      · subst h1
        simp [condWhl, firstsCond]
      · have := List.length_pos_iff.mpr h1
        simp [condWhl, firstsCond, this]
    show ∃ st' l6' l7' l8', (condWhl Φ _ _ >>= _) = _
    rw [hcond]
    by_cases hfM : fd.length < M
    · rcases List.eq_nil_or_concat st with h0 | ⟨st0, ⟨r, a⟩, h0⟩
      · subst h0
        refine ⟨[], l6, l7, l8, ?_⟩
        rw [show totS ws w [] = [] from rfl, List.append_nil, List.take_of_length_le hf]
        rfl
      · rw [List.concat_eq_append] at h0
        subst h0
        have hk' : (M - fd.length - 1) * (w.length + 2) + (w.length - a) + 2 ≤ k + 1 := by
          unfold needS at hk
          rw [if_neg (by omega)] at hk
          simpa using hk
        obtain ⟨ha, hr⟩ := ok.low (r, a) (by simp)
        simp only at ha hr
        have hpos := ok.pos (r, a) (by simp)
        simp only at hpos
        have hdeep := ok.deep st0.length (r, a) (by simp)
        simp only at hdeep
        have ok0 : StOk ws w st0 := ⟨fun s hs => ok.low s (by simp [hs]), fun s hs => ok.pos s (by simp [hs]), fun j s hj => ok.deep j s (by
          have := (List.getElem?_eq_some_iff.mp hj).1
          rw [List.getElem?_append_left this]
          exact hj)⟩
        have n1 := hN a ha
        have hwa : ws.length * a ≤ ws.length * w.length := Nat.mul_le_mul_left _ ha
        have hnl : (nextW ws (w.drop a)).length ≤ ws.length := by
          unfold nextW
          refine Nat.le_trans (List.length_filter_le _ _) ?_
          rw [List.length_range]
          exact Nat.le_refl _
        rw [Nat.mul_add, Nat.mul_one] at hsz
        have ec : (decide (0 < (st0 ++ [(r, a)]).length) && decide (fd.length < M)) = true := by simp [hfM]
        rw [ec]
        have hw2 : w.length ≤ SZ := by unfold SZ; omega
        have hfd : fd.length < SZ := by unfold SZ; omega
        have step : ∀ (fd1 : List (List Nat)), (if a = w.length then fd1 = fd ++ [r] else fd1 = fd) → ∃ l8', bodyWhl Φ W (firstsBody iN) (EF m ws w M cs fd (st0 ++ [(r, a)]) l6 l7 l8) = .ok (.nx (EF m ws w M cs fd1 (st0 ++ pushS ws w r a (nextW ws (w.drop a)).reverse) (some (false, rowD r)) (some (false, .int (a : Nat))) l8')) := by
          intro fd1 hfd1
          obtain ⟨l8', g1⟩ := firsts_inner (Φ := Φ) (W := W) m w M cs hb hc fd1 r a (by unfold SZ; omega) (nextW ws (w.drop a)).reverse st0 l8 (fun i hi => by
            obtain ⟨q1, q2⟩ := next_mem (List.mem_reverse.mp hi)
            rw [List.length_drop] at q2
            exact ⟨q1, by omega⟩) (by rw [List.length_reverse]; omega)
          refine ⟨l8', ?_⟩
          have hp := x_pop (Φ := Φ) (W := W) (t := [6, 7]) (j := 5) (env := EF m ws w M cs fd (st0 ++ [(r, a)]) l6 l7 l8) (ds := st0.map sD) (d := sD (r, a)) (by simp [EF, ownL]) (by simp)
          have hbind : bindT [6, 7] (sD (r, a)) ((EF m ws w M cs fd (st0 ++ [(r, a)]) l6 l7 l8).set 5 (some (true, .lst (st0.map sD)))) = .ok (EF m ws w M cs fd st0 (some (false, rowD r)) (some (false, .int (a : Nat))) l8) := by
            simp [EF, sD, bindT, setSlots]
          rw [hbind] at hp
          have hfd2 : (fd.map rowD).length < SZ := by rw [List.length_map]; exact hfd
          rw [List.map_reverse] at g1
          unfold bodyWhl firstsBody
          rw [x_cons, hp]
          simp only [EF] at g1 ⊢
          by_cases hal : a = w.length
          · rw [if_pos hal] at hfd1
            subst hfd1
            rw [List.map_append, List.map_singleton] at g1 ⊢
            generalize (st0 ++ pushS ws w r a (nextW ws (w.drop a)).reverse).map sD = T' at *
            generalize st0.map sD = T at *
            generalize fd.map rowD = Fd at *
            generalize cs.map (fun n => D.int (n : Nat)) = C at *
            generalize (nextW ws (w.drop a)).map (fun i => D.int (i : Nat)) = N at *
            generalize dBook m ws = B at *
            generalize rowD r = r0 at *
            have hal' : (a : Int) = (w.length : Int) := by omega
            simp only [hal'] at g1 n1 ⊢
            simp [hw2, ownL, hfd2, n1, g1]
          · rw [if_neg hal] at hfd1
            subst hfd1
            generalize (st0 ++ pushS ws w r a (nextW ws (w.drop a)).reverse).map sD = T' at *
            generalize st0.map sD = T at *
            generalize fd1.map rowD = Fd at *
            generalize cs.map (fun n => D.int (n : Nat)) = C at *
            generalize (nextW ws (w.drop a)).map (fun i => D.int (i : Nat)) = N at *
            generalize dBook m ws = B at *
            generalize rowD r = r0 at *
            have hal' : ¬ (a : Int) = (w.length : Int) := by omega
            simp [hw2, hal', n1, g1]
        have okP := push_ok hb.full (st := st0) (r := r) ha hr hdeep ok0
        have totE : totS ws w (st0 ++ [(r, a)]) = extS ws w (r, a) ++ totS ws w st0 := by rw [tot_app, tot_one]
        by_cases hal : a = w.length
        · obtain ⟨l8', t1⟩ := step (fd ++ [r]) (by rw [if_pos hal])
          have ep : pushS ws w r a (nextW ws (w.drop a)).reverse = [] := by
            rw [hal, List.drop_length, next_nil hb.full]
            rfl
          rw [ep, List.append_nil] at t1
          have ee : extS ws w (r, a) = [r] := by
            unfold extS
            simp only
            rw [hal, List.drop_length, rows_nil]
            simp
          obtain ⟨st', b6, b7, b8, ih⟩ := firsts_loop m w M cs hb hw hc hM (by rw [Nat.mul_add, Nat.mul_one]; exact hsz) hN k (fd ++ [r]) st0 (some (false, rowD r)) (some (false, .int (a : Nat))) l8' ok0 (by rw [List.length_append, List.length_singleton]; omega) (by
            unfold needS
            rw [List.length_append, List.length_singleton]
            split
            · omega
            · rename_i hlt
              split
              · omega
              · have e : M - fd.length - 1 = (M - (fd.length + 1) - 1) + 1 := by omega
                rw [e, Nat.add_mul, Nat.one_mul] at hk'
                omega)
          refine ⟨st', b6, b7, b8, ?_⟩
          show (bodyWhl Φ W _ _ >>= _) = _
          rw [t1, totE, ee, ← List.append_assoc]
          exact ih
        · obtain ⟨l8', t1⟩ := step fd (by rw [if_neg hal])
          obtain ⟨st', b6, b7, b8, ih⟩ := firsts_loop m w M cs hb hw hc hM (by rw [Nat.mul_add, Nat.mul_one]; exact hsz) hN k fd (st0 ++ pushS ws w r a (nextW ws (w.drop a)).reverse) (some (false, rowD r)) (some (false, .int (a : Nat))) l8' okP hf (by
            by_cases hpne : pushS ws w r a (nextW ws (w.drop a)).reverse = []
            · have h1 := tot_push hb.full (r := r) (show a < w.length by omega)
              rw [hpne] at h1
              have he : extS ws w (r, a) = [] := h1.symm
              unfold extS at he
              rw [List.map_eq_nil_iff] at he
              have ha0 : a = 0 := hpos.resolve_right (fun z => z he)
              rw [ha0, Nat.mul_zero] at hdeep
              have hst0 : st0 = [] := List.length_eq_zero_iff.mp (by omega)
              rw [hpne, hst0]
              unfold needS
              rw [if_neg (by omega)]
              show 1 ≤ k
              omega
            obtain ⟨p0, s, hs⟩ : ∃ p0 s, pushS ws w r a (nextW ws (w.drop a)).reverse = p0 ++ [s] := by
              rcases List.eq_nil_or_concat (pushS ws w r a (nextW ws (w.drop a)).reverse) with z | ⟨p0, s, z⟩
              · exact absurd z hpne
              · exact ⟨p0, s, by rw [z, List.concat_eq_append]⟩
            have hs2 : a + 1 ≤ s.2 := by
              have hm : s ∈ pushS ws w r a (nextW ws (w.drop a)).reverse := by rw [hs]; simp
              obtain ⟨i, hi, rfl⟩ := List.mem_map.mp hm
              have := wAt_pos hb.full (next_mem (List.mem_reverse.mp (List.mem_filter.mp hi).1)).1
              show a + 1 ≤ a + _
              omega
            unfold needS
            rw [if_neg (by omega), hs, ← List.append_assoc, List.getLast?_concat]
            simp only
            omega)
          refine ⟨st', b6, b7, b8, ?_⟩
          show (bodyWhl Φ W _ _ >>= _) = _
          rw [t1, totE, ← tot_push hb.full (r := r) (show a < w.length by omega), ← tot_app]
          exact ih
    · refine ⟨st, l6, l7, l8, ?_⟩
      have e : fd.length = M := by omega
      rw [List.take_append_of_le_length (by omega), List.take_of_length_le (by omega)]
      have : (decide (0 < st.length) && decide (fd.length < M)) = false := by simp [hfM]
      rw [this]
      rfl
theorem firsts_ok {iC iN : Nat} (m : Nat) {ws : List Tx} (w : Tx) (M : Nat) (hb : Bk ws) (hw : w.length ≤ 900) (hM : M ≤ 10000) (hsz : ws.length * (w.length + 1) + 1 ≤ SZ) (hW : M * (w.length + 2) + 3 ≤ W)
    (hN : ∀ p : Nat, p ≤ w.length → Φ iN [dBook m ws, .str w, .int (p : Nat)] = .ok (true, .lst ((nextW ws (w.drop p)).map fun i => .int (i : Nat))))
    (hC : ∃ cs : List Nat, cs.length = w.length + 1 ∧ (∀ p, p ≤ w.length → cs[p]? = some (cntR ws (w.drop p))) ∧ Φ iC [dBook m ws, .str w] = .ok (true, .lst (cs.map fun n => .int (n : Nat)))) :
    runBody Φ W (fnFirsts iC iN) [dBook m ws, .str w, .int (M : Nat)] = .ok (true, .lst (((rows ws w).take M).map rowD)) := by
  obtain ⟨cs, _, hc, eC⟩ := hC
  obtain ⟨st', l6, l7, l8, lp⟩ := firsts_loop (Φ := Φ) (W := W) m w M cs hb hw hc hM hsz hN W [] [([], 0)] none none none ⟨fun s hs => by
    rw [List.mem_singleton] at hs
    subst hs
    exact ⟨Nat.zero_le _, Nat.zero_le _⟩, fun s hs => by
    rw [List.mem_singleton] at hs
    subst hs
    exact .inl rfl, fun j s hj => by
    have := (List.getElem?_eq_some_iff.mp hj).1
    simp only [List.length_singleton] at this
    omega⟩ (Nat.zero_le _) (by
    unfold needS
    split
    · omega
    · simp only [List.getLast?_singleton, List.length_nil, Nat.sub_zero]
      rename_i hlt
      simp only [List.length_nil] at hlt
      obtain ⟨M', rfl⟩ : ∃ M', M = M' + 1 := ⟨M - 1, by omega⟩
      rw [Nat.add_mul, Nat.one_mul] at hW
      simp only [Nat.add_sub_cancel]
      omega)
  rw [List.nil_append, tot_one] at lp
  have ee : extS ws w ([], 0) = rows ws w := by
    unfold extS
    simp
  rw [ee] at lp
  have e0 : ([([], 0)] : List (List Nat × Nat)).map sD = [.tup [.tup [], .int 0]] := rfl
  simp only [EF, e0, List.map_nil] at lp
  generalize ((rows ws w).take M).map rowD = A at *
  generalize cs.map (fun n => D.int (n : Nat)) = C at *
  generalize dBook m ws = B at *
  generalize st'.map sD = T at *
  simp [fnFirsts, eC, lp]
def fnFirst (iF : Nat) : FnD := ⟨2, 3, [.asg 2 (.call iF [.var 0, .var 1, .cst (.int 1)]),
  .ife (.cmp .eq (.bi .len [.var 2]) (.cst (.int 0))) [.ret (.cst .non)] [],
  .ret (.idx (.var 2) (.cst (.int 0)))]⟩
def dRowO : Option (List Nat) → D
  | none => .non
  | some r => rowD r
theorem first_ok {iF : Nat} (m : Nat) {ws : List Tx} (w : Tx) (hF : Φ iF [dBook m ws, .str w, .int 1] = .ok (true, .lst (((rows ws w).take 1).map rowD))) :
    runBody Φ W (fnFirst iF) [dBook m ws, .str w] = .ok (false, dRowO (rows ws w).head?) := by
  cases h : rows ws w with
  | nil =>
    rw [h] at hF
    simp only [List.take_nil, List.map_nil] at hF
    generalize dBook m ws = B at *
    simp [fnFirst, hF, dRowO]
  | cons r t =>
    rw [h] at hF
    simp only [List.take_succ_cons, List.take_zero, List.map_cons, List.map_nil] at hF
    have i0 : idxD (.lst [rowD r]) (.int 0) = some (rowD r) := by
      show PF.atI _ ((0 : Nat) : Int) = _
      rw [atI_nat (by simp)]
      rfl
    simp only [List.head?_cons, dRowO]
    generalize rowD r = q at *
    generalize dBook m ws = B at *
    simp [fnFirst, hF, i0]
end
section
variable {prog : List FnD} {W iN iC iF iS : Nat}
theorem g_firsts (hN : prog[iN]? = some fnNext) (hC : prog[iC]? = some (fnCounts iN)) (hF : prog[iF]? = some (fnFirsts iC iN)) (k m : Nat) {ws : List Tx} (w : Tx) (M : Nat) (hb : Bk ws) (hw : w.length ≤ 900) (hM : M ≤ 10000) (hsz : ws.length * (w.length + 1) + 1 ≤ SZ) (hW : M * (w.length + 2) + 3 ≤ W) :
    den prog W (k + 3) iF [dBook m ws, .str w, .int (M : Nat)] = .ok (true, .lst (((rows ws w).take M).map rowD)) := by
  rw [den_at hF]
  exact firsts_ok m w M hb hw hM hsz hW (fun p hp => g_next hN (k + 1) m w p hb hw hp) (g_counts hN hC k m w hb hw)
theorem g_first (hN : prog[iN]? = some fnNext) (hC : prog[iC]? = some (fnCounts iN)) (hF : prog[iF]? = some (fnFirsts iC iN)) (hS : prog[iS]? = some (fnFirst iF)) (k m : Nat) {ws : List Tx} (w : Tx) (hb : Bk ws) (hw : w.length ≤ 900) (hsz : ws.length * (w.length + 1) + 1 ≤ SZ) (hW : w.length + 5 ≤ W) :
    den prog W (k + 4) iS [dBook m ws, .str w] = .ok (false, dRowO (rows ws w).head?) := by
  rw [den_at hS]
  exact first_ok m w (g_firsts hN hC hF k m w 1 hb hw (by omega) hsz (by omega))
end
end PF

/-! Rows by the lengths of their texts. -/
namespace PF.K90
open PF
section
variable (ws : List Tx)
/-- the rows whose text has n letters, ascending -/
def rF : Nat → Nat → List (List Nat)
  | 0, n => if n = 0 then [[]] else []
  | f + 1, n => if n = 0 then [[]] else (List.range ws.length).flatMap fun i => if (wAt ws i).length ≤ n then (rF f (n - (wAt ws i).length)).map (i :: ·) else []
def rN (n : Nat) : List (List Nat) := rF ws n n
def cn (n : Nat) : Nat := (rN ws n).length
def pre (s : Nat) : Nat := ((List.range s).map (cn ws)).sum
end
variable {ws : List Tx}
theorem rF_eq (hf : Full ws) : ∀ (f1 f2 n : Nat), n ≤ f1 → n ≤ f2 → rF ws f1 n = rF ws f2 n
  | 0, 0, _, _, _ => rfl
  | 0, f2 + 1, n, h, _ => by
    have : n = 0 := by omega
    subst this
    rfl
  | f1 + 1, 0, n, _, h => by
    have : n = 0 := by omega
    subst this
    rfl
  | f1 + 1, f2 + 1, n, h1, h2 => by
    unfold rF
    split
    · rfl
    · refine flatMap_eq fun i hi => ?_
      have := wAt_pos hf (List.mem_range.mp hi)
      split
      · rw [rF_eq hf f1 f2 _ (by omega) (by omega)]
      · rfl
theorem rN_zero : rN ws 0 = [[]] := rfl
theorem rN_step (hf : Full ws) {n : Nat} (h : n ≠ 0) : rN ws n = (List.range ws.length).flatMap fun i => if (wAt ws i).length ≤ n then (rN ws (n - (wAt ws i).length)).map (i :: ·) else [] := by
  obtain ⟨k, rfl⟩ : ∃ k, n = k + 1 := ⟨n - 1, by omega⟩
  unfold rN
  conv => lhs; unfold rF
  rw [if_neg h]
  refine flatMap_eq fun i hi => ?_
  have := wAt_pos hf (List.mem_range.mp hi)
  split
  · rw [rF_eq hf k _ _ (by omega) (Nat.le_refl _)]
  · rfl
theorem cn_zero : cn ws 0 = 1 := rfl
theorem cn_step (hf : Full ws) {n : Nat} (h : n ≠ 0) : cn ws n = ((ws.filter fun w => decide (w.length ≤ n)).map fun w => cn ws (n - w.length)).sum := by
  unfold cn
  rw [rN_step hf h, List.length_flatMap]
  have e : ((List.range ws.length).map fun i => (if (wAt ws i).length ≤ n then (rN ws (n - (wAt ws i).length)).map (i :: ·) else []).length) = ws.map fun w => if w.length ≤ n then (rN ws (n - w.length)).length else 0 := by
    conv => rhs; rw [← map_wAt ws, List.map_map]
    refine List.map_congr_left fun i _ => ?_
    simp only [Function.comp]
    rw [map_wAt]
    split
    · rw [List.length_map]
    · rfl
  rw [e]
  clear e h hf
  generalize hR : (fun k => (rN ws k).length) = R
  have hR2 : ∀ k, (rN ws k).length = R k := fun k => by rw [← hR]
  simp only [hR2]
  clear hR hR2
  induction ws with
  | nil => rfl
  | cons w t ih =>
    rw [List.map_cons, List.sum_cons, ih]
    by_cases h : w.length ≤ n
    · rw [if_pos h, List.filter_cons_of_pos (by simpa using h), List.map_cons, List.sum_cons]
    · rw [if_neg h, List.filter_cons_of_neg (by simpa using h), Nat.zero_add]
theorem pre_zero : pre ws 0 = 0 := rfl
theorem pre_succ (s : Nat) : pre ws (s + 1) = pre ws s + cn ws s := by
  unfold pre
  rw [List.range_succ, List.map_append, List.sum_append]
  simp
theorem pre_mono {s t : Nat} (h : s ≤ t) : pre ws s ≤ pre ws t := by
  induction t with
  | zero =>
    have : s = 0 := by omega
    subst this
    exact Nat.le_refl _
  | succ t ih =>
    by_cases e : s = t + 1
    · subst e
      exact Nat.le_refl _
    · have := ih (by omega)
      rw [pre_succ]
      omega
/-- the length of the text of a row -/
def szR (ws : List Tx) (r : List Nat) : Nat := (r.map fun i => (wAt ws i).length).sum
theorem mem_rN (hf : Full ws) : ∀ (r : List Nat) (n : Nat), r ∈ rN ws n ↔ (∀ i ∈ r, i < ws.length) ∧ szR ws r = n
  | [], n => by
    by_cases h : n = 0
    · subst h
      rw [rN_zero]
      simp [szR]
    · rw [rN_step hf h, List.mem_flatMap]
      constructor
      · rintro ⟨i, _, hr⟩
        split at hr
        · obtain ⟨x, _, z⟩ := List.mem_map.mp hr
          cases z
        · cases hr
      · rintro ⟨_, z⟩
        exact absurd z.symm h
  | j :: r, n => by
    by_cases h : n = 0
    · subst h
      rw [rN_zero]
      constructor
      · intro z
        simp at z
      · rintro ⟨h1, h2⟩
        have := wAt_pos hf (h1 j List.mem_cons_self)
        unfold szR at h2
        rw [List.map_cons, List.sum_cons] at h2
        omega
    · rw [rN_step hf h, List.mem_flatMap]
      have es : szR ws (j :: r) = (wAt ws j).length + szR ws r := by unfold szR; rw [List.map_cons, List.sum_cons]
      constructor
      · rintro ⟨i, hi, hr⟩
        split at hr
        · rename_i hle
          obtain ⟨x, hx, z⟩ := List.mem_map.mp hr
          have z1 := (List.cons.inj z).1
          have z2 := (List.cons.inj z).2
          rw [z1] at hx hle hi
          rw [z2] at hx
          obtain ⟨g1, g2⟩ := (mem_rN hf r _).mp hx
          refine ⟨fun k hk => ?_, by omega⟩
          rcases List.mem_cons.mp hk with rfl | hk
          · exact List.mem_range.mp hi
          · exact g1 k hk
        · cases hr
      · rintro ⟨h1, h2⟩
        refine ⟨j, List.mem_range.mpr (h1 j List.mem_cons_self), ?_⟩
        rw [if_pos (by omega)]
        exact List.mem_map.mpr ⟨r, (mem_rN hf r _).mpr ⟨fun k hk => h1 k (List.mem_cons_of_mem _ hk), by omega⟩, rfl⟩
theorem rN_sorted (hf : Full ws) : ∀ (k n : Nat), n ≤ k → (rN ws n).Pairwise fun a b => a < b
  | k, 0, _ => by rw [rN_zero]; exact List.pairwise_singleton _ _
  | k + 1, n + 1, h => by
    rw [rN_step hf (by omega), List.pairwise_flatMap]
    constructor
    · intro i hi
      have := wAt_pos hf (List.mem_range.mp hi)
      split
      · rw [List.pairwise_map]
        refine (rN_sorted hf k _ (by omega)).imp fun {a b} h => ?_
        rw [List.cons_lt_cons_iff]
        exact .inr ⟨rfl, h⟩
      · exact List.Pairwise.nil
    · refine List.pairwise_lt_range.imp fun {i j} hij x hx y hy => ?_
      split at hx
      · split at hy
        · obtain ⟨a, _, rfl⟩ := List.mem_map.mp hx
          obtain ⟨b, _, rfl⟩ := List.mem_map.mp hy
          rw [List.cons_lt_cons_iff]
          exact .inl hij
        · cases hy
      · cases hx
/-! ### the next index -/
def nx (ws : List Tx) (n : Nat) : List Nat → Nat → Option (Nat × Nat)
  | [], _ => none
  | i :: is, k => if (wAt ws i).length ≤ n then (if k < cn ws (n - (wAt ws i).length) then some (i, k) else nx ws n is (k - cn ws (n - (wAt ws i).length))) else nx ws n is k
theorem nx_ok (n : Nat) : ∀ (is : List Nat) (k : Nat), k < (is.flatMap fun i => if (wAt ws i).length ≤ n then (rN ws (n - (wAt ws i).length)).map (i :: ·) else []).length →
    ∃ i k', nx ws n is k = some (i, k') ∧ i ∈ is ∧ (wAt ws i).length ≤ n ∧ k' < cn ws (n - (wAt ws i).length) ∧
      (is.flatMap fun i => if (wAt ws i).length ≤ n then (rN ws (n - (wAt ws i).length)).map (i :: ·) else [])[k]? = ((rN ws (n - (wAt ws i).length))[k']?).map (i :: ·)
  | [], k, h => by simp at h
  | i :: is, k, h => by
    rw [List.flatMap_cons, List.length_append] at h
    rw [List.flatMap_cons]
    unfold nx
    by_cases h1 : (wAt ws i).length ≤ n
    · rw [if_pos h1] at h ⊢
      rw [if_pos h1]
      rw [List.length_map] at h
      by_cases h2 : k < cn ws (n - (wAt ws i).length)
      · rw [if_pos h2]
        refine ⟨i, k, rfl, List.mem_cons_self, h1, h2, ?_⟩
        rw [List.getElem?_append_left (by rw [List.length_map]; exact h2), List.getElem?_map]
      · rw [if_neg h2]
        obtain ⟨j, k', g1, g2, g3, g4, g5⟩ := nx_ok n is (k - cn ws (n - (wAt ws i).length)) (by
          unfold cn at h2 ⊢
          omega)
        refine ⟨j, k', g1, List.mem_cons_of_mem _ g2, g3, g4, ?_⟩
        rw [List.getElem?_append_right (by rw [List.length_map]; unfold cn at h2; omega), List.length_map]
        exact g5
    · rw [if_neg h1] at h ⊢
      rw [if_neg h1]
      rw [List.length_nil, Nat.zero_add] at h
      obtain ⟨j, k', g1, g2, g3, g4, g5⟩ := nx_ok n is k h
      exact ⟨j, k', g1, List.mem_cons_of_mem _ g2, g3, g4, by rw [List.nil_append]; exact g5⟩
/-- one letter less with each index -/
theorem nx_row (hf : Full ws) {n k : Nat} (h0 : n ≠ 0) (h : k < cn ws n) : ∃ i k' r, nx ws n (List.range ws.length) k = some (i, k') ∧ i < ws.length ∧ (wAt ws i).length ≤ n ∧ (rN ws (n - (wAt ws i).length))[k']? = some r ∧ (rN ws n)[k]? = some (i :: r) := by
  have h' := h
  unfold cn at h'
  rw [rN_step hf h0] at h'
  obtain ⟨i, k', g1, g2, g3, g4, g5⟩ := nx_ok n _ k h'
  have g4' := g4
  unfold cn at g4'
  refine ⟨i, k', _, g1, List.mem_range.mp g2, g3, List.getElem?_eq_getElem g4', ?_⟩
  rw [rN_step hf h0, g5, List.getElem?_eq_getElem g4']
  rfl
/-! ### the place of a row -/
def less (ws : List Tx) (n i : Nat) : Nat := (((List.range i).filter fun o => decide ((wAt ws o).length ≤ n)).map fun o => cn ws (n - (wAt ws o).length)).sum
def pos (ws : List Tx) : Nat → List Nat → Nat
  | _, [] => 0
  | n, i :: r => less ws n i + pos ws (n - (wAt ws i).length) r
theorem nx_less (n : Nat) : ∀ (c s k i k' : Nat), nx ws n (List.range' s c) k = some (i, k') → k + less ws n s = less ws n i + k'
  | 0, s, k, i, k', h => by cases h
  | c + 1, s, k, i, k', h => by
    rw [List.range'_succ] at h
    unfold nx at h
    have el : less ws n (s + 1) = less ws n s + if (wAt ws s).length ≤ n then cn ws (n - (wAt ws s).length) else 0 := by
      unfold less
      rw [List.range_succ, List.filter_append, List.map_append, List.sum_append]
      congr 1
      by_cases h1 : (wAt ws s).length ≤ n
      · rw [if_pos h1, List.filter_cons_of_pos (by simpa using h1)]
        simp
      · rw [if_neg h1, List.filter_cons_of_neg (by simpa using h1)]
        rfl
    by_cases h1 : (wAt ws s).length ≤ n
    · rw [if_pos h1] at h el
      by_cases h2 : k < cn ws (n - (wAt ws s).length)
      · rw [if_pos h2] at h
        cases h
        omega
      · rw [if_neg h2] at h
        have := nx_less n c (s + 1) _ i k' h
        omega
    · rw [if_neg h1] at h el
      have := nx_less n c (s + 1) _ i k' h
      omega
theorem pos_eq (hf : Full ws) : ∀ (m n k : Nat) (r : List Nat), n ≤ m → (rN ws n)[k]? = some r → pos ws n r = k
  | m, 0, k, r, _, h => by
    rw [rN_zero] at h
    have hk := (List.getElem?_eq_some_iff.mp h).1
    simp only [List.length_singleton] at hk
    have : k = 0 := by omega
    subst this
    simp at h
    subst h
    rfl
  | m + 1, n + 1, k, r, hm, h => by
    have hk := (List.getElem?_eq_some_iff.mp h).1
    obtain ⟨i, k', r', g1, g2, g3, g4, g5⟩ := nx_row hf (by omega) (show k < cn ws (n + 1) from hk)
    rw [g5] at h
    cases h
    have hp := wAt_pos hf g2
    have := pos_eq hf m _ k' r' (by omega) g4
    rw [List.range_eq_range'] at g1
    have h3 := nx_less (n + 1) _ 0 k i k' g1
    have h0 : less ws (n + 1) 0 = 0 := rfl
    show less ws (n + 1) i + pos ws _ r' = k
    omega
/-! ### endlessly many rows -/
theorem cn_pos (hf : Full ws) {w : Tx} (hw : w ∈ ws) : ∀ j : Nat, 1 ≤ cn ws (j * w.length)
  | 0 => by rw [Nat.zero_mul, cn_zero]; exact Nat.le_refl _
  | j + 1 => by
    have h1 : 1 ≤ w.length := List.length_pos_iff.mpr (hf w hw)
    have ih := cn_pos hf hw j
    rw [Nat.add_mul, Nat.one_mul, cn_step hf (by omega)]
    have hm : cn ws (j * w.length + w.length - w.length) ∈ ((ws.filter fun u => decide (u.length ≤ j * w.length + w.length)).map fun u => cn ws (j * w.length + w.length - u.length)) :=
      List.mem_map.mpr ⟨w, List.mem_filter.mpr ⟨hw, by rw [decide_eq_true_eq]; omega⟩, rfl⟩
    rw [Nat.add_sub_cancel] at hm
    have : ∀ (l : List Nat) (x : Nat), x ∈ l → x ≤ l.sum := fun l x hx => by
      induction l with
      | nil => cases hx
      | cons a t ih =>
        rw [List.sum_cons]
        rcases List.mem_cons.mp hx with rfl | hx
        · omega
        · have := ih hx; omega
    exact Nat.le_trans ih (this _ _ hm)
theorem pre_far (hf : Full ws) {w : Tx} (hw : w ∈ ws) : ∀ j : Nat, j ≤ pre ws (j * w.length)
  | 0 => Nat.zero_le _
  | j + 1 => by
    have h1 : 1 ≤ w.length := List.length_pos_iff.mpr (hf w hw)
    have ih := pre_far hf hw j
    have hc := cn_pos hf hw j
    have e := pre_succ (ws := ws) (j * w.length)
    have := pre_mono (ws := ws) (s := j * w.length + 1) (t := (j + 1) * w.length) (by rw [Nat.add_mul, Nat.one_mul]; omega)
    omega
end PF.K90

/-! Plain Lean: dicts step by step; sets of texts as dicts; loops by folds. -/
namespace PF
section
variable {Φ : Nat → List D → R (Bool × D)} {W : Nat}
@[simp] theorem x_setD (j : Nat) (k e : CE) (env : Env) : exec Φ W (.setD j k e) env = (evalE Φ e env >>= fun x => escV x >>= fun d => (match env[j]? with
    | some (some (true, o)) => evalE Φ k env >>= fun y => lift (putD o y.2 d) >>= fun o' => .ok (.nx (env.set j (some (true, o'))))
    | _ => .stuck)) := Eq.trans rfl rfl
@[simp] theorem x_lk (j : Nat) (s : CS) (env : Env) : exec Φ W (.lk j s) env = (match env[j]? with
    | some (some (true, d)) => exec Φ W s (env.set j (some (true, lockD d)))
    | some (some (false, _)) => exec Φ W s env
    | _ => .stuck) := Eq.trans rfl rfl
@[simp] theorem e_dnew (env : Env) : evalE Φ .dnew env = .ok (.fr, .dct false [] []) := Eq.trans rfl rfl
@[simp] theorem e_dct1 (k v : CE) (env : Env) : evalE Φ (.dct1 k v) env = (evalE Φ k env >>= fun x => evalE Φ v env >>= fun y => escV y >>= fun d => lift x.2.key >>= fun q => .ok (.fr, .dct false [q] [d])) := Eq.trans rfl rfl
@[simp] theorem e_dgt (a k e : CE) (env : Env) : evalE Φ (.dgt a k e) env = (evalE Φ a env >>= fun x => lift (dctOn x.2) >>= fun _ => evalE Φ k env >>= fun y => evalE Φ e env >>= fun z => escV z >>= fun w => lift (getD' x.2 y.2) >>= fun r => .ok (.pl, r.getD w)) := Eq.trans rfl rfl
@[simp] theorem e_lkE (e : CE) (env : Env) : evalE Φ (.lkE e) env = (evalE Φ e env >>= fun x => if x.1 = .fr then .ok (.fr, lockD x.2) else if x.1 = .pl then .ok (.pl, x.2) else .stuck) := Eq.trans rfl rfl
def bodyDc (Φ : Nat → List D → R (Bool × D)) (t : List Nat) (c : CO) (k e : CE) (env : Env) : D → R (Option (Ke × D)) := fun x => calm (bindT t x (wipeE env t) >>= fun env' => evalC Φ c env' >>= fun b => if b then evalE Φ k env' >>= fun q => evalE Φ e env' >>= fun y => lift q.2.key >>= fun q => escV y >>= fun d => .ok (some (q, d)) else .ok none)
def putAll (kvs : List (Ke × D)) (ps : List (Ke × D)) : List (Ke × D) := ps.foldl (fun kvs p => putL kvs p.1 p.2) kvs
@[simp] theorem e_dc (t : List Nat) (it : CI) (c : CO) (k e : CE) (env : Env) : evalE Φ (.dc t it c k e) env = (evalI Φ it env >>= fun w => lift (if w.2.length ≤ SZ then some () else none) >>= fun _ => lcGo (bodyDc Φ t c k e env) w.2 >>= fun ys => .ok (.fr, dicD false (putAll [] ys))) := Eq.trans rfl rfl
@[simp] theorem e_revL (a : CE) (env : Env) : evalE Φ (.revl a) env = (evalE Φ a env >>= fun x => match x.2 with
    | .lst ds => .ok (.fr, .lst ds.reverse)
    | _ => .stuck) := Eq.trans rfl rfl
@[simp] theorem it_dct (ks : List Ke) (vs : List D) : itemsOf .dict (.dct true ks vs) = .ok (ks.map Ke.d) := Eq.trans rfl rfl
@[simp] theorem b_lenD (lk : Bool) (ks : List Ke) (vs : List D) : builtin .len [.dct lk ks vs] = some (.pl, .int ks.length) := Eq.trans rfl rfl
@[simp] theorem b_listD (lk : Bool) (ks : List Ke) (vs : List D) : builtin .list [.dct lk ks vs] = some (.fr, .lst (ks.map Ke.d)) := Eq.trans rfl rfl
@[simp] theorem b_bestd (mx : Bool) (ds : List D) (x : D) : builtin (.bestd mx) [.lst ds, x] = (if ds.isEmpty then (if x.flat then some (.pl, x) else none) else (bestD mx ds).map fun d => (.pl, d)) := Eq.trans rfl rfl
@[simp] theorem b_best (mx : Bool) (ds : List D) : builtin (.best mx) [.lst ds] = (bestD mx ds).map fun d => (.pl, d) := Eq.trans rfl rfl
end
theorem lcGo_mapA {α : Type} {g : D → R (Option α)} {f : D → α} : ∀ {xs : List D}, (∀ x ∈ xs, g x = .ok (some (f x))) → lcGo g xs = .ok (xs.map f)
  | [], _ => rfl
  | x :: r, h => by
    show (g x >>= _) = _
    rw [h x List.mem_cons_self]
    show (lcGo g r >>= _) = _
    rw [lcGo_mapA fun y hy => h y (List.mem_cons_of_mem _ hy)]
    rfl
/-- a comprehension over data told by γ -/
theorem lcGo_emb {α γ : Type} {g : D → R (Option α)} (emb : γ → D) (f : γ → Option α) : ∀ (xs : List γ), (∀ x ∈ xs, g (emb x) = .ok (f x)) → lcGo g (xs.map emb) = .ok (xs.filterMap f)
  | [], _ => rfl
  | x :: r, h => by
    rw [List.map_cons]
    show (g (emb x) >>= _) = _
    rw [h x List.mem_cons_self]
    show (lcGo g (r.map emb) >>= _) = _
    rw [lcGo_emb emb f r fun y hy => h y (List.mem_cons_of_mem _ hy)]
    cases hf : f x with
    | none => rw [List.filterMap_cons_none hf]; rfl
    | some y => rw [List.filterMap_cons_some hf]; rfl
theorem fm_if {α β : Type} (p : α → Prop) [DecidablePred p] (f : α → β) : ∀ l : List α, (l.filterMap fun x => if p x then some (f x) else none) = (l.filter fun x => decide (p x)).map f
  | [] => rfl
  | x :: l => by
    by_cases h : p x
    · rw [List.filterMap_cons_some (by rw [if_pos h]), List.filter_cons_of_pos (by simp [h]), fm_if p f l, List.map_cons]
    · rw [List.filterMap_cons_none (by rw [if_neg h]), List.filter_cons_of_neg (by simp [h]), fm_if p f l]
theorem fm_ifn {α β : Type} (p : α → Prop) [DecidablePred p] (f : α → β) : ∀ l : List α, (l.filterMap fun x => if p x then none else some (f x)) = (l.filter fun x => !decide (p x)).map f
  | [] => rfl
  | x :: l => by
    by_cases h : p x
    · rw [List.filterMap_cons_none (by rw [if_pos h]), List.filter_cons_of_neg (by simp [h]), fm_ifn p f l]
    · rw [List.filterMap_cons_some (by rw [if_neg h]), List.filter_cons_of_pos (by simp [h]), fm_ifn p f l, List.map_cons]
/-- a loop that builds up one thing -/
theorem forGo_fold {α β γ : Type} {g : D → Env → R Out} (mk : α → β → Env) (f : α → γ → α) (emb : γ → D) (sz : α → Nat) (w : γ → Nat) (B : Nat) (hsz : ∀ a x, sz (f a x) ≤ sz a + w x) :
    ∀ (xs : List γ), (∀ a b x, x ∈ xs → sz a + w x ≤ B → ∃ b', g (emb x) (mk a b) = .ok (.nx (mk (f a x) b'))) → ∀ a b, sz a + (xs.map w).sum ≤ B → ∃ b', forGo g (xs.map emb) (mk a b) = .ok (.nx (mk (xs.foldl f a) b'))
  | [], _, a, b, _ => ⟨b, rfl⟩
  | x :: r, st, a, b, h => by
    rw [List.map_cons, List.sum_cons] at h
    obtain ⟨b1, h1⟩ := st a b x List.mem_cons_self (by omega)
    have h2 := hsz a x
    obtain ⟨b2, h3⟩ := forGo_fold mk f emb sz w B hsz r (fun a b y hy => st a b y (List.mem_cons_of_mem _ hy)) (f a x) b1 (by omega)
    refine ⟨b2, ?_⟩
    rw [List.map_cons]
    show (g (emb x) (mk a b) >>= _) = _
    rw [h1]
    exact h3
theorem rangeI_nat (lo n : Nat) : rangeI (lo : Nat) n = (List.range' lo n).map fun i => .int (i : Nat) := by
  unfold rangeI
  rw [List.range'_eq_map_range, List.map_map]
  refine List.map_congr_left fun i _ => ?_
  show D.int ((lo : Nat) + (i : Nat)) = D.int (((lo + i : Nat)) : Int)
  rw [Int.natCast_add]
theorem sum_ones {γ : Type} (xs : List γ) : (xs.map fun _ => 1).sum = xs.length := by
  induction xs with
  | nil => rfl
  | cons x xs ih => rw [List.map_cons, List.sum_cons, ih, List.length_cons]; omega
theorem sum_const {γ : Type} (c : Nat) (xs : List γ) : (xs.map fun _ => c).sum = c * xs.length := by
  induction xs with
  | nil => rfl
  | cons x xs ih => rw [List.map_cons, List.sum_cons, ih, List.length_cons, Nat.mul_add]; omega
/-! ### sets of texts -/
def dicT (lk : Bool) (ws : List Tx) : D := .dct lk (ws.map Ke.s) (ws.map fun _ => D.bl true)
/-- put at the end, if it is not there -/
def dd (acc : List Tx) (x : Tx) : List Tx := if x ∈ acc then acc else acc ++ [x]
theorem dd_len (acc : List Tx) (x : Tx) : (dd acc x).length ≤ acc.length + 1 := by
  unfold dd
  split <;> simp
theorem zip_T (ws : List Tx) : (ws.map Ke.s).zip (ws.map fun _ => D.bl true) = ws.map fun w => (Ke.s w, D.bl true) := by
  induction ws with
  | nil => rfl
  | cons w ws ih => rw [List.map_cons, List.map_cons, List.zip_cons_cons, ih, List.map_cons]
theorem any_T (ws : List Tx) (x : Tx) : ((ws.map fun w => (Ke.s w, D.bl true)).any fun kv => decide (kv.1 = Ke.s x)) = decide (x ∈ ws) := by
  rw [Bool.eq_iff_iff, List.any_eq_true, decide_eq_true_eq]
  constructor
  · rintro ⟨p, h1, h2⟩
    obtain ⟨w, h3, rfl⟩ := List.mem_map.mp h1
    have := of_decide_eq_true h2
    cases this
    exact h3
  · intro h
    exact ⟨_, List.mem_map.mpr ⟨x, h, rfl⟩, by simp⟩
theorem putL_T (ws : List Tx) (x : Tx) : putL (ws.map fun w => (Ke.s w, D.bl true)) (.s x) (.bl true) = (dd ws x).map fun w => (Ke.s w, D.bl true) := by
  unfold putL dd
  rw [any_T]
  by_cases h : x ∈ ws
  · rw [if_pos (decide_eq_true h), if_pos h, List.map_map]
    refine List.map_congr_left fun w _ => ?_
    show (if Ke.s w = Ke.s x then (Ke.s w, D.bl true) else (Ke.s w, D.bl true)) = _
    split <;> rfl
  · rw [if_neg (by simpa using h), if_neg h, List.map_append]
    rfl
theorem dicD_T (lk : Bool) (ws : List Tx) : dicD lk (ws.map fun w => (Ke.s w, D.bl true)) = dicT lk ws := by
  unfold dicD dicT
  rw [List.map_map, List.map_map]
  rfl
theorem put_T (ws : List Tx) (x : Tx) (h : ws.length < SZ) : putD (dicT false ws) (.str x) (.bl true) = some (dicT false (dd ws x)) := by
  unfold dicT
  simp only [putD, List.length_map]
  rw [if_pos h, zip_T]
  simp only [D.key, Option.map_some]
  rw [putL_T, dicD_T]
  rfl
theorem putAll_T : ∀ (xs ws : List Tx), putAll (ws.map fun w => (Ke.s w, D.bl true)) (xs.map fun w => (Ke.s w, D.bl true)) = (xs.foldl dd ws).map fun w => (Ke.s w, D.bl true)
  | [], ws => rfl
  | x :: xs, ws => by
    have ih := putAll_T xs (dd ws x)
    unfold putAll at ih ⊢
    rw [List.map_cons, List.foldl_cons, putL_T, ih, List.foldl_cons]
theorem list_T (lk : Bool) (ws : List Tx) : builtin .list [dicT lk ws] = some (.fr, .lst (ws.map .str)) := by
  unfold dicT
  rw [b_listD, List.map_map]
  rfl
theorem get_T (ws : List Tx) (x : Tx) : getL ((ws.map Ke.s).zip (ws.map fun _ => D.bl true)) (.s x) = if x ∈ ws then some (.bl true) else none := by
  rw [zip_T]
  unfold getL
  induction ws with
  | nil => rfl
  | cons w ws ih =>
    rw [List.map_cons, List.find?_cons]
    by_cases h : w = x
    · subst h
      simp
    · rw [decide_eq_false (fun z => h (Ke.s.inj z))]
      simp only [List.mem_cons]
      rw [ih]
      simp [show ¬ x = w from fun z => h z.symm]
theorem in_T (lk : Bool) (ws : List Tx) (x : Tx) : cmpD .in_ (.str x) (dicT lk ws) = some (decide (x ∈ ws)) := by
  show inD (.str x) (dicT lk ws) = _
  unfold dicT
  simp only [inD, getD', D.key, Option.map_some]
  rw [get_T]
  split <;> simp [*]
theorem notin_T (lk : Bool) (ws : List Tx) (x : Tx) : cmpD .notin (.str x) (dicT lk ws) = some (!decide (x ∈ ws)) := by
  show (inD (.str x) (dicT lk ws)).map _ = _
  rw [show inD (.str x) (dicT lk ws) = some (decide (x ∈ ws)) from in_T lk ws x]
  rfl
theorem lock_T (lk : Bool) (ws : List Tx) : lockD (dicT lk ws) = dicT true ws := rfl
/-! ### what dd gathers -/
theorem mem_dd {acc : List Tx} {x w : Tx} : w ∈ dd acc x ↔ w ∈ acc ∨ w = x := by
  unfold dd
  split
  · rename_i h
    exact ⟨.inl, fun z => z.elim id fun e => e ▸ h⟩
  · simp
theorem mem_dds : ∀ {xs acc : List Tx} {w : Tx}, w ∈ xs.foldl dd acc ↔ w ∈ acc ∨ w ∈ xs
  | [], acc, w => by simp
  | x :: xs, acc, w => by
    rw [List.foldl_cons, mem_dds, mem_dd, List.mem_cons]
    exact ⟨fun h => h.elim (fun q => q.elim .inl fun e => .inr (.inl e)) fun q => .inr (.inr q), fun h => h.elim (fun q => .inl (.inl q)) fun q => q.elim (fun e => .inl (.inr e)) .inr⟩
theorem nd_dd {acc : List Tx} {x : Tx} (h : acc.Nodup) : (dd acc x).Nodup := by
  unfold dd
  split
  · exact h
  · rename_i hx
    rw [List.nodup_append]
    exact ⟨h, by simp, fun a ha b hb => by simp at hb; subst hb; exact fun e => hx (e ▸ ha)⟩
theorem nd_dds : ∀ {xs acc : List Tx}, acc.Nodup → (xs.foldl dd acc).Nodup
  | [], _, h => h
  | x :: xs, acc, h => by rw [List.foldl_cons]; exact nd_dds (nd_dd h)
theorem dds_len : ∀ {xs acc : List Tx}, (xs.foldl dd acc).length ≤ acc.length + xs.length
  | [], acc => by simp
  | x :: xs, acc => by
    have h1 := dds_len (xs := xs) (acc := dd acc x)
    have h2 := dd_len acc x
    rw [List.foldl_cons, List.length_cons]
    omega
/-- in the short order, each once -/
def shortD (xs : List Tx) : List Tx := (xs.foldl dd []).mergeSort leK
theorem shortD_mem {xs : List Tx} {w : Tx} : w ∈ shortD xs ↔ w ∈ xs := by
  unfold shortD
  rw [List.mem_mergeSort, mem_dds]
  simp
theorem shortD_nd (xs : List Tx) : (shortD xs).Nodup := (List.mergeSort_perm _ _).nodup_iff.mpr (nd_dds List.nodup_nil)
theorem shortD_len (xs : List Tx) : (shortD xs).length ≤ xs.length := by
  unfold shortD
  rw [List.length_mergeSort]
  have := dds_len (xs := xs) (acc := [])
  simpa using this
theorem shortD_asc (xs : List Tx) : Asc (shortD xs) := List.pairwise_mergeSort (fun a b c => leK_trans a b c) (fun a b => leK_total a b) _
theorem sortK_of (ws : List Tx) (h : ∀ w ∈ ws, w.length ≤ SZ) : builtin .sortK [.lst (ws.map .str)] = some (.fr, .lst ((ws.mergeSort leK).map .str)) := by
  show (strsOf _).bind _ = _
  rw [strsOf_map]
  show (if _ then _ else _) = _
  rw [if_pos]
  rw [List.all_eq_true]
  intro w hw
  exact decide_eq_true (h w hw)
end PF

/-! offsets, moves_from, first_moves, steps_from; the same by plain reading. -/
namespace PF
theorem len_SZ {n : Nat} (h : n ≤ 1000) : n ≤ SZ := by unfold SZ; omega
theorem foldl_app {α β : Type} (f : β → List α) : ∀ (xs : List β) (acc : List α), xs.foldl (fun a x => a ++ f x) acc = acc ++ xs.flatMap f
  | [], acc => by simp
  | x :: xs, acc => by rw [List.foldl_cons, foldl_app f xs, List.flatMap_cons, List.append_assoc]
section
variable {Φ : Nat → List D → R (Bool × D)} {W : Nat}
/-! ### begins, short_sorted -/
def fnBegins : FnD := ⟨2, 2, [.ret (.cmp .eq (.slc (.var 1) .no (.yes (.bi .len [.var 0]))) (.var 0))]⟩
def beg (b w : Tx) : Bool := decide (w.take b.length = b)
theorem begins_ok (b w : Tx) (hb : b.length ≤ 1000) (hw : w.length ≤ 1000) : runBody Φ W fnBegins [.str b, .str w] = .ok (false, .bl (beg b w)) := by
  have h1 := len_SZ hb
  have h2 := len_SZ hw
  have s1 := slc_to h2 b.length
  have e : (List.take b.length w == b) = beg b w := by
    unfold beg
    rw [Bool.eq_iff_iff]
    simp
  simp [fnBegins, h1, s1, e]
def fnSorted : FnD := ⟨1, 1, [.ret (.bi .sortK [.var 0])]⟩
theorem sorted_okK (ws : List Tx) (h : ∀ w ∈ ws, w.length ≤ 1000) : runBody Φ W fnSorted [.lst (ws.map .str)] = .ok (true, .lst ((ws.mergeSort leK).map .str)) := by
  have h1 := sortK_of ws fun w hw => len_SZ (h w hw)
  simp [fnSorted, h1]
/-! ### offsets -/
def sufs (w : Tx) : List Tx := (List.range' 1 (w.length - 1)).map fun s => w.drop s
theorem sufs_len (w : Tx) : (sufs w).length ≤ w.length := by
  unfold sufs
  simp
def offL (ws : List Tx) : List Tx := [] :: ws.flatMap sufs
/-- the offsets, in the short order -/
def offW (ws : List Tx) : List Tx := shortD (offL ws)
theorem mem_sufs {w s : Tx} : s ∈ sufs w ↔ ∃ u, u ≠ [] ∧ s ≠ [] ∧ u ++ s = w := by
  unfold sufs
  simp only [List.mem_map, List.mem_range'_1]
  constructor
  · rintro ⟨i, ⟨h1, h2⟩, rfl⟩
    refine ⟨w.take i, fun z => ?_, fun z => ?_, List.take_append_drop i w⟩
    · have := congrArg List.length z
      rw [List.length_take, List.length_nil] at this
      omega
    · have := congrArg List.length z
      rw [List.length_drop, List.length_nil] at this
      omega
  · rintro ⟨u, h1, h2, rfl⟩
    have h3 := List.length_pos_iff.mpr h1
    have h4 := List.length_pos_iff.mpr h2
    exact ⟨u.length, by rw [List.length_append]; omega, by simp⟩
theorem offL_small {ws : List Tx} {n : Nat} (h : ∀ w ∈ ws, w.length ≤ n) : ∀ s ∈ offL ws, s.length ≤ n := by
  intro s hs
  rcases List.mem_cons.mp hs with e | hs
  · subst e; simp
  · obtain ⟨w, hw, h1⟩ := List.mem_flatMap.mp hs
    obtain ⟨u, _, _, rfl⟩ := mem_sufs.mp h1
    have := h _ hw
    rw [List.length_append] at this
    omega
def offsIn : List CS := [.setD 1 (.slc (.var 2) (.yes (.var 3)) .no) (.cst (.bl true))]
def fnOffsets (iS : Nat) : FnD := ⟨1, 4, [.asg 1 (.dct1 (.cst (.str [])) (.cst (.bl true))),
  .for_ [2] (.seq .tuple (.idx (.var 0) (.cst (.int 1)))) [.for_ [3] (.rg2 (.cst (.int 1)) (.bi .len [.var 2])) offsIn],
  .ret (.call iS [.bi .list [.var 1]])]⟩
theorem dds_suf (w : Tx) (acc : List Tx) : (List.range' 1 (w.length - 1)).foldl (fun a s => dd a (w.drop s)) acc = (sufs w).foldl dd acc := by
  unfold sufs
  rw [List.foldl_map]
theorem range_ok {w : Tx} (h : w.length ≤ 1000) : rgOk (w.length : Int) = true := rgOk_len (len_SZ h)
theorem range_1 (w : Tx) : rangeI 1 (w.length - 1) = (List.range' 1 (w.length - 1)).map fun i => .int (i : Nat) := by
  rw [← rangeI_nat]
  rfl
theorem offsets_ok {iS : Nat} (m : Nat) (ws : List Tx) (hw : ∀ w ∈ ws, w.length ≤ 1000) (hz : (ws.map List.length).sum ≤ 9000)
    (hS : ∀ vs : List Tx, (∀ v ∈ vs, v.length ≤ 1000) → Φ iS [.lst (vs.map .str)] = .ok (true, .lst ((vs.mergeSort leK).map .str))) :
    runBody Φ W (fnOffsets iS) [dBook m ws] = .ok (true, .lst ((offW ws).map .str)) := by
  obtain ⟨b, h1⟩ := forGo_fold (g := bodyFor Φ W [2] [.for_ [3] (.rg2 (.cst (.int 1)) (.bi .len [.var 2])) offsIn])
    (fun (acc : List Tx) (b : Option Slot × Option Slot) => [some (false, dBook m ws), some (true, dicT false acc), b.1, b.2]) (fun acc w => (sufs w).foldl dd acc) D.str List.length List.length 90000
    (fun a x => by have h1 := dds_len (xs := sufs x) (acc := a); have h2 := sufs_len x; omega) ws (by
      rintro acc ⟨l2, l3⟩ w hw1 hsz
      have hl := hw w hw1
      obtain ⟨b', h2⟩ := forGo_fold (g := bodyFor Φ W [3] offsIn) (fun (acc : List Tx) (b : Option Slot) => [some (false, dBook m ws), some (true, dicT false acc), some (false, .str w), b]) (fun acc s => dd acc (w.drop s)) (fun i : Nat => D.int i) List.length (fun _ => 1) 95000
        (fun a x => dd_len a _) (List.range' 1 (w.length - 1)) (by
          intro acc b s hs hsz
          refine ⟨some (false, .int (s : Nat)), ?_⟩
          have s1 := slc_from (len_SZ hl) s
          have p1 := put_T acc (w.drop s) (by unfold SZ; omega)
          simp [bodyFor, bindT, offsIn, s1, p1]) acc l3 (by rw [sum_ones]; simp; omega)
      rw [← range_1, dds_suf] at h2
      refine ⟨(some (false, .str w), b'), ?_⟩
      have hr := range_ok hl
      have hr1 : rgOk 1 = true := by decide
      have hz := len_SZ hl
      simp [bodyFor, bindT, hr, hr1, hz, h2]) [[]] (none, none) (by simp; omega)
  have e1 : ws.foldl (fun acc w => (sufs w).foldl dd acc) [[]] = (offL ws).foldl dd [] := by
    unfold offL
    rw [List.foldl_cons, List.foldl_flatMap]
    rfl
  rw [e1] at h1
  have e2 : ∀ v ∈ (offL ws).foldl dd [], v.length ≤ 1000 := fun v hv => offL_small hw v (by simpa using mem_dds.mp hv)
  have hS' := hS _ e2
  have b1 := b1_at m ws
  have l1 := list_T false ((offL ws).foldl dd [])
  have d0 : D.dct false [.s []] [.bl true] = dicT false [[]] := rfl
  have k0 : (D.str []).key = some (.s []) := rfl
  rw [show offW ws = ((offL ws).foldl dd []).mergeSort leK from rfl]
  generalize hbk : dBook m ws = B at *
  generalize (offL ws).foldl dd [] = L at *
  simp [fnOffsets, k0, d0, b1, h1, l1, hS']
/-! ### moves -/
abbrev Mv := Nat × Tx × Bool
def mvD (x : Mv) : D := .tup [.int (x.1 : Nat), .str x.2.1, .bl x.2.2]
/-- from the empty word -/
def fmv (ws : List Tx) (i : Nat) : List Mv := ws.flatMap fun o => if o ≠ wAt ws i ∧ beg (wAt ws i) o = true then [(i, o.drop (wAt ws i).length, false)] else []
def mv (ws : List Tx) (s : Tx) (i : Nat) : List Mv := if beg s (wAt ws i) then [(i, (wAt ws i).drop s.length, true)] else if beg (wAt ws i) s then [(i, s.drop (wAt ws i).length, false)] else []
def movesW (ws : List Tx) (s : Tx) : List Mv := if s = [] then (List.range ws.length).flatMap (fmv ws) else (List.range ws.length).flatMap (mv ws s)
def frIn (iB : Nat) : List CS := [.ife (.and (.cmp .ne (.var 3) (.idx (.idx (.var 0) (.cst (.int 1))) (.var 2))) (.call iB [.idx (.idx (.var 0) (.cst (.int 1))) (.var 2), .var 3])) [.app 1 (.tup [.var 2, .slc (.var 3) (.yes (.bi .len [.idx (.idx (.var 0) (.cst (.int 1))) (.var 2)])) .no, .cst (.bl false)])] []]
def fnFrom (iB : Nat) : FnD := ⟨1, 4, [.asg 1 (.lst []),
  .for_ [2] (.rg1 (.bi .len [.idx (.var 0) (.cst (.int 1))])) [.for_ [3] (.seq .tuple (.idx (.var 0) (.cst (.int 1)))) (frIn iB)],
  .retV 1]⟩
theorem flat_le {α β : Type} (f : β → List α) (c : Nat) (h : ∀ x, (f x).length ≤ c) : ∀ xs : List β, (xs.flatMap f).length ≤ c * xs.length
  | [] => by simp
  | x :: xs => by
    have := flat_le f c h xs
    have := h x
    rw [List.flatMap_cons, List.length_append, List.length_cons, Nat.mul_add]
    omega
theorem fmv1_len (ws : List Tx) (i : Nat) (o : Tx) : (if o ≠ wAt ws i ∧ beg (wAt ws i) o = true then [((i, o.drop (wAt ws i).length, false) : Mv)] else []).length ≤ 1 := by split <;> simp
theorem mv_len (ws : List Tx) (s : Tx) (i : Nat) : (mv ws s i).length ≤ 1 := by
  unfold mv
  split
  · simp
  · split <;> simp
theorem from_ok {iB : Nat} (m : Nat) (ws : List Tx) (hw : ∀ w ∈ ws, w.length ≤ 1000) (hn : ws.length ≤ 200)
    (hB : ∀ b w : Tx, b.length ≤ 1000 → w.length ≤ 1000 → Φ iB [.str b, .str w] = .ok (false, .bl (beg b w))) :
    runBody Φ W (fnFrom iB) [dBook m ws] = .ok (true, .lst ((movesW ws []).map mvD)) := by
  have b1 := b1_at m ws
  obtain ⟨b, h1⟩ := forGo_fold (g := bodyFor Φ W [2] [.for_ [3] (.seq .tuple (.idx (.var 0) (.cst (.int 1)))) (frIn iB)])
    (fun (acc : List Mv) (b : Option Slot × Option Slot) => [some (false, dBook m ws), some (true, .lst (acc.map mvD)), b.1, b.2]) (fun acc i => acc ++ fmv ws i) (fun i : Nat => D.int i) List.length (fun _ => 200) 90000
    (fun a i => by
      have := flat_le (fun o => if o ≠ wAt ws i ∧ beg (wAt ws i) o = true then [((i, o.drop (wAt ws i).length, false) : Mv)] else []) 1 (fmv1_len ws i) ws
      rw [List.length_append]
      show a.length + (ws.flatMap _).length ≤ _
      omega) (List.range ws.length) (by
      rintro acc ⟨l2, l3⟩ i hi hsz
      have hi' : i < ws.length := List.mem_range.mp hi
      have ix := bw_at hi'
      have hp := hw _ (wAt_mem hi')
      obtain ⟨b', h2⟩ := forGo_fold (g := bodyFor Φ W [3] (frIn iB)) (fun (acc : List Mv) (b : Option Slot) => [some (false, dBook m ws), some (true, .lst (acc.map mvD)), some (false, .int (i : Nat)), b]) (fun acc o => acc ++ if o ≠ wAt ws i ∧ beg (wAt ws i) o = true then [((i, o.drop (wAt ws i).length, false) : Mv)] else []) D.str List.length (fun _ => 1) 95000
        (fun a x => by rw [List.length_append]; have := fmv1_len ws i x; omega) ws (by
          intro acc b o ho hsz
          refine ⟨some (false, .str o), ?_⟩
          have hl := hw o ho
          have bb := hB (wAt ws i) o hp hl
          have s1 := slc_from (len_SZ hl) (wAt ws i).length
          have hz := len_SZ hp
          have ha : acc.length < SZ := by unfold SZ; omega
          have ln : builtin .len [.str (wAt ws i)] = some (.pl, .int (wAt ws i).length) := b_lenS hz
          generalize wAt ws i = x at *
          generalize dBook m ws = B at *
          by_cases h1 : o = x
          · simp [bodyFor, bindT, frIn, b1, ix, h1]
          · by_cases h2 : beg x o = true
            · rw [h2] at bb
              simp [bodyFor, bindT, frIn, b1, ix, h1, bb, ln, s1, ownL, ha, mvD, h2]
            · rw [Bool.not_eq_true] at h2
              rw [h2] at bb
              simp [bodyFor, bindT, frIn, b1, ix, h1, bb, h2]) acc l3 (by rw [sum_ones]; omega)
      rw [foldl_app] at h2
      refine ⟨(some (false, .int (i : Nat)), b'), ?_⟩
      show _ = R.ok (Out.nx [some (false, dBook m ws), some (true, .lst ((acc ++ fmv ws i).map mvD)), _, _])
      unfold fmv
      generalize dBook m ws = B at *
      simp only [List.map_append] at h2 ⊢
      simp [bodyFor, bindT, b1, h2]) [] (none, none) (by
        rw [sum_const, List.length_range, List.length_nil]
        omega)
  rw [foldl_app, List.nil_append, ← ranges_eq, List.map_nil] at h1
  have hr : rgOk (ws.length : Int) = true := rgOk_len (by unfold SZ; omega)
  unfold movesW
  rw [if_pos rfl]
  generalize dBook m ws = B at *
  generalize (List.range ws.length).flatMap (fmv ws) = L at *
  simp [fnFrom, b1, hr, h1]
def mvIn (iB : Nat) : List CS := [.asg 4 (.idx (.idx (.var 0) (.cst (.int 1))) (.var 3)),
    .ife (.call iB [.var 1, .var 4]) [.app 2 (.tup [.var 3, .slc (.var 4) (.yes (.bi .len [.var 1])) .no, .cst (.bl true)])] [.ife (.call iB [.var 4, .var 1]) [.app 2 (.tup [.var 3, .slc (.var 1) (.yes (.bi .len [.var 4])) .no, .cst (.bl false)])] []]]
def fnMoves (iF iB : Nat) : FnD := ⟨2, 5, [.ife (.cmp .eq (.var 1) (.cst (.str []))) [.ret (.call iF [.var 0])] [],
  .asg 2 (.lst []),
  .for_ [3] (.rg1 (.bi .len [.idx (.var 0) (.cst (.int 1))])) (mvIn iB),
  .retV 2]⟩
theorem moves_ok {iF iB : Nat} (m : Nat) (ws : List Tx) (s : Tx) (hw : ∀ w ∈ ws, w.length ≤ 1000) (hn : ws.length ≤ 200) (hs : s.length ≤ 1000)
    (hF : Φ iF [dBook m ws] = .ok (true, .lst ((movesW ws []).map mvD)))
    (hB : ∀ b w : Tx, b.length ≤ 1000 → w.length ≤ 1000 → Φ iB [.str b, .str w] = .ok (false, .bl (beg b w))) :
    runBody Φ W (fnMoves iF iB) [dBook m ws, .str s] = .ok (true, .lst ((movesW ws s).map mvD)) := by
  have b1 := b1_at m ws
  by_cases h0 : s = []
  · subst h0
    generalize dBook m ws = B at *
    simp [fnMoves, hF]
  · obtain ⟨b, h1⟩ := forGo_fold (g := bodyFor Φ W [3] (mvIn iB))
      (fun (acc : List Mv) (b : Option Slot × Option Slot) => [some (false, dBook m ws), some (false, .str s), some (true, .lst (acc.map mvD)), b.1, b.2]) (fun acc i => acc ++ mv ws s i) (fun i : Nat => D.int i) List.length (fun _ => 1) 90000
      (fun a i => by
        have := mv_len ws s i
        rw [List.length_append]
        omega) (List.range ws.length) (by
        rintro acc ⟨l2, l3⟩ i hi hsz
        have hi' : i < ws.length := List.mem_range.mp hi
        have ix := bw_at hi'
        have hp := hw _ (wAt_mem hi')
        have c1 := hB s (wAt ws i) hs hp
        have c2 := hB (wAt ws i) s hp hs
        have s1 := slc_from (len_SZ hp) s.length
        have s2 := slc_from (len_SZ hs) (wAt ws i).length
        have hz := len_SZ hp
        have hz2 := len_SZ hs
        have ha : acc.length < SZ := by unfold SZ; omega
        have ln : builtin .len [.str (wAt ws i)] = some (.pl, .int (wAt ws i).length) := b_lenS hz
        have ln2 : builtin .len [.str s] = some (.pl, .int s.length) := b_lenS hz2
        refine ⟨(some (false, .int (i : Nat)), some (false, .str (wAt ws i))), ?_⟩
        show _ = R.ok (Out.nx [some (false, dBook m ws), some (false, .str s), some (true, .lst ((acc ++ mv ws s i).map mvD)), _, _])
        unfold mv
        generalize wAt ws i = x at *
        generalize dBook m ws = B at *
        by_cases q1 : beg s x = true
        · rw [q1] at c1
          simp [bodyFor, bindT, mvIn, b1, ix, c1, ln2, s1, ownL, ha, mvD, q1]
        · rw [Bool.not_eq_true] at q1
          rw [q1] at c1
          by_cases q2 : beg x s = true
          · rw [q2] at c2
            simp [bodyFor, bindT, mvIn, b1, ix, c1, c2, ln, s2, ownL, ha, mvD, q1, q2]
          · rw [Bool.not_eq_true] at q2
            rw [q2] at c2
            simp [bodyFor, bindT, mvIn, b1, ix, c1, c2, q1, q2]) [] (none, none) (by
        rw [sum_const, List.length_range, List.length_nil]
        omega)
    rw [foldl_app, List.nil_append, ← ranges_eq, List.map_nil] at h1
    have hr : rgOk (ws.length : Int) = true := rgOk_len (by unfold SZ; omega)
    unfold movesW
    rw [if_neg h0]
    generalize dBook m ws = B at *
    generalize (List.range ws.length).flatMap (mv ws s) = L at *
    simp [fnMoves, h0, b1, hr, h1]
/-! ### steps -/
def fnSteps (iM iS : Nat) : FnD := ⟨2, 6, [.asg 2 (.dc [3, 4, 5] (.seq .list (.call iM [.var 0, .var 1])) .no (.var 4) (.cst (.bl true))),
  .ret (.call iS [.bi .list [.var 2]])]⟩
def stepL (ws : List Tx) (s : Tx) : List Tx := (movesW ws s).map (·.2.1)
/-- the offsets that a step leads to, in the short order -/
def stepW (ws : List Tx) (s : Tx) : List Tx := shortD (stepL ws s)
theorem fmv_flat (ws : List Tx) (n : Nat) : (List.range n).flatMap (fmv ws) = (List.range n).flatMap fun i => ws.flatMap fun o => if o ≠ wAt ws i ∧ beg (wAt ws i) o = true then [(i, o.drop (wAt ws i).length, false)] else [] := rfl
theorem stepL_len {ws : List Tx} {s : Tx} (hn : ws.length ≤ 200) : (stepL ws s).length ≤ 40000 := by
  unfold stepL movesW
  rw [List.length_map]
  split
  · have h1 := flat_le (fmv ws) 200 (fun i => by
      have := flat_le (fun o => if o ≠ wAt ws i ∧ beg (wAt ws i) o = true then [((i, o.drop (wAt ws i).length, false) : Mv)] else []) 1 (fmv1_len ws i) ws
      show (ws.flatMap _).length ≤ _
      omega) (List.range ws.length)
    rw [List.length_range] at h1
    omega
  · have h1 := flat_le (mv ws s) 1 (mv_len ws s) (List.range ws.length)
    rw [List.length_range] at h1
    omega
theorem stepL_small {ws : List Tx} {s : Tx} {n : Nat} (hw : ∀ w ∈ ws, w.length ≤ n) (hs : s.length ≤ n) : ∀ v ∈ stepL ws s, v.length ≤ n := by
  intro v hv
  obtain ⟨x, hx, rfl⟩ := List.mem_map.mp hv
  unfold movesW at hx
  split at hx
  · obtain ⟨i, hi, hx⟩ := List.mem_flatMap.mp hx
    obtain ⟨o, ho, hx⟩ := List.mem_flatMap.mp hx
    split at hx
    · rw [List.mem_singleton] at hx
      subst hx
      have := hw o ho
      simp only [List.length_drop]
      omega
    · cases hx
  · obtain ⟨i, hi, hx⟩ := List.mem_flatMap.mp hx
    have := hw _ (wAt_mem (List.mem_range.mp hi))
    unfold mv at hx
    split at hx
    · rw [List.mem_singleton] at hx
      subst hx
      simp only [List.length_drop]
      omega
    · split at hx
      · rw [List.mem_singleton] at hx
        subst hx
        simp only [List.length_drop]
        omega
      · cases hx
theorem steps_ok {iM iS : Nat} (m : Nat) (ws : List Tx) (s : Tx) (hw : ∀ w ∈ ws, w.length ≤ 1000) (hn : ws.length ≤ 200) (hs : s.length ≤ 1000)
    (hM : Φ iM [dBook m ws, .str s] = .ok (true, .lst ((movesW ws s).map mvD)))
    (hS : ∀ vs : List Tx, (∀ v ∈ vs, v.length ≤ 1000) → Φ iS [.lst (vs.map .str)] = .ok (true, .lst ((vs.mergeSort leK).map .str))) :
    runBody Φ W (fnSteps iM iS) [dBook m ws, .str s] = .ok (true, .lst ((stepW ws s).map .str)) := by
  have h1 : lcGo (bodyDc Φ [3, 4, 5] .no (.var 4) (.cst (.bl true)) [some (false, dBook m ws), some (false, .str s), none, none, none, none]) ((movesW ws s).map mvD) = .ok ((movesW ws s).filterMap fun x => some (Ke.s x.2.1, D.bl true)) := by
    refine lcGo_emb mvD _ _ fun x hx => ?_
    simp [bodyDc, bindT, wipeE, mvD, setSlots, D.key]
  have e1 : ((movesW ws s).filterMap fun x => some (Ke.s x.2.1, D.bl true)) = (stepL ws s).map fun w => (Ke.s w, D.bl true) := by
    unfold stepL
    rw [List.map_map, List.filterMap_eq_map']
    rfl
  rw [e1] at h1
  have e2 := putAll_T (stepL ws s) []
  rw [List.map_nil] at e2
  have e3 : ∀ v ∈ (stepL ws s).foldl dd [], v.length ≤ 1000 := fun v hv => stepL_small hw hs v (by simpa using mem_dds.mp hv)
  have hS' := hS _ e3
  have l1 := list_T false ((stepL ws s).foldl dd [])
  have hlen : (movesW ws s).length ≤ SZ := by
    have := stepL_len (s := s) hn
    unfold stepL at this
    rw [List.length_map] at this
    unfold SZ
    omega
  have d1 := dicD_T false ((stepL ws s).foldl dd [])
  rw [← e2] at d1
  rw [show stepW ws s = ((stepL ws s).foldl dd []).mergeSort leK from rfl]
  generalize dBook m ws = B at *
  generalize hL : (stepL ws s).foldl dd [] = L at *
  generalize (movesW ws s) = M at *
  simp [fnSteps, hM, hlen, h1, d1, l1, hS']
end
end PF

/-! The law's own offsets and steps; what the calls give, by levels. -/
namespace PF
section
variable {Φ : Nat → List D → R (Bool × D)} {W : Nat}
def loIn : List CS := [.ife (.cmp .notin (.slc (.var 2) (.yes (.var 3)) .no) (.var 1)) [.app 1 (.slc (.var 2) (.yes (.var 3)) .no)] []]
def fnLawOff : FnD := ⟨1, 4, [.asg 1 (.lst [.cst (.str [])]),
  .for_ [2] (.seq .tuple (.idx (.var 0) (.cst (.int 1)))) [.for_ [3] (.rg2 (.cst (.int 1)) (.bi .len [.var 2])) loIn],
  .ret (.bi .sortK [.var 1])]⟩
theorem lawOff_ok (m : Nat) (ws : List Tx) (hw : ∀ w ∈ ws, w.length ≤ 1000) (hz : (ws.map List.length).sum ≤ 9000) :
    runBody Φ W fnLawOff [dBook m ws] = .ok (true, .lst ((offW ws).map .str)) := by
  obtain ⟨b, h1⟩ := forGo_fold (g := bodyFor Φ W [2] [.for_ [3] (.rg2 (.cst (.int 1)) (.bi .len [.var 2])) loIn])
    (fun (acc : List Tx) (b : Option Slot × Option Slot) => [some (false, dBook m ws), some (true, .lst (acc.map .str)), b.1, b.2]) (fun acc w => (sufs w).foldl dd acc) D.str List.length List.length 90000
    (fun a x => by have h1 := dds_len (xs := sufs x) (acc := a); have h2 := sufs_len x; omega) ws (by
      rintro acc ⟨l2, l3⟩ w hw1 hsz
      have hl := hw w hw1
      obtain ⟨b', h2⟩ := forGo_fold (g := bodyFor Φ W [3] loIn) (fun (acc : List Tx) (b : Option Slot) => [some (false, dBook m ws), some (true, .lst (acc.map .str)), some (false, .str w), b]) (fun acc s => dd acc (w.drop s)) (fun i : Nat => D.int i) List.length (fun _ => 1) 95000
        (fun a x => dd_len a _) (List.range' 1 (w.length - 1)) (by
          intro acc b s hs hsz
          refine ⟨some (false, .int (s : Nat)), ?_⟩
          have s1 := slc_from (len_SZ hl) s
          have n1 := notin_lst (w.drop s) acc
          have ha : acc.length < SZ := by unfold SZ; omega
          show _ = R.ok (Out.nx [_, some (true, .lst ((dd acc (w.drop s)).map .str)), _, _])
          unfold dd
          by_cases hx : w.drop s ∈ acc
          · simp [bodyFor, bindT, loIn, s1, n1, hx]
          · simp [bodyFor, bindT, loIn, s1, n1, hx, ownL, ha]) acc l3 (by rw [sum_ones]; simp; omega)
      rw [← range_1, dds_suf] at h2
      refine ⟨(some (false, .str w), b'), ?_⟩
      have hr := range_ok hl
      have hr1 : rgOk 1 = true := by decide
      have hz := len_SZ hl
      simp [bodyFor, bindT, hr, hr1, hz, h2]) [[]] (none, none) (by simp; omega)
  have e1 : ws.foldl (fun acc w => (sufs w).foldl dd acc) [[]] = (offL ws).foldl dd [] := by
    unfold offL
    rw [List.foldl_cons, List.foldl_flatMap]
    rfl
  rw [e1] at h1
  have e2 : ∀ v ∈ (offL ws).foldl dd [], v.length ≤ SZ := fun v hv => len_SZ (offL_small hw v (by simpa using mem_dds.mp hv))
  have hS' := sortK_of _ e2
  have b1 := b1_at m ws
  rw [show offW ws = ((offL ws).foldl dd []).mergeSort leK from rfl]
  simp only [List.map_cons, List.map_nil] at h1
  generalize hbk : dBook m ws = B at *
  generalize (offL ws).foldl dd [] = L at *
  simp [fnLawOff, b1, h1, hS']
/-! ### steps by the law -/
def lsPut : List CS := [.ife (.cmp .notin (.var 4) (.var 2)) [.app 2 (.var 4)] []]
def lsRow : CS := .ife (.cmp .eq (.var 1) (.cst (.str []))) [.asg 5 (.lc [6] (.seq .tuple (.idx (.var 0) (.cst (.int 1)))) (.yes (.and (.cmp .ne (.var 6) (.var 3)) (.cmp .eq (.slc (.var 6) .no (.yes (.bi .len [.var 3]))) (.var 3)))) (.slc (.var 6) (.yes (.bi .len [.var 3])) .no))] [.asg 5 (.lst []),
      .ife (.cmp .eq (.slc (.var 3) .no (.yes (.bi .len [.var 1]))) (.var 1)) [.app 5 (.slc (.var 3) (.yes (.bi .len [.var 1])) .no)] [],
      .ife (.cmp .eq (.slc (.var 1) .no (.yes (.bi .len [.var 3]))) (.var 3)) [.app 5 (.slc (.var 1) (.yes (.bi .len [.var 3])) .no)] []]
def lsBody : List CS := [lsRow, .fz [5] (.for_ [4] (.seq .list (.var 5)) lsPut)]
def fnLawSteps : FnD := ⟨2, 7, [.asg 2 (.lst []),
  .for_ [3] (.seq .tuple (.idx (.var 0) (.cst (.int 1)))) lsBody,
  .ret (.bi .sortK [.var 2])]⟩
def lrow (ws : List Tx) (s x : Tx) : List Tx := if s = [] then (ws.filter fun y => decide (y ≠ x) && beg x y).map fun y => y.drop x.length else (if beg s x then [x.drop s.length] else []) ++ if beg x s then [s.drop x.length] else []
theorem eq_beg (b w : Tx) : (List.take b.length w == b) = beg b w := by
  unfold beg
  rw [Bool.eq_iff_iff]
  simp
theorem lrow_len (ws : List Tx) (s x : Tx) (hn : ws.length ≤ 200) : (lrow ws s x).length ≤ 202 := by
  unfold lrow
  split
  · rw [List.length_map]
    have := List.length_filter_le (fun y => decide (y ≠ x) && beg x y) ws
    omega
  · rw [List.length_append]
    split <;> split <;> simp
theorem lrow_small {ws : List Tx} {s x : Tx} (hw : ∀ w ∈ ws, w.length ≤ 1000) (hx : x.length ≤ 1000) (hs : s.length ≤ 1000) : ∀ v ∈ lrow ws s x, v.length ≤ 1000 := by
  intro v hv
  unfold lrow at hv
  split at hv
  · obtain ⟨y, hy, rfl⟩ := List.mem_map.mp hv
    have := hw y (List.mem_filter.mp hy).1
    rw [List.length_drop]
    omega
  · rcases List.mem_append.mp hv with hv | hv
    · split at hv
      · rw [List.mem_singleton] at hv; subst hv; rw [List.length_drop]; omega
      · cases hv
    · split at hv
      · rw [List.mem_singleton] at hv; subst hv; rw [List.length_drop]; omega
      · cases hv
theorem lsRow_ok (m : Nat) (ws : List Tx) (s x : Tx) (acc : D) (l4 l5 : Option Slot) (hw : ∀ w ∈ ws, w.length ≤ 1000) (hn : ws.length ≤ 200) (hx : x.length ≤ 1000) (hs : s.length ≤ 1000) :
    exec Φ W lsRow [some (false, dBook m ws), some (false, .str s), some (true, acc), some (false, .str x), l4, l5, none] = .ok (.nx [some (false, dBook m ws), some (false, .str s), some (true, acc), some (false, .str x), l4, some (true, .lst ((lrow ws s x).map .str)), none]) := by
  have b1 := b1_at m ws
  have ln := b_lenS (len_SZ hx)
  have ln2 := b_lenS (len_SZ hs)
  unfold lrow
  by_cases h0 : s = []
  · subst h0
    have h1 : lcGo (bodyLc Φ [6] (.yes (.and (.cmp .ne (.var 6) (.var 3)) (.cmp .eq (.slc (.var 6) .no (.yes (.bi .len [.var 3]))) (.var 3)))) (.slc (.var 6) (.yes (.bi .len [.var 3])) .no) [some (false, dBook m ws), some (false, .str []), some (true, acc), some (false, .str x), l4, l5, none]) (ws.map .str) =
        .ok (ws.filterMap fun y => if decide (y ≠ x) && beg x y then some (D.str (y.drop x.length)) else none) := by
      refine lcGo_emb D.str _ _ fun y hy => ?_
      have s1 := slc_to (len_SZ (hw y hy)) x.length
      have s2 := slc_from (len_SZ (hw y hy)) x.length
      have e := eq_beg x y
      by_cases q1 : y = x
      · simp [bodyLc, bindT, wipeE, q1]
      · by_cases q2 : beg x y = true
        · rw [q2] at e
          simp [bodyLc, bindT, wipeE, q1, ln, s1, s2, e, q2]
        · rw [Bool.not_eq_true] at q2
          rw [q2] at e
          simp [bodyLc, bindT, wipeE, q1, ln, s1, e, q2]
    have e2 : (ws.filterMap fun y => if decide (y ≠ x) && beg x y then some (D.str (y.drop x.length)) else none) = ((ws.filter fun y => decide (y ≠ x) && beg x y).map fun y => y.drop x.length).map D.str := by
      rw [List.map_map]
      clear h1 hw hn b1
      induction ws with
      | nil => rfl
      | cons y ws ih =>
        cases hc : (decide (y ≠ x) && beg x y) with
        | true => rw [List.filterMap_cons_some (by rw [if_pos hc]), List.filter_cons_of_pos (p := fun y => decide (y ≠ x) && beg x y) hc, ih]; rfl
        | false => rw [List.filterMap_cons_none (by rw [if_neg (by rw [hc]; simp)]), List.filter_cons_of_neg (p := fun y => decide (y ≠ x) && beg x y) (by rw [hc]; simp), ih]
    rw [e2] at h1
    have hz : ws.length ≤ SZ := len_SZ (by omega)
    rw [if_pos rfl]
    generalize dBook m ws = B at *
    generalize ((ws.filter fun y => decide (y ≠ x) && beg x y).map fun y => y.drop x.length).map D.str = L at *
    simp [lsRow, b1, hz, h1]
  · rw [if_neg h0]
    have s1 := slc_to (len_SZ hx) s.length
    have s2 := slc_from (len_SZ hx) s.length
    have s3 := slc_to (len_SZ hs) x.length
    have s4 := slc_from (len_SZ hs) x.length
    have e := eq_beg s x
    have e' := eq_beg x s
    have z0 : 0 < SZ := by decide
    have z1 : 1 < SZ := by decide
    generalize dBook m ws = B at *
    cases q1 : beg s x <;> cases q2 : beg x s <;> rw [q1] at e <;> rw [q2] at e' <;> simp [lsRow, h0, ln, ln2, s1, s2, s3, s4, e, e', ownL, z0, z1]
theorem dds_lrow {ws : List Tx} {s : Tx} (h0 : s ≠ []) (i : Nat) (acc : List Tx) : (lrow ws s (wAt ws i)).foldl dd acc = ((mv ws s i).map (·.2.1)).foldl dd acc := by
  unfold lrow mv
  rw [if_neg h0]
  generalize wAt ws i = x
  cases q1 : beg s x <;> cases q2 : beg x s
  · rfl
  · rfl
  · rfl
  · have e1 := of_decide_eq_true q1
    have e2 := of_decide_eq_true q2
    have hl : s.length = x.length := by
      have h1 := congrArg List.length e1
      have h2 := congrArg List.length e2
      rw [List.length_take] at h1 h2
      omega
    have ex : x.drop s.length = [] := by rw [hl, List.drop_length]
    have es : s.drop x.length = [] := by rw [← hl, List.drop_length]
    simp only [if_true, ex, es, List.cons_append, List.nil_append, List.map_cons, List.map_nil, List.foldl_cons, List.foldl_nil]
    unfold dd
    split <;> simp
theorem lrow_nil (ws : List Tx) (i : Nat) : lrow ws [] (wAt ws i) = (fmv ws i).map (·.2.1) := by
  unfold lrow fmv
  rw [if_pos rfl]
  generalize wAt ws i = x
  induction ws with
  | nil => rfl
  | cons o ws ih =>
    rw [List.flatMap_cons, List.map_append, ← ih]
    by_cases hc : o ≠ x ∧ beg x o = true
    · rw [List.filter_cons_of_pos (by simp [hc.1, hc.2]), if_pos hc]
      rfl
    · rw [List.filter_cons_of_neg (by simpa using hc), if_neg hc]
      rfl
theorem fold_flat {β : Type} (f : β → List Tx) : ∀ (xs : List β) (acc : List Tx), xs.foldl (fun a x => (f x).foldl dd a) acc = (xs.flatMap f).foldl dd acc
  | [], acc => rfl
  | x :: xs, acc => by rw [List.foldl_cons, fold_flat f xs, List.flatMap_cons, List.foldl_append]
theorem lrows_eq (ws : List Tx) (s : Tx) : ws.foldl (fun acc x => (lrow ws s x).foldl dd acc) [] = (stepL ws s).foldl dd [] := by
  have e0 : ws.foldl (fun acc x => (lrow ws s x).foldl dd acc) [] = (List.range ws.length).foldl (fun acc i => (lrow ws s (wAt ws i)).foldl dd acc) [] := by
    rw [← List.foldl_map (f := wAt ws) (g := fun acc x => (lrow ws s x).foldl dd acc), map_wAt]
  rw [e0]
  unfold stepL movesW
  by_cases h0 : s = []
  · subst h0
    rw [if_pos rfl, List.map_flatMap, ← fold_flat]
    congr 1
    funext acc i
    rw [lrow_nil]
  · rw [if_neg h0, List.map_flatMap, ← fold_flat]
    congr 1
    funext acc i
    exact dds_lrow h0 i acc
theorem lawSteps_ok (m : Nat) (ws : List Tx) (s : Tx) (hw : ∀ w ∈ ws, w.length ≤ 1000) (hn : ws.length ≤ 200) (hs : s.length ≤ 1000) :
    runBody Φ W fnLawSteps [dBook m ws, .str s] = .ok (true, .lst ((stepW ws s).map .str)) := by
  have b1 := b1_at m ws
  obtain ⟨b, h1⟩ := forGo_fold (g := bodyFor Φ W [3] lsBody)
    (fun (acc : List Tx) (b : Option Slot × Option Slot × Option Slot) => [some (false, dBook m ws), some (false, .str s), some (true, .lst (acc.map .str)), b.1, b.2.1, b.2.2, none]) (fun acc x => (lrow ws s x).foldl dd acc) D.str List.length (fun _ => 202) 90000
    (fun a x => by have h1 := dds_len (xs := lrow ws s x) (acc := a); have h2 := lrow_len ws s x hn; omega) ws (by
      rintro acc ⟨l3, l4, l5⟩ x hx hsz
      have hl := hw x hx
      have h2 := lsRow_ok (Φ := Φ) (W := W) m ws s x (.lst (acc.map .str)) l4 l5 hw hn hl hs
      obtain ⟨b', h3⟩ := forGo_fold (g := bodyFor Φ W [4] lsPut) (fun (acc : List Tx) (b : Option Slot) => [some (false, dBook m ws), some (false, .str s), some (true, .lst (acc.map .str)), some (false, .str x), b, some (false, .lst ((lrow ws s x).map .str)), none]) dd D.str List.length (fun _ => 1) 95000
        dd_len (lrow ws s x) (by
          intro acc b v hv hsz
          refine ⟨some (false, .str v), ?_⟩
          have n1 := notin_lst v acc
          have ha : acc.length < SZ := by unfold SZ; omega
          show _ = R.ok (Out.nx [_, _, some (true, .lst ((dd acc v).map .str)), _, _, _, _])
          unfold dd
          generalize dBook m ws = B at *
          by_cases hx : v ∈ acc
          · simp [bodyFor, bindT, lsPut, n1, hx]
          · simp [bodyFor, bindT, lsPut, n1, hx, ownL, ha]) acc l4 (by rw [sum_ones]; have := lrow_len ws s x hn; omega)
      refine ⟨(some (false, .str x), b', some (false, .lst ((lrow ws s x).map .str))), ?_⟩
      generalize dBook m ws = B at *
      generalize (lrow ws s x).map D.str = L at *
      simp [bodyFor, bindT, lsBody, h2, freeze, h3]) [] (none, none, none) (by rw [sum_const, List.length_nil]; omega)
  rw [lrows_eq, List.map_nil] at h1
  have e2 : ∀ v ∈ (stepL ws s).foldl dd [], v.length ≤ SZ := fun v hv => len_SZ (stepL_small hw hs v (by simpa using mem_dds.mp hv))
  have hS' := sortK_of _ e2
  rw [show stepW ws s = ((stepL ws s).foldl dd []).mergeSort leK from rfl]
  generalize dBook m ws = B at *
  generalize (stepL ws s).foldl dd [] = L at *
  simp [fnLawSteps, b1, h1, hS']
end
/-! ### by levels -/
section
variable {prog : List FnD} {W iS iB iO iF iM iT iL iP : Nat}
theorem g_sorted (hS : prog[iS]? = some fnSorted) (k : Nat) (ws : List Tx) (h : ∀ w ∈ ws, w.length ≤ 1000) : den prog W (k + 1) iS [.lst (ws.map .str)] = .ok (true, .lst ((ws.mergeSort leK).map .str)) := by
  rw [den_at hS]
  exact sorted_okK ws h
theorem g_begins (hB : prog[iB]? = some fnBegins) (k : Nat) (b w : Tx) (hb : b.length ≤ 1000) (hw : w.length ≤ 1000) : den prog W (k + 1) iB [.str b, .str w] = .ok (false, .bl (beg b w)) := by
  rw [den_at hB]
  exact begins_ok b w hb hw
theorem g_offsets (hS : prog[iS]? = some fnSorted) (hO : prog[iO]? = some (fnOffsets iS)) (k m : Nat) (ws : List Tx) (hw : ∀ w ∈ ws, w.length ≤ 1000) (hz : (ws.map List.length).sum ≤ 9000) : den prog W (k + 2) iO [dBook m ws] = .ok (true, .lst ((offW ws).map .str)) := by
  rw [den_at hO]
  exact offsets_ok m ws hw hz fun vs hv => g_sorted hS k vs hv
theorem g_from (hB : prog[iB]? = some fnBegins) (hF : prog[iF]? = some (fnFrom iB)) (k m : Nat) (ws : List Tx) (hw : ∀ w ∈ ws, w.length ≤ 1000) (hn : ws.length ≤ 200) : den prog W (k + 2) iF [dBook m ws] = .ok (true, .lst ((movesW ws []).map mvD)) := by
  rw [den_at hF]
  exact from_ok m ws hw hn fun b w hb hw => g_begins hB k b w hb hw
theorem g_moves (hB : prog[iB]? = some fnBegins) (hF : prog[iF]? = some (fnFrom iB)) (hM : prog[iM]? = some (fnMoves iF iB)) (k m : Nat) (ws : List Tx) (s : Tx) (hw : ∀ w ∈ ws, w.length ≤ 1000) (hn : ws.length ≤ 200) (hs : s.length ≤ 1000) : den prog W (k + 3) iM [dBook m ws, .str s] = .ok (true, .lst ((movesW ws s).map mvD)) := by
  rw [den_at hM]
  exact moves_ok m ws s hw hn hs (g_from hB hF k m ws hw hn) fun b w hb hw => g_begins hB (k + 1) b w hb hw
theorem g_steps (hS : prog[iS]? = some fnSorted) (hB : prog[iB]? = some fnBegins) (hF : prog[iF]? = some (fnFrom iB)) (hM : prog[iM]? = some (fnMoves iF iB)) (hT : prog[iT]? = some (fnSteps iM iS)) (k m : Nat) (ws : List Tx) (s : Tx) (hw : ∀ w ∈ ws, w.length ≤ 1000) (hn : ws.length ≤ 200) (hs : s.length ≤ 1000) :
    den prog W (k + 4) iT [dBook m ws, .str s] = .ok (true, .lst ((stepW ws s).map .str)) := by
  rw [den_at hT]
  exact steps_ok m ws s hw hn hs (g_moves hB hF hM k m ws s hw hn hs) fun vs hv => g_sorted hS (k + 2) vs hv
theorem g_lawOff (hL : prog[iL]? = some fnLawOff) (k m : Nat) (ws : List Tx) (hw : ∀ w ∈ ws, w.length ≤ 1000) (hz : (ws.map List.length).sum ≤ 9000) : den prog W (k + 1) iL [dBook m ws] = .ok (true, .lst ((offW ws).map .str)) := by
  rw [den_at hL]
  exact lawOff_ok m ws hw hz
theorem g_lawSteps (hP : prog[iP]? = some fnLawSteps) (k m : Nat) (ws : List Tx) (s : Tx) (hw : ∀ w ∈ ws, w.length ≤ 1000) (hn : ws.length ≤ 200) (hs : s.length ≤ 1000) : den prog W (k + 1) iP [dBook m ws, .str s] = .ok (true, .lst ((stepW ws s).map .str)) := by
  rw [den_at hP]
  exact lawSteps_ok m ws s hw hn hs
end
theorem sum_lens {ws : List Tx} {L : Nat} (h : ∀ w ∈ ws, w.length ≤ L) : (ws.map List.length).sum ≤ ws.length * L := by
  induction ws with
  | nil => simp
  | cons w ws ih =>
    have h1 := ih fun v hv => h v (List.mem_cons_of_mem _ hv)
    have h2 := h w List.mem_cons_self
    rw [List.map_cons, List.sum_cons, List.length_cons, Nat.succ_mul]
    omega
theorem offW_len {ws : List Tx} {L : Nat} (h : ∀ w ∈ ws, w.length ≤ L) : (offW ws).length ≤ ws.length * L + 1 := by
  have h1 := shortD_len (offL ws)
  have h2 : (ws.flatMap sufs).length ≤ (ws.map List.length).sum := by
    clear h h1
    induction ws with
    | nil => simp
    | cons w ws ih =>
      have := sufs_len w
      rw [List.flatMap_cons, List.length_append, List.map_cons, List.sum_cons]
      omega
  have h3 := sum_lens h
  unfold offW
  unfold offL at h1 ⊢
  rw [List.length_cons] at h1
  omega
theorem offW_small {ws : List Tx} {n : Nat} (h : ∀ w ∈ ws, w.length ≤ n) : ∀ s ∈ offW ws, s.length ≤ n := fun s hs => offL_small h s (shortD_mem.mp hs)
theorem stepW_small {ws : List Tx} {s : Tx} {n : Nat} (hw : ∀ w ∈ ws, w.length ≤ n) (hs : s.length ≤ n) : ∀ v ∈ stepW ws s, v.length ≤ n := fun v hv => stepL_small hw hs v (shortD_mem.mp hv)
theorem stepW_len {ws : List Tx} {s : Tx} (hn : ws.length ≤ 200) : (stepW ws s).length ≤ 40000 := Nat.le_trans (shortD_len _) (stepL_len hn)
end PF

/-! step_table, reached_offsets, the law's own walks; codes. -/
namespace PF
/-- a while loop with a measure -/
theorem whl_meas {α : Type} {c : Env → R Bool} {g : Env → R Out} (mk : α → Env) (μ : α → Nat) (I : α → Prop) (stop : α → Bool) (hc : ∀ a, I a → c (mk a) = .ok (!stop a))
    (hg : ∀ a, I a → stop a = false → ∃ a', g (mk a) = .ok (.nx (mk a')) ∧ I a' ∧ μ a' < μ a) : ∀ (n : Nat) (a : α), I a → μ a < n → ∃ a', whlGo c g n (mk a) = .ok (.nx (mk a')) ∧ I a' ∧ stop a' = true
  | 0, a, _, h => by omega
  | n + 1, a, hi, h => by
    cases hs : stop a with
    | true =>
      refine ⟨a, ?_, hi, hs⟩
      show (c (mk a) >>= _) = _
      rw [hc a hi, hs]
      rfl
    | false =>
      obtain ⟨a1, h1, h2, h3⟩ := hg a hi hs
      obtain ⟨a2, h4, h5, h6⟩ := whl_meas mk μ I stop hc hg n a1 h2 (by omega)
      refine ⟨a2, ?_, h5, h6⟩
      show (c (mk a) >>= _) = _
      rw [hc a hi, hs]
      show (g (mk a) >>= _) = _
      rw [h1]
      exact h4
/-! ### reachable -/
inductive Reach (ws : List Tx) : Tx → Tx → Prop
  | one {s t : Tx} : t ∈ stepW ws s → Reach ws s t
  | more {s t u : Tx} : Reach ws s t → u ∈ stepW ws t → Reach ws s u
theorem mem_step {ws : List Tx} {s t : Tx} : t ∈ stepW ws s ↔ t ∈ stepL ws s := shortD_mem
theorem mem_off {ws : List Tx} {t : Tx} : t ∈ offW ws ↔ t ∈ offL ws := shortD_mem
theorem beg_iff {b w : Tx} : beg b w = true ↔ ∃ r, w = b ++ r := by
  unfold beg
  rw [decide_eq_true_eq]
  constructor
  · intro h
    refine ⟨w.drop b.length, ?_⟩
    have := List.take_append_drop b.length w
    rw [h] at this
    exact this.symm
  · rintro ⟨r, rfl⟩
    simp
theorem off_closed {ws : List Tx} (hf : Full ws) {s t : Tx} (hs : s ∈ offL ws) (ht : t ∈ stepL ws s) : t ∈ offL ws := by
  obtain ⟨x, hx, rfl⟩ := List.mem_map.mp ht
  unfold movesW at hx
  split at hx
  · obtain ⟨i, hi, hx⟩ := List.mem_flatMap.mp hx
    obtain ⟨o, ho, hx⟩ := List.mem_flatMap.mp hx
    split at hx
    · rename_i hc
      rw [List.mem_singleton] at hx
      subst hx
      obtain ⟨r, hr⟩ := beg_iff.mp hc.2
      refine List.mem_cons_of_mem _ (List.mem_flatMap.mpr ⟨o, ho, mem_sufs.mpr ⟨wAt ws i, hf _ (wAt_mem (List.mem_range.mp hi)), fun z => ?_, ?_⟩⟩)
      · simp only [hr, List.drop_left'] at z
        rw [z, List.append_nil] at hr
        exact hc.1 hr
      · show wAt ws i ++ o.drop (wAt ws i).length = o
        rw [hr]
        simp
    · cases hx
  · rename_i h0
    obtain ⟨i, hi, hx⟩ := List.mem_flatMap.mp hx
    have hwi := wAt_mem (List.mem_range.mp hi)
    unfold mv at hx
    split at hx
    · rename_i hc
      rw [List.mem_singleton] at hx
      subst hx
      obtain ⟨r, hr⟩ := beg_iff.mp hc
      show (wAt ws i).drop s.length ∈ _
      by_cases h : (wAt ws i).drop s.length = []
      · rw [h]; exact List.mem_cons_self
      · refine List.mem_cons_of_mem _ (List.mem_flatMap.mpr ⟨_, hwi, mem_sufs.mpr ⟨s, h0, h, ?_⟩⟩)
        rw [hr]
        simp
    · split at hx
      · rename_i hc
        rw [List.mem_singleton] at hx
        subst hx
        obtain ⟨r, hr⟩ := beg_iff.mp hc
        show s.drop (wAt ws i).length ∈ _
        by_cases h : s.drop (wAt ws i).length = []
        · rw [h]; exact List.mem_cons_self
        · rcases List.mem_cons.mp hs with e | hs
          · exact absurd e h0
          · obtain ⟨w, hw, h1⟩ := List.mem_flatMap.mp hs
            obtain ⟨u, hu, _, hus⟩ := mem_sufs.mp h1
            refine List.mem_cons_of_mem _ (List.mem_flatMap.mpr ⟨w, hw, mem_sufs.mpr ⟨u ++ wAt ws i, by simp [hu], h, ?_⟩⟩)
            rw [List.append_assoc, ← hus]
            congr 1
            rw [hr]
            simp
      · cases hx
theorem reach_off {ws : List Tx} (hf : Full ws) {s t : Tx} (hs : s ∈ offW ws) (h : Reach ws s t) : t ∈ offW ws := by
  induction h with
  | one h => exact mem_off.mpr (off_closed hf (mem_off.mp hs) (mem_step.mp h))
  | more _ h ih => exact mem_off.mpr (off_closed hf (mem_off.mp ih) (mem_step.mp h))
/-- what is gathered is what is reached -/
theorem reach_all {ws : List Tx} {s : Tx} {P : Tx → Prop} (h1 : ∀ t ∈ stepW ws s, P t) (h2 : ∀ t, P t → ∀ u ∈ stepW ws t, P u) {t : Tx} (h : Reach ws s t) : P t := by
  induction h with
  | one h => exact h1 _ h
  | more _ h ih => exact h2 _ ih _ h
/-- what is left to be looked at -/
def left_ (ws fs : List Tx) : Nat := (((offW ws).filter fun o => !decide (o ∈ fs)).map fun o => (stepW ws o).length).sum
theorem left_add {ws fs : List Tx} {o : Tx} (ho : o ∈ offW ws) (hn : o ∉ fs) : left_ ws (fs ++ [o]) + (stepW ws o).length = left_ ws fs := by
  unfold left_
  have hnd : (offW ws).Nodup := shortD_nd _
  generalize offW ws = l at *
  induction l with
  | nil => cases ho
  | cons x l ih =>
    have hnd := List.nodup_cons.mp hnd
    rcases List.mem_cons.mp ho with e | ho
    · subst e
      rw [List.filter_cons_of_neg (by simp), List.filter_cons_of_pos (by simp [hn]), List.map_cons, List.sum_cons]
      have : (l.filter fun x => !decide (x ∈ fs ++ [o])) = l.filter fun x => !decide (x ∈ fs) := List.filter_congr fun y hy => by
        have : y ≠ o := fun e => hnd.1 (e ▸ hy)
        simp [this]
      rw [this]
      omega
    · have := ih ho hnd.2
      have hxo : x ≠ o := fun e => hnd.1 (e ▸ ho)
      by_cases hx : x ∈ fs
      · rw [List.filter_cons_of_neg (by simp [hx]), List.filter_cons_of_neg (by simp [hx])]
        exact this
      · rw [List.filter_cons_of_pos (by simp [hx, hxo]), List.filter_cons_of_pos (by simp [hx]), List.map_cons, List.map_cons, List.sum_cons, List.sum_cons]
        omega
theorem left_le {ws : List Tx} {c : Nat} (h : ∀ o ∈ offW ws, (stepW ws o).length ≤ c) (fs : List Tx) : left_ ws fs ≤ c * (offW ws).length := by
  unfold left_
  have : ∀ l : List Tx, (∀ o ∈ l, o ∈ offW ws) → (l.map fun o => (stepW ws o).length).sum ≤ c * l.length := by
    intro l
    induction l with
    | nil => intro _; simp
    | cons x l ih =>
      intro hl
      have := h x (hl x List.mem_cons_self)
      have := ih fun o ho => hl o (List.mem_cons_of_mem _ ho)
      rw [List.map_cons, List.sum_cons, List.length_cons, Nat.mul_add]
      omega
  have h1 := this ((offW ws).filter fun o => !decide (o ∈ fs)) fun o ho => (List.mem_filter.mp ho).1
  have h2 := List.length_filter_le (fun o => !decide (o ∈ fs)) (offW ws)
  exact Nat.le_trans h1 (Nat.mul_le_mul_left c h2)
/-- each step leads to an offset, once -/
theorem stepW_few {ws : List Tx} (hf : Full ws) {s : Tx} (hs : s ∈ offW ws) : (stepW ws s).length ≤ (offW ws).length := by
  have hsub : ∀ t ∈ stepW ws s, t ∈ offW ws := fun t ht => reach_off hf hs (.one ht)
  have key : ∀ (xs ys : List Tx), xs.Nodup → (∀ t ∈ xs, t ∈ ys) → xs.length ≤ ys.length := by
    intro xs
    induction xs with
    | nil => intro ys _ _; simp
    | cons x xs ih =>
      intro ys hn h
      have hn := List.nodup_cons.mp hn
      have hx := h x List.mem_cons_self
      have := ih (ys.erase x) hn.2 fun t ht => by
        have : t ≠ x := fun e => hn.1 (e ▸ ht)
        exact (List.mem_erase_of_ne this).mpr (h t (List.mem_cons_of_mem _ ht))
      rw [List.length_erase_of_mem hx] at this
      have := List.length_pos_of_mem hx
      rw [List.length_cons]
      omega
  exact key _ _ (shortD_nd _) hsub
end PF

/-! step_table, reached_offsets, _law_ahead: what they compute. -/
namespace PF
def stD (ws : List Tx) (s : Tx) : D := .lst ((stepW ws s).map .str)
def tblK (ws : List Tx) : List (Ke × D) := (offW ws).map fun s => (Ke.s s, stD ws s)
theorem putL_new {α : Type} {kvs : List (Ke × α)} {k : Ke} {v : α} (h : k ∉ kvs.map (·.1)) : putL kvs k v = kvs ++ [(k, v)] := by
  unfold putL
  rw [if_neg]
  rw [List.any_eq_true]
  rintro ⟨p, h1, h2⟩
  exact h (List.mem_map.mpr ⟨p, h1, of_decide_eq_true h2⟩)
theorem putAll_nd {f : Tx → D} : ∀ (xs : List Tx) (acc : List (Ke × D)), xs.Nodup → (∀ x ∈ xs, Ke.s x ∉ acc.map (·.1)) → putAll acc (xs.map fun s => (Ke.s s, f s)) = acc ++ xs.map fun s => (Ke.s s, f s)
  | [], acc, _, _ => by simp [putAll]
  | x :: xs, acc, hn, h => by
    have hn := List.nodup_cons.mp hn
    have ih := putAll_nd (f := f) xs (acc ++ [(Ke.s x, f x)]) hn.2 fun y hy => by
      rw [List.map_append, List.mem_append]
      rintro (z | z)
      · exact h y (List.mem_cons_of_mem _ hy) z
      · have : Ke.s y = Ke.s x := by simpa using z
        cases this
        exact hn.1 hy
    unfold putAll at ih ⊢
    rw [List.map_cons, List.foldl_cons, putL_new (h x List.mem_cons_self), ih]
    simp
theorem get_map {f : Tx → D} {xs : List Tx} {x : Tx} (h : x ∈ xs) : getL (xs.map fun s => (Ke.s s, f s)) (.s x) = some (f x) := by
  unfold getL
  induction xs with
  | nil => cases h
  | cons y xs ih =>
    rw [List.map_cons, List.find?_cons]
    by_cases e : y = x
    · subst e; simp
    · rw [decide_eq_false (fun z => e (Ke.s.inj z))]
      rcases List.mem_cons.mp h with e' | h
      · exact absurd e'.symm e
      · exact ih h
theorem idx_tbl {ws : List Tx} {lk : Bool} {x : Tx} (h : x ∈ offW ws) : idxD (dicD lk (tblK ws)) (.str x) = some (stD ws x) := by
  unfold dicD
  simp only [idxD, getD', D.key, Option.map_some]
  have e : ((tblK ws).map (·.1)).zip ((tblK ws).map (·.2)) = tblK ws := by
    generalize tblK ws = l
    induction l with
    | nil => rfl
    | cons p l ih => rw [List.map_cons, List.map_cons, List.zip_cons_cons, ih]
  rw [e]
  unfold tblK
  rw [get_map h]
  rfl
section
variable {Φ : Nat → List D → R (Bool × D)} {W : Nat}
theorem x_pop0 {env : Env} {j i : Nat} {es : List D} {d : D} (ho : ownL env j = .ok (es ++ [d])) (hi : i < env.length) : exec Φ W (.pop [i] j .no) env = .ok (.nx ((env.set j (some (true, .lst es))).set i (some (false, d)))) := by
  have h1 : (es ++ [d])[es.length]? = some d := by simp
  have h2 : (es ++ [d]).eraseIdx es.length = es := by
    rw [List.eraseIdx_append_of_length_le (Nat.le_refl _)]
    simp
  simp only [exec, evalO, ho, R.bind_ok, List.length_append, List.length_singleton, Nat.add_sub_cancel, show ¬ (es.length + 1 = 0) by omega, if_false, h1, h2, bindT, List.length_set, hi, if_true]
  simp
@[simp] theorem x_ext (j : Nat) (e : CE) (env : Env) : exec Φ W (.ext j e) env = (ownL env j >>= fun ds => evalE Φ e env >>= fun x => (match x.2 with
    | .lst es => if ds.length + es.length ≤ SZ then .ok (.nx (env.set j (some (true, .lst (ds ++ es))))) else .stuck
    | _ => .stuck)) := Eq.trans rfl rfl
def fnTable (iO iT : Nat) : FnD := ⟨1, 2, [.ret (.dc [1] (.seq .list (.call iO [.var 0])) .no (.var 1) (.call iT [.var 0, .var 1]))]⟩
theorem table_ok {iO iT : Nat} (m : Nat) (ws : List Tx) (hz : (offW ws).length ≤ SZ) (hO : Φ iO [dBook m ws] = .ok (true, .lst ((offW ws).map .str))) (hT : ∀ s ∈ offW ws, Φ iT [dBook m ws, .str s] = .ok (true, stD ws s)) :
    runBody Φ W (fnTable iO iT) [dBook m ws] = .ok (true, dicD false (tblK ws)) := by
  have h1 : lcGo (bodyDc Φ [1] .no (.var 1) (.call iT [.var 0, .var 1]) [some (false, dBook m ws), none]) ((offW ws).map .str) = .ok (tblK ws) := by
    have := lcGo_emb (g := bodyDc Φ [1] .no (.var 1) (.call iT [.var 0, .var 1]) [some (false, dBook m ws), none]) D.str (fun s => some (Ke.s s, stD ws s)) (offW ws) fun s hs => by
      have h := hT s hs
      generalize dBook m ws = B at *
      generalize stD ws s = X at *
      simp [bodyDc, bindT, wipeE, D.key, h]
    rw [this, List.filterMap_eq_map']
    rfl
  have h2 : putAll [] (tblK ws) = tblK ws := by
    have := putAll_nd (f := stD ws) (offW ws) [] (shortD_nd _) (by simp)
    rw [List.nil_append] at this
    exact this
  have hz' : ((offW ws).map D.str).length ≤ SZ := by simpa using hz
  generalize dBook m ws = B at *
  generalize (offW ws).map D.str = L at *
  simp [fnTable, hO, hz', h1, h2]
def rcBody : List CS := [.pop [4] 3 .no,
    .ife (.cmp .notin (.var 4) (.var 2)) [.setD 2 (.var 4) (.cst (.bl true)),
      .ext 3 (.idx (.var 0) (.var 4))] []]
def fnReached : FnD := ⟨2, 5, [.asg 2 (.dnew),
  .asg 3 (.bi .list [.idx (.var 0) (.var 1)]),
  .whl (.cmp .gt (.bi .len [.var 3]) (.cst (.int 0))) rcBody,
  .retV 2]⟩
structure RcI (ws : List Tx) (s : Tx) (c : Nat) (fs wt : List Tx) : Prop where
  nd : fs.Nodup
  got : ∀ x, x ∈ fs ∨ x ∈ wt → Reach ws s x
  first : ∀ x ∈ stepW ws s, x ∈ fs ∨ x ∈ wt
  next : ∀ x ∈ fs, ∀ y ∈ stepW ws x, y ∈ fs ∨ y ∈ wt
  few : fs.length ≤ c
  size : wt.length + left_ ws fs ≤ c + c * c
theorem nodup_len {xs ys : List Tx} (hn : xs.Nodup) (h : ∀ t ∈ xs, t ∈ ys) : xs.length ≤ ys.length := by
  induction xs generalizing ys with
  | nil => simp
  | cons x xs ih =>
    have hn := List.nodup_cons.mp hn
    have hx := h x List.mem_cons_self
    have := ih (ys := ys.erase x) hn.2 fun t ht => by
      have : t ≠ x := fun e => hn.1 (e ▸ ht)
      exact (List.mem_erase_of_ne this).mpr (h t (List.mem_cons_of_mem _ ht))
    rw [List.length_erase_of_mem hx] at this
    have := List.length_pos_of_mem hx
    rw [List.length_cons]
    omega
theorem reached_ok (ws : List Tx) (s : Tx) (hf : Full ws) (hs : s ∈ offW ws) (c : Nat) (hc : (offW ws).length = c) (hW : c + c * c < W) (hz : c + c * c ≤ 90000) :
    ∃ fs : List Tx, (fs.Nodup ∧ ∀ t, t ∈ fs ↔ Reach ws s t) ∧ runBody Φ W fnReached [dicD true (tblK ws), .str s] = .ok (true, dicT false fs) := by
  have few : ∀ o ∈ offW ws, (stepW ws o).length ≤ c := fun o ho => hc ▸ stepW_few hf ho
  have hleft := left_le few []
  rw [hc] at hleft
  have it0 := idx_tbl (lk := true) hs
  obtain ⟨⟨fs, wt, l4⟩, h1, h2, h3⟩ := whl_meas (c := condWhl Φ (.cmp .gt (.bi .len [.var 3]) (.cst (.int 0)))) (g := bodyWhl Φ W rcBody)
    (fun (a : List Tx × List Tx × Option Slot) => [some (false, dicD true (tblK ws)), some (false, .str s), some (true, dicT false a.1), some (true, .lst (a.2.1.map .str)), a.2.2])
    (fun a => a.2.1.length + left_ ws a.1) (fun a => RcI ws s c a.1 a.2.1) (fun a => a.2.1.isEmpty) (by
      rintro ⟨fs, wt, l4⟩ hI
      generalize dicD true (tblK ws) = T at *
      generalize dicT false fs = F at *
      cases wt with
      | nil => simp [condWhl]
      | cons x wt => simp [condWhl]) (by
      rintro ⟨fs, wt, l4⟩ hI hne
      simp only at hI hne ⊢
      obtain ⟨wt', o, rfl⟩ : ∃ wt' o, wt = wt' ++ [o] := ⟨wt.dropLast, wt.getLast (by cases wt <;> simp at hne ⊢), (List.dropLast_concat_getLast _).symm⟩
      have ho : o ∈ offW ws := reach_off hf hs (hI.got o (.inr (by simp)))
      have p := x_pop0 (Φ := Φ) (W := W) (env := [some (false, dicD true (tblK ws)), some (false, .str s), some (true, dicT false fs), some (true, .lst ((wt' ++ [o]).map .str)), l4]) (j := 3) (i := 4) (es := wt'.map .str) (d := .str o) (by simp [ownL]) (by simp)
      simp only [List.set_cons_succ, List.set_cons_zero] at p
      have n1 := notin_T false fs o
      have ix := idx_tbl (lk := true) ho
      have sz := hI.size
      rw [List.length_append, List.length_singleton] at sz
      by_cases hin : o ∈ fs
      · refine ⟨(fs, wt', some (false, .str o)), ?_, ⟨hI.nd, fun x hx => hI.got x (hx.imp id fun h => by simp [h]), fun x hx => ?_, fun x hx y hy => ?_, hI.few, ?_⟩, ?_⟩
        · generalize dicD true (tblK ws) = T at *
          generalize dicT false fs = F at *
          simp only [List.map_append, List.map_cons, List.map_nil] at p ⊢
          simp [bodyWhl, rcBody, p, n1, hin]
        · rcases hI.first x hx with h | h
          · exact .inl h
          · rcases List.mem_append.mp h with h | h
            · exact .inr h
            · rw [List.mem_singleton] at h; exact .inl (h ▸ hin)
        · rcases hI.next x hx y hy with h | h
          · exact .inl h
          · rcases List.mem_append.mp h with h | h
            · exact .inr h
            · rw [List.mem_singleton] at h; exact .inl (h ▸ hin)
        · simp only; omega
        · simp only [List.length_append, List.length_singleton]; omega
      · have la := left_add ho hin
        have fl : fs.length < c := by
          have : (fs ++ [o]).length ≤ (offW ws).length := nodup_len (by
            rw [List.nodup_append]
            exact ⟨hI.nd, by simp, fun a ha b hb e => hin (by simp at hb; subst hb; exact e ▸ ha)⟩) fun t ht => by
              rcases List.mem_append.mp ht with h | h
              · exact reach_off hf hs (hI.got t (.inl h))
              · rw [List.mem_singleton] at h; exact h ▸ ho
          rw [List.length_append, List.length_singleton] at this
          omega
        have ed : dd fs o = fs ++ [o] := by unfold dd; rw [if_neg hin]
        have pt := put_T fs o (by unfold SZ; omega)
        rw [ed] at pt
        refine ⟨(fs ++ [o], wt' ++ stepW ws o, some (false, .str o)), ?_, ⟨?_, fun x hx => ?_, fun x hx => ?_, fun x hx y hy => ?_, ?_, ?_⟩, ?_⟩
        · have hz2 : (wt'.map D.str).length + ((stepW ws o).map D.str).length ≤ SZ := by
            simp only [List.length_map]
            unfold SZ
            omega
          rw [List.map_append]
          unfold stD at ix
          simp only [List.map_append, List.map_cons, List.map_nil] at p ⊢
          generalize dicD true (tblK ws) = T at *
          generalize (stepW ws o).map D.str = SS at *
          generalize dicT false fs = F at *
          generalize dicT false (fs ++ [o]) = F2 at *
          generalize wt'.map D.str = WW at *
          simp [bodyWhl, rcBody, p, n1, hin, pt, ownL, ix, hz2]
        · rw [List.nodup_append]
          exact ⟨hI.nd, by simp, fun a ha b hb e => hin (by simp at hb; subst hb; exact e ▸ ha)⟩
        · rcases hx with h | h
          · rcases List.mem_append.mp h with h | h
            · exact hI.got x (.inl h)
            · rw [List.mem_singleton] at h; exact h ▸ hI.got o (.inr (by simp))
          · rcases List.mem_append.mp h with h | h
            · exact hI.got x (.inr (by simp [h]))
            · exact .more (hI.got o (.inr (by simp))) h
        · rcases hI.first x hx with h | h
          · exact .inl (List.mem_append_left _ h)
          · rcases List.mem_append.mp h with h | h
            · exact .inr (List.mem_append_left _ h)
            · exact .inl (List.mem_append_right _ h)
        · rcases List.mem_append.mp hx with hx | hx
          · rcases hI.next x hx y hy with h | h
            · exact .inl (List.mem_append_left _ h)
            · rcases List.mem_append.mp h with h | h
              · exact .inr (List.mem_append_left _ h)
              · exact .inl (List.mem_append_right _ h)
          · rw [List.mem_singleton] at hx
            exact .inr (List.mem_append_right _ (hx ▸ hy))
        · simp only [List.length_append, List.length_singleton]; omega
        · simp only [List.length_append]; omega
        · simp only [List.length_append, List.length_singleton]; omega) W ([], stepW ws s, none)
    ⟨List.nodup_nil, fun x hx => hx.elim (fun h => by cases h) fun h => .one h, fun x hx => .inr hx, fun x hx => (by cases hx), Nat.zero_le _, by
      have := few s hs
      simp only
      omega⟩ (by
      have := few s hs
      simp only
      omega)
  simp only at h2 h3
  have hwt : wt = [] := by simpa using h3
  subst hwt
  refine ⟨fs, ⟨h2.nd, fun t => ⟨fun h => h2.got t (.inl h), fun h => reach_all (fun t ht => (h2.first t ht).elim id fun z => by cases z) (fun t ht u hu => (h2.next t ht u hu).elim id fun z => by cases z) h⟩⟩, ?_⟩
  have bl : builtin .list [stD ws s] = some (.fr, .lst ((stepW ws s).map .str)) := rfl
  have d0 : D.dct false [] [] = dicT false [] := rfl
  simp only [List.map_nil] at h1
  generalize dicD true (tblK ws) = T at *
  generalize stD ws s = X at *
  generalize (stepW ws s).map D.str = SS at *
  generalize dicT false fs = F at *
  simp [fnReached, it0, bl, d0, h1]
end
end PF

/-! _law_ahead; is_code by the program and by the law. -/
namespace PF
section
variable {Φ : Nat → List D → R (Bool × D)} {W : Nat}
def ahBody (iP : Nat) : List CS := [.ife (.cmp .notin (.idx (.var 3) (.var 4)) (.var 2)) [.app 2 (.idx (.var 3) (.var 4)),
      .asg 3 (.bin .add (.var 3) (.call iP [.var 0, .idx (.var 3) (.var 4)]))] [],
    .asg 4 (.bin .add (.var 4) (.cst (.int 1)))]
def fnAhead (iP : Nat) : FnD := ⟨2, 5, [.asg 2 (.lst []),
  .asg 3 (.call iP [.var 0, .var 1]),
  .asg 4 (.cst (.int 0)),
  .whl (.cmp .lt (.var 4) (.bi .len [.var 3])) (ahBody iP),
  .retV 2]⟩
structure AhI (ws : List Tx) (s : Tx) (c : Nat) (fs wt : List Tx) (at_ : Nat) : Prop where
  nd : fs.Nodup
  got : ∀ x ∈ wt, Reach ws s x
  sub : ∀ x ∈ fs, x ∈ wt
  first : ∀ x ∈ stepW ws s, x ∈ wt
  next : ∀ x ∈ fs, ∀ y ∈ stepW ws x, y ∈ wt
  done : ∀ x ∈ wt.take at_, x ∈ fs
  le : at_ ≤ wt.length
  few : fs.length ≤ c
  size : wt.length + left_ ws fs ≤ c + c * c
theorem ahead_ok {iP : Nat} (m : Nat) (ws : List Tx) (s : Tx) (hf : Full ws) (hs : s ∈ offW ws) (c : Nat) (hc : (offW ws).length = c) (hW : c + c * c < W) (hz : c + c * c ≤ 90000)
    (hP : ∀ t ∈ offW ws, Φ iP [dBook m ws, .str t] = .ok (true, .lst ((stepW ws t).map .str))) :
    ∃ fs : List Tx, (fs.Nodup ∧ ∀ t, t ∈ fs ↔ Reach ws s t) ∧ runBody Φ W (fnAhead iP) [dBook m ws, .str s] = .ok (true, .lst (fs.map .str)) := by
  have few : ∀ o ∈ offW ws, (stepW ws o).length ≤ c := fun o ho => hc ▸ stepW_few hf ho
  have hleft := left_le few []
  rw [hc] at hleft
  have p0 := hP s hs
  obtain ⟨⟨fs, wt, at_⟩, h1, h2, h3⟩ := whl_meas (c := condWhl Φ (.cmp .lt (.var 4) (.bi .len [.var 3]))) (g := bodyWhl Φ W (ahBody iP))
    (fun (a : List Tx × List Tx × Nat) => [some (false, dBook m ws), some (false, .str s), some (true, .lst (a.1.map .str)), some (true, .lst (a.2.1.map .str)), some (false, .int (a.2.2 : Nat))])
    (fun a => a.2.1.length - a.2.2 + left_ ws a.1) (fun a => AhI ws s c a.1 a.2.1 a.2.2) (fun a => !decide (a.2.2 < a.2.1.length)) (by
      rintro ⟨fs, wt, i⟩ hI
      generalize dBook m ws = B at *
      simp [condWhl]) (by
      rintro ⟨fs, wt, i⟩ hI hne
      simp only at hI hne ⊢
      have hi : i < wt.length := by simpa using hne
      have ix := idx_strs (List.getElem?_eq_getElem hi)
      have hmem : wt[i] ∈ wt := List.getElem_mem hi
      have htk : wt.take (i + 1) = wt.take i ++ [wt[i]] := by rw [List.take_succ, List.getElem?_eq_getElem hi]; rfl
      generalize wt[i] = o at *
      have ho : o ∈ offW ws := reach_off hf hs (hI.got o hmem)
      have n1 := notin_lst o fs
      have pp := hP o ho
      have sz := hI.size
      have ei : (i : Int) + 1 = ((i + 1 : Nat) : Int) := by omega
      by_cases hin : o ∈ fs
      · refine ⟨(fs, wt, i + 1), ?_, ⟨hI.nd, hI.got, hI.sub, hI.first, hI.next, fun x hx => ?_, hi, hI.few, hI.size⟩, ?_⟩
        · generalize dBook m ws = B at *
          generalize wt.map D.str = WW at *
          generalize fs.map D.str = FF at *
          simp [bodyWhl, ahBody, ix, n1, hin]
        · rw [htk] at hx
          rcases List.mem_append.mp hx with h | h
          · exact hI.done x h
          · rw [List.mem_singleton] at h; exact h ▸ hin
        · simp only; omega
      · have la := left_add ho hin
        have fl : fs.length < c := by
          have : (fs ++ [o]).length ≤ (offW ws).length := nodup_len (by
            rw [List.nodup_append]
            exact ⟨hI.nd, by simp, fun a ha b hb e => hin (by simp at hb; subst hb; exact e ▸ ha)⟩) fun t ht => by
              rcases List.mem_append.mp ht with h | h
              · exact reach_off hf hs (hI.got t (hI.sub t h))
              · rw [List.mem_singleton] at h; exact h ▸ ho
          rw [List.length_append, List.length_singleton] at this
          omega
        refine ⟨(fs ++ [o], wt ++ stepW ws o, i + 1), ?_, ⟨?_, fun x hx => ?_, fun x hx => ?_, fun x hx => ?_, fun x hx y hy => ?_, fun x hx => ?_, ?_, ?_, ?_⟩, ?_⟩
        · have hac : (fs.map D.str).length < SZ := by simp only [List.length_map]; unfold SZ; omega
          have ad : binop .add (.lst (wt.map .str)) (.lst ((stepW ws o).map .str)) = some (.fr, .lst ((wt ++ stepW ws o).map .str)) := by
            rw [List.map_append]
            exact bi_addL (by simp only [List.length_map]; unfold SZ; omega)
          have ef : (fs ++ [o]).map D.str = fs.map D.str ++ [.str o] := by simp
          rw [ef]
          generalize dBook m ws = B at *
          generalize (wt ++ stepW ws o).map D.str = W2 at *
          generalize wt.map D.str = WW at *
          generalize fs.map D.str = FF at *
          generalize (stepW ws o).map D.str = SS at *
          simp [bodyWhl, ahBody, ix, n1, hin, ownL, hac, pp, ad]
        · rw [List.nodup_append]
          exact ⟨hI.nd, by simp, fun a ha b hb e => hin (by simp at hb; subst hb; exact e ▸ ha)⟩
        · rcases List.mem_append.mp hx with h | h
          · exact hI.got x h
          · exact .more (hI.got o hmem) h
        · rcases List.mem_append.mp hx with h | h
          · exact List.mem_append_left _ (hI.sub x h)
          · rw [List.mem_singleton] at h; exact List.mem_append_left _ (h ▸ hmem)
        · exact List.mem_append_left _ (hI.first x hx)
        · rcases List.mem_append.mp hx with h | h
          · exact List.mem_append_left _ (hI.next x h y hy)
          · rw [List.mem_singleton] at h; exact List.mem_append_right _ (h ▸ hy)
        · have hx : x ∈ (wt ++ stepW ws o).take (i + 1) := hx
          rw [List.take_append_of_le_length (by omega), htk] at hx
          rcases List.mem_append.mp hx with h | h
          · exact List.mem_append_left _ (hI.done x h)
          · exact List.mem_append_right _ h
        · show i + 1 ≤ (wt ++ stepW ws o).length
          rw [List.length_append]; omega
        · simp only [List.length_append, List.length_singleton]; omega
        · simp only [List.length_append]; omega
        · simp only [List.length_append]; omega) W ([], stepW ws s, 0)
    ⟨List.nodup_nil, fun x hx => .one hx, fun x hx => (by cases hx), fun x hx => hx, fun x hx => (by cases hx), fun x hx => (by simp at hx), Nat.zero_le _, Nat.zero_le _, by
      have := few s hs
      simp only
      omega⟩ (by
      have := few s hs
      simp only
      omega)
  simp only at h2 h3
  have hat : at_ = wt.length := by
    have := h2.le
    simp at h3
    omega
  have hall : ∀ x ∈ wt, x ∈ fs := fun x hx => h2.done x (by rw [hat, List.take_length]; exact hx)
  refine ⟨fs, ⟨h2.nd, fun t => ⟨fun h => h2.got t (h2.sub t h), fun h => reach_all (fun t ht => hall t (h2.first t ht)) (fun t ht u hu => hall u (h2.next t ht u hu)) h⟩⟩, ?_⟩
  simp only [List.map_nil, Int.natCast_zero] at h1
  generalize dBook m ws = B at *
  generalize (stepW ws s).map D.str = SS at *
  generalize fs.map D.str = F at *
  generalize wt.map D.str = WW at *
  simp [fnAhead, p0, h1]
/-! ### codes -/
open Classical in
/-- no walk along steps leads from the empty word to itself -/
noncomputable def codeB (ws : List Tx) : Bool := decide (¬ Reach ws [] [])
def fnIsCode (iR iT : Nat) : FnD := ⟨1, 1, [.ret (.cmp .notin (.cst (.str [])) (.call iR [.lkE (.call iT [.var 0]), .cst (.str [])]))]⟩
theorem isCode_ok {iR iT : Nat} (m : Nat) (ws : List Tx) (hT : Φ iT [dBook m ws] = .ok (true, dicD false (tblK ws)))
    (hR : ∃ fs : List Tx, (fs.Nodup ∧ ∀ t, t ∈ fs ↔ Reach ws [] t) ∧ Φ iR [dicD true (tblK ws), .str []] = .ok (true, dicT false fs)) : runBody Φ W (fnIsCode iR iT) [dBook m ws] = .ok (false, .bl (codeB ws)) := by
  obtain ⟨fs, ⟨_, h1⟩, h2⟩ := hR
  have n1 := notin_T false fs []
  have lk : lockD (dicD false (tblK ws)) = dicD true (tblK ws) := rfl
  have e : (!decide (([] : Tx) ∈ fs)) = codeB ws := by
    unfold codeB
    rw [Bool.eq_iff_iff]
    simp [h1]
  rw [e] at n1
  generalize dBook m ws = B at *
  generalize dicD false (tblK ws) = T at *
  generalize dicD true (tblK ws) = T2 at *
  generalize dicT false fs = F at *
  simp [fnIsCode, hT, lk, h2, n1]
def fnLawCode (iA : Nat) : FnD := ⟨1, 1, [.ret (.cmp .notin (.cst (.str [])) (.call iA [.var 0, .cst (.str [])]))]⟩
theorem lawCode_ok {iA : Nat} (m : Nat) (ws : List Tx) (hA : ∃ fs : List Tx, (fs.Nodup ∧ ∀ t, t ∈ fs ↔ Reach ws [] t) ∧ Φ iA [dBook m ws, .str []] = .ok (true, .lst (fs.map .str))) : runBody Φ W (fnLawCode iA) [dBook m ws] = .ok (false, .bl (codeB ws)) := by
  obtain ⟨fs, ⟨_, h1⟩, h2⟩ := hA
  have n1 := notin_lst [] fs
  have e : (!decide (([] : Tx) ∈ fs)) = codeB ws := by
    unfold codeB
    rw [Bool.eq_iff_iff]
    simp [h1]
  rw [e] at n1
  generalize dBook m ws = B at *
  generalize fs.map D.str = F at *
  simp [fnLawCode, h2, n1]
end
/-! ### by levels -/
/-- a book with few offsets -/
structure Sm (W : Nat) (ws : List Tx) : Prop where
  full : Full ws
  one : ∀ w ∈ ws, w.length ≤ 1000
  few : ws.length ≤ 200
  sum : (ws.map List.length).sum ≤ 9000
  offs : (offW ws).length + (offW ws).length * (offW ws).length < W
  offz : (offW ws).length + (offW ws).length * (offW ws).length ≤ 90000
theorem off_nil (ws : List Tx) : [] ∈ offW ws := mem_off.mpr List.mem_cons_self
section
variable {prog : List FnD} {W iS iB iO iF iM iT iL iP iG iR iA iC : Nat} {ws : List Tx}
theorem Sm.offk (g : Sm W ws) : ∀ s ∈ offW ws, s.length ≤ 1000 := fun s hs => offW_small g.one s hs
theorem g_table (g : Sm W ws) (hS : prog[iS]? = some fnSorted) (hB : prog[iB]? = some fnBegins) (hO : prog[iO]? = some (fnOffsets iS)) (hF : prog[iF]? = some (fnFrom iB)) (hM : prog[iM]? = some (fnMoves iF iB)) (hT : prog[iT]? = some (fnSteps iM iS)) (hG : prog[iG]? = some (fnTable iO iT)) (k m : Nat) :
    den prog W (k + 5) iG [dBook m ws] = .ok (true, dicD false (tblK ws)) := by
  rw [den_at hG]
  have := g.offz
  exact table_ok m ws (by unfold SZ; omega) (g_offsets hS hO (k + 2) m ws g.one g.sum) fun s hs => g_steps hS hB hF hM hT k m ws s g.one g.few (g.offk s hs)
theorem g_reached (g : Sm W ws) (hR : prog[iR]? = some fnReached) (k : Nat) {s : Tx} (hs : s ∈ offW ws) : ∃ fs : List Tx, (fs.Nodup ∧ ∀ t, t ∈ fs ↔ Reach ws s t) ∧ den prog W (k + 1) iR [dicD true (tblK ws), .str s] = .ok (true, dicT false fs) := by
  rw [den_at hR]
  exact reached_ok ws s g.full hs _ rfl g.offs g.offz
theorem g_isCode (g : Sm W ws) (hS : prog[iS]? = some fnSorted) (hB : prog[iB]? = some fnBegins) (hO : prog[iO]? = some (fnOffsets iS)) (hF : prog[iF]? = some (fnFrom iB)) (hM : prog[iM]? = some (fnMoves iF iB)) (hT : prog[iT]? = some (fnSteps iM iS)) (hG : prog[iG]? = some (fnTable iO iT))
    (hR : prog[iR]? = some fnReached) (hC : prog[iC]? = some (fnIsCode iR iG)) (k m : Nat) : den prog W (k + 6) iC [dBook m ws] = .ok (false, .bl (codeB ws)) := by
  rw [den_at hC]
  exact isCode_ok m ws (g_table g hS hB hO hF hM hT hG k m) (g_reached g hR (k + 4) (off_nil ws))
theorem g_ahead (g : Sm W ws) (hP : prog[iP]? = some fnLawSteps) (hA : prog[iA]? = some (fnAhead iP)) (k m : Nat) {s : Tx} (hs : s ∈ offW ws) : ∃ fs : List Tx, (fs.Nodup ∧ ∀ t, t ∈ fs ↔ Reach ws s t) ∧ den prog W (k + 2) iA [dBook m ws, .str s] = .ok (true, .lst (fs.map .str)) := by
  rw [den_at hA]
  exact ahead_ok m ws s g.full hs _ rfl g.offs g.offz fun t ht => g_lawSteps hP k m ws t g.one g.few (g.offk t ht)
theorem g_lawCode (g : Sm W ws) (hP : prog[iP]? = some fnLawSteps) (hA : prog[iA]? = some (fnAhead iP)) (hC : prog[iC]? = some (fnLawCode iA)) (k m : Nat) : den prog W (k + 3) iC [dBook m ws] = .ok (false, .bl (codeB ws)) := by
  rw [den_at hC]
  exact lawCode_ok m ws (g_ahead g hP hA k m (off_nil ws))
end
end PF

/-! _law_tree: drawn trees. -/
namespace PF
/-- grown out of the letters by n splits -/
inductive Grown (m : Nat) : Nat → List Tx → Prop
  | base : Grown m 0 ((List.range m).map fun i => [97 + i])
  | split {n : Nat} {ws : List Tx} {i : Nat} {w : Tx} : Grown m n ws → ws[i]? = some w → w.length < 6 → Grown m (n + 1) (ws.eraseIdx i ++ (List.range m).map fun c => w ++ [97 + c])
  | keep {n : Nat} {ws : List Tx} {i : Nat} {w : Tx} : Grown m n ws → ws[i]? = some w → ¬ w.length < 6 → Grown m (n + 1) (ws.eraseIdx i ++ [w])
theorem Grown.len {m n : Nat} {ws : List Tx} (h : Grown m n ws) (hm0 : 0 < m) (hm : m ≤ 3) : m ≤ ws.length ∧ ws.length ≤ 3 + 2 * n := by
  induction h with
  | base => simp; omega
  | @split n ws i w h hi hl ih =>
    obtain ⟨hlt, _⟩ := List.getElem?_eq_some_iff.mp hi
    rw [List.length_append, List.length_eraseIdx_of_lt hlt, List.length_map, List.length_range]
    omega
  | @keep n ws i w h hi hl ih =>
    obtain ⟨hlt, _⟩ := List.getElem?_eq_some_iff.mp hi
    rw [List.length_append, List.length_eraseIdx_of_lt hlt, List.length_singleton]
    omega
theorem isWord_snoc {m : Nat} {w : Tx} {c : Nat} (hw : isWord m w = true) (hc : c < m) : isWord m (w ++ [97 + c]) = true := by
  unfold isWord at hw ⊢
  rw [List.all_append, hw]
  simp
  omega
theorem Grown.one {m n : Nat} {ws : List Tx} (h : Grown m n ws) : ∀ w ∈ ws, isWord m w = true ∧ 1 ≤ w.length ∧ w.length ≤ 6 := by
  induction h with
  | base =>
    intro w hw
    obtain ⟨i, hi, rfl⟩ := List.mem_map.mp hw
    have := List.mem_range.mp hi
    refine ⟨?_, by simp, by simp⟩
    unfold isWord
    simp
    omega
  | @split n ws i w h hi hl ih =>
    intro v hv
    have hw := ih w (List.mem_of_getElem? hi)
    rcases List.mem_append.mp hv with hv | hv
    · exact ih v (List.mem_of_mem_eraseIdx hv)
    · obtain ⟨c, hc, rfl⟩ := List.mem_map.mp hv
      exact ⟨isWord_snoc hw.1 (List.mem_range.mp hc), by simp, by simp; omega⟩
  | @keep n ws i w h hi hl ih =>
    intro v hv
    have hw := ih w (List.mem_of_getElem? hi)
    rcases List.mem_append.mp hv with hv | hv
    · exact ih v (List.mem_of_mem_eraseIdx hv)
    · rw [List.mem_singleton] at hv
      subst hv
      exact hw
theorem erase_map {α β : Type} (f : α → β) : ∀ (l : List α) (i : Nat), (l.map f).eraseIdx i = (l.eraseIdx i).map f
  | [], _ => rfl
  | _ :: _, 0 => rfl
  | x :: l, i + 1 => by
    show f x :: (l.map f).eraseIdx i = f x :: (l.eraseIdx i).map f
    rw [erase_map f l i]
section
variable {Φ : Nat → List D → R (Bool × D)} {W : Nat}
theorem x_popN {env : Env} {j i n : Nat} {ds : List D} {e : CE} {fl : Fl} {d : D} (ho : ownL env j = .ok ds) (he : evalE Φ e env = .ok (fl, .int (n : Nat))) (hn : ds[n]? = some d) (hb : n ≤ 1000000) (hi : i < env.length) :
    exec Φ W (.pop [i] j (.yes e)) env = .ok (.nx ((env.set j (some (true, .lst (ds.eraseIdx n)))).set i (some (false, d)))) := by
  obtain ⟨hlt, _⟩ := List.getElem?_eq_some_iff.mp hn
  have h1 : -1000000 ≤ (n : Int) ∧ (n : Int) ≤ 1000000 := ⟨by omega, by omega⟩
  have h2 := ixN_nat hlt
  simp only [exec, evalO, ho, he, R.bind_ok, asInt_int, R.pure_ok, h1, and_self, if_true, h2, hn, bindT, List.length_set, hi]
  simp
def trBody : List CS := [.pop [6] 4 (.yes (.bin .mod (.var 5) (.bi .len [.var 4]))),
    .ife (.cmp .lt (.bi .len [.var 6]) (.cst (.int 6))) [.asg 4 (.bin .add (.var 4) (.lc [8] (.seq .str (.slc (.cst (.str [97, 98, 99])) .no (.yes (.var 2)))) .no (.bin .add (.var 6) (.var 8))))] [.app 4 (.var 6)]]
def fnTree (iD iS : Nat) : FnD := ⟨4, 9, [.asg 4 (.lc [7] (.rg1 (.var 2)) .no (.idx (.cst (.str [97, 98, 99])) (.var 7))),
  .fz [0] (.for_ [5] (.seq .list (.call iD [.var 0, .var 1, .var 3, .cst (.int 5040)])) trBody),
  .fz [4] (.ret (.tup [.var 2, .call iS [.var 4]]))]⟩
theorem tree_letters (m : Nat) (hm : m ≤ 3) (env : Env) (h8 : 8 < env.length) (w : Tx) (h6 : env[6]? = some (some (false, .str w))) (hw : w.length ≤ 6) :
    lcGo (bodyLc Φ [8] .no (.bin .add (.var 6) (.var 8)) env) (((List.range m).map (97 + ·)).map fun c => D.str [c]) = .ok (((List.range m).map fun c => w ++ [97 + c]).map D.str) := by
  have h : lcGo (bodyLc Φ [8] .no (.bin .add (.var 6) (.var 8)) env) ((List.range m).map fun c => D.str [97 + c]) = .ok ((List.range m).filterMap fun c => some (D.str (w ++ [97 + c]))) := by
    refine lcGo_emb (fun c => D.str [97 + c]) _ _ fun c hc => ?_
    have e6 : ((wipeE env [8]).set 8 (some (false, D.str [97 + c])))[6]? = some (some (false, .str w)) := by
      simp only [wipeE]
      rw [List.getElem?_set_ne (by decide), List.getElem?_set_ne (by decide), h6]
    have e8 : ((wipeE env [8]).set 8 (some (false, D.str [97 + c])))[8]? = some (some (false, D.str [97 + c])) := by
      rw [List.getElem?_set]
      simp [wipeE, h8]
    have ad : binop .add (.str w) (.str [97 + c]) = some (.pl, .str (w ++ [97 + c])) := bi_addS (by simp; unfold SZ; omega)
    have hl : 8 < (wipeE env [8]).length := by simpa [wipeE] using h8
    simp only [bodyLc, bindT, hl, if_true, R.bind_ok, c_no, e_bin, e_var, e6, e8, ad, lift_some, escV_pl, calm_ok]
  rw [List.map_map, List.map_map]
  rw [List.filterMap_eq_map'] at h
  exact h
theorem tree_ok {iD iS : Nat} (ns : List Int) (k m sp : Nat) (hm0 : 0 < m) (hm : m ≤ 3) (hsp : sp ≤ 100)
    (hD : ∃ ds : List Int, ds.length = sp ∧ (∀ x ∈ ds, 0 ≤ x ∧ x < 5040) ∧ Φ iD [.scr ns, .int k, .int (sp : Nat), .int 5040] = .ok (true, .lst (ds.map .int)))
    (hS : ∀ ws : List Tx, ws.length ≤ SZ → (∀ w ∈ ws, w.length ≤ SZ) → Φ iS [.lst (ws.map .str)] = .ok (false, .tup ((shortW ws).map .str))) :
    ∃ ws : List Tx, Grown m sp ws ∧ runBody Φ W (fnTree iD iS) [.scr ns, .int k, .int m, .int sp] = .ok (false, .tup [.int m, .tup ((shortW ws).map .str)]) := by
  obtain ⟨ds, dl, db, dD⟩ := hD
  obtain ⟨⟨ws, l5, l6⟩, h1, h2⟩ := forGo_inv (g := bodyFor Φ W [5] trBody)
    (fun (a : List Tx × Option Slot × Option Slot) => [some (false, .scr ns), some (false, .int k), some (false, .int m), some (false, .int sp), some (true, .lst (a.1.map .str)), a.2.1, a.2.2, none, none])
    (fun n a => Grown m n a.1 ∧ n ≤ ds.length) (ds.map .int) 0 ((List.range m).map fun i => [97 + i], none, none) ⟨.base, Nat.zero_le _⟩ (by
      rintro n ⟨ws, l5, l6⟩ x hx ⟨hg, hn⟩
      rw [Nat.zero_add] at hg hn ⊢
      simp only at hg
      rw [List.getElem?_map] at hx
      obtain ⟨y, hy, rfl⟩ := Option.map_eq_some_iff.mp hx
      have hnl : n < ds.length := (List.getElem?_eq_some_iff.mp hy).1
      obtain ⟨hlen0, hlen⟩ := hg.len hm0 hm
      have hpos : (0 : Int) < (ws.length : Int) := by omega
      have hy0 := db y (List.mem_of_getElem? hy)
      obtain ⟨i, hi, ei⟩ : ∃ i : Nat, i < ws.length ∧ y % (ws.length : Int) = (i : Int) := ⟨(y % (ws.length : Int)).toNat, by
        have a1 := Int.emod_nonneg y (show (ws.length : Int) ≠ 0 by omega)
        have a2 := Int.emod_lt_of_pos y hpos
        omega, by
        have a1 := Int.emod_nonneg y (show (ws.length : Int) ≠ 0 by omega)
        omega⟩
      have hwi : ws[i]? = some ws[i] := List.getElem?_eq_getElem hi
      generalize ws[i] = w at hwi
      have hw6 := (hg.one w (List.mem_of_getElem? hwi)).2.2
      have hd : (ws.map D.str)[i]? = some (.str w) := by rw [List.getElem?_map, hwi]; rfl
      have p := x_popN (Φ := Φ) (W := W) (env := [some (false, .scr ns), some (false, .int k), some (false, .int m), some (false, .int sp), some (true, .lst (ws.map .str)), some (false, .int y), l6, none, none]) (j := 4) (i := 6) (n := i) (ds := ws.map .str)
        (e := .bin .mod (.var 5) (.bi .len [.var 4])) (fl := .pl) rfl (by simp [ei, hpos, hi, show 0 < ws.length by omega]) hd (by omega) (by simp)
      rw [erase_map] at p
      simp only [List.set_cons_succ, List.set_cons_zero] at p
      have lw : builtin .len [.str w] = some (.pl, .int w.length) := b_lenS (by unfold SZ; omega)
      have hel : (ws.eraseIdx i).length + 1 = ws.length := by rw [List.length_eraseIdx_of_lt hi]; omega
      by_cases h6 : w.length < 6
      · refine ⟨(ws.eraseIdx i ++ (List.range m).map fun c => w ++ [97 + c], some (false, .int y), some (false, .str w)), ?_, hg.split hwi h6, hnl⟩
        have lt := tree_letters (Φ := Φ) m hm [some (false, .scr ns), some (false, .int k), some (false, .int m), some (false, .int sp), some (true, .lst ((ws.eraseIdx i).map .str)), some (false, .int y), some (false, .str w), none, none] (by simp) w rfl hw6
        have h6' : (w.length : Int) < 6 := by omega
        have s1 : slcD (.str [97, 98, 99]) none (some (m : Int)) = some (.pl, .str ((List.range m).map (97 + ·))) := by
          rw [slc_to (by decide)]
          congr 3
          have : m = 1 ∨ m = 2 ∨ m = 3 := by omega
          rcases this with rfl | rfl | rfl <;> rfl
        have hz : ((List.range m).map (97 + ·)).length ≤ SZ := by simp; unfold SZ; omega
        have ad : binop .add (.lst ((ws.eraseIdx i).map .str)) (.lst (((List.range m).map fun c => w ++ [97 + c]).map .str)) = some (.fr, .lst ((ws.eraseIdx i).map .str ++ ((List.range m).map fun c => w ++ [97 + c]).map .str)) := bi_addL (by simp; unfold SZ; omega)
        have hm9 : ((List.range m).map (97 + ·)).length = m := by simp
        rw [← List.map_append] at ad
        generalize (ws.eraseIdx i ++ (List.range m).map fun c => w ++ [97 + c]).map D.str = L1 at *
        generalize (ws.eraseIdx i).map D.str = L2 at *
        generalize ((List.range m).map fun c => w ++ [97 + c]).map D.str = L3 at *
        generalize ((List.range m).map (97 + ·)) = cs at *
        simp [bodyFor, bindT, trBody, p, lw, h6', h6, s1, hz, lt, ad]
      · refine ⟨(ws.eraseIdx i ++ [w], some (false, .int y), some (false, .str w)), ?_, hg.keep hwi h6, hnl⟩
        have h6' : ¬ (w.length : Int) < 6 := by omega
        have hz : (ws.eraseIdx i).length < SZ := by unfold SZ; omega
        rw [List.map_append]
        have hz' : ((ws.eraseIdx i).map D.str).length < SZ := by simpa using hz
        generalize (ws.eraseIdx i).map D.str = L2 at *
        simp [bodyFor, bindT, trBody, p, lw, h6', h6, ownL, hz'])
  simp only [List.length_map] at h2
  rw [Nat.zero_add, dl] at h2
  refine ⟨ws, h2.1, ?_⟩
  have h0 : lcGo (bodyLc Φ [7] .no (.idx (.cst (.str [97, 98, 99])) (.var 7)) [some (false, .scr ns), some (false, .int k), some (false, .int m), some (false, .int sp), none, none, none, none, none]) (rangeI 0 m) = .ok (((List.range m).map fun i => [97 + i]).map .str) := by
    rw [ranges_eq]
    have := lcGo_emb (g := bodyLc Φ [7] .no (.idx (.cst (.str [97, 98, 99])) (.var 7)) [some (false, .scr ns), some (false, .int k), some (false, .int m), some (false, .int sp), none, none, none, none, none]) (fun i : Nat => D.int i) (fun i => some (D.str [97 + i])) (List.range m) fun i hi => by
      have hi3 : i < 3 := Nat.lt_of_lt_of_le (List.mem_range.mp hi) hm
      have ix : idxD (.str [97, 98, 99]) (.int (i : Nat)) = some (.str [97 + i]) := by
        have : i = 0 ∨ i = 1 ∨ i = 2 := by omega
        rcases this with rfl | rfl | rfl <;> rfl
      simp [bodyLc, bindT, wipeE, ix]
    rw [List.filterMap_eq_map'] at this
    rw [this, List.map_map]
    rfl
  have hr : rgOk (m : Int) = true := rgOk_len (by unfold SZ; omega)
  have hmz : m ≤ SZ := by unfold SZ; omega
  have lenz := h2.1.len hm0 hm
  have sw := hS ws (by unfold SZ; omega) fun w hw => by have := h2.1.one w hw; unfold SZ; omega
  generalize ((List.range m).map fun i => [97 + i]).map D.str = L0 at *
  generalize (shortW ws).map D.str = L9 at *
  simp [fnTree, hr, hmz, h0, freeze, dD, h1, sw]
end
theorem g_tree {prog : List FnD} {W iN iD iS iT : Nat} (hN : prog[iN]? = some fnNumber) (hD : prog[iD]? = some (fnDraws iN)) (hS : prog[iS]? = some fnShort) (hT : prog[iT]? = some (fnTree iD iS)) (k : Nat) (ns : List Int) (j m sp : Nat) (hm0 : 0 < m) (hm : m ≤ 3) (hsp : sp ≤ 100) :
    ∃ ws : List Tx, Grown m sp ws ∧ den prog W (k + 3) iT [.scr ns, .int j, .int m, .int sp] = .ok (false, .tup [.int m, .tup ((shortW ws).map .str)]) := by
  rw [den_at hT]
  exact tree_ok ns j m sp hm0 hm hsp (g_draws hN hD k ns j sp 5040 (by decide) (by decide) (by omega)) fun ws h hw => g_short hS (k + 1) ws h hw
end PF

/-! places of a book: all proper beginnings; lists by the order of strings. -/
namespace PF
theorem dds_filter : ∀ {xs acc : List Tx}, xs.Nodup → xs.foldl dd acc = acc ++ xs.filter fun x => !decide (x ∈ acc)
  | [], acc, _ => by simp
  | x :: xs, acc, h => by
    have h := List.nodup_cons.mp h
    rw [List.foldl_cons, dds_filter h.2]
    unfold dd
    by_cases hx : x ∈ acc
    · rw [if_pos hx, List.filter_cons_of_neg (by simp [hx])]
    · rw [if_neg hx, List.filter_cons_of_pos (by simp [hx]), List.append_assoc]
      congr 1
      show x :: _ = x :: _
      congr 1
      refine List.filter_congr fun y hy => ?_
      have : y ≠ x := fun e => h.1 (e ▸ hy)
      simp [this]
def pre1 (w : Tx) : List Tx := (List.range' 1 (w.length - 1)).map fun s => w.take s
def pres (w : Tx) : List Tx := (List.range w.length).map fun s => w.take s
theorem pre1_nd (w : Tx) : (pre1 w).Nodup := by
  unfold pre1
  refine List.Pairwise.map _ (R := fun a b : Nat => a < b ∧ b < w.length) (fun a b h e => ?_) ?_
  · have := congrArg List.length e
    rw [List.length_take, List.length_take] at this
    omega
  · refine List.Pairwise.imp_of_mem (fun {a b} ha hb hab => ⟨hab, ?_⟩) List.pairwise_lt_range'
    have := (List.mem_range'_1.mp hb).2
    omega
theorem pres_eq {w : Tx} (h : w ≠ []) : pres w = [] :: pre1 w := by
  unfold pres pre1
  have : 0 < w.length := List.length_pos_iff.mpr h
  rw [List.range_eq_range', show w.length = (w.length - 1) + 1 by omega, List.range'_succ, List.map_cons]
  simp
theorem dds_pres (w : Tx) {acc : List Tx} (h : [] ∈ acc) : (pres w).foldl dd acc = (pre1 w).foldl dd acc := by
  by_cases h0 : w = []
  · subst h0; rfl
  · rw [pres_eq h0, List.foldl_cons]
    unfold dd
    rw [if_pos h]
theorem mem_fold_nil {f : Tx → List Tx} : ∀ {ws acc : List Tx}, [] ∈ acc → [] ∈ ws.foldl (fun a w => (f w).foldl dd a) acc
  | [], _, h => h
  | w :: ws, acc, h => by
    rw [List.foldl_cons]
    exact mem_fold_nil (mem_dds.mpr (.inl h))
theorem fold_pres : ∀ {ws acc : List Tx}, [] ∈ acc → ws.foldl (fun a w => (pres w).foldl dd a) acc = ws.foldl (fun a w => (pre1 w).foldl dd a) acc
  | [], _, _ => rfl
  | w :: ws, acc, h => by
    rw [List.foldl_cons, List.foldl_cons, dds_pres w h]
    exact fold_pres (mem_dds.mpr (.inl h))
/-- all proper beginnings, in the order in which they come -/
def pl (ws : List Tx) : List Tx := ws.foldl (fun a w => (pre1 w).foldl dd a) [[]]
theorem pl_eq (ws : List Tx) : pl ws = (ws.flatMap pre1).foldl dd [[]] := by
  unfold pl
  rw [List.foldl_flatMap]
theorem pl_nd (ws : List Tx) : (pl ws).Nodup := by
  rw [pl_eq]
  exact nd_dds (by simp)
theorem mem_pre1 {w v : Tx} (h : v ∈ pre1 w) : v.length < w.length := by
  obtain ⟨s, hs, rfl⟩ := List.mem_map.mp h
  have := List.mem_range'_1.mp hs
  rw [List.length_take]
  omega
theorem pl_small {ws : List Tx} {n : Nat} (h : ∀ w ∈ ws, w.length ≤ n) : ∀ v ∈ pl ws, v.length ≤ n := by
  intro v hv
  rw [pl_eq] at hv
  rcases mem_dds.mp hv with hv | hv
  · rw [List.mem_singleton] at hv; subst hv; simp
  · obtain ⟨w, hw, h1⟩ := List.mem_flatMap.mp hv
    have := mem_pre1 h1
    have := h w hw
    omega
theorem pl_len (ws : List Tx) : (pl ws).length ≤ (ws.map List.length).sum + 1 := by
  rw [pl_eq]
  have h1 := dds_len (xs := ws.flatMap pre1) (acc := [[]])
  have h2 : (ws.flatMap pre1).length ≤ (ws.map List.length).sum := by
    clear h1
    induction ws with
    | nil => simp
    | cons w ws ih =>
      have : (pre1 w).length ≤ w.length := by unfold pre1; simp
      rw [List.flatMap_cons, List.length_append, List.map_cons, List.sum_cons]
      omega
  rw [List.length_singleton] at h1
  omega
def placesW (ws : List Tx) : List Tx := (pl ws).mergeSort leK
section
variable {Φ : Nat → List D → R (Bool × D)} {W : Nat}
def plIn : List CS := [.setD 1 (.slc (.var 2) .no (.yes (.var 3))) (.cst (.bl true))]
def fnPlaces (iS : Nat) : FnD := ⟨1, 4, [.asg 1 (.dct1 (.cst (.str [])) (.cst (.bl true))),
  .for_ [2] (.seq .tuple (.idx (.var 0) (.cst (.int 1)))) [.for_ [3] (.rg1 (.bi .len [.var 2])) plIn],
  .ret (.call iS [.bi .list [.var 1]])]⟩
theorem places_ok {iS : Nat} (m : Nat) (ws : List Tx) (hw : ∀ w ∈ ws, w.length ≤ 1000) (hz : (ws.map List.length).sum ≤ 9000)
    (hS : ∀ vs : List Tx, (∀ v ∈ vs, v.length ≤ 1000) → Φ iS [.lst (vs.map .str)] = .ok (true, .lst ((vs.mergeSort leK).map .str))) :
    runBody Φ W (fnPlaces iS) [dBook m ws] = .ok (true, .lst ((placesW ws).map .str)) := by
  obtain ⟨b, h1⟩ := forGo_fold (g := bodyFor Φ W [2] [.for_ [3] (.rg1 (.bi .len [.var 2])) plIn])
    (fun (acc : List Tx) (b : Option Slot × Option Slot) => [some (false, dBook m ws), some (true, dicT false acc), b.1, b.2]) (fun acc w => (pres w).foldl dd acc) D.str List.length List.length 90000
    (fun a x => by have h1 := dds_len (xs := pres x) (acc := a); unfold pres at h1 ⊢; simp at h1; omega) ws (by
      rintro acc ⟨l2, l3⟩ w hw1 hsz
      have hl := hw w hw1
      obtain ⟨b', h2⟩ := forGo_fold (g := bodyFor Φ W [3] plIn) (fun (acc : List Tx) (b : Option Slot) => [some (false, dBook m ws), some (true, dicT false acc), some (false, .str w), b]) (fun acc s => dd acc (w.take s)) (fun i : Nat => D.int i) List.length (fun _ => 1) 95000
        (fun a x => dd_len a _) (List.range w.length) (by
          intro acc b s hs hsz
          refine ⟨some (false, .int (s : Nat)), ?_⟩
          have s1 := slc_to (len_SZ hl) s
          have p1 := put_T acc (w.take s) (by unfold SZ; omega)
          generalize dBook m ws = B at *
          simp [bodyFor, bindT, plIn, s1, p1]) acc l3 (by rw [sum_ones]; simp; omega)
      rw [← ranges_eq, show (List.range w.length).foldl (fun a s => dd a (w.take s)) acc = (pres w).foldl dd acc by unfold pres; rw [List.foldl_map]] at h2
      refine ⟨(some (false, .str w), b'), ?_⟩
      have hr := range_ok hl
      have hz := len_SZ hl
      generalize dBook m ws = B at *
      simp [bodyFor, bindT, hr, hz, h2]) [[]] (none, none) (by simp; omega)
  rw [fold_pres (by simp)] at h1
  have e1 : ws.foldl (fun a w => (pre1 w).foldl dd a) [[]] = pl ws := rfl
  rw [e1] at h1
  have e2 := pl_small hw
  have hS' := hS _ e2
  have b1 := b1_at m ws
  have l1 := list_T false (pl ws)
  have d0 : D.dct false [.s []] [.bl true] = dicT false [[]] := rfl
  have k0 : (D.str []).key = some (.s []) := rfl
  unfold placesW
  generalize hbk : dBook m ws = B at *
  generalize pl ws = L at *
  simp [fnPlaces, k0, d0, b1, h1, l1, hS']
end
/-! ### the order of strings -/
theorem str_trans (a b c : Tx) (h1 : decide (a ≤ b) = true) (h2 : decide (b ≤ c) = true) : decide (a ≤ c) = true := by
  rw [decide_eq_true_eq] at *
  exact List.le_trans h1 h2
theorem str_total (a b : Tx) : (decide (a ≤ b) || decide (b ≤ a)) = true := by
  rw [Bool.or_eq_true, decide_eq_true_eq, decide_eq_true_eq]
  exact List.le_total a b
def sortT (ws : List Tx) : List Tx := ws.mergeSort fun a b => decide (a ≤ b)
theorem sortT_asc (ws : List Tx) : (sortT ws).Pairwise fun a b => decide (a ≤ b) = true := List.pairwise_mergeSort (fun a b c => str_trans a b c) (fun a b => str_total a b) _
theorem le_ext : ∀ {xs ys : List Tx}, (xs.Pairwise fun a b => decide (a ≤ b) = true) → (ys.Pairwise fun a b => decide (a ≤ b) = true) → xs.Nodup → ys.Nodup → (∀ w, w ∈ xs ↔ w ∈ ys) → xs = ys
  | [], [], _, _, _, _, _ => rfl
  | [], y :: ys, _, _, _, _, h => by
    have := (h y).mpr List.mem_cons_self
    cases this
  | x :: xs, [], _, _, _, _, h => by
    have := (h x).mp List.mem_cons_self
    cases this
  | x :: xs, y :: ys, a1, a2, n1, n2, h => by
    have a1 := List.pairwise_cons.mp a1
    have a2 := List.pairwise_cons.mp a2
    rw [List.nodup_cons] at n1 n2
    have e : x = y := by
      rcases List.mem_cons.mp ((h x).mp List.mem_cons_self) with e | hx
      · exact e
      · rcases List.mem_cons.mp ((h y).mpr List.mem_cons_self) with e | hy
        · exact e.symm
        · exact List.le_antisymm (of_decide_eq_true (a1.1 y hy)) (of_decide_eq_true (a2.1 x hx))
    subst e
    have : xs = ys := le_ext a1.2 a2.2 n1.2 n2.2 fun w => by
      constructor
      · intro hw
        rcases List.mem_cons.mp ((h w).mp (List.mem_cons_of_mem _ hw)) with e | h'
        · subst e
          exact absurd hw n1.1
        · exact h'
      · intro hw
        rcases List.mem_cons.mp ((h w).mpr (List.mem_cons_of_mem _ hw)) with e | h'
        · subst e
          exact absurd hw n2.1
        · exact h'
    rw [this]
theorem sortT_eq {xs ys : List Tx} (h1 : xs.Nodup) (h2 : ys.Nodup) (h : ∀ w, w ∈ xs ↔ w ∈ ys) : sortT xs = sortT ys :=
  le_ext (sortT_asc _) (sortT_asc _) ((List.mergeSort_perm _ _).nodup_iff.mpr h1) ((List.mergeSort_perm _ _).nodup_iff.mpr h2) fun w => by
    unfold sortT
    rw [List.mem_mergeSort, List.mem_mergeSort]
    exact h w
theorem intsOf_str (w : Tx) (ws : List Tx) : intsOf ((w :: ws).map .str) = none := rfl
theorem sorted_strs (ws : List Tx) : builtin .sorted [.lst (ws.map .str)] = some (.fr, .lst ((sortT ws).map .str)) := by
  cases ws with
  | nil => simp [builtin, intsOf, sortT]
  | cons w ws =>
    show (match intsOf ((w :: ws).map .str) with
      | some ns => some (Fl.fr, D.lst ((ns.mergeSort fun a b => decide (a ≤ b)).map .int))
      | none => match strsOf ((w :: ws).map .str) with
        | some xs => some (Fl.fr, D.lst ((xs.mergeSort fun a b => decide (a ≤ b)).map .str))
        | none => (sortD ((w :: ws).map .str)).map fun es => (Fl.fr, D.lst es)) = _
    rw [intsOf_str, strsOf_map]
    rfl
end PF

/-! words and books read backwards by the law; letters; loops that end early. -/
namespace PF
/-- a loop that ends with an answer at the first thing that does not fit -/
theorem forGo_all {β γ : Type} {g : D → Env → R Out} (mk : β → Env) (emb : γ → D) (p : γ → Bool) (fr : Bool) (d : D) : ∀ (xs : List γ) (b : β),
    (∀ x ∈ xs, ∀ b, if p x then ∃ b', g (emb x) (mk b) = .ok (.nx (mk b')) else ∃ env, g (emb x) (mk b) = .ok (.ret fr d env)) →
    if xs.all p then ∃ b', forGo g (xs.map emb) (mk b) = .ok (.nx (mk b')) else ∃ env, forGo g (xs.map emb) (mk b) = .ok (.ret fr d env)
  | [], b, _ => ⟨b, rfl⟩
  | x :: xs, b, h => by
    have h0 := h x List.mem_cons_self b
    rw [List.all_cons]
    cases hp : p x with
    | false =>
      rw [hp] at h0
      obtain ⟨env, h1⟩ := h0
      simp only [Bool.false_and, Bool.false_eq_true, if_false]
      refine ⟨env, ?_⟩
      rw [List.map_cons]
      show (g _ _ >>= _) = _
      rw [h1]
      rfl
    | true =>
      rw [hp] at h0
      obtain ⟨b1, h1⟩ := h0
      have ih := forGo_all mk emb p fr d xs b1 fun y hy => h y (List.mem_cons_of_mem _ hy)
      have e : forGo g ((x :: xs).map emb) (mk b) = forGo g (xs.map emb) (mk b1) := by
        rw [List.map_cons]
        show (g _ _ >>= _) = _
        rw [h1]
        rfl
      rw [Bool.true_and, e]
      exact ih
def isW (m : Nat) (w : Tx) : Bool := w.all fun c => decide (c ∈ ([97, 98, 99] : Tx).take m)
section
variable {Φ : Nat → List D → R (Bool × D)} {W : Nat}
def fnIsWord : FnD := ⟨2, 3, [.for_ [2] (.seq .str (.var 1)) [.ife (.cmp .notin (.var 2) (.slc (.cst (.str [97, 98, 99])) .no (.yes (.var 0)))) [.ret (.cst (.bl false))] []],
  .ret (.cst (.bl true))]⟩
theorem notin_one (c : Nat) (t : Tx) : cmpD .notin (.str [c]) (.str t) = some (!decide (c ∈ t)) := by
  show (inD (.str [c]) (.str t)).map _ = _
  rfl
theorem isWordF_ok (m : Nat) (w : Tx) : runBody Φ W fnIsWord [.int m, .str w] = .ok (false, .bl (isW m w)) := by
  have s1 := slc_to (s := [97, 98, 99]) (by decide) m
  have h := forGo_all (g := bodyFor Φ W [2] [.ife (.cmp .notin (.var 2) (.slc (.cst (.str [97, 98, 99])) .no (.yes (.var 0)))) [.ret (.cst (.bl false))] []]) (fun (b : Option Slot) => [some (false, .int (m : Nat)), some (false, .str w), b]) (fun c => D.str [c]) (fun c => decide (c ∈ ([97, 98, 99] : Tx).take m)) false (.bl false) w none (by
    intro c hc b
    have n1 := notin_one c (([97, 98, 99] : Tx).take m)
    by_cases hin : c ∈ ([97, 98, 99] : Tx).take m
    · rw [if_pos (decide_eq_true hin)]
      refine ⟨some (false, .str [c]), ?_⟩
      simp [bodyFor, bindT, s1, n1, hin]
    · rw [if_neg (by simpa using hin)]
      refine ⟨[some (false, .int (m : Nat)), some (false, .str w), some (false, .str [c])], ?_⟩
      simp [bodyFor, bindT, s1, n1, hin])
  unfold isW
  cases ha : w.all fun c => decide (c ∈ ([97, 98, 99] : Tx).take m) with
  | true =>
    rw [ha] at h
    obtain ⟨b, h1⟩ := h
    simp [fnIsWord, h1]
  | false =>
    rw [ha] at h
    obtain ⟨env, h1⟩ := h
    simp [fnIsWord, h1]
/-- the law counts the signs that are no letters -/
theorem bad_len (m : Nat) (w : Tx) : (((w.filter fun c => !decide (c ∈ ([97, 98, 99] : Tx).take m)).length : Int) == 0) = isW m w := by
  unfold isW
  rw [Bool.eq_iff_iff, beq_iff_eq, List.all_eq_true]
  constructor
  · intro h c hc
    have h0 : (w.filter fun c => !decide (c ∈ ([97, 98, 99] : Tx).take m)) = [] := List.length_eq_zero_iff.mp (by omega)
    have := List.filter_eq_nil_iff.mp h0 c hc
    simpa using this
  · intro h
    have : (w.filter fun c => !decide (c ∈ ([97, 98, 99] : Tx).take m)) = [] := List.filter_eq_nil_iff.mpr fun c hc => by
      have := h c hc
      simpa using this
    rw [this]
    rfl
def fnBack : FnD := ⟨1, 2, [.ret (.mt .join (.cst (.str [])) [.lc [1] (.rg1 (.bi .len [.var 0])) .no (.idx (.var 0) (.bin .sub (.bin .sub (.bi .len [.var 0]) (.cst (.int 1))) (.var 1)))])]⟩
theorem join_chars (t : Tx) (h : t.length ≤ 1000) : method .join (.str []) [.lst ((t.map fun c => [c]).map D.str)] = some (.pl, .str t) := by
  show ((strsOf _).bind _) = _
  rw [strsOf_map]
  show (if _ then _ else _) = _
  rw [join_one, if_pos]
  have e3 : ((t.map fun c => [c]).map List.length).sum = t.length := by
    rw [List.map_map]
    exact sum_ones t
  rw [e3]
  simp
  unfold SZ
  omega
theorem back_ok (w : Tx) (hw : w.length ≤ 1000) : runBody Φ W fnBack [.str w] = .ok (false, .str w.reverse) := by
  have hz := len_SZ hw
  have hr := range_ok hw
  have h1 : lcGo (bodyLc Φ [1] .no (.idx (.var 0) (.bin .sub (.bin .sub (.bi .len [.var 0]) (.cst (.int 1))) (.var 1))) [some (false, .str w), none]) (rangeI 0 w.length) = .ok ((w.reverse.map fun c => [c]).map D.str) := by
    rw [ranges_eq]
    have := lcGo_emb (g := bodyLc Φ [1] .no (.idx (.var 0) (.bin .sub (.bin .sub (.bi .len [.var 0]) (.cst (.int 1))) (.var 1))) [some (false, .str w), none]) (fun i : Nat => D.int i) (fun i => some (D.str [w.reverse.getD i 0])) (List.range w.length) fun i hi => by
      have hi := List.mem_range.mp hi
      have e1 : (w.length : Int) - 1 - (i : Int) = ((w.length - 1 - i : Nat) : Int) := by omega
      have hlt : w.length - 1 - i < w.length := by omega
      have ix := idx_str hz (List.getElem?_eq_getElem hlt)
      have e2 : w[w.length - 1 - i] = w.reverse.getD i 0 := by
        rw [List.getD_eq_getElem?_getD, List.getElem?_reverse hi, List.getElem?_eq_getElem hlt]
        rfl
      rw [e2] at ix
      simp [bodyLc, bindT, wipeE, hz, e1, ix]
    rw [this, List.filterMap_eq_map']
    congr 1
    rw [List.map_map]
    refine List.ext_getElem (by simp) fun i h1 h2 => ?_
    have hi : i < w.reverse.length := by simpa using h2
    simp [List.getElem?_eq_getElem hi]
  have j1 := join_chars w.reverse (by simpa using hw)
  generalize (w.reverse.map fun c => [c]).map D.str = L at *
  simp [fnBack, mtOn, hz, hr, h1, j1]
def fnTurned (iS iB : Nat) : FnD := ⟨1, 2, [.ret (.tup [.idx (.var 0) (.cst (.int 0)), .call iS [.lc [1] (.seq .tuple (.idx (.var 0) (.cst (.int 1)))) .no (.call iB [.var 1])]])]⟩
theorem turned_ok {iS iB : Nat} (m : Nat) (ws : List Tx) (hn : ws.length ≤ 1000) (hw : ∀ w ∈ ws, w.length ≤ 1000)
    (hB : ∀ w : Tx, w.length ≤ 1000 → Φ iB [.str w] = .ok (false, .str w.reverse)) (hS : ∀ vs : List Tx, vs.length ≤ SZ → (∀ w ∈ vs, w.length ≤ SZ) → Φ iS [.lst (vs.map .str)] = .ok (false, .tup ((shortW vs).map .str))) :
    runBody Φ W (fnTurned iS iB) [dBook m ws] = .ok (false, dBook m (shortW (ws.map List.reverse))) := by
  have b1 := b1_at m ws
  have b0 := b0_at m ws
  have h1 : lcGo (bodyLc Φ [1] .no (.call iB [.var 1]) [some (false, dBook m ws), none]) (ws.map .str) = .ok ((ws.map List.reverse).map .str) := by
    have := lcGo_emb (g := bodyLc Φ [1] .no (.call iB [.var 1]) [some (false, dBook m ws), none]) D.str (fun w => some (D.str w.reverse)) ws fun w hwm => by
      have := hB w (hw w hwm)
      generalize dBook m ws = B at *
      simp [bodyLc, bindT, wipeE, this]
    rw [this, List.filterMap_eq_map', List.map_map]
    rfl
  have s1 := hS (ws.map List.reverse) (by simp; unfold SZ; omega) fun w hwm => by
    obtain ⟨v, hv, rfl⟩ := List.mem_map.mp hwm
    have := hw v hv
    simp
    unfold SZ
    omega
  have wz : (ws.map D.str).length ≤ SZ := by simp; unfold SZ; omega
  have wz2 : ws.length ≤ SZ := by simpa using wz
  show _ = R.ok (false, D.tup [.int m, .tup ((shortW (ws.map List.reverse)).map .str)])
  generalize dBook m ws = B at *
  generalize (shortW (ws.map List.reverse)).map D.str = S1 at *
  generalize (ws.map List.reverse).map D.str = S2 at *
  simp [fnTurned, b1, b0, wz2, h1, s1]
end
end PF

/-! Books of short words: their offsets are few. -/
namespace PF
structure Gd (ws : List Tx) : Prop where
  one : ∀ w ∈ ws, w ≠ [] ∧ w.length ≤ 6
  nd : ws.Nodup
  few : ws.length ≤ 40
theorem offs_sum (ws : List Tx) : (offW ws).length ≤ (ws.map List.length).sum + 1 := by
  have h1 := shortD_len (offL ws)
  have h2 : (ws.flatMap sufs).length ≤ (ws.map List.length).sum := by
    clear h1
    induction ws with
    | nil => simp
    | cons w ws ih =>
      have := sufs_len w
      rw [List.flatMap_cons, List.length_append, List.map_cons, List.sum_cons]
      omega
  unfold offW
  unfold offL at h1 ⊢
  rw [List.length_cons] at h1
  omega
theorem sm_of {ws : List Tx} (hf : Full ws) (h1 : ∀ w ∈ ws, w.length ≤ 1000) (hn : ws.length ≤ 200) (hs : (ws.map List.length).sum ≤ 260) : Sm 100000 ws := by
  have h := offs_sum ws
  have hc : (offW ws).length ≤ 261 := by omega
  have h2 : (offW ws).length * (offW ws).length ≤ 261 * 261 := Nat.mul_le_mul hc hc
  exact ⟨hf, h1, hn, by omega, by omega, by omega⟩
theorem Gd.sm {ws : List Tx} (g : Gd ws) : Sm 100000 ws := sm_of (fun w hw => (g.one w hw).1) (fun w hw => by have := (g.one w hw).2; omega) (by have := g.few; omega) (by
  have := sum_lens fun w hw => (g.one w hw).2
  have := g.few
  omega)
theorem b_tupL (ds : List D) : builtin .tuple [.lst ds] = some (.pl, .tup ds) := Eq.trans rfl rfl
theorem b_lstT (ds : List D) : builtin .list [.tup ds] = some (.fr, .lst ds) := Eq.trans rfl rfl
theorem add_one (ws : List Tx) (w : Tx) (hn : ws.length ≤ 1000) : binop .add (.lst (ws.map .str)) (.lst [.str w]) = some (.fr, .lst ((ws ++ [w]).map .str)) := by
  rw [List.map_append]
  exact bi_addL (by simp; unfold SZ; omega)
theorem add_str (u v : Tx) (hu : u.length ≤ 1000) (hv : v.length ≤ 1000) : binop .add (.str u) (.str v) = some (.pl, .str (u ++ v)) := bi_addS (by unfold SZ; omega)
theorem add_lst (us vs : List Tx) (hu : us.length ≤ 1000) (hv : vs.length ≤ 1000) : binop .add (.lst (us.map .str)) (.lst (vs.map .str)) = some (.fr, .lst ((us ++ vs).map .str)) := by
  rw [List.map_append]
  exact bi_addL (by simp only [List.length_map]; unfold SZ; omega)
/-- the words that are kept -/
def part (ws : List Tx) (r : List Nat) : List Tx := r.map (wAt ws)
theorem part_len (ws : List Tx) (r : List Nat) : (part ws r).length = r.length := List.length_map _
theorem part_mem {ws : List Tx} {r : List Nat} (h : ∀ i ∈ r, i < ws.length) {w : Tx} (hw : w ∈ part ws r) : w ∈ ws := by
  obtain ⟨i, hi, rfl⟩ := List.mem_map.mp hw
  exact wAt_mem (h i hi)
theorem part_all (ws : List Tx) : part ws (List.range ws.length) = ws := by
  apply List.ext_getElem?
  intro i
  unfold part
  rw [List.getElem?_map]
  by_cases h : i < ws.length
  · rw [List.getElem?_range h]
    exact (wAt_get h).symm
  · rw [List.getElem?_eq_none (by simpa using h), List.getElem?_eq_none (by simpa using h)]
    rfl
end PF

/-! Codes: no two unlike rows have the same text. -/
namespace PF
theorem wAt_of_mem {ws : List Tx} {w : Tx} (h : w ∈ ws) : ∃ i, i < ws.length ∧ wAt ws i = w := by
  obtain ⟨i, hi, e⟩ := List.getElem_of_mem h
  refine ⟨i, hi, ?_⟩
  have := wAt_get hi
  rw [List.getElem?_eq_getElem hi, e] at this
  exact (Option.some.inj this).symm
theorem step_iff {ws : List Tx} {s t : Tx} : t ∈ stepW ws s ↔ (s = [] ∧ ∃ u ∈ ws, ∃ v ∈ ws, v ≠ u ∧ v = u ++ t) ∨ (s ≠ [] ∧ ∃ w ∈ ws, w = s ++ t ∨ s = w ++ t) := by
  rw [mem_step]
  unfold stepL movesW
  by_cases h0 : s = []
  · rw [if_pos h0]
    constructor
    · intro h
      obtain ⟨x, hx, rfl⟩ := List.mem_map.mp h
      obtain ⟨i, hi, hx⟩ := List.mem_flatMap.mp hx
      obtain ⟨o, ho, hx⟩ := List.mem_flatMap.mp hx
      split at hx
      · rename_i hc
        rw [List.mem_singleton] at hx
        subst hx
        obtain ⟨r, hr⟩ := beg_iff.mp hc.2
        refine .inl ⟨h0, wAt ws i, wAt_mem (List.mem_range.mp hi), o, ho, hc.1, ?_⟩
        rw [hr]
        simp
      · cases hx
    · rintro (⟨_, u, hu, v, hv, hne, e⟩ | ⟨h, _⟩)
      · obtain ⟨i, hi, rfl⟩ := wAt_of_mem hu
        refine List.mem_map.mpr ⟨(i, v.drop (wAt ws i).length, false), List.mem_flatMap.mpr ⟨i, List.mem_range.mpr hi, List.mem_flatMap.mpr ⟨v, hv, ?_⟩⟩, ?_⟩
        · rw [if_pos ⟨hne, beg_iff.mpr ⟨t, e⟩⟩]
          exact List.mem_singleton.mpr rfl
        · rw [e]; simp
      · exact absurd h0 h
  · rw [if_neg h0]
    constructor
    · intro h
      obtain ⟨x, hx, rfl⟩ := List.mem_map.mp h
      obtain ⟨i, hi, hx⟩ := List.mem_flatMap.mp hx
      unfold mv at hx
      refine .inr ⟨h0, wAt ws i, wAt_mem (List.mem_range.mp hi), ?_⟩
      split at hx
      · rename_i hc
        rw [List.mem_singleton] at hx
        subst hx
        obtain ⟨r, hr⟩ := beg_iff.mp hc
        left
        rw [hr]
        simp
      · split at hx
        · rename_i hc
          rw [List.mem_singleton] at hx
          subst hx
          obtain ⟨r, hr⟩ := beg_iff.mp hc
          right
          rw [hr]
          simp
        · cases hx
    · rintro (⟨h, _⟩ | ⟨_, w, hw, e⟩)
      · exact absurd h h0
      · obtain ⟨i, hi, rfl⟩ := wAt_of_mem hw
        by_cases hb : beg s (wAt ws i) = true
        · refine List.mem_map.mpr ⟨(i, (wAt ws i).drop s.length, true), List.mem_flatMap.mpr ⟨i, List.mem_range.mpr hi, ?_⟩, ?_⟩
          · unfold mv
            rw [if_pos hb]
            exact List.mem_singleton.mpr rfl
          · rcases e with e | e
            · rw [e]; simp
            · obtain ⟨r, hr⟩ := beg_iff.mp hb
              have hl := congrArg List.length e
              have hl2 := congrArg List.length hr
              rw [List.length_append] at hl hl2
              have ht : t = [] := List.length_eq_zero_iff.mp (by omega)
              have hr0 : r = [] := List.length_eq_zero_iff.mp (by omega)
              rw [ht, hr, hr0]
              simp
        · have e2 : s = wAt ws i ++ t := by
            rcases e with e | e
            · exact absurd (beg_iff.mpr ⟨t, e⟩) hb
            · exact e
          refine List.mem_map.mpr ⟨(i, s.drop (wAt ws i).length, false), List.mem_flatMap.mpr ⟨i, List.mem_range.mpr hi, ?_⟩, ?_⟩
          · unfold mv
            rw [if_neg hb, if_pos (beg_iff.mpr ⟨t, e2⟩)]
            exact List.mem_singleton.mpr rfl
          · show s.drop _ = t
            conv => lhs; rw [e2]
            simp
theorem msg_nil (ws : List Tx) : Msg ws [] := ⟨[], fun u hu => (by cases hu), rfl⟩
theorem msg_cons {ws : List Tx} {u x : Tx} (hu : u ∈ ws) (hx : Msg ws x) : Msg ws (u ++ x) := msg_app (msg_word hu) hx
theorem msg_snoc {ws : List Tx} {u x : Tx} (hu : u ∈ ws) (hx : Msg ws x) : Msg ws (x ++ u) := msg_app hx (msg_word hu)
/-- what an offset stands for -/
theorem reach_sound {ws : List Tx} {t : Tx} (h : Reach ws [] t) : ∃ u ∈ ws, ∃ v ∈ ws, v ≠ u ∧ ∃ x y, Msg ws x ∧ Msg ws y ∧ u ++ (x ++ t) = v ++ y := by
  induction h with
  | @one t ht =>
    rcases step_iff.mp ht with ⟨_, u, hu, v, hv, hne, e⟩ | ⟨h, _⟩
    · exact ⟨u, hu, v, hv, hne, [], [], msg_nil ws, msg_nil ws, by rw [e]; simp⟩
    · exact absurd rfl h
  | @more t w hst hw ih =>
    rcases step_iff.mp hw with ⟨_, u, hu, v, hv, hne, e⟩ | ⟨h0, z, hz, e⟩
    · exact ⟨u, hu, v, hv, hne, [], [], msg_nil ws, msg_nil ws, by rw [e]; simp⟩
    · obtain ⟨u, hu, v, hv, hne, x, y, hx, hy, he⟩ := ih
      rcases e with e | e
      · -- z = t ++ w: the other side goes on
        refine ⟨v, hv, u, hu, hne.symm, y, x ++ z, hy, msg_snoc hz hx, ?_⟩
        rw [e, ← List.append_assoc, ← he]
        simp
      · refine ⟨u, hu, v, hv, hne, x ++ z, y, msg_snoc hz hx, hy, ?_⟩
        rw [← he, e]
        simp
theorem prefix_or {a b x y : Tx} (h : a ++ x = b ++ y) : (∃ t, b = a ++ t ∧ x = t ++ y) ∨ (∃ t, a = b ++ t ∧ y = t ++ x) := by
  rcases List.append_eq_append_iff.mp h with ⟨t, e1, e2⟩ | ⟨t, e1, e2⟩
  · exact .inl ⟨t, e1, e2⟩
  · exact .inr ⟨t, e1, e2⟩
theorem reach_run {ws : List Tx} (hf : Full ws) : ∀ (n : Nat) (s x y : Tx), s.length + x.length ≤ n → s ≠ [] → Reach ws [] s → Msg ws x → Msg ws y → s ++ x = y → Reach ws [] []
  | 0, s, x, y, hn, h0, _, _, _, _ => absurd (List.length_eq_zero_iff.mp (by omega)) h0
  | n + 1, s, x, y, hn, h0, hr, hx, hy, e => by
    obtain ⟨us, h1, h2⟩ := hy
    cases us with
    | nil =>
      have : y = [] := h2.symm
      rw [this] at e
      exact absurd (List.append_eq_nil_iff.mp e).1 h0
    | cons w us =>
      have hw := h1 w List.mem_cons_self
      have hus : Msg ws us.flatten := ⟨us, fun u hu => h1 u (List.mem_cons_of_mem _ hu), rfl⟩
      rw [← h2, List.flatten_cons] at e
      have hwl := List.length_pos_iff.mpr (hf w hw)
      have hsl := List.length_pos_iff.mpr h0
      have el := congrArg List.length e
      rw [List.length_append, List.length_append] at el
      rcases prefix_or e with ⟨t, e1, e2⟩ | ⟨t, e1, e2⟩
      · have hst : Reach ws [] t := .more hr (step_iff.mpr (.inr ⟨h0, w, hw, .inl e1⟩))
        by_cases ht : t = []
        · rw [ht] at hst; exact hst
        · have l2 := congrArg List.length e2
          rw [List.length_append] at l2
          exact reach_run hf n t us.flatten x (by omega) ht hst hus hx e2.symm
      · have hst : Reach ws [] t := .more hr (step_iff.mpr (.inr ⟨h0, w, hw, .inr e1⟩))
        by_cases ht : t = []
        · rw [ht] at hst; exact hst
        · have l1 := congrArg List.length e1
          rw [List.length_append] at l1
          exact reach_run hf n t x us.flatten (by omega) ht hst hx hus e2.symm
/-- no code: two unlike first words -/
theorem reach_iff {ws : List Tx} (hf : Full ws) : Reach ws [] [] ↔ ∃ u ∈ ws, ∃ v ∈ ws, v ≠ u ∧ ∃ x y, Msg ws x ∧ Msg ws y ∧ u ++ x = v ++ y := by
  constructor
  · intro h
    obtain ⟨u, hu, v, hv, hne, x, y, hx, hy, e⟩ := reach_sound h
    rw [List.append_nil] at e
    exact ⟨u, hu, v, hv, hne, x, y, hx, hy, e⟩
  · rintro ⟨u, hu, v, hv, hne, x, y, hx, hy, e⟩
    rcases prefix_or e with ⟨t, e1, e2⟩ | ⟨t, e1, e2⟩
    · have ht : t ≠ [] := fun z => hne (by rw [e1, z, List.append_nil])
      exact reach_run hf _ t y x (Nat.le_refl _) ht (.one (step_iff.mpr (.inl ⟨rfl, u, hu, v, hv, hne, e1⟩))) hy hx e2.symm
    · have ht : t ≠ [] := fun z => hne (by rw [e1, z, List.append_nil])
      exact reach_run hf _ t x y (Nat.le_refl _) ht (.one (step_iff.mpr (.inl ⟨rfl, v, hv, u, hu, hne.symm, e1⟩))) hx hy e2.symm
/-! ### two words -/
/-- words that meet commute -/
theorem comm_rel : ∀ (n : Nat) (a b x y : Tx), a.length + b.length ≤ n → a ≠ [] → b ≠ [] → Msg [a, b] x → Msg [a, b] y → a ++ x = b ++ y → a ++ b = b ++ a
  | 0, a, b, x, y, hn, ha, hb, _, _, _ => absurd (List.length_eq_zero_iff.mp (by omega)) ha
  | n + 1, a, b, x, y, hn, ha, hb, hx, hy, e => by
    have hal := List.length_pos_iff.mpr ha
    have hbl := List.length_pos_iff.mpr hb
    -- the shorter word is a, the longer one a ++ c
    have key : ∀ (a c x y : Tx), a.length + (a ++ c).length ≤ n + 1 → a ≠ [] → Msg [a, a ++ c] x → Msg [a, a ++ c] y → x = c ++ y → a ++ (a ++ c) = a ++ c ++ a := by
      intro a c x y hn ha hx hy e
      have hal := List.length_pos_iff.mpr ha
      rw [List.length_append] at hn
      by_cases hc : c = []
      · rw [hc]; simp
      · have hcl := List.length_pos_iff.mpr hc
        have sub : ∀ z, Msg [a, a ++ c] z → Msg [a, c] z := fun z hz => msg_trans (fun u hu => by
          rcases List.mem_cons.mp hu with rfl | hu
          · exact msg_word (by simp)
          · rw [List.mem_singleton] at hu
            subst hu
            exact msg_app (msg_word (by simp)) (msg_word (by simp))) hz
        obtain ⟨us, h1, h2⟩ := hx
        cases us with
        | nil =>
          have : x = [] := h2.symm
          rw [this] at e
          exact absurd (List.append_eq_nil_iff.mp e.symm).1 hc
        | cons w us =>
          have hus : Msg [a, a ++ c] us.flatten := ⟨us, fun u hu => h1 u (List.mem_cons_of_mem _ hu), rfl⟩
          rw [List.flatten_cons] at h2
          have go : ∀ x', Msg [a, c] x' → a ++ x' = c ++ y → a ++ (a ++ c) = a ++ c ++ a := fun x' hx' e' => by
            have := comm_rel n a c x' y (by omega) ha hc hx' (sub y hy) e'
            rw [List.append_assoc, this]
          rcases List.mem_cons.mp (h1 w List.mem_cons_self) with rfl | hw
          · exact go _ (sub _ hus) (by rw [h2, e])
          · rw [List.mem_singleton] at hw
            subst hw
            exact go (c ++ us.flatten) (msg_app (msg_word (by simp)) (sub _ hus)) (by rw [← List.append_assoc, h2, e])
    rcases prefix_or e with ⟨c, e1, e2⟩ | ⟨c, e1, e2⟩
    · subst e1
      exact key a c x y hn ha hx hy e2
    · subst e1
      have sw : ∀ z, Msg [b ++ c, b] z → Msg [b, b ++ c] z := fun z hz => msg_sub (fun u hu => by simp only [List.mem_cons, List.not_mem_nil, or_false] at hu ⊢; exact hu.symm) hz
      exact (key b c y x (by omega) hb (sw y hy) (sw x hx) e2).symm
/-- two words are a code exactly if they do not commute -/
theorem two_code {ws : List Tx} {a b : Tx} (ha : a ≠ []) (hb : b ≠ []) (hne : a ≠ b) (hm : ∀ w, w ∈ ws ↔ w = a ∨ w = b) : codeB ws = !decide (a ++ b = b ++ a) := by
  have hf : Full ws := fun u hu => by
    rcases (hm u).mp hu with rfl | rfl
    · exact ha
    · exact hb
  have hsub : ∀ z, Msg ws z → Msg [a, b] z := fun z hz => msg_sub (fun u hu => by simpa using (hm u).mp hu) hz
  have key : Reach ws [] [] ↔ a ++ b = b ++ a := by
    rw [reach_iff hf]
    constructor
    · rintro ⟨u, hu, v, hv, hne', x, y, hx, hy, e⟩
      rcases (hm u).mp hu with rfl | rfl
      · rcases (hm v).mp hv with rfl | rfl
        · exact absurd rfl hne'
        · exact comm_rel _ _ _ x y (Nat.le_refl _) ha hb (hsub x hx) (hsub y hy) e
      · rcases (hm v).mp hv with rfl | rfl
        · exact comm_rel _ _ _ y x (Nat.le_refl _) ha hb (hsub y hy) (hsub x hx) e.symm
        · exact absurd rfl hne'
    · intro e
      exact ⟨a, (hm a).mpr (.inl rfl), b, (hm b).mpr (.inr rfl), hne.symm, b, a, msg_word ((hm b).mpr (.inr rfl)), msg_word ((hm a).mpr (.inl rfl)), e⟩
  unfold codeB
  rw [Bool.eq_iff_iff]
  simp [key]
/-! ### loops -/
/-- a loop that ends with the first thing that fits -/
theorem forGo_find {β γ : Type} {g : D → Env → R Out} (mk : β → Env) (emb : γ → D) (p : γ → Bool) (fr : Bool) (d : γ → D) : ∀ (xs : List γ) (b : β),
    (∀ x ∈ xs, ∀ b, if p x then ∃ env, g (emb x) (mk b) = .ok (.ret fr (d x) env) else ∃ b', g (emb x) (mk b) = .ok (.nx (mk b'))) →
    match xs.find? p with
    | none => ∃ b', forGo g (xs.map emb) (mk b) = .ok (.nx (mk b'))
    | some x => ∃ env, forGo g (xs.map emb) (mk b) = .ok (.ret fr (d x) env)
  | [], b, _ => ⟨b, rfl⟩
  | x :: xs, b, h => by
    have h0 := h x List.mem_cons_self b
    rw [List.find?_cons]
    cases hp : p x with
    | true =>
      rw [hp] at h0
      obtain ⟨env, h1⟩ := h0
      refine ⟨env, ?_⟩
      rw [List.map_cons]
      show (g _ _ >>= _) = _
      rw [h1]
      rfl
    | false =>
      rw [hp] at h0
      obtain ⟨b1, h1⟩ := h0
      have ih := forGo_find mk emb p fr d xs b1 fun y hy => h y (List.mem_cons_of_mem _ hy)
      have e : forGo g ((x :: xs).map emb) (mk b) = forGo g (xs.map emb) (mk b1) := by
        rw [List.map_cons]
        show (g _ _ >>= _) = _
        rw [h1]
        rfl
      simp only
      rw [e]
      exact ih
theorem forGo_nx {g : D → Env → R Out} {x : D} {xs : List D} {e e1 : Env} {o : R Out} (h1 : g x e = .ok (.nx e1)) (h2 : forGo g xs e1 = o) : forGo g (x :: xs) e = o := by
  show (g x e >>= _) = _
  rw [h1]
  exact h2
theorem head_or (l : List D) : idxD (.lst (l ++ [.non])) (.int 0) = some (l.head?.getD .non) := by
  cases l with
  | nil => rfl
  | cons x l =>
    show PF.atI (x :: l ++ [.non]) ((0 : Nat) : Int) = _
    rw [atI_nat (by simp)]
    rfl
theorem add_non (l : List D) (h : l.length ≤ 1000) : binop .add (.lst l) (.lst [.non]) = some (.fr, .lst (l ++ [.non])) := bi_addL (by simp; unfold SZ; omega)
theorem find_cons {α : Type} {p : α → Bool} {l r : List α} {x : α} (h : l.filter p = x :: r) : l.find? p = some x := by
  rw [← List.head?_filter, h]
  rfl
end PF

/-! Numbers of rows: what the defs compute. -/
namespace PF.K90
open PF
/-- the first numbers -/
def cL (ws : List Tx) (L : Nat) : List Nat := (List.range L).map (cn ws)
def cD (ws : List Tx) (L : Nat) : D := .lst ((cL ws L).map fun n => .int (n : Nat))
theorem cL_len (ws : List Tx) (L : Nat) : (cL ws L).length = L := by unfold cL; rw [List.length_map, List.length_range]
theorem cL_get {ws : List Tx} {L i : Nat} (h : i < L) : (cL ws L)[i]? = some (cn ws i) := by
  unfold cL
  rw [List.getElem?_map, List.getElem?_range h]
  rfl
theorem cD_idx {ws : List Tx} {L i : Nat} (h : i < L) : idxD (cD ws L) (.int (i : Nat)) = some (.int (cn ws i : Nat)) := idx_nats (cL_get h)
theorem cL_succ (ws : List Tx) (L : Nat) : cL ws (L + 1) = cL ws L ++ [cn ws L] := by unfold cL; rw [List.range_succ, List.map_append]; rfl
section
variable {Φ : Nat → List D → R (Bool × D)} {W : Nat} {ws : List Tx}
theorem next_count_ok (m : Nat) (hb : Bk ws) (L : Nat) (h0 : L ≠ 0) (hL : L ≤ 50000) : runBody Φ W c_next_count [dBook m ws, cD ws L] = .ok (false, .int (cn ws L : Nat)) := by
  have i1 := b1_at m ws
  have hcl : ((cL ws L).map fun n => D.int (n : Nat)).length = L := by rw [List.length_map, cL_len]
  have hz : L ≤ SZ := by unfold SZ; omega
  have lc : lcGo (bodyLc Φ [2] (.yes (.cmp .le (.bi .len [.var 2]) (.bi .len [.var 1]))) (.idx (.var 1) (.bin .sub (.bi .len [.var 1]) (.bi .len [.var 2]))) [some (false, dBook m ws), some (false, cD ws L), none]) (ws.map .str) =
      .ok (((ws.filter fun w => decide (w.length ≤ L)).map fun w => cn ws (L - w.length)).map fun n => .int (n : Nat)) := by
    rw [lcGo_emb (emb := D.str) (f := fun w => if w.length ≤ L then some (D.int (cn ws (L - w.length) : Nat)) else none) ws fun w hw => ?_]
    · rw [fm_if, List.map_map]
      rfl
    · have hw1 := hb.one w hw
      have hp := List.length_pos_iff.mpr (hb.full w hw)
      have hwz : w.length ≤ SZ := by unfold SZ; omega
      by_cases h : w.length ≤ L
      · have hi : (w.length : Int) ≤ (L : Int) := by omega
        have ix := cD_idx (ws := ws) (L := L) (i := L - w.length) (by omega)
        rw [if_pos h]
        rw [show ((L - w.length : Nat) : Int) = (L : Int) - (w.length : Int) by omega] at ix
        unfold cD at ix ⊢
        generalize cn ws (L - w.length) = c at *
        generalize ((cL ws L).map fun n => D.int (n : Nat)) = C at *
        subst hcl
        simp [bodyLc, bindT, wipeE, hwz, hz, h, ix]
      · have hi : ¬ (w.length : Int) ≤ (L : Int) := by omega
        rw [if_neg h]
        unfold cD at *
        generalize ((cL ws L).map fun n => D.int (n : Nat)) = C at *
        subst hcl
        simp [bodyLc, bindT, wipeE, hwz, hz, h]
  have sm := b_sum ((ws.filter fun w => decide (w.length ≤ L)).map fun w => cn ws (L - w.length))
  rw [← cn_step hb.full h0] at sm
  generalize ((ws.filter fun w => decide (w.length ≤ L)).map fun w => cn ws (L - w.length)).map (fun n => D.int (n : Nat)) = A at *
  have hT : (ws.map D.str).length ≤ SZ := by rw [List.length_map]; have := hb.few; unfold SZ; omega
  generalize cn ws L = c at *
  generalize cD ws L = C at *
  generalize dBook m ws = B at *
  generalize ws.map D.str = T at *
  simp [c_next_count, i1, hT, lc, sm]
theorem row_counts_ok (m : Nat) (hb : Bk ws) (n : Nat) (hn : n ≤ 40000) (h1 : ∀ L : Nat, L ≠ 0 → L ≤ 50000 → Φ 1 [dBook m ws, cD ws L] = .ok (false, .int (cn ws L : Nat))) : runBody Φ W c_row_counts [dBook m ws, .int (n : Nat)] = .ok (true, cD ws (n + 1)) := by
  have key : ∀ (k s : Nat) (l3 : Option Slot), s + k ≤ n → ∃ l3', forGo (bodyFor Φ W [3] [.app 2 (.call 1 [.var 0, .var 2])]) ((List.range' (s + 1) k).map fun i => .int (i : Nat)) [some (false, dBook m ws), some (false, .int (n : Nat)), some (true, cD ws (s + 1)), l3] =
      .ok (.nx [some (false, dBook m ws), some (false, .int (n : Nat)), some (true, cD ws (s + 1 + k)), l3']) := by
    intro k
    induction k with
    | zero => intro s l3 _; exact ⟨l3, rfl⟩
    | succ k ih =>
      intro s l3 hs
      obtain ⟨l3', e⟩ := ih (s + 1) (some (false, .int ((s + 1 : Nat) : Int))) (by omega)
      refine ⟨l3', ?_⟩
      rw [List.range'_succ, List.map_cons]
      rw [show s + 1 + 1 + k = s + 1 + (k + 1) by omega] at e
      refine forGo_nx ?_ e
      have c1 := h1 (s + 1) (by omega) (by omega)
      have hl : ((cL ws (s + 1)).map fun n => D.int (n : Nat)).length < SZ := by rw [List.length_map, cL_len]; unfold SZ; omega
      have ee : cD ws (s + 1 + 1) = .lst ((cL ws (s + 1)).map (fun n => D.int (n : Nat)) ++ [.int (cn ws (s + 1) : Nat)]) := by
        unfold cD
        rw [cL_succ, List.map_append]
        rfl
      rw [ee]
      unfold cD at c1 ⊢
      generalize ((cL ws (s + 1)).map fun n => D.int (n : Nat)) = C at *
      generalize cn ws (s + 1) = c at *
      generalize ((s + 1 : Nat) : Int) = S1 at *
      generalize dBook m ws = B at *
      simp [bodyFor, bindT, c1, ownL, hl]
  obtain ⟨l3', lp⟩ := key n 0 none (by omega)
  have hr1 : rgOk 1 = true := rfl
  have hr2 : rgOk ((n : Int) + 1) = true := by unfold rgOk; simp only [Bool.and_eq_true, decide_eq_true_eq]; omega
  have et : ((n : Int) + 1 - 1).toNat = n := by omega
  have c1 : cD ws (0 + 1) = .lst [.int 1] := rfl
  rw [c1, ← rangeI_nat, Nat.zero_add, Nat.add_comm 1 n] at lp
  simp only [Int.natCast_one, Int.cast_ofNat_Int] at lp
  generalize cD ws (n + 1) = C at *
  generalize dBook m ws = B at *
  simp [c_row_counts, hr1, hr2, et, lp]
/-! ### next_index -/
abbrev XB : List CS := [.ife (.cmp .le (.bi .len [.idx (.idx (.var 0) (.cst (.int 1))) (.var 4)]) (.var 2)) [.asg 5 (.idx (.var 1) (.bin .sub (.var 2) (.bi .len [.idx (.idx (.var 0) (.cst (.int 1))) (.var 4)]))),
      .ife (.cmp .lt (.var 3) (.var 5)) [.ret (.tup [.var 4, .var 3])] [],
      .asg 3 (.bin .sub (.var 3) (.var 5))] []]
theorem next_index_loop (m : Nat) (hb : Bk ws) (L n : Nat) (hn : n < L) (i k' : Nat) : ∀ (c s k : Nat) (l4 l5 : Option Slot), s + c ≤ ws.length → nx ws n (List.range' s c) k = some (i, k') → ∃ env',
    forGo (bodyFor Φ W [4] XB) ((List.range' s c).map fun i => .int (i : Nat)) [some (false, dBook m ws), some (false, cD ws L), some (false, .int (n : Nat)), some (false, .int (k : Nat)), l4, l5] = .ok (.ret false (.tup [.int (i : Nat), .int (k' : Nat)]) env')
  | 0, s, k, l4, l5, _, h => by cases h
  | c + 1, s, k, l4, l5, hs, h => by
    rw [List.range'_succ] at h ⊢
    rw [List.map_cons]
    unfold nx at h
    have i1 := b1_at m ws
    have i2 := bw_at (ws := ws) (i := s) (by omega)
    have h3 : (wAt ws s).length ≤ SZ := by have := hb.one _ (wAt_mem (show s < ws.length by omega)); unfold SZ; omega
    by_cases h1 : (wAt ws s).length ≤ n
    · rw [if_pos h1] at h
      have hi : ((wAt ws s).length : Int) ≤ (n : Int) := by omega
      have ix := cD_idx (ws := ws) (L := L) (i := n - (wAt ws s).length) (by omega)
      rw [show ((n - (wAt ws s).length : Nat) : Int) = (n : Int) - ((wAt ws s).length : Int) by omega] at ix
      by_cases h2 : k < cn ws (n - (wAt ws s).length)
      · rw [if_pos h2] at h
        simp only [Option.some.injEq, Prod.mk.injEq] at h
        rw [← h.1, ← h.2]
        have h2' : (k : Int) < ((cn ws (n - (wAt ws s).length) : Nat) : Int) := by omega
        refine ⟨[some (false, dBook m ws), some (false, cD ws L), some (false, .int (n : Nat)), some (false, .int (k : Nat)), some (false, .int (s : Nat)), some (false, .int (cn ws (n - (wAt ws s).length) : Nat))], ?_⟩
        show (bodyFor Φ W [4] XB _ _ >>= _) = _
        have turn : bodyFor Φ W [4] XB (.int (s : Nat)) [some (false, dBook m ws), some (false, cD ws L), some (false, .int (n : Nat)), some (false, .int (k : Nat)), l4, l5] = .ok (.ret false (.tup [.int (s : Nat), .int (k : Nat)]) [some (false, dBook m ws), some (false, cD ws L), some (false, .int (n : Nat)), some (false, .int (k : Nat)), some (false, .int (s : Nat)), some (false, .int (cn ws (n - (wAt ws s).length) : Nat))]) := by
          generalize cn ws (n - (wAt ws s).length) = c at *
          generalize wAt ws s = u at *
          generalize cD ws L = C at *
          generalize dBook m ws = B at *
          generalize D.tup (ws.map D.str) = T at *
          simp [bodyFor, bindT, i1, i2, h3, h1, ix, h2, h2']
        rw [turn]
        rfl
      · rw [if_neg h2] at h
        have h2' : ¬ (k : Int) < ((cn ws (n - (wAt ws s).length) : Nat) : Int) := by omega
        obtain ⟨env', e⟩ := next_index_loop m hb L n hn i k' c (s + 1) _ (some (false, .int (s : Nat))) (some (false, .int (cn ws (n - (wAt ws s).length) : Nat))) (by omega) h
        refine ⟨env', forGo_nx ?_ e⟩
        have ek : (((k - cn ws (n - (wAt ws s).length) : Nat)) : Int) = (k : Int) - ((cn ws (n - (wAt ws s).length) : Nat) : Int) := by omega
        rw [ek]
        generalize cn ws (n - (wAt ws s).length) = c at *
        generalize wAt ws s = u at *
        generalize cD ws L = C at *
        generalize dBook m ws = B at *
        generalize D.tup (ws.map D.str) = T at *
        simp [bodyFor, bindT, i1, i2, h3, h1, ix, h2, h2']
    · rw [if_neg h1] at h
      have hi : ¬ ((wAt ws s).length : Int) ≤ (n : Int) := by omega
      obtain ⟨env', e⟩ := next_index_loop m hb L n hn i k' c (s + 1) k (some (false, .int (s : Nat))) l5 (by omega) h
      refine ⟨env', forGo_nx ?_ e⟩
      generalize wAt ws s = u at *
      generalize cD ws L = C at *
      generalize dBook m ws = B at *
      generalize D.tup (ws.map D.str) = T at *
      simp [bodyFor, bindT, i1, i2, h3, h1]
theorem next_index_ok (m : Nat) (hb : Bk ws) (L n k i k' : Nat) (hn : n < L) (h : nx ws n (List.range ws.length) k = some (i, k')) : runBody Φ W c_next_index [dBook m ws, cD ws L, .int (n : Nat), .int (k : Nat)] = .ok (false, .tup [.int (i : Nat), .int (k' : Nat)]) := by
  rw [List.range_eq_range'] at h
  obtain ⟨env', lp⟩ := next_index_loop (Φ := Φ) (W := W) m hb L n hn i k' ws.length 0 k none none (by omega) h
  have i1 := b1_at m ws
  have hl : (ws.map D.str).length = ws.length := List.length_map _
  have hz : ws.length ≤ SZ := by have := hb.few; unfold SZ; omega
  have hr : rgOk (ws.length : Int) = true := rgOk_len hz
  rw [← rangeI_nat] at lp
  simp only [Int.natCast_zero, Int.cast_ofNat_Int] at lp
  generalize cD ws L = C at *
  generalize dBook m ws = B at *
  generalize ws.map D.str = T at *
  simp [c_next_index, i1, hl, hz, hr, lp]
end
end PF.K90

/-! row_by_number, row_number. -/
namespace PF.K90
open PF
section
variable {Φ : Nat → List D → R (Bool × D)} {W : Nat} {ws : List Tx}
abbrev SC : CE := .cmp .gt (.var 2) (.cst (.int 0))
abbrev SB : List CS := [.fz [1] (.asgT [5, 3] (.call 5 [.var 0, .var 1, .var 2, .var 3])),
    .asg 4 (.bin .add (.var 4) (.tup [.var 5])),
    .asg 2 (.bin .sub (.var 2) (.bi .len [.idx (.idx (.var 0) (.cst (.int 1))) (.var 5)]))]
theorem size_loop (m : Nat) (hb : Bk ws) (L : Nat) (hX : ∀ n k i k' : Nat, n < L → nx ws n (List.range ws.length) k = some (i, k') → Φ 5 [dBook m ws, cD ws L, .int (n : Nat), .int (k : Nat)] = .ok (false, .tup [.int (i : Nat), .int (k' : Nat)])) :
    ∀ (q n k : Nat) (r acc : List Nat) (l5 : Option Slot), n < L → n + 1 ≤ q → acc.length + n ≤ 50000 → (rN ws n)[k]? = some r → ∃ env' : Env, env'[4]? = some (some (false, rowD (acc ++ r))) ∧
      whlGo (condWhl Φ SC) (bodyWhl Φ W SB) q [some (false, dBook m ws), some (false, cD ws L), some (false, .int (n : Nat)), some (false, .int (k : Nat)), some (false, rowD acc), l5] = .ok (.nx env')
  | 0, n, k, r, acc, l5, _, hq, _, _ => by omega
  | q + 1, n, k, r, acc, l5, hn, hq, ha, h => by
    have hcond : condWhl Φ SC [some (false, dBook m ws), some (false, cD ws L), some (false, .int (n : Nat)), some (false, .int (k : Nat)), some (false, rowD acc), l5] = .ok (decide (0 < n)) := by
      generalize dBook m ws = B
      generalize cD ws L = C
      generalize rowD acc = A
      simp [condWhl]
    show ∃ env', _ ∧ (condWhl Φ SC _ >>= _) = _
    rw [hcond]
    by_cases h0 : n = 0
    · subst h0
      rw [rN_zero] at h
      have hk := (List.getElem?_eq_some_iff.mp h).1
      simp only [List.length_singleton] at hk
      have : k = 0 := by omega
      subst this
      simp at h
      subst h
      exact ⟨_, by rw [List.append_nil]; rfl, rfl⟩
    · have hk := (List.getElem?_eq_some_iff.mp h).1
      obtain ⟨i, k', r', g1, g2, g3, g4, g5⟩ := nx_row hb.full h0 (show k < cn ws n from hk)
      rw [g5] at h
      cases h
      have hp := wAt_pos hb.full g2
      have c5 := hX n k i k' hn g1
      have i1 := b1_at m ws
      have i2 := bw_at g2
      have h3 : (wAt ws i).length ≤ SZ := by have := hb.one _ (wAt_mem g2); unfold SZ; omega
      obtain ⟨env', e1, e2⟩ := size_loop m hb L hX q (n - (wAt ws i).length) k' r' (acc ++ [i]) (some (false, .int (i : Nat))) (by omega) (by omega) (by rw [List.length_append, List.length_singleton]; omega) g4
      refine ⟨env', by rw [List.append_assoc] at e1; exact e1, ?_⟩
      have hd : decide (0 < n) = true := decide_eq_true (by omega)
      rw [hd]
      show (bodyWhl Φ W SB _ >>= _) = _
      have ad : binop .add (rowD acc) (.tup [.int (i : Nat)]) = some (.pl, rowD (acc ++ [i])) := by
        unfold rowD
        rw [bi_addT (by rw [List.length_map, List.length_singleton]; unfold SZ; omega), List.map_append]
        rfl
      have en : ((n - (wAt ws i).length : Nat) : Int) = (n : Int) - ((wAt ws i).length : Int) := by omega
      have turn : bodyWhl Φ W SB [some (false, dBook m ws), some (false, cD ws L), some (false, .int (n : Nat)), some (false, .int (k : Nat)), some (false, rowD acc), l5] = .ok (.nx [some (false, dBook m ws), some (false, cD ws L), some (false, .int ((n - (wAt ws i).length : Nat) : Int)), some (false, .int (k' : Nat)), some (false, rowD (acc ++ [i])), some (false, .int (i : Nat))]) := by
        rw [en]
        generalize rowD (acc ++ [i]) = A1 at *
        generalize rowD acc = A at *
        generalize wAt ws i = u at *
        generalize cD ws L = C at *
        generalize dBook m ws = B at *
        generalize D.tup (ws.map D.str) = T at *
        simp [bodyWhl, freeze, bindT, setSlots, c5, ad, i1, i2, h3]
      rw [turn]
      exact e2
theorem row_of_size_ok (m : Nat) (hb : Bk ws) (L n k : Nat) (r : List Nat) (hn : n < L) (hL : n ≤ 50000) (hW : 60000 ≤ W) (h : (rN ws n)[k]? = some r)
    (hX : ∀ n k i k' : Nat, n < L → nx ws n (List.range ws.length) k = some (i, k') → Φ 5 [dBook m ws, cD ws L, .int (n : Nat), .int (k : Nat)] = .ok (false, .tup [.int (i : Nat), .int (k' : Nat)])) :
    runBody Φ W c_row_of_size [dBook m ws, cD ws L, .int (n : Nat), .int (k : Nat)] = .ok (false, rowD r) := by
  obtain ⟨env', e1, e2⟩ := size_loop (Φ := Φ) (W := W) m hb L hX W n k r [] none hn (by omega) (by simp; omega) h
  have e0 : rowD [] = .tup [] := rfl
  rw [e0] at e2
  rw [List.nil_append] at e1
  generalize rowD r = R at *
  generalize cD ws L = C at *
  generalize dBook m ws = B at *
  simp [c_row_of_size, e2, e1]
/-! ### row_by_number -/
abbrev NC : CE := .cmp .ge (.var 1) (.idx (.var 3) (.var 2))
abbrev NW : List CS := [.asg 1 (.bin .sub (.var 1) (.idx (.var 3) (.var 2))),
    .asg 2 (.bin .add (.var 2) (.cst (.int 1))),
    .app 3 (.call 1 [.var 0, .var 3])]
theorem num_loop (m : Nat) (N Bd : Nat) (hBd : N < pre ws Bd) (hB : Bd ≤ 40000) (h1 : ∀ L : Nat, L ≠ 0 → L ≤ 50000 → Φ 1 [dBook m ws, cD ws L] = .ok (false, .int (cn ws L : Nat))) :
    ∀ (q s : Nat), pre ws s ≤ N → Bd - s + 1 ≤ q → ∃ s' : Nat, s' < Bd ∧ pre ws s' ≤ N ∧ N - pre ws s' < cn ws s' ∧
      whlGo (condWhl Φ NC) (bodyWhl Φ W NW) q [some (false, dBook m ws), some (false, .int ((N - pre ws s : Nat) : Int)), some (false, .int (s : Nat)), some (true, cD ws (s + 1))] =
        .ok (.nx [some (false, dBook m ws), some (false, .int ((N - pre ws s' : Nat) : Int)), some (false, .int (s' : Nat)), some (true, cD ws (s' + 1))])
  | 0, s, _, hq => by omega
  | q + 1, s, hs, hq => by
    have hsB : s < Bd := by
      by_cases h : s < Bd
      · exact h
      · have := pre_mono (ws := ws) (show Bd ≤ s by omega)
        omega
    have ix := cD_idx (ws := ws) (L := s + 1) (i := s) (by omega)
    have hcond : condWhl Φ NC [some (false, dBook m ws), some (false, .int ((N - pre ws s : Nat) : Int)), some (false, .int (s : Nat)), some (true, cD ws (s + 1))] = .ok (decide (cn ws s ≤ N - pre ws s)) := by
      unfold cD at *
      generalize N - pre ws s = z at *
      generalize cn ws s = c at *
      generalize ((cL ws (s + 1)).map fun n => D.int (n : Nat)) = C at *
      generalize dBook m ws = B at *
      simp [condWhl, ix]
    show ∃ s', _ ∧ _ ∧ _ ∧ (condWhl Φ NC _ >>= _) = _
    rw [hcond]
    by_cases hc : cn ws s ≤ N - pre ws s
    · have hp := pre_succ (ws := ws) s
      obtain ⟨s', g1, g2, g3, g4⟩ := num_loop m N Bd hBd hB h1 q (s + 1) (by omega) (by omega)
      refine ⟨s', g1, g2, g3, ?_⟩
      rw [decide_eq_true hc]
      show (bodyWhl Φ W NW _ >>= _) = _
      have c1 := h1 (s + 1) (by omega) (by omega)
      have hl : ((cL ws (s + 1)).map fun n => D.int (n : Nat)).length < SZ := by rw [List.length_map, cL_len]; unfold SZ; omega
      have ee : cD ws (s + 1 + 1) = .lst ((cL ws (s + 1)).map (fun n => D.int (n : Nat)) ++ [.int (cn ws (s + 1) : Nat)]) := by
        unfold cD
        rw [cL_succ, List.map_append]
        rfl
      have en : ((N - pre ws (s + 1) : Nat) : Int) = ((N - pre ws s : Nat) : Int) - ((cn ws s : Nat) : Int) := by omega
      have turn : bodyWhl Φ W NW [some (false, dBook m ws), some (false, .int ((N - pre ws s : Nat) : Int)), some (false, .int (s : Nat)), some (true, cD ws (s + 1))] = .ok (.nx [some (false, dBook m ws), some (false, .int ((N - pre ws (s + 1) : Nat) : Int)), some (false, .int ((s + 1 : Nat) : Int)), some (true, cD ws (s + 1 + 1))]) := by
        rw [en, ee, Int.natCast_add, Int.natCast_one]
        unfold cD at ix c1 ⊢
        generalize N - pre ws s = z at *
        generalize cn ws (s + 1) = c' at *
        generalize cn ws s = c at *
        generalize ((cL ws (s + 1)).map fun n => D.int (n : Nat)) = C at *
        generalize dBook m ws = B at *
        simp [bodyWhl, ix, c1, ownL, hl]
      rw [turn]
      exact g4
    · refine ⟨s, hsB, hs, by omega, ?_⟩
      rw [decide_eq_false hc]
      rfl
/-- what row_by_number tells -/
def at_ (ws : List Tx) (N : Nat) (r : List Nat) : Prop := ∃ s : Nat, pre ws s ≤ N ∧ (rN ws s)[N - pre ws s]? = some r
theorem by_number_ok (m : Nat) (hb : Bk ws) (N : Nat) (hN : N ≤ 1000) (h12 : ∀ w ∈ ws, w.length ≤ 12) (h0 : 0 < ws.length) (hW : 60000 ≤ W) (h1 : ∀ L : Nat, L ≠ 0 → L ≤ 50000 → Φ 1 [dBook m ws, cD ws L] = .ok (false, .int (cn ws L : Nat)))
    (h4 : ∀ (L n k : Nat) (r : List Nat), n < L → n ≤ 50000 → (rN ws n)[k]? = some r → Φ 4 [dBook m ws, cD ws L, .int (n : Nat), .int (k : Nat)] = .ok (false, rowD r)) :
    ∃ r, at_ ws N r ∧ runBody Φ W c_row_by_number [dBook m ws, .int (N : Nat)] = .ok (false, rowD r) := by
  obtain ⟨w, hw⟩ := List.exists_mem_of_length_pos h0
  have hfar := pre_far hb.full hw (N + 1)
  have hwl := h12 w hw
  have hBd : (N + 1) * w.length ≤ 1001 * 12 := Nat.mul_le_mul (by omega) hwl
  obtain ⟨s, g1, g2, g3, lp⟩ := num_loop (Φ := Φ) (W := W) m N ((N + 1) * w.length) (by omega) (by omega) h1 W 0 (by rw [pre_zero]; omega) (by omega)
  have g3' := g3
  unfold cn at g3'
  have hr := List.getElem?_eq_getElem g3'
  refine ⟨_, ⟨s, g2, hr⟩, ?_⟩
  have c4 := h4 (s + 1) s (N - pre ws s) _ (by omega) (by omega) hr
  have i1 := b1_at m ws
  have hl : (ws.map D.str).length = ws.length := List.length_map _
  have hz : (ws.map D.str).length ≤ SZ := by rw [hl]; have := hb.few; unfold SZ; omega
  have n1 : ¬ (N : Int) < 0 := by omega
  have n2 : ¬ (1000 : Int) < (N : Int) := by omega
  have n3 : ¬ (ws.map D.str).length = 0 := by rw [hl]; omega
  have c1 : cD ws (0 + 1) = .lst [.int 1] := rfl
  rw [c1, pre_zero, Nat.sub_zero] at lp
  simp only [Int.natCast_zero, Int.cast_ofNat_Int] at lp
  generalize rowD (rN ws s)[N - pre ws s] = R at *
  generalize N - pre ws s = z at *
  unfold cD at *
  generalize ((cL ws (s + 1)).map fun n => D.int (n : Nat)) = C at *
  generalize dBook m ws = B at *
  generalize ws.map D.str = T at *
  simp [c_row_by_number, freeze, i1, hz, n1, n2, n3, lp, c4]
theorem by_number_nil (m : Nat) (N : Nat) (hN : N ≤ 1000) : runBody Φ W c_row_by_number [dBook m [], .int (N : Nat)] = .ok (false, if N = 0 then .tup [] else .non) := by
  have i1 := b1_at m []
  have n1 : ¬ (N : Int) < 0 := by omega
  have n2 : ¬ (1000 : Int) < (N : Int) := by omega
  simp only [List.map_nil] at i1
  generalize dBook m [] = B at *
  by_cases h : N = 0
  · subst h
    simp [c_row_by_number, i1]
  · have n3 : ¬ (N : Int) = 0 := by omega
    simp [c_row_by_number, i1, n1, n2, n3, h]
theorem by_number_bad (B : D) (z : Int) (hz : z < 0 ∨ 1000 < z) : runBody Φ W c_row_by_number [B, .int z] = .exc 1 (.int z) := by
  by_cases h : z < 0
  · simp [c_row_by_number, h]
  · have h2 : (1000 : Int) < z := by omega
    simp [c_row_by_number, h, h2]
end
end PF.K90

/-! row_number; the law's helpers. -/
namespace PF.K90
open PF
theorem less_succ (ws : List Tx) (n s : Nat) : less ws n (s + 1) = less ws n s + if (wAt ws s).length ≤ n then cn ws (n - (wAt ws s).length) else 0 := by
  unfold less
  rw [List.range_succ, List.filter_append, List.map_append, List.sum_append]
  congr 1
  by_cases h1 : (wAt ws s).length ≤ n
  · rw [if_pos h1, List.filter_cons_of_pos (by simpa using h1)]
    simp
  · rw [if_neg h1, List.filter_cons_of_neg (by simpa using h1)]
    rfl
section
variable {Φ : Nat → List D → R (Bool × D)} {W : Nat} {ws : List Tx}
abbrev OB : List CS := [.ife (.cmp .le (.bi .len [.idx (.idx (.var 0) (.cst (.int 1))) (.var 6)]) (.var 2)) [.asg 4 (.bin .add (.var 4) (.idx (.var 3) (.bin .sub (.var 2) (.bi .len [.idx (.idx (.var 0) (.cst (.int 1))) (.var 6)]))))] []]
theorem other_loop (m : Nat) (hb : Bk ws) (L n base : Nat) (hn : n < L) (e1 l5 : Option Slot) : ∀ (c s : Nat) (l6 : Option Slot), s + c ≤ ws.length → ∃ l6',
    forGo (bodyFor Φ W [6] OB) ((List.range' s c).map fun i => .int (i : Nat)) [some (false, dBook m ws), e1, some (false, .int (n : Nat)), some (true, cD ws L), some (false, .int ((base + less ws n s : Nat) : Int)), l5, l6] =
      .ok (.nx [some (false, dBook m ws), e1, some (false, .int (n : Nat)), some (true, cD ws L), some (false, .int ((base + less ws n (s + c) : Nat) : Int)), l5, l6'])
  | 0, s, l6, _ => ⟨l6, rfl⟩
  | c + 1, s, l6, hs => by
    obtain ⟨l6', ih⟩ := other_loop m hb L n base hn e1 l5 c (s + 1) (some (false, .int (s : Nat))) (by omega)
    refine ⟨l6', ?_⟩
    rw [List.range'_succ, List.map_cons]
    rw [show s + 1 + c = s + (c + 1) by omega] at ih
    refine forGo_nx ?_ ih
    have i1 := b1_at m ws
    have i2 := bw_at (ws := ws) (i := s) (by omega)
    have h3 : (wAt ws s).length ≤ SZ := by have := hb.one _ (wAt_mem (show s < ws.length by omega)); unfold SZ; omega
    have el := less_succ ws n s
    by_cases h1 : (wAt ws s).length ≤ n
    · rw [if_pos h1] at el
      have ix := cD_idx (ws := ws) (L := L) (i := n - (wAt ws s).length) (by omega)
      rw [show ((n - (wAt ws s).length : Nat) : Int) = (n : Int) - ((wAt ws s).length : Int) by omega] at ix
      have en : ((base + less ws n (s + 1) : Nat) : Int) = ((base + less ws n s : Nat) : Int) + ((cn ws (n - (wAt ws s).length) : Nat) : Int) := by omega
      rw [en]
      generalize base + less ws n s = b at *
      generalize cn ws (n - (wAt ws s).length) = c at *
      generalize wAt ws s = u at *
      generalize cD ws L = C at *
      generalize dBook m ws = B at *
      generalize D.tup (ws.map D.str) = T at *
      simp [bodyFor, bindT, i1, i2, h3, h1, ix]
    · rw [if_neg h1, Nat.add_zero] at el
      rw [el]
      generalize base + less ws n s = b at *
      generalize wAt ws s = u at *
      generalize cD ws L = C at *
      generalize dBook m ws = B at *
      generalize D.tup (ws.map D.str) = T at *
      simp [bodyFor, bindT, i1, i2, h3, h1]
abbrev PB : List CS := [.for_ [6] (.rg1 (.var 5)) OB,
    .asg 2 (.bin .sub (.var 2) (.bi .len [.idx (.idx (.var 0) (.cst (.int 1))) (.var 5)]))]
theorem szR_cons (ws : List Tx) (i : Nat) (r : List Nat) : szR ws (i :: r) = (wAt ws i).length + szR ws r := by unfold szR; rw [List.map_cons, List.sum_cons]
theorem pos_loop (m : Nat) (hb : Bk ws) (L : Nat) (e1 : Option Slot) : ∀ (r : List Nat) (n base : Nat) (l5 l6 : Option Slot), n < L → (∀ i ∈ r, i < ws.length) → szR ws r ≤ n → ∃ n' l5' l6',
    forGo (bodyFor Φ W [5] PB) (r.map fun i => .int (i : Nat)) [some (false, dBook m ws), e1, some (false, .int (n : Nat)), some (true, cD ws L), some (false, .int (base : Nat)), l5, l6] =
      .ok (.nx [some (false, dBook m ws), e1, some (false, .int (n' : Nat)), some (true, cD ws L), some (false, .int ((base + pos ws n r : Nat) : Int)), l5', l6'])
  | [], n, base, l5, l6, _, _, _ => ⟨n, l5, l6, rfl⟩
  | i :: r, n, base, l5, l6, hn, hr, hs => by
    rw [szR_cons] at hs
    have g2 := hr i List.mem_cons_self
    obtain ⟨n', l5', l6', ih⟩ := pos_loop m hb L e1 r (n - (wAt ws i).length) (base + less ws n i) (some (false, .int (i : Nat))) ((other_loop (Φ := Φ) (W := W) m hb L n base hn e1 (some (false, .int (i : Nat))) i 0 l6 (by omega)).choose) (by omega) (fun j hj => hr j (List.mem_cons_of_mem _ hj)) (by omega)
    have lp := (other_loop (Φ := Φ) (W := W) m hb L n base hn e1 (some (false, .int (i : Nat))) i 0 l6 (by omega)).choose_spec
    generalize (other_loop (Φ := Φ) (W := W) m hb L n base hn e1 (some (false, .int (i : Nat))) i 0 l6 (by omega)).choose = l6a at *
    refine ⟨n', l5', l6', ?_⟩
    rw [List.map_cons]
    have ep : base + pos ws n (i :: r) = base + less ws n i + pos ws (n - (wAt ws i).length) r := by
      show base + (less ws n i + pos ws _ r) = _
      omega
    rw [ep]
    refine forGo_nx ?_ ih
    have i1 := b1_at m ws
    have i2 := bw_at g2
    have h3 : (wAt ws i).length ≤ SZ := by have := hb.one _ (wAt_mem g2); unfold SZ; omega
    have hri : rgOk (i : Int) = true := by have := hb.few; unfold rgOk; simp only [Bool.and_eq_true, decide_eq_true_eq]; omega
    have l0 : less ws n 0 = 0 := rfl
    rw [l0, Nat.add_zero, Nat.zero_add, ← rangeI_nat] at lp
    simp only [Int.natCast_zero, Int.cast_ofNat_Int] at lp
    have en : ((n - (wAt ws i).length : Nat) : Int) = (n : Int) - ((wAt ws i).length : Int) := by omega
    rw [en]
    generalize base + less ws n i = b at *
    generalize wAt ws i = u at *
    generalize cD ws L = C at *
    generalize dBook m ws = B at *
    generalize D.tup (ws.map D.str) = T at *
    simp [bodyFor, bindT, hri, lp, i1, i2, h3]
theorem row_number_ok (m : Nat) (hb : Bk ws) (r : List Nat) (hr : ∀ i ∈ r, i < ws.length) (hl : r.length ≤ 50000) (hs : szR ws r ≤ 40000) (h0 : ∀ n : Nat, n ≤ 40000 → Φ 0 [dBook m ws, .int (n : Nat)] = .ok (true, cD ws (n + 1))) :
    runBody Φ W c_row_number [dBook m ws, rowD r] = .ok (false, .int ((pre ws (szR ws r) + pos ws (szR ws r) r : Nat) : Int)) := by
  obtain ⟨n', l5', l6', lp⟩ := pos_loop (Φ := Φ) (W := W) m hb (szR ws r + 1) (some (false, rowD r)) r (szR ws r) (pre ws (szR ws r)) none none (by omega) hr (Nat.le_refl _)
  have c0 := h0 (szR ws r) hs
  have i1 := b1_at m ws
  have lc : lcGo (bodyLc Φ [5] .no (.bi .len [.idx (.idx (.var 0) (.cst (.int 1))) (.var 5)]) [some (false, dBook m ws), some (false, .tup (r.map fun i => .int (i : Nat))), none, none, none, none, none]) (r.map fun i => .int (i : Nat)) = .ok ((r.map fun i => (wAt ws i).length).map fun n => .int (n : Nat)) := by
    rw [lcGo_emb (emb := fun i : Nat => D.int (i : Nat)) (f := fun i => some (D.int ((wAt ws i).length : Nat))) r fun i hi => ?_]
    · rw [List.filterMap_eq_map', List.map_map]
      rfl
    · have i2 := bw_at (hr i hi)
      have h3 : (wAt ws i).length ≤ SZ := by have := hb.one _ (wAt_mem (hr i hi)); unfold SZ; omega
      generalize wAt ws i = u at *
      generalize dBook m ws = B at *
      generalize D.tup (ws.map D.str) = T at *
      simp [bodyLc, bindT, wipeE, i1, i2, h3]
  have sm := b_sum (r.map fun i => (wAt ws i).length)
  have es : (r.map fun i => (wAt ws i).length).sum = szR ws r := rfl
  rw [es] at sm
  have sl := slcL_to ((cL ws (szR ws r + 1)).map fun n => D.int (n : Nat)) (szR ws r)
  have et : ((cL ws (szR ws r + 1)).map fun n => D.int (n : Nat)).take (szR ws r) = (cL ws (szR ws r)).map fun n => D.int (n : Nat) := by
    rw [cL_succ, List.map_append, List.take_append_of_le_length (by rw [List.length_map, cL_len]; exact Nat.le_refl _), List.take_of_length_le (by rw [List.length_map, cL_len]; exact Nat.le_refl _)]
  rw [et] at sl
  have sm2 := b_sum (cL ws (szR ws r))
  have ep : (cL ws (szR ws r)).sum = pre ws (szR ws r) := rfl
  rw [ep] at sm2
  have hz : (r.map fun i => D.int (i : Nat)).length ≤ SZ := by rw [List.length_map]; unfold SZ; omega
  unfold rowD at lp ⊢
  unfold cD at *
  generalize ((cL ws (szR ws r + 1)).map fun n => D.int (n : Nat)) = C at *
  generalize ((cL ws (szR ws r)).map fun n => D.int (n : Nat)) = C' at *
  generalize ((r.map fun i => (wAt ws i).length).map fun n => D.int (n : Nat)) = S at *
  generalize (r.map fun i => D.int (i : Nat)) = RR at *
  generalize pre ws (szR ws r) + pos ws (szR ws r) r = res at *
  generalize pre ws (szR ws r) = p at *
  generalize szR ws r = z at *
  generalize dBook m ws = B at *
  simp [c_row_number, hz, lc, sm, c0, sl, sm2, lp]
/-- a row with its number -/
theorem at_number (hf : Full ws) {N : Nat} {r : List Nat} (h : at_ ws N r) : (∀ i ∈ r, i < ws.length) ∧ pre ws (szR ws r) + pos ws (szR ws r) r = N ∧ r ∈ rN ws (szR ws r) := by
  obtain ⟨s, h1, h2⟩ := h
  have hm := List.mem_of_getElem? h2
  obtain ⟨g1, g2⟩ := (mem_rN hf r s).mp hm
  rw [g2]
  have := pos_eq hf s s _ r (Nat.le_refl _) h2
  exact ⟨g1, by omega, hm⟩
theorem at_uniq {N : Nat} {r r' : List Nat} (h : at_ ws N r) (h' : at_ ws N r') : r = r' := by
  obtain ⟨s, h1, h2⟩ := h
  obtain ⟨t, h3, h4⟩ := h'
  have k1 := (List.getElem?_eq_some_iff.mp h2).1
  have k2 := (List.getElem?_eq_some_iff.mp h4).1
  have e : s = t := by
    rcases Nat.lt_trichotomy s t with h | h | h
    · have := pre_mono (ws := ws) (show s + 1 ≤ t by omega)
      rw [pre_succ] at this
      unfold cn at this
      omega
    · exact h
    · have := pre_mono (ws := ws) (show t + 1 ≤ s by omega)
      rw [pre_succ] at this
      unfold cn at this
      omega
  subst e
  rw [h2] at h4
  exact Option.some.inj h4
end
end PF.K90

/-! The law's own list of rows. -/
namespace PF.K90
open PF
abbrev Q := List Nat × Nat
section
variable (ws : List Tx)
def kids (x : Q) : List Q := ((List.range ws.length).filter fun k => decide (x.2 + (wAt ws k).length ≤ 5)).map fun k => (x.1 ++ [k], x.2 + (wAt ws k).length)
def eF : Nat → Q → List Q
  | 0, x => [x]
  | f + 1, x => x :: (kids ws x).flatMap (eF f)
def ex (x : Q) : List Q := eF ws (6 - x.2) x
end
section
variable {ws : List Tx}
theorem kid_mem {x y : Q} : y ∈ kids ws x ↔ ∃ k, k < ws.length ∧ x.2 + (wAt ws k).length ≤ 5 ∧ y = (x.1 ++ [k], x.2 + (wAt ws k).length) := by
  unfold kids
  rw [List.mem_map]
  constructor
  · rintro ⟨k, hk, rfl⟩
    obtain ⟨h1, h2⟩ := List.mem_filter.mp hk
    exact ⟨k, List.mem_range.mp h1, of_decide_eq_true h2, rfl⟩
  · rintro ⟨k, h1, h2, rfl⟩
    exact ⟨k, List.mem_filter.mpr ⟨List.mem_range.mpr h1, decide_eq_true h2⟩, rfl⟩
theorem kid_sz (hf : Full ws) {x y : Q} (h : y ∈ kids ws x) : x.2 < y.2 ∧ y.2 ≤ 5 := by
  obtain ⟨k, h1, h2, rfl⟩ := kid_mem.mp h
  have := wAt_pos hf h1
  simp only
  omega
theorem eF_eq (hf : Full ws) : ∀ (f1 f2 : Nat) (x : Q), 6 - x.2 ≤ f1 → 6 - x.2 ≤ f2 → eF ws f1 x = eF ws f2 x
  | 0, 0, _, _, _ => rfl
  | 0, f2 + 1, x, h, _ => by
    have : kids ws x = [] := List.eq_nil_iff_forall_not_mem.mpr fun y hy => by have := kid_sz hf hy; omega
    unfold eF
    rw [this]
    rfl
  | f1 + 1, 0, x, _, h => by
    have : kids ws x = [] := List.eq_nil_iff_forall_not_mem.mpr fun y hy => by have := kid_sz hf hy; omega
    unfold eF
    rw [this]
    rfl
  | f1 + 1, f2 + 1, x, h1, h2 => by
    unfold eF
    congr 1
    refine flatMap_eq fun y hy => ?_
    have := kid_sz hf hy
    rw [eF_eq hf f1 f2 y (by omega) (by omega)]
theorem ex_step (hf : Full ws) (x : Q) : ex ws x = x :: (kids ws x).flatMap (ex ws) := by
  unfold ex
  rw [eF_eq hf (6 - x.2) (6 - x.2 + 1) x (Nat.le_refl _) (by omega)]
  show x :: _ = _
  congr 1
  refine flatMap_eq fun y hy => ?_
  have := kid_sz hf hy
  rw [eF_eq hf (6 - x.2) (6 - y.2) y (by omega) (Nat.le_refl _)]
theorem szR_app (r t : List Nat) : szR ws (r ++ t) = szR ws r + szR ws t := by unfold szR; rw [List.map_append, List.sum_append]
theorem ex_mem (hf : Full ws) : ∀ (f : Nat) (x y : Q), 6 - x.2 ≤ f → x.2 ≤ 5 → (y ∈ ex ws x ↔ ∃ t : List Nat, (∀ i ∈ t, i < ws.length) ∧ x.2 + szR ws t ≤ 5 ∧ y = (x.1 ++ t, x.2 + szR ws t))
  | 0, x, y, h, hx => by omega
  | f + 1, x, y, h, hx => by
    rw [ex_step hf, List.mem_cons, List.mem_flatMap]
    constructor
    · rintro (rfl | ⟨z, hz, hy⟩)
      · exact ⟨[], by simp, by simpa [szR] using hx, by simp [szR]⟩
      · have hs := kid_sz hf hz
        obtain ⟨k, h1, h2, rfl⟩ := kid_mem.mp hz
        obtain ⟨t, t1, t2, rfl⟩ := (ex_mem hf f _ y (by simp only at hs ⊢; omega) hs.2).mp hy
        refine ⟨k :: t, fun i hi => ?_, ?_, ?_⟩
        · rcases List.mem_cons.mp hi with rfl | hi
          · exact h1
          · exact t1 i hi
        · rw [szR_cons]; simp only at t2; omega
        · rw [szR_cons]; simp only [List.append_assoc, List.singleton_append, Nat.add_assoc]
    · rintro ⟨t, t1, t2, rfl⟩
      cases t with
      | nil => exact .inl (by simp [szR])
      | cons k t =>
        right
        rw [szR_cons] at t2
        have h1 := t1 k List.mem_cons_self
        have hk : (x.1 ++ [k], x.2 + (wAt ws k).length) ∈ kids ws x := kid_mem.mpr ⟨k, h1, by omega, rfl⟩
        have hs := kid_sz hf hk
        refine ⟨_, hk, (ex_mem hf f _ _ (by simp only at hs ⊢; omega) hs.2).mpr ⟨t, fun i hi => t1 i (List.mem_cons_of_mem _ hi), by simp only; omega, ?_⟩⟩
        rw [szR_cons]
        simp only [List.append_assoc, List.singleton_append, Nat.add_assoc]
theorem ex_nd (hf : Full ws) : ∀ (f : Nat) (x : Q), 6 - x.2 ≤ f → x.2 ≤ 5 → (ex ws x).Nodup
  | 0, x, h, hx => by omega
  | f + 1, x, h, hx => by
    rw [ex_step hf, List.nodup_cons]
    constructor
    · intro hm
      obtain ⟨z, hz, hy⟩ := List.mem_flatMap.mp hm
      have hs := kid_sz hf hz
      obtain ⟨t, _, _, e⟩ := (ex_mem hf f z x (by omega) hs.2).mp hy
      have := congrArg Prod.snd e
      simp only at this
      omega
    · unfold List.Nodup
      rw [List.pairwise_flatMap]
      constructor
      · intro z hz
        have hs := kid_sz hf hz
        exact ex_nd hf f z (by omega) hs.2
      · unfold kids
        rw [List.pairwise_map]
        refine List.Pairwise.imp_of_mem (fun {a b} ha hb hab y hy y' hy' => ?_) ((List.nodup_range (n := ws.length)).sublist List.filter_sublist)
        rintro rfl
        have ha2 : (x.1 ++ [a], x.2 + (wAt ws a).length) ∈ kids ws x := List.mem_map.mpr ⟨a, ha, rfl⟩
        have hb2 : (x.1 ++ [b], x.2 + (wAt ws b).length) ∈ kids ws x := List.mem_map.mpr ⟨b, hb, rfl⟩
        have sa := kid_sz hf ha2
        have sb := kid_sz hf hb2
        obtain ⟨t, _, _, e1⟩ := (ex_mem hf f _ y (by simp only at sa ⊢; omega) sa.2).mp hy
        obtain ⟨t', _, _, e2⟩ := (ex_mem hf f _ y (by simp only at sb ⊢; omega) sb.2).mp hy'
        have e := congrArg Prod.fst (e1.symm.trans e2)
        simp only [List.append_assoc, List.singleton_append] at e
        have := List.append_cancel_left e
        exact hab (List.cons.inj this).1
/-- the rows of at most five letters, in order -/
def ky (x : Q) : Ky := ((x.2 : Int), x.1)
def allK (ws : List Tx) : List Ky := (List.range 6).flatMap fun n => (rN ws n).map fun r => ((n : Int), r)
theorem ky_perm (hf : Full ws) : ((ex ws ([], 0)).map ky).Perm (allK ws) := by
  refine (List.perm_ext_iff_of_nodup ?_ ?_).mpr fun y => ?_
  · unfold List.Nodup
    rw [List.pairwise_map]
    refine (ex_nd hf 6 ([], 0) (by simp) (by simp)).imp fun {a b} h z => h ?_
    unfold ky at z
    have z1 := congrArg Prod.fst z
    have z2 := congrArg Prod.snd z
    simp only at z1 z2
    exact Prod.ext z2 (by omega)
  · unfold allK List.Nodup
    rw [List.pairwise_flatMap]
    constructor
    · intro n _
      rw [List.pairwise_map]
      refine (rN_sorted hf n n (Nat.le_refl _)).imp fun {a b} h z => ?_
      have := congrArg Prod.snd z
      simp only at this
      rw [this] at h
      exact List.lt_irrefl _ h
    · refine List.nodup_range.imp fun {a b} hab x hx y hy => ?_
      rintro rfl
      obtain ⟨r, _, rfl⟩ := List.mem_map.mp hx
      obtain ⟨r', _, e⟩ := List.mem_map.mp hy
      have := congrArg Prod.fst e
      simp only at this
      omega
  · unfold allK
    rw [List.mem_map, List.mem_flatMap]
    constructor
    · rintro ⟨x, hx, rfl⟩
      obtain ⟨t, t1, t2, rfl⟩ := (ex_mem hf 6 ([], 0) x (by simp) (by simp)).mp hx
      simp only [Nat.zero_add] at t2
      refine ⟨szR ws t, List.mem_range.mpr (by omega), List.mem_map.mpr ⟨t, (mem_rN hf t _).mpr ⟨t1, rfl⟩, ?_⟩⟩
      unfold ky
      simp
    · rintro ⟨n, hn, hy⟩
      obtain ⟨r, hr, rfl⟩ := List.mem_map.mp hy
      obtain ⟨g1, g2⟩ := (mem_rN hf r n).mp hr
      have hn := List.mem_range.mp hn
      refine ⟨(r, n), (ex_mem hf 6 ([], 0) _ (by simp) (by simp)).mpr ⟨r, g1, by simp only; omega, ?_⟩, rfl⟩
      simp only [List.nil_append, Nat.zero_add]
      rw [g2]
def leKy (a b : Ky) : Bool := !kyLt b a
theorem allK_sorted (hf : Full ws) : (allK ws).Pairwise fun a b => leKy a b = true := by
  unfold allK
  rw [List.pairwise_flatMap]
  constructor
  · intro n _
    rw [List.pairwise_map]
    refine (rN_sorted hf n n (Nat.le_refl _)).imp fun {a b} h => ?_
    unfold leKy kyLt
    have : ¬ b < a := fun z => List.lt_irrefl a (List.lt_trans h z)
    simp [this]
  · refine List.pairwise_lt_range.imp fun {a b} hab x hx y hy => ?_
    obtain ⟨r, _, rfl⟩ := List.mem_map.mp hx
    obtain ⟨r', _, rfl⟩ := List.mem_map.mp hy
    unfold leKy kyLt
    have h1 : ¬ ((b : Int) < (a : Int)) := by omega
    have h2 : ¬ ((b : Int) = (a : Int)) := by omega
    simp [h1, h2]
theorem leKy_trans (a b c : Ky) (h1 : leKy a b = true) (h2 : leKy b c = true) : leKy a c = true := by
  unfold leKy at *
  rw [Bool.not_eq_true'] at *
  exact ky_trans h1 h2
theorem leKy_total (a b : Ky) : (leKy a b || leKy b a) = true := by
  unfold leKy
  rw [Bool.or_eq_true, Bool.not_eq_true', Bool.not_eq_true']
  exact ky_total a b
theorem sort_all (hf : Full ws) {xs : List Ky} (h : xs.Perm (allK ws)) : xs.mergeSort leKy = allK ws :=
  List.Perm.eq_of_pairwise (le := fun a b => leKy a b = true) (fun a b _ _ h1 h2 => ky_anti (by unfold leKy at h2; simpa using h2) (by unfold leKy at h1; simpa using h1)) (List.pairwise_mergeSort leKy_trans leKy_total _) (allK_sorted hf)
    ((List.mergeSort_perm xs leKy).trans h)
theorem sorted_kys (rs : List Ky) (h : rs ≠ []) : builtin .sorted [.lst (rs.map kyD)] = some (.fr, .lst ((rs.mergeSort leKy).map kyD)) := by
  obtain ⟨r, t, rfl⟩ := List.exists_cons_of_ne_nil h
  have e1 : intsOf ((r :: t).map kyD) = none := rfl
  have e2 : strsOf ((r :: t).map kyD) = none := rfl
  simp only [builtin, e1, e2]
  have em : ((r :: t).map kyD).mergeSort D.le = ((r :: t).mergeSort leKy).map kyD := (List.map_mergeSort (r := leKy) (s := D.le) (f := kyD) (l := r :: t) fun a _ b _ => by
    show (!kyLt b a) = !D.lt (kyD b) (kyD a)
    rw [lt_ky]).symm
  have es : sortD ((r :: t).map kyD) = some (((r :: t).mergeSort leKy).map kyD) := by
    unfold sortD
    split
    · rename_i hl
      rw [List.length_map, List.length_cons] at hl
      have : t = [] := List.length_eq_zero_iff.mp (by omega)
      subst this
      simp
    · rw [if_pos, em]
      rw [Bool.and_eq_true, Bool.and_eq_true, Bool.or_eq_true]
      refine ⟨⟨.inl ?_, ?_⟩, ?_⟩
      · rw [List.all_eq_true]
        intro d hd
        obtain ⟨k, _, rfl⟩ := List.mem_map.mp hd
        rfl
      · rw [List.all_eq_true]
        intro d hd
        obtain ⟨k, _, rfl⟩ := List.mem_map.mp hd
        exact eqOk_ky k 59 (by decide)
      · rw [List.all_eq_true]
        intro d hd
        rw [List.all_eq_true]
        intro d' hd'
        obtain ⟨k, _, rfl⟩ := List.mem_map.mp hd
        obtain ⟨k', _, rfl⟩ := List.mem_map.mp hd'
        exact alike_ky k k'
  rw [es]
  rfl
/-- the rows in order -/
def ordL (ws : List Tx) : List (List Nat) := (List.range 6).flatMap (rN ws)
theorem allK_snd : (allK ws).map Prod.snd = ordL ws := by
  unfold allK ordL
  rw [List.map_flatMap]
  refine flatMap_eq fun n _ => ?_
  rw [List.map_map]
  exact List.map_id _
theorem ord_at : ∀ (s N : Nat) (r : List Nat), ((List.range s).flatMap (rN ws))[N]? = some r → at_ ws N r
  | 0, N, r, h => by simp at h
  | s + 1, N, r, h => by
    have hl : ((List.range s).flatMap (rN ws)).length = pre ws s := by
      rw [List.length_flatMap]
      rfl
    rw [List.range_succ, List.flatMap_append] at h
    by_cases hN : N < pre ws s
    · rw [List.getElem?_append_left (by rw [hl]; exact hN)] at h
      exact ord_at s N r h
    · rw [List.getElem?_append_right (by rw [hl]; omega), hl] at h
      refine ⟨s, by omega, ?_⟩
      simpa using h
theorem ord_len : (ordL ws).length = pre ws 6 := by
  unfold ordL
  rw [List.length_flatMap]
  rfl
theorem cn_le (hf : Full ws) (h6 : ws.length ≤ 6) : ∀ (k n : Nat), n ≤ k → cn ws n ≤ 6 ^ n
  | k, 0, _ => by rw [cn_zero]; exact Nat.le_refl _
  | k + 1, n + 1, h => by
    rw [cn_step hf (by omega)]
    have : ∀ l : List Tx, (∀ w ∈ l, w ≠ []) → (l.map fun w => cn ws (n + 1 - w.length)).sum ≤ l.length * 6 ^ n := fun l hl => by
      induction l with
      | nil => simp
      | cons w t ih =>
        have h1 := List.length_pos_iff.mpr (hl w List.mem_cons_self)
        have h2 := cn_le hf h6 k (n + 1 - w.length) (by omega)
        have h3 : 6 ^ (n + 1 - w.length) ≤ 6 ^ n := Nat.pow_le_pow_right (by decide) (by omega)
        have := ih fun u hu => hl u (List.mem_cons_of_mem _ hu)
        rw [List.map_cons, List.sum_cons, List.length_cons, Nat.add_mul, Nat.one_mul]
        omega
    refine Nat.le_trans (this _ fun w hw => hf w (List.mem_filter.mp hw).1) ?_
    rw [Nat.pow_succ, Nat.mul_comm (6 ^ n)]
    exact Nat.mul_le_mul (Nat.le_trans (List.length_filter_le _ _) h6) (Nat.le_refl _)
theorem pre6_le (hf : Full ws) (h6 : ws.length ≤ 6) : pre ws 6 ≤ 9331 := by
  have := fun n => cn_le hf h6 n n (Nat.le_refl _)
  have h0 := this 0
  have h1 := this 1
  have h2 := this 2
  have h3 := this 3
  have h4 := this 4
  have h5 := this 5
  rw [pre_succ, pre_succ, pre_succ, pre_succ, pre_succ, pre_succ, pre_zero]
  omega
theorem ex_len (hf : Full ws) (h6 : ws.length ≤ 6) : (ex ws ([], 0)).length = pre ws 6 := by
  have := (ky_perm hf).length_eq
  rw [List.length_map] at this
  rw [this, ← ord_len, ← allK_snd, List.length_map]
end
end PF.K90

/-! The law's rounds for one book. -/
namespace PF.K90
open PF
abbrev Ph (k : Nat) := den prog 100000 k
section
variable {Φ : Nat → List D → R (Bool × D)} {W : Nat} {ws : List Tx}
@[simp] theorem e_chain (o p : COp) (a b c : CE) (env : Env) : evalE Φ (.chain o p a b c) env = (evalE Φ a env >>= fun x => evalE Φ b env >>= fun y => lift (cmpD o x.2 y.2) >>= fun r => if r then (evalE Φ c env >>= fun z => lift (cmpD p y.2 z.2) >>= fun r2 => .ok (.pl, .bl r2)) else .ok (.pl, .bl false)) := Eq.trans rfl rfl
theorem is_int_ok (i : Int) : runBody Φ W c__law_is_int [.int i] = .ok (false, .bl true) := by
  have t1 : isTy .int (.int i) = some true := rfl
  have t2 : isTy .bool (.int i) = some false := rfl
  simp [c__law_is_int, t1, t2]
theorem is_row_ok (m : Nat) (hb : Bk ws) (r : List Nat) (hr : ∀ i ∈ r, i < ws.length) (hl : r.length ≤ 50000) (h6 : ∀ i : Nat, Φ 6 [.int (i : Nat)] = .ok (false, .bl true)) : runBody Φ W c__law_is_row [dBook m ws, rowD r] = .ok (false, .bl true) := by
  have i1 := b1_at m ws
  have hlw : (ws.map D.str).length = ws.length := List.length_map _
  have hz : (ws.map D.str).length ≤ SZ := by rw [hlw]; have := hb.few; unfold SZ; omega
  have lc : lcGo (bodyLc Φ [2] (.yes (.or (.not (.call 6 [.var 2])) (.not (.chain .le .lt (.cst (.int 0)) (.var 2) (.bi .len [.idx (.var 0) (.cst (.int 1))]))))) (.var 2) [some (false, dBook m ws), some (false, .tup (r.map fun i => .int (i : Nat))), none]) (r.map fun i => .int (i : Nat)) = .ok [] := by
    have := lcGo_emb (g := bodyLc Φ [2] (.yes (.or (.not (.call 6 [.var 2])) (.not (.chain .le .lt (.cst (.int 0)) (.var 2) (.bi .len [.idx (.var 0) (.cst (.int 1))]))))) (.var 2) [some (false, dBook m ws), some (false, .tup (r.map fun i => .int (i : Nat))), none]) (fun i : Nat => D.int (i : Nat)) (fun _ => (none : Option D)) r fun i hi => by
      have h1 := hr i hi
      have e6 := h6 i
      have c1 : (0 : Int) ≤ (i : Int) := by omega
      have c2 : (i : Int) < ((ws.map D.str).length : Int) := by rw [hlw]; omega
      have c3 : i < (ws.map D.str).length := by rw [hlw]; omega
      generalize dBook m ws = B at *
      generalize ws.map D.str = T at *
      simp [bodyLc, bindT, wipeE, e6, i1, hz, c1, c2, c3]
    rw [this]
    congr 1
    simp
  have hz2 : (r.map fun i => D.int (i : Nat)).length ≤ SZ := by rw [List.length_map]; unfold SZ; omega
  have t1 : isTy .tuple (.tup (r.map fun i => D.int (i : Nat))) = some true := rfl
  unfold rowD
  generalize (r.map fun i => D.int (i : Nat)) = RR at *
  generalize dBook m ws = B at *
  simp [c__law_is_row, t1, hz2, lc]
def tRow (d : D) : D := .tup [.str [114, 111, 119], d]
def tBad (d : D) : D := .tup [.str [98, 97, 100], d]
theorem told_row (B x d : D) (h : Φ 3 [B, x] = .ok (false, d)) : runBody Φ W c__law_told [B, x] = .ok (false, tRow d) := by
  simp [c__law_told, h, tRow]
theorem told_bad (B x d : D) (h : Φ 3 [B, x] = .exc 1 d) : runBody Φ W c__law_told [B, x] = .ok (false, tBad d) := by
  simp [c__law_told, h, tBad]
end
/-- a book of this law -/
structure Bo (ws : List Tx) : Prop where
  bk : Bk ws
  few : ws.length ≤ 6
  one : ∀ w ∈ ws, w.length ≤ 12
section
variable {m : Nat} {ws : List Tx}
theorem d_ncount (k : Nat) (g : Bo ws) (L : Nat) (h0 : L ≠ 0) (hL : L ≤ 50000) : Ph (k + 1) 1 [dBook m ws, cD ws L] = .ok (false, .int (cn ws L : Nat)) := by
  unfold Ph
  rw [den_at (f := c_next_count) rfl]
  exact next_count_ok m g.bk L h0 hL
theorem d_counts (k : Nat) (g : Bo ws) (n : Nat) (hn : n ≤ 40000) : Ph (k + 2) 0 [dBook m ws, .int (n : Nat)] = .ok (true, cD ws (n + 1)) := by
  unfold Ph
  rw [den_at (f := c_row_counts) rfl]
  exact row_counts_ok m g.bk n hn fun L h0 hL => d_ncount k g L h0 hL
theorem d_index (k : Nat) (g : Bo ws) (L n q i q' : Nat) (hn : n < L) (h : nx ws n (List.range ws.length) q = some (i, q')) : Ph (k + 1) 5 [dBook m ws, cD ws L, .int (n : Nat), .int (q : Nat)] = .ok (false, .tup [.int (i : Nat), .int (q' : Nat)]) := by
  unfold Ph
  rw [den_at (f := c_next_index) rfl]
  exact next_index_ok m g.bk L n q i q' hn h
theorem d_size (k : Nat) (g : Bo ws) (L n q : Nat) (r : List Nat) (hn : n < L) (hL : n ≤ 50000) (h : (rN ws n)[q]? = some r) : Ph (k + 2) 4 [dBook m ws, cD ws L, .int (n : Nat), .int (q : Nat)] = .ok (false, rowD r) := by
  unfold Ph
  rw [den_at (f := c_row_of_size) rfl]
  exact row_of_size_ok m g.bk L n q r hn hL (by decide) h fun n q i q' hn h => d_index k g L n q i q' hn h
theorem d_byN (k : Nat) (g : Bo ws) (N : Nat) (hN : N ≤ 1000) (h0 : 0 < ws.length) : ∃ r, at_ ws N r ∧ Ph (k + 3) 3 [dBook m ws, .int (N : Nat)] = .ok (false, rowD r) := by
  unfold Ph
  rw [den_at (f := c_row_by_number) rfl]
  exact by_number_ok m g.bk N hN g.one h0 (by decide) (fun L h0 hL => d_ncount (k + 1) g L h0 hL) fun L n q r hn hL h => d_size k g L n q r hn hL h
theorem d_num (k : Nat) (g : Bo ws) (N : Nat) (r : List Nat) (h : at_ ws N r) (hl : r.length ≤ 50000) (hs : szR ws r ≤ 40000) : Ph (k + 3) 2 [dBook m ws, rowD r] = .ok (false, .int (N : Nat)) := by
  obtain ⟨h1, h2, _⟩ := at_number g.bk.full h
  unfold Ph
  rw [den_at (f := c_row_number) rfl, row_number_ok m g.bk r h1 hl hs fun n hn => d_counts k g n hn, h2]
theorem d_isrow (k : Nat) (g : Bo ws) (r : List Nat) (hr : ∀ i ∈ r, i < ws.length) (hl : r.length ≤ 50000) : Ph (k + 2) 14 [dBook m ws, rowD r] = .ok (false, .bl true) := by
  unfold Ph
  rw [den_at (f := c__law_is_row) rfl]
  refine is_row_ok m g.bk r hr hl fun i => ?_
  rw [den_at (f := c__law_is_int) rfl]
  exact is_int_ok i
theorem d_bad (k : Nat) (z : Int) (hz : z < 0 ∨ 1000 < z) : Ph (k + 2) 15 [dBook m ws, .int z] = .ok (false, tBad (.int z)) := by
  unfold Ph
  rw [den_at (f := c__law_told) rfl]
  refine told_bad _ _ _ ?_
  rw [den_at (f := c_row_by_number) rfl]
  exact by_number_bad _ z hz
theorem d_same (k : Nat) (d : D) (h : D.small 2 d = true) : Ph (k + 3) 7 [d, d] = .ok (false, .bl true) := same_ok (prog := prog) (W := 100000) (i := 7) rfl 2 (k + 2) d (by omega) h
/-- rows with a number are short -/
theorem at_small (g : Bo ws) {N : Nat} (hN : N ≤ 1000) (h0 : 0 < ws.length) {r : List Nat} (h : at_ ws N r) : szR ws r ≤ 13000 ∧ r.length ≤ 13000 := by
  obtain ⟨w, hw⟩ := List.exists_mem_of_length_pos h0
  have hfar := pre_far g.bk.full hw (N + 1)
  have hB : (N + 1) * w.length ≤ 1001 * 12 := Nat.mul_le_mul (by omega) (g.one w hw)
  obtain ⟨h1, h2, h3⟩ := at_number g.bk.full h
  have hs : szR ws r ≤ (N + 1) * w.length := by
    by_cases hc : szR ws r ≤ (N + 1) * w.length
    · exact hc
    · have := pre_mono (ws := ws) (show (N + 1) * w.length ≤ szR ws r by omega)
      omega
  have hl : ∀ r : List Nat, (∀ i ∈ r, i < ws.length) → r.length ≤ szR ws r := fun r hr => by
    induction r with
    | nil => simp
    | cons i t ih =>
      have := wAt_pos g.bk.full (hr i List.mem_cons_self)
      have := ih fun j hj => hr j (List.mem_cons_of_mem _ hj)
      rw [szR_cons, List.length_cons]
      omega
  have := hl r h1
  omega
theorem at_nil {N : Nat} {r : List Nat} (h : at_ [] N r) : N = 0 ∧ r = [] := by
  obtain ⟨s, h1, h2⟩ := h
  have hm := List.mem_of_getElem? h2
  obtain ⟨g1, g2⟩ := (mem_rN (ws := []) (fun u hu => by cases hu) r s).mp hm
  have hr : r = [] := List.eq_nil_iff_forall_not_mem.mpr fun i hi => by have := g1 i hi; simp at this
  subst hr
  have hs : s = 0 := g2.symm
  subst hs
  have hk := (List.getElem?_eq_some_iff.mp h2).1
  rw [rN_zero, pre_zero] at hk
  simp at hk
  exact ⟨hk, rfl⟩
/-- what is told for a number -/
theorem d_told (k : Nat) (g : Bo ws) (N : Nat) (hN : N ≤ 1000) (r : List Nat) (h : at_ ws N r) : Ph (k + 4) 15 [dBook m ws, .int (N : Nat)] = .ok (false, tRow (rowD r)) := by
  unfold Ph
  rw [den_at (f := c__law_told) rfl]
  refine told_row _ _ _ ?_
  by_cases h0 : 0 < ws.length
  · obtain ⟨r', h1, h2⟩ := d_byN (m := m) k g N hN h0
    rw [at_uniq h h1]
    exact h2
  · have : ws = [] := List.length_eq_zero_iff.mp (by omega)
    subst this
    obtain ⟨rfl, rfl⟩ := at_nil h
    rw [den_at (f := c_row_by_number) rfl, by_number_nil m 0 (by omega)]
    rfl
theorem small_tRow (r : List Nat) (h : r.length ≤ SZ) : D.small 2 (tRow (rowD r)) = true := by
  have e : ∀ l : List Nat, D.smalls 0 (l.map fun i => D.int (i : Nat)) = true := fun l => by
    induction l with
    | nil => rfl
    | cons a t ih => simpa [D.smalls, D.small] using ih
  have e2 : D.small 1 (rowD r) = true := by
    show (decide _ && D.smalls 0 _) = true
    rw [e, List.length_map, decide_eq_true h]
    rfl
  show (decide ((2 : Nat) ≤ SZ) && (true && (D.small 1 (rowD r) && true))) = true
  rw [e2]
  rfl
/-! ### going through all rows -/
def qD (x : Q) : D := .tup [rowD x.1, .int (x.2 : Nat)]
abbrev FC : CE := .cmp .lt (.var 6) (.bi .len [.var 5])
abbrev KB : List CS := [.ife (.cmp .le (.bin .add (.var 12) (.bi .len [.idx (.idx (.var 4) (.cst (.int 1))) (.var 13)])) (.cst (.int 5))) [.app 5 (.tup [.bin .add (.var 11) (.tup [.var 13]), .bin .add (.var 12) (.bi .len [.idx (.idx (.var 4) (.cst (.int 1))) (.var 13)])])] []]
abbrev FB : List CS := [.asgT [11, 12] (.idx (.var 5) (.var 6)),
      .for_ [13] (.rg1 (.bi .len [.idx (.var 4) (.cst (.int 1))])) KB,
      .asg 6 (.bin .add (.var 6) (.cst (.int 1)))]
abbrev EQ (p0 p1 p2 p3 : Option Slot) (m : Nat) (ws : List Tx) (found : List Q) (at' : Nat) (l7 l8 l9 l10 l11 l12 l13 : Option Slot) : Env := [p0, p1, p2, p3, some (false, dBook m ws), some (true, .lst (found.map qD)), some (false, .int (at' : Nat)), l7, l8, l9, l10, l11, l12, l13, none]
variable {p0 p1 p2 p3 l7 l8 l9 l10 : Option Slot}
theorem kid_loop (g : Bo ws) (at' : Nat) (x : Q) (hx : x.1.length ≤ 10) : ∀ (ks : List Nat) (found : List Q) (l13 : Option Slot), (∀ k ∈ ks, k < ws.length) → found.length + ks.length ≤ SZ → ∃ l13',
    forGo (bodyFor (Ph 29) 100000 [13] KB) (ks.map fun i => .int (i : Nat)) (EQ p0 p1 p2 p3 m ws found at' l7 l8 l9 l10 (some (false, rowD x.1)) (some (false, .int (x.2 : Nat))) l13) =
      .ok (.nx (EQ p0 p1 p2 p3 m ws (found ++ (ks.filter fun k => decide (x.2 + (wAt ws k).length ≤ 5)).map fun k => (x.1 ++ [k], x.2 + (wAt ws k).length)) at' l7 l8 l9 l10 (some (false, rowD x.1)) (some (false, .int (x.2 : Nat))) l13'))
  | [], found, l13, _, _ => ⟨l13, by simp only [List.filter_nil, List.map_nil, List.append_nil]; rfl⟩
  | k :: ks, found, l13, hk, hz => by
    rw [List.length_cons] at hz
    have g2 := hk k List.mem_cons_self
    have i1 := b1_at m ws
    have i2 := bw_at g2
    have h3 : (wAt ws k).length ≤ SZ := by have := g.one _ (wAt_mem g2); unfold SZ; omega
    have hf : (found.map qD).length < SZ := by rw [List.length_map]; omega
    rw [List.map_cons]
    by_cases h : x.2 + (wAt ws k).length ≤ 5
    · obtain ⟨l13', ih⟩ := kid_loop g at' x hx ks (found ++ [(x.1 ++ [k], x.2 + (wAt ws k).length)]) (some (false, .int (k : Nat))) (fun j hj => hk j (List.mem_cons_of_mem _ hj)) (by rw [List.length_append, List.length_singleton]; omega)
      refine ⟨l13', forGo_nx ?_ (ih.trans ?_)⟩
      · have ad : binop .add (rowD x.1) (.tup [.int (k : Nat)]) = some (.pl, rowD (x.1 ++ [k])) := by
          unfold rowD
          rw [bi_addT (by rw [List.length_map, List.length_singleton]; unfold SZ; omega), List.map_append]
          rfl
        have h' : (x.2 : Int) + ((wAt ws k).length : Int) ≤ 5 := by omega
        have eq : qD (x.1 ++ [k], x.2 + (wAt ws k).length) = .tup [rowD (x.1 ++ [k]), .int ((x.2 : Int) + ((wAt ws k).length : Int))] := by
          unfold qD
          simp only [Int.natCast_add]
        simp only [EQ]
        rw [List.map_append, List.map_singleton, eq]
        generalize rowD (x.1 ++ [k]) = R1 at *
        generalize rowD x.1 = R0 at *
        generalize wAt ws k = u at *
        generalize found.map qD = F at *
        generalize dBook m ws = B at *
        generalize D.tup (ws.map D.str) = T at *
        simp [bodyFor, bindT, i1, i2, h3, h', ad, ownL, hf]
      · rw [List.filter_cons_of_pos (by simpa using h), List.map_cons, List.append_assoc]
        rfl
    · obtain ⟨l13', ih⟩ := kid_loop g at' x hx ks found (some (false, .int (k : Nat))) (fun j hj => hk j (List.mem_cons_of_mem _ hj)) (by omega)
      refine ⟨l13', forGo_nx ?_ (ih.trans ?_)⟩
      · have h' : ¬ (x.2 : Int) + ((wAt ws k).length : Int) ≤ 5 := by omega
        simp only [EQ]
        generalize rowD x.1 = R0 at *
        generalize wAt ws k = u at *
        generalize found.map qD = F at *
        generalize dBook m ws = B at *
        generalize D.tup (ws.map D.str) = T at *
        simp [bodyFor, bindT, i1, i2, h3, h']
      · rw [List.filter_cons_of_neg (by simpa using h)]
theorem found_loop (g : Bo ws) : ∀ (q : Nat) (found : List Q) (a : Nat) (l11 l12 l13 : Option Slot), a ≤ found.length → (found.take a ++ (found.drop a).flatMap (ex ws)).Perm (ex ws ([], 0)) → ((found.drop a).flatMap (ex ws)).length + 1 ≤ q → ∃ found' a' l11' l12' l13',
    whlGo (condWhl (Ph 29) FC) (bodyWhl (Ph 29) 100000 FB) q (EQ p0 p1 p2 p3 m ws found a l7 l8 l9 l10 l11 l12 l13) = .ok (.nx (EQ p0 p1 p2 p3 m ws found' a' l7 l8 l9 l10 l11' l12' l13')) ∧ found'.Perm (ex ws ([], 0))
  | 0, found, a, l11, l12, l13, _, _, hq => by omega
  | q + 1, found, a, l11, l12, l13, ha, hp, hq => by
    have hlen := hp.length_eq
    rw [ex_len g.bk.full g.few, List.length_append] at hlen
    have h9 := pre6_le g.bk.full g.few
    have hxl : ∀ l : List Q, l.length ≤ (l.flatMap (ex ws)).length := fun l => by
      induction l with
      | nil => simp
      | cons x t ih =>
        rw [List.flatMap_cons, List.length_append, List.length_cons, ex_step g.bk.full, List.length_cons]
        omega
    have hfl : found.length ≤ 9331 := by
      have h1 := hxl (found.drop a)
      rw [List.length_take] at hlen
      rw [List.length_drop] at h1
      omega
    have hfz : (found.map qD).length ≤ SZ := by rw [List.length_map]; unfold SZ; omega
    have hcond : condWhl (Ph 29) FC (EQ p0 p1 p2 p3 m ws found a l7 l8 l9 l10 l11 l12 l13) = .ok (decide (a < found.length)) := by
      have e1 : (found.map qD).length = found.length := List.length_map _
      rw [← e1]
      simp only [EQ]
      generalize found.map qD = F at *
      generalize dBook m ws = B
      simp [condWhl, hfz]
    show ∃ found' a' l11' l12' l13', (condWhl (Ph 29) FC _ >>= _) = _ ∧ _
    rw [hcond]
    by_cases h : a < found.length
    · rw [decide_eq_true h]
      have hd : found.drop a = found[a] :: found.drop (a + 1) := List.drop_eq_getElem_cons h
      have hx : found[a] ∈ ex ws ([], 0) := by
        refine hp.mem_iff.mp ?_
        rw [hd, List.flatMap_cons, ex_step g.bk.full]
        simp
      obtain ⟨t, t1, t2, t3⟩ := (ex_mem g.bk.full 6 ([], 0) _ (by simp) (by simp)).mp hx
      have hxl2 : found[a].1.length ≤ 10 := by
        have hl : ∀ r : List Nat, (∀ i ∈ r, i < ws.length) → r.length ≤ szR ws r := fun r hr => by
          induction r with
          | nil => simp
          | cons i t ih =>
            have := wAt_pos g.bk.full (hr i List.mem_cons_self)
            have := ih fun j hj => hr j (List.mem_cons_of_mem _ hj)
            rw [szR_cons, List.length_cons]
            omega
        have := hl t t1
        rw [t3]
        simp only [List.nil_append]
        simp only at t2
        omega
      have ix : idxD (.lst (found.map qD)) (.int (a : Nat)) = some (qD found[a]) := by
        show PF.atI _ (a : Int) = _
        rw [atI_nat (by rw [List.length_map]; exact h), List.getElem_map]
      generalize hxe : found[a] = x at *
      have h6 := g.few
      obtain ⟨l13', kl⟩ := kid_loop (m := m) (p0 := p0) (p1 := p1) (p2 := p2) (p3 := p3) (l7 := l7) (l8 := l8) (l9 := l9) (l10 := l10) g a x hxl2 (List.range ws.length) found l13 (fun k hk => List.mem_range.mp hk) (by rw [List.length_range]; unfold SZ; omega)
      have ek : (((List.range ws.length).filter fun k => decide (x.2 + (wAt ws k).length ≤ 5)).map fun k => (x.1 ++ [k], x.2 + (wAt ws k).length)) = kids ws x := rfl
      rw [ek] at kl
      have hdx := ex_step g.bk.full x
      have hdrop : (found ++ kids ws x).drop (a + 1) = found.drop (a + 1) ++ kids ws x := List.drop_append_of_le_length (by omega)
      have htake : (found ++ kids ws x).take (a + 1) = found.take a ++ [x] := by
        rw [List.take_append_of_le_length (by omega), List.take_succ, List.getElem?_eq_getElem h, hxe]
        rfl
      obtain ⟨found', a', b11, b12, b13, ih, hpf⟩ := found_loop g q (found ++ kids ws x) (a + 1) (some (false, rowD x.1)) (some (false, .int (x.2 : Nat))) l13' (by rw [List.length_append]; omega) (by
        rw [htake, hdrop, List.flatMap_append]
        refine List.Perm.trans ?_ hp
        rw [hd, List.flatMap_cons, hdx, List.append_assoc]
        refine List.Perm.append_left _ ?_
        rw [List.singleton_append, List.cons_append]
        refine List.Perm.cons _ ?_
        exact List.perm_append_comm) (by
        rw [hdrop, List.flatMap_append, List.length_append]
        rw [hd, List.flatMap_cons, hdx, List.length_append, List.length_cons] at hq
        omega)
      refine ⟨found', a', b11, b12, b13, ?_, hpf⟩
      show (bodyWhl (Ph 29) 100000 FB _ >>= _) = _
      have i1 := b1_at m ws
      have hlw : (ws.map D.str).length = ws.length := List.length_map _
      have hz : ws.length ≤ SZ := by unfold SZ; omega
      have hr : rgOk (ws.length : Int) = true := rgOk_len hz
      have rr := ranges_eq ws.length
      have turn : bodyWhl (Ph 29) 100000 FB (EQ p0 p1 p2 p3 m ws found a l7 l8 l9 l10 l11 l12 l13) = .ok (.nx (EQ p0 p1 p2 p3 m ws (found ++ kids ws x) (a + 1) l7 l8 l9 l10 (some (false, rowD x.1)) (some (false, .int (x.2 : Nat))) l13')) := by
        have e : qD x = .tup [rowD x.1, .int (x.2 : Nat)] := rfl
        rw [e] at ix
        simp only [EQ] at kl ⊢
        rw [← rr] at kl
        rw [Int.natCast_add, Int.natCast_one]
        generalize (found ++ kids ws x).map qD = F' at *
        generalize found.map qD = F at *
        generalize rowD x.1 = R0 at *
        generalize dBook m ws = B at *
        generalize ws.map D.str = T at *
        simp [bodyWhl, bindT, setSlots, ix, i1, hlw, hz, hr, kl]
      rw [turn]
      exact ih
    · rw [decide_eq_false h]
      have hd : found.drop a = [] := List.drop_eq_nil_of_le (by omega)
      rw [hd, List.take_of_length_le (by omega)] at hp
      refine ⟨found, a, l11, l12, l13, rfl, ?_⟩
      simpa using hp
end
end PF.K90

namespace PF.K90
open PF
section
variable {m : Nat} {ws : List Tx}
abbrev NB : List CS := [.ife (.not (.call 7 [.call 15 [.var 4, .var 8], .tup [.cst (.str [114, 111, 119]), .idx (.var 7) (.var 8)]])) [.ret (.cst (.bl false))] [],
      .ife (.not (.call 7 [.call 2 [.var 4, .idx (.var 7) (.var 8)], .var 8])) [.ret (.cst (.bl false))] []]
variable {p0 p1 p2 p3 l5 l6 l9 l10 l11 l12 l13 : Option Slot}
abbrev EN (p0 p1 p2 p3 : Option Slot) (m : Nat) (ws : List Tx) (l5 l6 : Option Slot) (L : List (List Nat)) (l8 l9 l10 l11 l12 l13 : Option Slot) : Env := [p0, p1, p2, p3, some (false, dBook m ws), l5, l6, some (true, .lst (L.map rowD)), l8, l9, l10, l11, l12, l13, none]
theorem num_turns (g : Bo ws) : ∀ (ns : List Nat) (l8 : Option Slot), (∀ n ∈ ns, n < (ordL ws).length ∧ n ≤ 39) → ∃ l8', forGo (bodyFor (Ph 29) 100000 [8] NB) (ns.map fun i => .int (i : Nat)) (EN p0 p1 p2 p3 m ws l5 l6 (ordL ws) l8 l9 l10 l11 l12 l13) = .ok (.nx (EN p0 p1 p2 p3 m ws l5 l6 (ordL ws) l8' l9 l10 l11 l12 l13))
  | [], l8, _ => ⟨l8, rfl⟩
  | n :: ns, l8, h => by
    obtain ⟨l8', ih⟩ := num_turns g ns (some (false, .int (n : Nat))) fun k hk => h k (List.mem_cons_of_mem _ hk)
    refine ⟨l8', ?_⟩
    rw [List.map_cons]
    refine forGo_nx ?_ ih
    obtain ⟨hn, hn2⟩ := h n List.mem_cons_self
    have hget : (ordL ws)[n]? = some (ordL ws)[n] := List.getElem?_eq_getElem hn
    have hat : at_ ws n (ordL ws)[n] := ord_at 6 n _ hget
    have ix : idxD (.lst ((ordL ws).map rowD)) (.int (n : Nat)) = some (rowD (ordL ws)[n]) := by
      show PF.atI _ (n : Int) = _
      rw [atI_nat (by rw [List.length_map]; exact hn), List.getElem_map]
    generalize (ordL ws)[n] = r at *
    have hsz : szR ws r ≤ 13000 ∧ r.length ≤ 13000 := by
      by_cases h0 : 0 < ws.length
      · exact at_small g (by omega) h0 hat
      · have : ws = [] := List.length_eq_zero_iff.mp (by omega)
        subst this
        obtain ⟨_, rfl⟩ := at_nil hat
        simp [szR]
    have e15 := d_told (m := m) 25 g n (by omega) r hat
    have e2 := d_num (m := m) 26 g n r hat (by omega) (by omega)
    have s1 := d_same 26 _ (small_tRow r (by unfold SZ; omega))
    have s2 := d_same 26 (.int (n : Nat)) rfl
    unfold tRow at e15 s1
    simp only [Nat.reduceAdd] at e15 e2 s1 s2
    simp only [EN]
    generalize (ordL ws).map rowD = L at *
    generalize rowD r = R at *
    generalize dBook m ws = B at *
    simp [bodyFor, bindT, e15, e2, s1, s2, ix]
abbrev BB : List CS := [.ife (.not (.call 7 [.call 15 [.var 4, .var 8], .tup [.cst (.str [98, 97, 100]), .var 8]])) [.ret (.cst (.bl false))] []]
theorem bad_turn (z : Int) (hz : z < 0 ∨ 1000 < z) (l7 l8 : Option Slot) : bodyFor (Ph 29) 100000 [8] BB (.int z) [p0, p1, p2, p3, some (false, dBook m ws), l5, l6, l7, l8, l9, l10, l11, l12, l13, none] = .ok (.nx [p0, p1, p2, p3, some (false, dBook m ws), l5, l6, l7, some (false, .int z), l9, l10, l11, l12, l13, none]) := by
  have e15 := d_bad (m := m) (ws := ws) 27 z hz
  have s1 := d_same 26 (tBad (.int z)) rfl
  unfold tBad at e15 s1
  simp only [Nat.reduceAdd] at e15 s1
  generalize dBook m ws = B at *
  simp [bodyFor, bindT, e15, s1]
abbrev LB : List CS := [.asg 5 (.lst [.tup [.tup [], .cst (.int 0)]]),
    .asg 6 (.cst (.int 0)),
    .whl FC FB,
    .asg 7 (.lc [14] (.seq .list (.bi .sorted [.lc [14] (.seq .list (.var 5)) .no (.tup [.idx (.var 14) (.cst (.int 1)), .idx (.var 14) (.cst (.int 0))])])) .no (.idx (.var 14) (.cst (.int 1)))),
    .for_ [8] (.rg1 (.bi .min [.bi .len [.var 7], .cst (.int 40)])) NB,
    .asg 9 (.bin .mod (.idx (.var 1) (.cst (.int 2))) (.cst (.int 1001))),
    .asg 10 (.call 15 [.var 4, .var 9]),
    .ife (.cmp .eq (.bi .len [.idx (.var 4) (.cst (.int 1))]) (.cst (.int 0))) [.ife (.cmp .ne (.var 10) (.tup [.cst (.str [114, 111, 119]), .idx (.lst [.cst .non, .tup []]) (.bi .int [.cmp .eq (.var 9) (.cst (.int 0))])])) [.ret (.cst (.bl false))] []] [.ife (.or (.cmp .ne (.idx (.var 10) (.cst (.int 0))) (.cst (.str [114, 111, 119]))) (.or (.not (.call 14 [.var 4, .idx (.var 10) (.cst (.int 1))])) (.not (.call 7 [.call 2 [.var 4, .idx (.var 10) (.cst (.int 1))], .var 9])))) [.ret (.cst (.bl false))] []],
    .for_ [8] (.seq .list (.lst [.bin .sub (.cst (.int 0)) (.cst (.int 1)), .cst (.int 1001), .bin .pow (.cst (.int 10)) (.cst (.int 20))])) BB]
theorem lc_swap (Φ : Nat → List D → R (Bool × D)) (e : Env) (he : 14 < e.length) (xs : List Q) : lcGo (bodyLc Φ [14] .no (.tup [.idx (.var 14) (.cst (.int 1)), .idx (.var 14) (.cst (.int 0))]) e) (xs.map qD) = .ok ((xs.map ky).map kyD) := by
  rw [lcGo_emb (emb := qD) (f := fun x => some (kyD (ky x))) xs fun x _ => ?_]
  · rw [List.filterMap_eq_map', List.map_map]
    rfl
  · have e1 : idxD (qD x) (.int 1) = some (.int (x.2 : Nat)) := rfl
    have e0 : idxD (qD x) (.int 0) = some (rowD x.1) := rfl
    have ek : kyD (ky x) = .tup [.int (x.2 : Nat), rowD x.1] := rfl
    rw [ek]
    generalize rowD x.1 = R at *
    generalize qD x = X at *
    simp [bodyLc, bindT, wipeE, he, e1, e0]
theorem lc_snd (Φ : Nat → List D → R (Bool × D)) (e : Env) (he : 14 < e.length) (xs : List Ky) : lcGo (bodyLc Φ [14] .no (.idx (.var 14) (.cst (.int 1))) e) (xs.map kyD) = .ok ((xs.map Prod.snd).map rowD) := by
  rw [lcGo_emb (emb := kyD) (f := fun x => some (rowD x.2)) xs fun x _ => ?_]
  · rw [List.filterMap_eq_map', List.map_map]
    rfl
  · have e1 : idxD (kyD x) (.int 1) = some (rowD x.2) := rfl
    generalize rowD x.2 = R at *
    generalize kyD x = X at *
    simp [bodyLc, bindT, wipeE, he, e1]
theorem book_turn (g : Bo ws) (s0 s1 s2 : Int) (l4 l5 l6 l7 l8 l9 l10 l11 l12 l13 : Option Slot) : ∃ l5' l6' l7' l8' l9' l10' l11' l12' l13',
    bodyFor (Ph 29) 100000 [4] LB (dBook m ws) [p0, some (true, .lst [.int s0, .int s1, .int s2]), p2, p3, l4, l5, l6, l7, l8, l9, l10, l11, l12, l13, none] = .ok (.nx [p0, some (true, .lst [.int s0, .int s1, .int s2]), p2, p3, some (false, dBook m ws), l5', l6', l7', l8', l9', l10', l11', l12', l13', none]) := by
  have h9 := pre6_le g.bk.full g.few
  have hxl := ex_len g.bk.full g.few
  obtain ⟨found, a', b11, b12, b13, wl, hp⟩ := found_loop (m := m) (p0 := p0) (p1 := some (true, .lst [.int s0, .int s1, .int s2])) (p2 := p2) (p3 := p3) (l7 := l7) (l8 := l8) (l9 := l9) (l10 := l10) g 100000 [([], 0)] 0 l11 l12 l13 (by simp) (by simp) (by
    simp only [List.drop_zero, List.flatMap_cons, List.flatMap_nil, List.append_nil]
    omega)
  have hky : (found.map ky).Perm (allK ws) := (hp.map ky).trans (ky_perm g.bk.full)
  have hne : found.map ky ≠ [] := by
    intro z
    rw [z] at hky
    have := hky.length_eq
    rw [← List.length_map (f := Prod.snd), ← List.length_map (f := Prod.snd) (as := allK ws), allK_snd, ord_len] at this
    have h1 : pre ws 1 = 1 := rfl
    have := pre_mono (ws := ws) (show 1 ≤ 6 by decide)
    simp at *
    omega
  have so := sorted_kys (found.map ky) hne
  rw [sort_all g.bk.full hky] at so
  have lsw := fun l6' => lc_swap (Ph 29) [p0, some (true, .lst [.int s0, .int s1, .int s2]), p2, p3, some (false, dBook m ws), some (true, .lst (found.map qD)), l6', l7, l8, l9, l10, b11, b12, b13, none] (by simp) found
  have lsn := fun l6' => lc_snd (Ph 29) [p0, some (true, .lst [.int s0, .int s1, .int s2]), p2, p3, some (false, dBook m ws), some (true, .lst (found.map qD)), l6', l7, l8, l9, l10, b11, b12, b13, none] (by simp) (allK ws)
  simp only [allK_snd] at lsn
  have hol : (ordL ws).length ≤ 9331 := by rw [ord_len]; exact h9
  have hmin : min (ordL ws).length 40 ≤ 40 := Nat.min_le_right _ _
  obtain ⟨a8, nt⟩ := num_turns (m := m) (p0 := p0) (p1 := some (true, .lst [.int s0, .int s1, .int s2])) (p2 := p2) (p3 := p3) (l5 := some (true, .lst (found.map qD))) (l6 := some (false, .int (a' : Nat))) (l9 := l9) (l10 := l10) (l11 := b11) (l12 := b12) (l13 := b13) g (List.range (min (ordL ws).length 40)) l8 (fun n hn => by
    have := List.mem_range.mp hn
    omega)
  rw [← ranges_eq] at nt
  have hfz : (found.map qD).length ≤ SZ := by
    rw [List.length_map, hp.length_eq, hxl]
    unfold SZ; omega
  have hkz : ((allK ws).map kyD).length ≤ SZ := by
    rw [List.length_map, ← List.length_map (f := Prod.snd), allK_snd]
    unfold SZ; omega
  have hoz : ((ordL ws).map rowD).length = (ordL ws).length := List.length_map _
  have hoz2 : (ordL ws).length ≤ SZ := by unfold SZ; omega
  have bm : builtin .min [.int ((ordL ws).length : Nat), .int 40] = some (.pl, .int (min (ordL ws).length 40 : Nat)) := by
    show some (Fl.pl, D.int (if (40 : Int) < ((ordL ws).length : Int) then 40 else ((ordL ws).length : Int))) = _
    congr 3
    split <;> omega
  have hr : rgOk ((min (ordL ws).length 40 : Nat) : Int) = true := by unfold rgOk; simp only [Bool.and_eq_true, decide_eq_true_eq]; omega
  obtain ⟨c, hc, ec⟩ : ∃ c : Nat, c ≤ 1000 ∧ s2 % 1001 = (c : Int) := ⟨(s2 % 1001).toNat, by omega, by omega⟩
  have k2 : idxD (.lst [.int s0, .int s1, .int s2]) (.int 2) = some (.int s2) := rfl
  have i1 := b1_at m ws
  have hlw : (ws.map D.str).length = ws.length := List.length_map _
  have hwz : ws.length ≤ SZ := by have := g.few; unfold SZ; omega
  have bads := fun l9 l10 l7 => forGo_nx (bad_turn (m := m) (ws := ws) (p0 := p0) (p1 := some (true, .lst [.int s0, .int s1, .int s2])) (p2 := p2) (p3 := p3) (l5 := some (true, .lst (found.map qD))) (l6 := some (false, .int (a' : Nat))) (l9 := l9) (l10 := l10) (l11 := b11) (l12 := b12) (l13 := b13) (-1) (by omega) l7 a8)
    (forGo_nx (bad_turn (m := m) (ws := ws) (p0 := p0) (p1 := some (true, .lst [.int s0, .int s1, .int s2])) (p2 := p2) (p3 := p3) (l5 := some (true, .lst (found.map qD))) (l6 := some (false, .int (a' : Nat))) (l9 := l9) (l10 := l10) (l11 := b11) (l12 := b12) (l13 := b13) 1001 (by omega) l7 (some (false, .int (-1))))
    (forGo_nx (bad_turn (m := m) (ws := ws) (p0 := p0) (p1 := some (true, .lst [.int s0, .int s1, .int s2])) (p2 := p2) (p3 := p3) (l5 := some (true, .lst (found.map qD))) (l6 := some (false, .int (a' : Nat))) (l9 := l9) (l10 := l10) (l11 := b11) (l12 := b12) (l13 := b13) 100000000000000000000 (by omega) l7 (some (false, .int 1001))) (xs := []) rfl))
  have fn : ∀ (g : D → Env → R Out) (e : Env), forGo g [] e = .ok (.nx e) := fun _ _ => rfl
  have pw : binop .pow (.int 10) (.int 20) = some (.pl, .int 100000000000000000000) := rfl
  have w0 : [(([] : List Nat), 0)].map qD = [.tup [.tup [], .int 0]] := rfl
  simp only [EQ, EN, w0, Int.natCast_zero, Int.cast_ofNat_Int] at wl nt
  by_cases h0 : ws.length = 0
  · have e15 : Ph 29 15 [dBook m ws, .int (c : Nat)] = .ok (false, tRow (if c = 0 then .tup [] else .non)) := by
      have : ws = [] := List.length_eq_zero_iff.mp h0
      subst this
      show den prog 100000 (28 + 1) 15 _ = _
      rw [den_at (f := c__law_told) rfl]
      refine told_row _ _ _ ?_
      rw [den_at (f := c_row_by_number) rfl, by_number_nil m c hc]
    have i2 : ∀ b : Bool, idxD (.lst [.non, .tup []]) (.int (if b = true then 1 else 0)) = some (if b = true then .tup [] else .non) := fun b => by cases b <;> rfl
    have ne1 : ∀ b : Bool, cmpD .ne (.tup [.str [114, 111, 119], if b = true then .tup [] else .non]) (.tup [.str [114, 111, 119], if b = true then .tup [] else .non]) = some false := fun b => by cases b <;> rfl
    have bi : ∀ b : Bool, builtin .int [.bl b] = some (.pl, .int (if b = true then 1 else 0)) := fun b => by cases b <;> rfl
    have ed : (if c = 0 then D.tup [] else .non) = if (decide (c = 0)) = true then .tup [] else .non := by simp
    have ez : ((c : Int) == 0) = decide (c = 0) := by
      rw [Bool.eq_iff_iff, beq_iff_eq, decide_eq_true_eq]
      omega
    unfold tRow at e15
    rw [ed] at e15
    refine ⟨some (true, .lst (found.map qD)), some (false, .int (a' : Nat)), some (true, .lst ((ordL ws).map rowD)), some (false, .int 100000000000000000000), some (false, .int (c : Nat)), some (false, .tup [.str [114, 111, 119], if (decide (c = 0)) = true then .tup [] else .non]), b11, b12, b13, ?_⟩
    generalize (found.map ky).map kyD = K1 at *
    generalize (allK ws).map kyD = K2 at *
    generalize found.map qD = F at *
    generalize (ordL ws).map rowD = O at *
    generalize (ordL ws).length = ol at *
    generalize min ol 40 = mn at *
    generalize dBook m ws = B at *
    generalize ws.map D.str = T at *
    generalize decide (c = 0) = b at *
    simp [bodyFor, bindT, wl, hfz, lsw, so, hkz, lsn, hoz, hoz2, bm, hr, nt, k2, ec, e15, i1, hlw, hwz, h0, ez, bi, i2, ne1, pw, bads, fn]
  · obtain ⟨r, hat, _⟩ := d_byN (m := m) 25 g c hc (by omega)
    have e15 := d_told (m := m) 25 g c hc r hat
    obtain ⟨z1, z2⟩ := at_small g hc (by omega) hat
    have e2 := d_num (m := m) 26 g c r hat (by omega) (by omega)
    have e14 := d_isrow (m := m) 27 g r (at_number g.bk.full hat).1 (by omega)
    have s2' := d_same 26 (.int (c : Nat)) rfl
    have j0 : idxD (.tup [.str [114, 111, 119], rowD r]) (.int 0) = some (.str [114, 111, 119]) := rfl
    have j1 : idxD (.tup [.str [114, 111, 119], rowD r]) (.int 1) = some (rowD r) := rfl
    unfold tRow at e15
    simp only [Nat.reduceAdd] at e15 e2 e14 s2'
    refine ⟨some (true, .lst (found.map qD)), some (false, .int (a' : Nat)), some (true, .lst ((ordL ws).map rowD)), some (false, .int 100000000000000000000), some (false, .int (c : Nat)), some (false, .tup [.str [114, 111, 119], rowD r]), b11, b12, b13, ?_⟩
    generalize (found.map ky).map kyD = K1 at *
    generalize (allK ws).map kyD = K2 at *
    generalize found.map qD = F at *
    generalize (ordL ws).map rowD = O at *
    generalize (ordL ws).length = ol at *
    generalize min ol 40 = mn at *
    generalize rowD r = R at *
    generalize dBook m ws = B at *
    generalize ws.map D.str = T at *
    simp [bodyFor, bindT, wl, hfz, lsw, so, hkz, lsn, hoz, hoz2, bm, hr, nt, k2, ec, e15, i1, hlw, hwz, h0, j0, j1, e14, e2, s2', pw, bads, fn]
end
theorem law_true (ns : List Int) (hl : ns.length ≤ 63) : ∃ fr, den prog 100000 30 16 [.scr ns] = .ok (fr, .bl true) := by
  refine ⟨false, ?_⟩
  have hN : prog[8]? = some fnNumber := rfl
  have hD : prog[9]? = some (fnDraws 8) := rfl
  have hW : prog[10]? = some fnWord := rfl
  have hS : prog[11]? = some fnShort := rfl
  have hB : prog[13]? = some (fnBook 9 10 11) := rfl
  obtain ⟨sh, sl, sb, e0⟩ := g_draws (W := 100000) hN hD 27 ns 0 3 720 (by decide) (by decide) (by decide)
  match sh, sl with
  | [s0, s1, s2], _ =>
    obtain ⟨m, hm0, hm3, em⟩ : ∃ m : Nat, 0 < m ∧ m ≤ 3 ∧ 1 + s0 % 3 = (m : Int) := ⟨(1 + s0 % 3).toNat, by omega, by omega, by omega⟩
    obtain ⟨c1, hc1, ec1⟩ : ∃ c : Nat, c ≤ 6 ∧ s1 % 7 = (c : Int) := ⟨(s1 % 7).toNat, by omega, by omega⟩
    obtain ⟨ws0, dw, e1⟩ := g_book (W := 100000) hN hD hW hS hB 26 ns 1 m c1 3 hm0 hm3 (by decide) (by decide) (by omega)
    have hw4 : ∀ w ∈ shortW ws0, w.length ≤ 3 := fun w hw => (dw.one w (shortW_mem.mp hw).1).2.2
    have hlen : (shortW ws0).length ≤ 6 := by have := shortW_len ws0; have := dw.size; omega
    have g : Bo (shortW ws0) := ⟨⟨fun w hw => (shortW_mem.mp hw).2, shortW_nodup _, by omega, fun w hw => by have := hw4 w hw; omega⟩, hlen, fun w hw => by have := hw4 w hw; omega⟩
    generalize shortW ws0 = ws at *
    obtain ⟨d8, dl8, _, e8⟩ := g_draws (W := 100000) hN hD 27 ns 8 12 5040 (by decide) (by decide) (by omega)
    obtain ⟨w8, wl8, wi8, f8⟩ := g_word (W := 100000) hW 28 d8 m hm0 hm3 (by omega)
    have g2 : Bo [w8] := ⟨⟨fun w hw => by
        rw [List.mem_singleton] at hw
        subst hw
        intro z
        rw [z, List.length_nil] at wl8
        omega, by simp, by simp, fun w hw => by
        rw [List.mem_singleton] at hw
        subst hw
        omega⟩, by simp, fun w hw => by
        rw [List.mem_singleton] at hw
        subst hw
        omega⟩
    have hd1 : D.tup [.int m, .tup (ws.map .str)] = dBook m ws := rfl
    have hd2 : D.tup [.int m, .tup [.str w8]] = dBook m [w8] := rfl
    rw [hd1] at e1
    have k0 : idxD (.lst [.int s0, .int s1, .int s2]) (.int 0) = some (.int s0) := rfl
    have k1 : idxD (.lst [.int s0, .int s1, .int s2]) (.int 1) = some (.int s1) := rfl
    obtain ⟨a5, a6, a7, a8, a9, a10, a11, a12, a13, t1⟩ := book_turn (m := m) (p0 := some (false, .scr ns)) (p2 := some (false, .int (m : Nat))) (p3 := some (false, dBook m [w8])) g s0 s1 s2 none none none none none none none none none none
    obtain ⟨b5, b6, b7, b8, b9, b10, b11, b12, b13, t2⟩ := book_turn (m := m) (p0 := some (false, .scr ns)) (p2 := some (false, .int (m : Nat))) (p3 := some (false, dBook m [w8])) g2 s0 s1 s2 (some (false, dBook m ws)) a5 a6 a7 a8 a9 a10 a11 a12 a13
    have lp := forGo_nx t1 (forGo_nx t2 (xs := []) rfl)
    have fn : ∀ (g : D → Env → R Out) (e : Env), forGo g [] e = .ok (.nx e) := fun _ _ => rfl
    rw [den_at (f := c_law) rfl]
    clear t1 t2 g g2 dw hd1
    simp only [Int.cast_ofNat_Int, Int.natCast_zero, Int.natCast_one, Nat.reduceAdd, LB, NB, BB, FC, FB, KB] at e0 e1 e8 f8 lp
    generalize d8.map D.int = Q8 at *
    generalize dBook m [w8] = B2 at *
    generalize dBook m ws = B at *
    simp [c_law, freeze, e0, k0, k1, em, ec1, e1, e8, f8, hd2, lp, fn]
end PF.K90

open PySem PySem.W PyProof.Rows
set_option maxHeartbeats 0 in
theorem PySem.Challenge.cw_readapart_k90_numbers_of_rows_holds : PySem.Challenge.rw_readapart_k90_numbers_of_rows.Holds := by
  w_on; o_law; k_head; (case hw => w_witness2)
  k_fill
  refine L2.walk_of (l := PySem.Challenge.rw_readapart_k90_numbers_of_rows) (n := 63) (k := 32) (x := "script") (CX := fun _ => L2.CX0) (sp := fun w => PF.spOf _ PF.XW0 (PF.den PF.K90.prog PF.K90.W 30 16) 1) rfl (by decide) rfl ⟨rfl, by decide, by decide⟩ (fun w h Y => PySem.W.kIn_of Y) ?F (fun _ H a ns hl _ hS => PF.law_sp (n := 63) (m := 0) PF.K90.law_true H a ns hl hS _) (fun _ _ _ _ _ h => h)
  case F =>
    intro w mg fa h KX G hmg
    refine' PF.K90.all_mk KX G hmg ?a0 ?l0 ?c0 ?k0 ?a1 ?l1 ?c1 ?k1 ?a2 ?l2 ?c2 ?k2 ?a3 ?l3 ?c3 ?k3 ?a4 ?l4 ?c4 ?k4 ?a5 ?l5 ?c5 ?k5 ?a6 ?l6 ?c6 ?k6 ?a7 ?l7 ?c7 ?k7 ?a8 ?l8 ?c8 ?k8 ?a9 ?l9 ?c9 ?k9 ?a10 ?l10 ?c10 ?k10 ?a11 ?l11 ?c11 ?k11 ?a12 ?l12 ?c12 ?k12 ?a13 ?l13 ?c13 ?k13 ?a14 ?l14 ?c14 ?k14 ?a15 ?l15 ?c15 ?k15 ?a16 ?l16 ?c16 ?k16 ?z_abs ?z_bool ?z_int ?z_isinstance ?z_len ?z_list ?z_min ?z_range ?z_sorted ?z_str ?z_sum ?z_tuple ?g_MOST_NUMBER ?xz_super ?xz_top ?xg_BadNumber ?xf_BadNumber ?xl_BadNumber ?xi_BadNumber ?i_1_1 ?s_1_1
    (case a0 => k_is); (case l0 => k_is); (case c0 => k_is); (case k0 => k_is); (case a1 => k_is); (case l1 => k_is); (case c1 => k_is); (case k1 => k_is); (case a2 => k_is); (case l2 => k_is); (case c2 => k_is); (case k2 => k_is); (case a3 => k_is); (case l3 => k_is); (case c3 => k_is); (case k3 => k_is); (case a4 => k_is); (case l4 => k_is); (case c4 => k_is); (case k4 => k_is); (case a5 => k_is); (case l5 => k_is); (case c5 => k_is); (case k5 => k_is); (case a6 => k_is); (case l6 => k_is); (case c6 => k_is); (case k6 => k_is); (case a7 => k_is); (case l7 => k_is); (case c7 => k_is); (case k7 => k_is); (case a8 => k_is); (case l8 => k_is); (case c8 => k_is); (case k8 => k_is); (case a9 => k_is); (case l9 => k_is); (case c9 => k_is); (case k9 => k_is); (case a10 => k_is); (case l10 => k_is); (case c10 => k_is); (case k10 => k_is); (case a11 => k_is); (case l11 => k_is); (case c11 => k_is); (case k11 => k_is); (case a12 => k_is); (case l12 => k_is); (case c12 => k_is); (case k12 => k_is); (case a13 => k_is); (case l13 => k_is); (case c13 => k_is); (case k13 => k_is); (case a14 => k_is); (case l14 => k_is); (case c14 => k_is); (case k14 => k_is); (case a15 => k_is); (case l15 => k_is); (case c15 => k_is); (case k15 => k_is); (case a16 => k_is); (case l16 => k_is); (case c16 => k_is); (case k16 => k_is); (case z_abs => k_is); (case z_bool => k_is); (case z_int => k_is); (case z_isinstance => k_is); (case z_len => k_is); (case z_list => k_is); (case z_min => k_is); (case z_range => k_is); (case z_sorted => k_is); (case z_str => k_is); (case z_sum => k_is); (case z_tuple => k_is); (case g_MOST_NUMBER => k_is); (case xz_super => k_is); (case xz_top => kernel_rfl); (case xg_BadNumber => k_is); (case xf_BadNumber => k_is); (case xl_BadNumber => k_is); (case xi_BadNumber => kernel_rfl); (case i_1_1 => k_is); (case s_1_1 => k_is)
