import PyProof.Rows.All
import PySem.Syntax
import Wide.All
import OpenK.AllK
import Wide.FinOn
import HandS.ForMost
import HandS.Exc
import HandS.ExcOwn
import HandS.IsInst
import HandS.Walk
import HandS.Flow
import HandS.TupAny
import HandS.TupMul
import HandS.TupLen
import HandS.TupLe
import HandS.SortInts
import HandS.SortRule
import HandS.RaiseMore
import KE.KDictSum
import HandS.Style
import HandS.Zip
import KE.KDictZip
import KE.GoesMore
import KE.GoesEnum
import KE.DatumOrd
import HandS.TryOnly
import HandS.Small
import HandS.Defaults
import HandS.WordsExc
import HandS.Head0
import HandS.Head1
import HandS.Head2
import HandS.HeadEnd
import HandS.HeadHook1
import HandS.HeadHook2
import HandS.Ends
import HandS.More
import HandS.Words
import PySem.Challenge.RW_strunglimbs_k40_whole_idle_strings_and_s

section
set_option linter.all false
set_option maxRecDepth 10000
/-! PVL1: values as trees, a small language, its evaluator. -/
namespace PVL
open PySem (Str)

abbrev Key := Sum Int Str
/-- keys of dicts: ints, texts; tuples of them -/
inductive DKey where
  | at_ (k : Key)
  | tup (ks : List Key)
  deriving DecidableEq
inductive PV where
  | non | bl (b : Bool) | int (i : Int) | str (s : Str)
  | tup (xs : List PV) | lst (xs : List PV) | dct (t : Bool) (kvs : List (DKey × PV))
  | fn (x : Str)
  | scr (xs : List PV)
  deriving Inhabited
structure Exc where
  cls : Str
  fs : List (Str × PV)
inductive Res (α : Type) where
  | ok (a : α) (c : PV)
  | exc (e : Exc) (c : PV)
  | stuck
def Res.bind {α β : Type} (r : Res α) (f : α → PV → Res β) : Res β := match r with
  | .ok a c => f a c
  | .exc e c => .exc e c
  | .stuck => .stuck
@[simp] theorem bind_ok {α β : Type} (a : α) (c : PV) (f : α → PV → Res β) : (Res.ok a c).bind f = f a c := rfl
@[simp] theorem bind_exc {α β : Type} (e : Exc) (c : PV) (f : α → PV → Res β) : (Res.exc e c : Res α).bind f = .exc e c := rfl
@[simp] theorem bind_stuck {α β : Type} (f : α → PV → Res β) : (Res.stuck : Res α).bind f = .stuck := rfl
def Res.of {α : Type} (o : Option α) (c : PV) : Res α := match o with
  | some a => .ok a c
  | none => .stuck
@[simp] theorem of_some {α : Type} (a : α) (c : PV) : Res.of (some a) c = .ok a c := rfl
@[simp] theorem of_none {α : Type} (c : PV) : Res.of (none : Option α) c = .stuck := rfl

/-! ### operations on values -/
def SZ : Nat := 16777216
def B64 : Int := 18446744073709551616
def truth : PV → Option Bool
  | .non => some false
  | .bl b => some b
  | .int i => some (i != 0)
  | .tup xs => some (!xs.isEmpty)
  | .lst xs => some (!xs.isEmpty)
  | _ => none
/-! Python's ==, by data -/
mutual
def eqv : PV → PV → Bool
  | .non, .non => true
  | .bl a, .bl b => a == b
  | .bl a, .int j => (if a then 1 else 0) == j
  | .int i, .bl b => i == (if b then 1 else 0)
  | .int i, .int j => i == j
  | .str x, .str y => x == y
  | .lst xs, .lst ys => eqvL xs ys
  | .tup xs, .tup ys => eqvL xs ys
  | _, _ => false
termination_by structural x => x
def eqvL : List PV → List PV → Bool
  | [], [] => true
  | x :: xs, y :: ys => eqv x y && eqvL xs ys
  | _, _ => false
termination_by structural x => x
end
def asc (s : Str) : Bool := s.cps.toList.all fun c => decide (c < 128)
/-! a value == may be asked of: no dicts, no defs; nested at most so deep -/
mutual
def isData : Nat → PV → Bool
  | _, .non => true
  | _, .bl _ => true
  | _, .int _ => true
  | _, .str s => asc s
  | n + 1, .tup xs => isDataL n xs
  | n + 1, .lst xs => isDataL n xs
  | _, _ => false
termination_by structural _ x => x
def isDataL : Nat → List PV → Bool
  | _, [] => true
  | n, x :: xs => isData n x && isDataL n xs
termination_by structural _ x => x
end
def ints? : List PV → Option (List Int)
  | [] => some []
  | .int i :: r => (ints? r).map (i :: ·)
  | _ :: _ => none
def bools? : List PV → Option (List Bool)
  | [] => some []
  | .bl b :: r => (bools? r).map (b :: ·)
  | _ :: _ => none
def lexLt : List Int → List Int → Bool
  | [], [] => false
  | [], _ :: _ => true
  | _ :: _, [] => false
  | x :: xs, y :: ys => if x = y then lexLt xs ys else decide (x < y)
inductive Op2 where | add | sub | mul | fdiv | mod | pow
  deriving DecidableEq
def small (i : Int) : Bool := decide (-B64 < i) && decide (i < B64)
def op2 : Op2 → PV → PV → Option PV
  | .add, .int i, .int j => some (.int (i + j))
  | .sub, .int i, .int j => some (.int (i - j))
  | .mul, .int i, .int j => if small i || small j then some (.int (i * j)) else none
  | .fdiv, .int i, .int j => if decide (0 < j) && decide (j < 1073741824) then some (.int (i / j)) else none
  | .mod, .int i, .int j => if decide (0 < j) then some (.int (i % j)) else none
  | .pow, .int i, .int j => if decide (0 ≤ j) && decide (j ≤ 1000000) && decide (i.natAbs < 18446744073709551616) then some (.int (i ^ j.toNat)) else none
  | .add, .str x, .str y => if x.length + y.length ≤ SZ then some (.str (x ++ y)) else none
  | .add, .tup xs, .tup ys => if xs.length + ys.length ≤ SZ then some (.tup (xs ++ ys)) else none
  | .add, .lst xs, .lst ys => if xs.length + ys.length ≤ SZ then some (.lst (xs ++ ys)) else none
  | .mul, .tup xs, .int k => if !xs.isEmpty && decide (xs.length ≤ 1000) && decide (1 ≤ k) && decide (k ≤ 1000) then some (.tup (List.replicate k.toNat xs).flatten) else none
  | .mul, .lst xs, .int k => if decide (xs.length ≤ 1000) && decide (0 ≤ k) && decide (k ≤ 1000) then some (.lst (List.replicate k.toNat xs).flatten) else none
  | _, _, _ => none
inductive Cm where | lt | le | gt | ge | eq | ne | isin | notin
  deriving DecidableEq
def flat : PV → Bool
  | .non | .bl _ | .int _ | .str _ => true
  | _ => false
def keyOf? : PV → Option DKey
  | .int i => some (.at_ (.inl i))
  | .str s => some (.at_ (.inr s))
  | .tup xs => (keys? xs).map .tup
  | _ => none
where keys? : List PV → Option (List Key)
  | [] => some []
  | .int i :: r => (keys? r).map (.inl i :: ·)
  | .str s :: r => (keys? r).map (.inr s :: ·)
  | _ :: _ => none
/-- keys that are tuples, keys that are none -/
def isTupKey : DKey → Bool
  | .at_ _ => false
  | .tup _ => true
def keyIn (t : Bool) (v : PV) : Option DKey := (keyOf? v).bind fun k => if isTupKey k = t then some k else none
def dget (kvs : List (DKey × PV)) (k : DKey) : Option PV := (kvs.find? fun kv => decide (kv.1 = k)).map (·.2)
def dput (kvs : List (DKey × PV)) (k : DKey) (v : PV) : List (DKey × PV) :=
  if (kvs.any fun kv => decide (kv.1 = k)) then kvs.map fun kv => if kv.1 = k then (k, v) else kv else kvs ++ [(k, v)]
def cmp : Cm → PV → PV → Option Bool
  | .lt, .int i, .int j => some (decide (i < j))
  | .le, .int i, .int j => some (decide (i ≤ j))
  | .gt, .int i, .int j => some (decide (j < i))
  | .ge, .int i, .int j => some (decide (j ≤ i))
  | .lt, .tup xs, .tup ys => (ints? xs).bind fun ns => (ints? ys).map fun ms => lexLt ns ms
  | .eq, x, y => if isData 60 x && isData 60 y then some (eqv x y) else none
  | .ne, x, y => if isData 60 x && isData 60 y then some (!eqv x y) else none
  | .isin, x, .tup ys => if flat x && ys.all flat then some (ys.any fun y => eqv y x) else none
  | .isin, x, .lst ys => if flat x && ys.all flat then some (ys.any fun y => eqv y x) else none
  | .isin, x, .dct t kvs => (keyIn t x).map fun k => (dget kvs k).isSome
  | .notin, x, .dct t kvs => (keyIn t x).map fun k => !(dget kvs k).isSome
  | .notin, x, .tup ys => if flat x && ys.all flat then some (!ys.any fun y => eqv y x) else none
  | .notin, x, .lst ys => if flat x && ys.all flat then some (!ys.any fun y => eqv y x) else none
  | _, _, _ => none
inductive Sing where | non | tt | ff
  deriving DecidableEq
def isS : Sing → PV → Bool
  | .non, .non => true
  | .tt, .bl true => true
  | .ff, .bl false => true
  | _, _ => false
/-- a place of an index -/
def ixN (n : Nat) (i : Int) : Option Nat := if 0 ≤ i then (if i < n then some i.toNat else none) else if -(n : Int) ≤ i then some (i + n).toNat else none
def atI (xs : List PV) (i : Int) : Option PV := (ixN xs.length i).bind fun j => xs[j]?
def item : PV → PV → Option PV
  | .tup xs, .int i => atI xs i
  | .lst xs, .int i => atI xs i
  | .dct t kvs, k => (keyIn t k).bind (dget kvs)
  | _, _ => none
inductive B1 where | len | abs | all | any | min | max | sum | sorted | list | tuple | int | str
  deriving DecidableEq
def insI (x : Int) : List Int → List Int
  | [] => [x]
  | y :: r => if x ≤ y then x :: y :: r else y :: insI x r
def sortI : List Int → List Int
  | [] => []
  | x :: r => insI x (sortI r)
/-- pairs of ints, by their first, then by their second -/
def leP (p q : Int × Int) : Bool := if p.1 = q.1 then decide (p.2 ≤ q.2) else decide (p.1 < q.1)
def insP (x : Int × Int) : List (Int × Int) → List (Int × Int)
  | [] => [x]
  | y :: r => if leP x y then x :: y :: r else y :: insP x r
def sortP : List (Int × Int) → List (Int × Int)
  | [] => []
  | x :: r => insP x (sortP r)
def prV (p : Int × Int) : PV := .tup [.int p.1, .int p.2]
def prs? : List PV → Option (List (Int × Int))
  | [] => some []
  | .tup [.int i, .int j] :: r => (prs? r).map ((i, j) :: ·)
  | _ :: _ => none
def dprs? : List (DKey × PV) → Option (List (Int × Int))
  | [] => some []
  | (.tup [.inl i, .inl j], _) :: r => (dprs? r).map ((i, j) :: ·)
  | _ :: _ => none
def minI : List Int → Option Int
  | [] => none
  | x :: r => some (r.foldl (fun a b => if b < a then b else a) x)
def maxI : List Int → Option Int
  | [] => none
  | x :: r => some (r.foldl (fun a b => if b > a then b else a) x)
def seq? : PV → Option (List PV)
  | .tup xs => some xs
  | .lst xs => some xs
  | _ => none
def b1 : B1 → PV → Option PV
  | .len, .tup xs => some (.int xs.length)
  | .len, .lst xs => some (.int xs.length)
  | .len, .dct _ xs => some (.int xs.length)
  | .len, .scr xs => some (.int xs.length)
  | .list, .scr xs => some (.lst xs)
  | .abs, .int i => some (.int (if i < 0 then -i else i))
  | .all, .lst xs => (bools? xs).map fun bs => .bl (bs.all id)
  | .any, .lst xs => (bools? xs).map fun bs => .bl (bs.any id)
  | .min, .lst xs => (ints? xs).bind fun ns => (minI ns).map .int
  | .min, .tup xs => (ints? xs).bind fun ns => (minI ns).map .int
  | .max, .lst xs => (ints? xs).bind fun ns => (maxI ns).map .int
  | .max, .tup xs => (ints? xs).bind fun ns => (maxI ns).map .int
  | .sum, .lst xs => (ints? xs).map fun ns => .int ns.sum
  | .sorted, .lst xs => match ints? xs with
    | some ns => some (.lst ((sortI ns).map .int))
    | none => (prs? xs).map fun ps => .lst ((sortP ps).map prV)
  | .sorted, .dct true kvs => (dprs? kvs).map fun ps => .lst ((sortP ps).map prV)
  | .list, x => (seq? x).map .lst
  | .tuple, x => (seq? x).map .tup
  | .str, .str s => some (.str s)
  | .int, .int i => some (.int i)
  | .int, .bl b => some (.int (if b then 1 else 0))
  | _, _ => none
inductive B2 where | min | max
  deriving DecidableEq
def b2 : B2 → PV → PV → Option PV
  | .min, .int i, .int j => some (.int (if j < i then j else i))
  | .max, .int i, .int j => some (.int (if j > i then j else i))
  | _, _, _ => none
inductive Ty where | int | bool | tuple | str | list | dict
  deriving DecidableEq
def isi : Ty → PV → Option Bool
  | .int, .int _ => some true
  | .int, .bl _ => some true
  | .bool, .bl _ => some true
  | .str, .str _ => some true
  | .tuple, .tup _ => some true
  | .list, .lst _ => some true
  | .dict, .dct _ _ => some true
  | _, .fn _ => none
  | _, .scr _ => none
  | _, _ => some false
def sIx (n d : Nat) : Option Int → Nat
  | none => d
  | some v => if v < 0 then (v + (n : Int)).toNat else min v.toNat n
def cutV {α : Type} (xs : List α) (lo hi : Option Int) : List α := (xs.drop (sIx xs.length 0 lo)).take (sIx xs.length xs.length hi - sIx xs.length 0 lo)
def slice : PV → Option Int → Option Int → Option PV
  | .tup xs, lo, hi => some (.tup (cutV xs lo hi))
  | .lst xs, lo, hi => some (.lst (cutV xs lo hi))
  | _, _, _ => none
/-- xs[lo::-1] -/
def rIx (n : Nat) : Option Int → Nat
  | none => n
  | some v => if v < 0 then (v + (n : Int) + 1).toNat else min (v.toNat + 1) n
def revV : PV → Option Int → Option PV
  | .tup xs, lo => some (.tup (xs.take (rIx xs.length lo)).reverse)
  | .lst xs, none => some (.lst xs.reverse)
  | _, _ => none
def int? : PV → Option Int
  | .int i => some i
  | _ => none

/-! ### the language -/
inductive Tg where
  | nm (i : Nat)
  | tup (ts : List Tg)
inductive ItK where | seq | rng1 | rng2 | zip | enum | zipn
  deriving DecidableEq
inductive E where
  | var (i : Nat)
  | cel (k : Int)
  | con (c : PV)
  | gint (x : Str) (i : Int)
  | fn (x : Str)
  | tup (es : List E)
  | lst (d : Nat) (es : List E)
  | dct0 (t : Bool)
  | dct1 (k a : E)
  | get2 (a k d : E)
  | op (o : Op2) (a b : E)
  | neg (a : E)
  | cmp (o : Cm) (a b : E)
  | is (neg : Bool) (s : Sing) (a : E)
  | chain (o1 o2 : Cm) (a b c : E)
  | and (a b : E)
  | or (a b : E)
  | not (a : E)
  | ife (c a b : E)
  | call (f : Str) (args : List E)
  | callc (f : Str) (args : List E)
  | b1 (f : B1) (a : E)
  | b2 (f : B2) (a b : E)
  | isi (t : Ty) (a : E)
  | ix (a i : E)
  | sl (a : E) (lo hi : Bool) (es : List E)
  | rev (a : E) (es : List E)
  | comp (own : List Nat) (tg : Tg) (k : ItK) (srcs : List E) (conds : List E) (d : Nat) (elt : E)
inductive S where
  | set (i : Nat) (own : Bool) (e : E)
  | setc (i : Nat) (e : E)
  | unp (tg : Tg) (e : E)
  | par (is : List Nat) (es : List E)
  | put (x : Nat) (ps : List E) (k e : E)
  | put2 (x : Nat) (ps : List E) (k : E) (y : Nat) (qs : List E) (l e : E)
  | tput (x : Nat) (ps : List E) (k : E) (y : Nat) (qs : List E) (l e : E)
  | cput (k : Int) (e : E)
  | app (x : Nat) (ps : List E) (e : E)
  | aug (x : Nat) (o : Op2) (e : E)
  | ext (x : Nat) (e : E)
  | ife (c : E) (a b : List S)
  | for_ (tg : Tg) (k : ItK) (srcs : List E) (body : List S)
  | whl (n : Nat) (c : E) (body : List S)
  | ret (e : E)
  | raise
  | expr (e : E)
  | frz (i : Nat)
  | pass

/-- a slot: how deep it is owned, its value -/
structure Slot where
  d : Nat
  v : PV
abbrev Env := List (Option Slot)
def Env.get (env : Env) (i : Nat) : Option Slot := (env[i]?).join
/-- the frozen value in a slot -/
def Env.frz (env : Env) (i : Nat) : Option PV := match env[i]? with
  | some (some ⟨0, v⟩) => some v
  | _ => none
def Env.val (env : Env) (i : Nat) : Option PV := match env[i]? with
  | some (some s) => some s.v
  | _ => none
def wipe (env : Env) : List Nat → Env
  | [] => env
  | v :: vs => (wipe env vs).set v none
def setAll (env : Env) : List Nat → List PV → Option Env
  | [], [] => some env
  | i :: is, v :: vs => setAll (env.set i (some ⟨0, v⟩)) is vs
  | _, _ => none
mutual
def Tg.put : Tg → PV → Env → Option Env
  | .nm i, x, env => some (env.set i (some ⟨0, x⟩))
  | .tup ts, x, env => match x with
    | .tup xs => Tg.puts ts xs env
    | .lst xs => Tg.puts ts xs env
    | _ => none
termination_by structural t => t
def Tg.puts : List Tg → List PV → Env → Option Env
  | [], [], env => some env
  | t :: ts, x :: xs, env => (Tg.put t x env).bind fun env => Tg.puts ts xs env
  | _, _, _ => none
termination_by structural t => t
end
mutual
def Tg.ids : Tg → List Nat
  | .nm i => [i]
  | .tup ts => Tg.idsL ts
termination_by structural t => t
def Tg.idsL : List Tg → List Nat
  | [] => []
  | t :: ts => t.ids ++ Tg.idsL ts
termination_by structural t => t
end
def rng (lo : Int) (n : Nat) : List PV := (List.range n).map fun (i : Nat) => .int (lo + i)
def B62 : Int := 4611686018427387904
def items : ItK → List PV → Option (List PV)
  | .seq, [x] => seq? x
  | .rng1, [.int j] => if decide (-B62 ≤ j) && decide (j ≤ SZ) then some (rng 0 j.toNat) else none
  | .rng2, [.int i, .int j] => if decide (-B62 ≤ i) && decide (i < B62) && decide (-B62 ≤ j) && decide (j < B62) && decide (j - i ≤ SZ) then some (rng i (j - i).toNat) else none
  | .zip, [.lst xs, .lst ys] => some ((xs.zip ys).map fun p => .tup [p.1, p.2])
  | .zip, [.tup xs, .tup ys] => some ((xs.zip ys).map fun p => .tup [p.1, p.2])
  | .enum, [.lst xs] => some ((xs.zipIdx).map fun p => .tup [.int p.2, p.1])
  | .enum, [.tup xs] => some ((xs.zipIdx).map fun p => .tup [.int p.2, p.1])
  | .zipn, [.tup xs, .tup ys] => some ((xs.zip ys).map fun p => .tup [p.1, p.2])
  | _, _ => none
abbrev CallF := Str → List PV → PV → Res PV
/-- a comprehension's turns -/
def compL (own : List Nat) (tg : Tg) (env : Env) (cond : Env → PV → Res Bool) (elt : Env → PV → Res PV) : List PV → PV → Res (List PV)
  | [], c => .ok [] c
  | x :: xs, c => match tg.put x (wipe env own) with
    | none => .stuck
    | some env1 => match cond env1 c with
      | .ok true c1 => (match elt env1 c1 with
        | .ok y c2 => (match compL own tg env cond elt xs c2 with
          | .ok ys c3 => .ok (y :: ys) c3
          | _ => .stuck)
        | _ => .stuck)
      | .ok false c1 => compL own tg env cond elt xs c1
      | _ => .stuck
/-- a value at most so deep owned -/
def lo (n : Nat) (r : Res (Nat × PV)) : Res PV := r.bind fun p c => if p.1 ≤ n then .ok p.2 c else .stuck
@[simp] theorem lo_ok (n d : Nat) (x c : PV) : lo n (.ok (d, x) c) = if d ≤ n then .ok x c else .stuck := rfl
@[simp] theorem lo_stuck (n : Nat) : lo n .stuck = .stuck := rfl
@[simp] theorem lo_exc (n : Nat) (e : Exc) (c : PV) : lo n (.exc e c) = .exc e c := rfl
/-- a frozen value handed on -/
def hi (r : Res PV) : Res (Nat × PV) := r.bind fun x c => .ok (0, x) c
@[simp] theorem hi_ok (x c : PV) : hi (.ok x c) = .ok (0, x) c := rfl
@[simp] theorem hi_stuck : hi .stuck = .stuck := rfl
@[simp] theorem hi_exc (e : Exc) (c : PV) : hi (.exc e c) = .exc e c := rfl
@[simp] theorem lo_hi (n : Nat) (r : Res PV) : lo n (hi r) = r := by cases r <;> rfl
def isLst : PV → Bool
  | .lst _ => true
  | _ => false
/-- an item of the cell -/
def celAt (c : PV) (k : Int) : Option PV := match c with
  | .lst xs => atI xs k
  | _ => none
def isDct : PV → Option Unit
  | .dct _ _ => some ()
  | _ => none
/-- d.get(k, x) -/
def getV (d k x : PV) : Option PV := match d with
  | .dct t kvs => (keyIn t k).map fun q => (dget kvs q).getD x
  | _ => none
/-- how deep an item is owned -/
def downD (d : Nat) : PV → Nat
  | .lst _ => d - 1
  | .dct _ _ => d - 1
  | _ => 0
def tst (r : Res PV) : Res Bool := r.bind fun x c => .of (truth x) c
/-- how deep a sequence may be owned that is walked -/
abbrev AN : Nat := 1000
section
variable (call : CallF)
mutual
def em : E → Env → PV → Res (Nat × PV)
  | .var i, env, c => match env[i]? with
      | some (some s) => .ok (s.d, s.v) c
      | _ => .stuck
  | .cel k, _, c => hi (.of (celAt c k) c)
  | .con v, _, c => .ok (0, v) c
  | .gint _ i, _, c => .ok (0, .int i) c
  | .fn x, _, c => .ok (0, .fn x) c
  | .tup es, env, c => (evs 0 es env c).bind fun xs c => .ok (0, .tup xs) c
  | .lst _ es, env, c => (evs 0 es env c).bind fun xs c => .ok (0, .lst xs) c
  | .dct0 t, _, c => .ok (0, .dct t []) c
  | .dct1 k a, env, c => (lo 0 (em k env c)).bind fun x c => (lo 0 (em a env c)).bind fun y c => .of ((keyIn false x).map fun q => (0, .dct false [(q, y)])) c
  | .get2 a k d, env, c => hi ((lo 1 (em a env c)).bind fun x c => (Res.of (isDct x) c).bind fun _ c => (lo 0 (em k env c)).bind fun y c => (lo 0 (em d env c)).bind fun z c => .of (getV x y z) c)
  | .op o a b, env, c => hi ((lo 1 (em a env c)).bind fun x c => (lo 1 (em b env c)).bind fun y c => .of (op2 o x y) c)
  | .neg a, env, c => hi ((lo 0 (em a env c)).bind fun x c => .of ((int? x).map fun i => .int (-i)) c)
  | .cmp o a b, env, c => hi ((lo AN (em a env c)).bind fun x c => (lo AN (em b env c)).bind fun y c => .of ((PVL.cmp o x y).map .bl) c)
  | .is ng s a, env, c => hi ((lo 0 (em a env c)).bind fun x c => .ok (.bl (if ng then !isS s x else isS s x)) c)
  | .chain o1 o2 a b d, env, c => hi ((lo 0 (em a env c)).bind fun x c => (lo 0 (em b env c)).bind fun y c => (Res.of (PVL.cmp o1 x y) c).bind fun r c =>
      if r then (lo 0 (em d env c)).bind fun z c => .of ((PVL.cmp o2 y z).map .bl) c else .ok (.bl false) c)
  | .and a b, env, c => hi ((lo 0 (em a env c)).bind fun x c => (Res.of (truth x) c).bind fun t c => if t then lo 0 (em b env c) else .ok x c)
  | .or a b, env, c => hi ((lo 0 (em a env c)).bind fun x c => (Res.of (truth x) c).bind fun t c => if t then .ok x c else lo 0 (em b env c))
  | .not a, env, c => hi ((tst (lo AN (em a env c))).bind fun t c => .ok (.bl (!t)) c)
  | .ife t a b, env, c => (tst (lo AN (em t env c))).bind fun r c => if r then em a env c else em b env c
  | .call f args, env, c => hi ((evs 0 args env c).bind fun xs c => match call f xs .non with
      | .ok v _ => .ok v c
      | .exc e _ => .exc e c
      | .stuck => .stuck)
  | .callc f args, env, c => if isLst c then hi ((evs 0 args env c).bind fun xs c => call f xs c) else .stuck
  | .b1 f a, env, c => hi ((lo 1 (em a env c)).bind fun x c => .of (PVL.b1 f x) c)
  | .b2 f a b, env, c => hi ((lo 0 (em a env c)).bind fun x c => (lo 0 (em b env c)).bind fun y c => .of (PVL.b2 f x y) c)
  | .isi t a, env, c => hi ((lo 0 (em a env c)).bind fun x c => .of ((PVL.isi t x).map .bl) c)
  | .ix a i, env, c => (em a env c).bind fun p c => (lo 0 (em i env c)).bind fun k c => .of ((item p.2 k).map fun y => (downD p.1 p.2, y)) c
  | .sl a lw up es, env, c => hi ((lo 1 (em a env c)).bind fun x c => (evi es env c).bind fun ks c => match lw, up, ks with
      | false, false, [] => .of (slice x none none) c
      | true, false, [i] => .of (slice x (some i) none) c
      | false, true, [i] => .of (slice x none (some i)) c
      | true, true, [i, j] => .of (slice x (some i) (some j)) c
      | _, _, _ => .stuck)
  | .rev a es, env, c => hi ((lo 1 (em a env c)).bind fun x c => (evi es env c).bind fun ks c => match ks with
      | [] => .of (revV x none) c
      | [i] => .of (revV x (some i)) c
      | _ => .stuck)
  | .comp own tg k srcs conds _ elt, env, c => (evs 1 srcs env c).bind fun ss c => match items k ss with
      | none => .stuck
      | some xs => (match compL own tg env (fun env c => evc conds env c) (fun env c => lo 0 (em elt env c)) xs c with
        | .ok ys c => .ok (0, .lst ys) c
        | _ => .stuck)
termination_by structural e => e
def evs (n : Nat) : List E → Env → PV → Res (List PV)
  | [], _, c => .ok [] c
  | e :: es, env, c => (lo n (em e env c)).bind fun x c => (evs n es env c).bind fun xs c => .ok (x :: xs) c
termination_by structural es => es
def evi : List E → Env → PV → Res (List Int)
  | [], _, c => .ok [] c
  | e :: es, env, c => (lo 0 (em e env c)).bind fun x c => (Res.of (int? x) c).bind fun i c => (evi es env c).bind fun xs c => .ok (i :: xs) c
termination_by structural es => es
def evc : List E → Env → PV → Res Bool
  | [], _, c => .ok true c
  | [e], env, c => tst (lo AN (em e env c))
  | _, _, _ => .stuck
termination_by structural es => es
end
/-- a frozen value -/
def ev (e : E) (env : Env) (c : PV) : Res PV := lo 0 (em call e env c)
end

/-! ### statements -/
inductive Out where
  | nx (env : Env) (c : PV)
  | ret (v : PV) (c : PV)
  | exc (e : Exc) (c : PV)
  | stuck
def Out.bind (r : Out) (f : Env → PV → Out) : Out := match r with
  | .nx env c => f env c
  | r => r
@[simp] theorem obind_nx (env : Env) (c : PV) (f : Env → PV → Out) : (Out.nx env c).bind f = f env c := rfl
@[simp] theorem obind_ret (v : PV) (c : PV) (f : Env → PV → Out) : (Out.ret v c).bind f = .ret v c := rfl
@[simp] theorem obind_exc (e : Exc) (c : PV) (f : Env → PV → Out) : (Out.exc e c).bind f = .exc e c := rfl
@[simp] theorem obind_stuck (f : Env → PV → Out) : (Out.stuck).bind f = .stuck := rfl
def Res.out {α : Type} (r : Res α) (f : α → PV → Out) : Out := match r with
  | .ok a c => f a c
  | .exc e c => .exc e c
  | .stuck => .stuck
@[simp] theorem out_ok {α : Type} (a : α) (c : PV) (f : α → PV → Out) : (Res.ok a c).out f = f a c := rfl
@[simp] theorem out_exc {α : Type} (e : Exc) (c : PV) (f : α → PV → Out) : (Res.exc e c : Res α).out f = .exc e c := rfl
@[simp] theorem out_stuck {α : Type} (f : α → PV → Out) : (Res.stuck : Res α).out f = .stuck := rfl
/-- what stands at a path is changed -/
def kidAt (k : PV) (xs : List PV) : Option Nat := (int? k).bind fun i => ixN xs.length i
def kidOf (t : Bool) (k : PV) (kvs : List (DKey × PV)) : Option Nat := (keyIn t k).bind fun q => kvs.findIdx? fun kv => decide (kv.1 = q)
def modP (f : PV → Option PV) : List PV → PV → Option PV
  | [], x => f x
  | k :: ks, .lst xs => (kidAt k xs).bind fun j => (xs[j]?).bind fun y => (modP f ks y).map fun z => .lst (xs.set j z)
  | k :: ks, .dct t kvs => (kidOf t k kvs).bind fun j => (kvs[j]?).bind fun kv => (modP f ks kv.2).map fun z => .dct t (kvs.set j (kv.1, z))
  | _, _ => none
/-- a path that is there -/
def validP : List PV → PV → Bool
  | [], _ => true
  | k :: ks, .lst xs => (((kidAt k xs).bind fun j => xs[j]?).map (validP ks)).getD false
  | k :: ks, .dct t kvs => (((kidOf t k kvs).bind fun j => kvs[j]?).map fun kv => validP ks kv.2).getD false
  | _, _ => false
def putV (v : PV) (k : PV) : PV → Option PV
  | .lst xs => (int? k).bind fun i => (ixN xs.length i).map fun j => .lst (xs.set j v)
  | .dct t kvs => (keyIn t k).bind fun q => if kvs.length < SZ then some (.dct t (dput kvs q v)) else none
  | _ => none
def appV (v : PV) : PV → Option PV
  | .lst xs => if xs.length < SZ then some (.lst (xs ++ [v])) else none
  | _ => none
def extV (y : PV) : PV → Option PV
  | .lst xs => match y with
    | .lst ys => if xs.length + ys.length ≤ SZ then some (.lst (xs ++ ys)) else none
    | _ => none
  | _ => none
/-- the slot x, owned one deeper than the path, is changed there -/
def modS (env : Env) (x : Nat) (ks : List PV) (f : PV → Option PV) : Option Env := match env[x]? with
  | some (some ⟨d, v⟩) => if d = ks.length + 1 then (modP f ks v).map fun w => env.set x (some ⟨d, w⟩) else none
  | _ => none
def okP (env : Env) (x : Nat) (ks : List PV) : Bool := match env[x]? with
  | some (some ⟨d, v⟩) => decide (d = ks.length + 1) && validP ks v
  | _ => false
def okR (env : Env) (x : Nat) (r : Res (List PV)) : Res (List PV) := match env[x]? with
  | some (some _) => r.bind fun ks c => if okP env x ks then .ok ks c else .stuck
  | _ => .stuck
def lstV : PV → Option PV
  | .lst xs => some (.lst xs)
  | _ => none
def okA (env : Env) (x : Nat) (r : Res (List PV)) : Res (List PV) := (okR env x r).bind fun ks c => if (modS env x ks lstV).isSome then .ok ks c else .stuck
def Out.of (o : Option Env) (c : PV) : Out := match o with
  | some e => .nx e c
  | none => .stuck
@[simp] theorem oof_some (e : Env) (c : PV) : Out.of (some e) c = .nx e c := rfl
@[simp] theorem oof_none (c : PV) : Out.of none c = .stuck := rfl
def frzS (env : Env) (i : Nat) : Env := match env[i]? with
  | some (some s) => env.set i (some ⟨0, s.v⟩)
  | _ => env
def forL (tg : Tg) (f : Env → PV → Out) : List PV → Env → PV → Out
  | [], env, c => .nx env c
  | x :: xs, env, c => match tg.put x env with
    | none => .stuck
    | some env1 => (f env1 c).bind fun env c => forL tg f xs env c
def whlL (cond : Env → PV → Res Bool) (f : Env → PV → Out) : Nat → Env → PV → Out
  | 0, _, _ => .stuck
  | n + 1, env, c => (cond env c).out fun t c => if t then (f env c).bind fun env c => whlL cond f n env c else .nx env c
/-- how deep an expression's value is new (fr: defs that hand back new lists) -/
def fd (fr : List Str) : E → Nat
  | .lst d _ => d + 1
  | .comp _ _ _ _ _ d _ => d + 1
  | .dct0 _ => 1
  | .dct1 _ _ => 1
  | .op .add _ _ => 1
  | .op .mul _ _ => 1
  | .b1 .list _ => 1
  | .b1 .sorted _ => 1
  | .sl _ _ _ _ => 1
  | .rev _ _ => 1
  | .call f _ => if fr.contains f then 1 else 0
  | _ => 0
section
variable (call : CallF) (fr : List Str)
mutual
def evS : S → Env → PV → Out
  | .set i own e, env, c => (ev call e env c).out fun x c => .nx (env.set i (some ⟨if own then fd fr e else 0, x⟩)) c
  | .setc i e, env, _ => (ev call e env .non).out fun x _ => if i < env.length then .nx (env.set i none) x else .stuck
  | .unp tg e, env, c => (ev call e env c).out fun x c => .of (tg.put x env) c
  | .par is es, env, c => (evs call 0 es env c).out fun xs c => .of (setAll env is xs) c
  | .put x ps k e, env, c => (ev call e env c).out fun v c => (okR env x (evs call 0 ps env c)).out fun ks c => (ev call k env c).out fun kv c => .of (modS env x ks (putV v kv)) c
  | .put2 x ps k y qs l e, env, c => (ev call e env c).out fun v c => (okR env x (evs call 0 ps env c)).out fun ks c => (ev call k env c).out fun kv c => (Out.of (modS env x ks (putV v kv)) c).bind fun env c =>
      (okR env y (evs call 0 qs env c)).out fun ls c => (ev call l env c).out fun lv c => .of (modS env y ls (putV v lv)) c
  | .tput x ps k y qs l e, env, c => (ev call e env c).out fun v c => match v with
      | .tup [a, b] => (okR env x (evs call 0 ps env c)).out fun ks c => (ev call k env c).out fun kv c => (Out.of (modS env x ks (putV a kv)) c).bind fun env c =>
        (okR env y (evs call 0 qs env c)).out fun ls c => (ev call l env c).out fun lv c => .of (modS env y ls (putV b lv)) c
      | _ => .stuck
  | .cput k e, env, c => (ev call e env c).out fun v c => match putV v (.int k) c with
      | some c => .nx env c
      | none => .stuck
  | .app x ps e, env, c => (okA env x (evs call 0 ps env c)).out fun ks c => (ev call e env c).out fun v c => .of (modS env x ks (appV v)) c
  | .aug x o e, env, c => (ev call (.var x) env c).out fun a c => (ev call e env c).out fun b c => match a, op2 o a b with
      | .lst _, _ => .stuck
      | _, some r => .nx (env.set x (some ⟨0, r⟩)) c
      | _, none => .stuck
  | .ext x e, env, c => match env[x]? with
      | some (some _) => (lo 1 (em call e env c)).out fun y c => .of (modS env x [] (extV y)) c
      | _ => .stuck
  | .ife t a b, env, c => (tst (lo AN (em call t env c))).out fun r c => if r then evB a env c else evB b env c
  | .for_ tg k srcs body, env, c => (evs call 0 srcs env c).out fun ss c => match items k ss with
      | none => .stuck
      | some xs => forL tg (fun env c => evB body env c) xs env c
  | .whl n t body, env, c => whlL (fun env c => tst (lo AN (em call t env c))) (fun env c => evB body env c) n env c
  | .ret e, env, c => (ev call e env c).out fun x c => .ret x c
  | .raise, _, _ => .stuck
  | .expr e, env, c => (ev call e env c).out fun _ c => .nx env c
  | .frz i, env, c => .nx (frzS env i) c
  | .pass, env, c => .nx env c
termination_by structural s => s
def evB : List S → Env → PV → Out
  | [], env, c => .nx env c
  | s :: ss, env, c => (evS s env c).bind fun env c => evB ss env c
termination_by structural ss => ss
end
end
/-- a def: its name, its names by slot, how many parameters, whether the first is changed, the slot of what is changed -/
structure Fn where
  name : Str
  N : List Str
  np : Nat
  cellPar : Bool
  cell : Option Nat
  retd : Nat
  body : List S
def isNon : PV → Bool
  | .non => true
  | _ => false
def Fn.start (f : Fn) (args : List PV) : Env := (if f.cellPar then [none] else []) ++ args.map (fun v => some ⟨0, v⟩) ++ List.replicate (f.N.length - f.np) none
def Fn.run (fr : List Str) (f : Fn) (call : CallF) (args : List PV) (c : PV) : Res PV :=
  if args.length + (if f.cellPar then 1 else 0) = f.np ∧ (if f.cellPar then isLst c else isNon c) = true then
    match evB call fr f.body (f.start args) c with
    | .nx _ c => if f.cellPar && !isLst c then .stuck else .ok .non c
    | .ret v c => if f.cellPar && !isLst c then .stuck else .ok v c
    | .exc e c => if f.cellPar && !isLst c then .stuck else .exc e c
    | .stuck => .stuck
  else .stuck
structure Prog where
  fns : List Fn
  fr : List Str
def Prog.fn (P : Prog) (x : Str) : Option Fn := P.fns.find? fun f => decide (f.name = x)
def callF (P : Prog) : Nat → CallF
  | 0 => fun _ _ _ => .stuck
  | n + 1 => fun x args c => match P.fn x with
    | none => .stuck
    | some f => f.run P.fr (callF P n) args c
end PVL
end

section
set_option Elab.async false
set_option linter.all false
set_option maxRecDepth 100000
set_option maxHeartbeats 2000000
/-! PVL2: how trees stand in the abstract heap; what is owned; the state of a frame. -/
namespace PVL
open PySem L2

def Ex (H H' : Hp) : Prop := ∀ a o, H a = some o → H' a = some o
theorem Ex.refl (H : Hp) : Ex H H := fun _ _ h => h
theorem Ex.trans {H H1 H2 : Hp} (a : Ex H H1) (b : Ex H1 H2) : Ex H H2 := fun x o h => b x o (a x o h)
theorem Ex.upd {H : Hp} {p : Addr} {o : HO} (h : H p = none) : Ex H (upd H p o) := fun a u e => by
  rw [upd_ne (ne_of_none e h)]
  exact e
theorem Ex.free {H H' : Hp} (e : Ex H H') {p : Addr} (h : H' p = none) : H p = none := by
  cases q : H p with
  | none => rfl
  | some o => rw [e p o q] at h; cases h
theorem ex_rd {H H' : Hp} {a : Addr} {u : HO} (e : Ex H H') (h : Rd H a u) : Rd H' a u := by
  rcases h with h | ⟨o, h⟩
  · exact Or.inl (e a _ h)
  · exact Or.inr ⟨o, e a _ h⟩
theorem ex_l {K : PySem.W.Frag} {H H' : Hp} {a : Addr} {xs : List V} (e : Ex H H') (h : SqL K H a xs) : SqL K H' a xs := by
  rcases h with h | h
  · exact Or.inl (ex_rd e h)
  · exact Or.inr h
theorem ex_t {K : PySem.W.Frag} {H H' : Hp} {a : Addr} {xs : List V} (e : Ex H H') (h : SqT K H a xs) : SqT K H' a xs := by
  rcases h with h | h
  · exact Or.inl (ex_rd e h)
  · exact Or.inr h

/-- a dict of these keys and values -/
def DictAt (H : Hp) (a : Addr) (t : Bool) (ks : List DKey) (vs : List V) : Prop := match t with
  | false => ∃ qs : List L2.Key, ks = qs.map DKey.at_ ∧ H a = some (.dK (qs.zip vs))
  | true => ∃ qs : List (List L2.Key), ks = qs.map DKey.tup ∧ H a = some (.dT (qs.zip vs))
theorem DictAt.ex {H H' : Hp} {a : Addr} {t : Bool} {ks : List DKey} {vs : List V} (h : DictAt H a t ks vs) (e : ∀ o, H a = some o → H' a = some o) : DictAt H' a t ks vs := by
  cases t with
  | false => obtain ⟨qs, h1, h2⟩ := h; exact ⟨qs, h1, e _ h2⟩
  | true => obtain ⟨qs, h1, h2⟩ := h; exact ⟨qs, h1, e _ h2⟩
theorem DictAt.there {H : Hp} {a : Addr} {t : Bool} {ks : List DKey} {vs : List V} (h : DictAt H a t ks vs) : ∃ o, H a = some o := by
  cases t with
  | false => obtain ⟨qs, h1, h2⟩ := h; exact ⟨_, h2⟩
  | true => obtain ⟨qs, h1, h2⟩ := h; exact ⟨_, h2⟩

section
variable (K : PySem.W.Frag) (mg : Str → Option Value)
mutual
def Rep (H : Hp) : PV → V → Prop
  | .non, v => v = .non
  | .bl b, v => v = .bl b
  | .int i, v => v = .int i
  | .str s, v => v = .str s
  | .tup xs, v => xs.length ≤ SZ ∧ ∃ a vs, v = .ref a ∧ H a = some (.tup vs) ∧ RepL H xs vs
  | .lst xs, v => xs.length ≤ SZ ∧ ∃ a vs, v = .ref a ∧ H a = some (.lst vs) ∧ RepL H xs vs
  | .dct t kvs, v => kvs.length ≤ SZ ∧ ∃ a vs, v = .ref a ∧ DictAt H a t (kvs.map (·.1)) vs ∧ RepD H kvs vs
  | .fn x, v => ∃ a, v = .ref a ∧ mg x = some (.ref a)
  | .scr xs, v => xs.length ≤ SZ ∧ ∃ a vs, v = .ref a ∧ SqL K H a vs ∧ RepL H xs vs
termination_by structural x => x
def RepL (H : Hp) : List PV → List V → Prop
  | [], vs => vs = []
  | x :: xs, vs => ∃ v r, vs = v :: r ∧ Rep H x v ∧ RepL H xs r
termination_by structural x => x
def RepD (H : Hp) : List (DKey × PV) → List V → Prop
  | [], vs => vs = []
  | (_, x) :: xs, vs => ∃ v r, vs = v :: r ∧ Rep H x v ∧ RepD H xs r
termination_by structural x => x
end
end

section
variable {K : PySem.W.Frag} {mg : Str → Option Value} {H H' : Hp}
mutual
theorem Rep.ex (e : Ex H H') : ∀ {x : PV} {v : V}, Rep K mg H x v → Rep K mg H' x v
  | .non, _, h => h
  | .bl _, _, h => h
  | .int _, _, h => h
  | .str _, _, h => h
  | .tup xs, _, ⟨n, a, vs, h1, h2, h3⟩ => ⟨n, a, vs, h1, e _ _ h2, RepL.ex e h3⟩
  | .lst xs, _, ⟨n, a, vs, h1, h2, h3⟩ => ⟨n, a, vs, h1, e _ _ h2, RepL.ex e h3⟩
  | .scr xs, _, ⟨n, a, vs, h1, h2, h3⟩ => ⟨n, a, vs, h1, ex_l e h2, RepL.ex e h3⟩
  | .dct _ xs, _, ⟨n, a, vs, h1, h2, h3⟩ => ⟨n, a, vs, h1, h2.ex (e a), RepD.ex e h3⟩
  | .fn _, _, h => h
termination_by structural x => x
theorem RepL.ex (e : Ex H H') : ∀ {xs : List PV} {vs : List V}, RepL K mg H xs vs → RepL K mg H' xs vs
  | [], _, h => h
  | x :: xs, _, ⟨v, r, h1, h2, h3⟩ => ⟨v, r, h1, Rep.ex e h2, RepL.ex e h3⟩
termination_by structural x => x
theorem RepD.ex (e : Ex H H') : ∀ {xs : List (DKey × PV)} {vs : List V}, RepD K mg H xs vs → RepD K mg H' xs vs
  | [], _, h => h
  | (k, x) :: xs, _, ⟨v, r, h1, h2, h3⟩ => ⟨v, r, h1, Rep.ex e h2, RepD.ex e h3⟩
termination_by structural x => x
end
theorem RepL.length : ∀ {xs : List PV} {vs : List V}, RepL K mg H xs vs → vs.length = xs.length
  | [], _, h => by cases (show _ = [] from h); rfl
  | x :: xs, _, ⟨v, r, h1, h2, h3⟩ => by subst h1; simp [RepL.length h3]
theorem RepL.get : ∀ {xs : List PV} {vs : List V} {i : Nat} {x : PV}, RepL K mg H xs vs → xs[i]? = some x → ∃ v, vs[i]? = some v ∧ Rep K mg H x v
  | [], _, _, _, _, e => by simp at e
  | y :: xs, _, 0, x, ⟨v, r, h1, h2, h3⟩, e => by simp at e; subst e; subst h1; exact ⟨v, rfl, h2⟩
  | y :: xs, _, i + 1, x, ⟨v, r, h1, h2, h3⟩, e => by subst h1; simpa using RepL.get (i := i) h3 (by simpa using e)
theorem RepL.of : ∀ {xs : List PV} {vs : List V}, vs.length = xs.length → (∀ (i : Nat) (x : PV) (v : V), xs[i]? = some x → vs[i]? = some v → Rep K mg H x v) → RepL K mg H xs vs
  | [], [], _, _ => rfl
  | [], _ :: _, e, _ => by simp at e
  | _ :: _, [], e, _ => by simp at e
  | x :: xs, v :: vs, e, h => ⟨v, vs, rfl, h 0 x v rfl rfl, RepL.of (by simpa using e) fun i y u h1 h2 => h (i + 1) y u (by simpa using h1) (by simpa using h2)⟩
theorem RepL.app : ∀ {xs ys : List PV} {vs us : List V}, RepL K mg H xs vs → RepL K mg H ys us → RepL K mg H (xs ++ ys) (vs ++ us)
  | [], _, _, _, h, h' => by cases (show _ = [] from h); exact h'
  | x :: xs, _, _, _, ⟨v, r, h1, h2, h3⟩, h' => by subst h1; exact ⟨v, _, rfl, h2, RepL.app h3 h'⟩
theorem RepL.one {x : PV} {v : V} (h : Rep K mg H x v) : RepL K mg H [x] [v] := ⟨v, [], rfl, h, rfl⟩
theorem RepL.drop : ∀ {xs : List PV} {vs : List V} (n : Nat), RepL K mg H xs vs → RepL K mg H (xs.drop n) (vs.drop n)
  | _, _, 0, h => h
  | [], _, _ + 1, h => by cases (show _ = [] from h); rfl
  | _ :: _, _, n + 1, ⟨v, r, h1, h2, h3⟩ => by subst h1; exact RepL.drop n h3
theorem RepL.take : ∀ {xs : List PV} {vs : List V} (n : Nat), RepL K mg H xs vs → RepL K mg H (xs.take n) (vs.take n)
  | _, _, 0, h => by simp only [List.take_zero]; rfl
  | [], _, _ + 1, h => by cases (show _ = [] from h); rfl
  | _ :: _, _, n + 1, ⟨v, r, h1, h2, h3⟩ => by subst h1; exact ⟨v, _, rfl, h2, RepL.take n h3⟩
theorem RepD.length : ∀ {xs : List (DKey × PV)} {vs : List V}, RepD K mg H xs vs → vs.length = xs.length
  | [], _, h => by cases (show _ = [] from h); rfl
  | (k, x) :: xs, _, ⟨v, r, h1, h2, h3⟩ => by subst h1; simp [RepD.length h3]
theorem RepD.get : ∀ {xs : List (DKey × PV)} {vs : List V} {i : Nat} {kv : DKey × PV}, RepD K mg H xs vs → xs[i]? = some kv → ∃ v, vs[i]? = some v ∧ Rep K mg H kv.2 v
  | [], _, _, _, _, e => by simp at e
  | (k, y) :: xs, _, 0, x, ⟨v, r, h1, h2, h3⟩, e => by simp at e; subst e; subst h1; exact ⟨v, rfl, h2⟩
  | (k, y) :: xs, _, i + 1, x, ⟨v, r, h1, h2, h3⟩, e => by subst h1; simpa using RepD.get (i := i) h3 (by simpa using e)
theorem RepD.of : ∀ {xs : List (DKey × PV)} {vs : List V}, vs.length = xs.length → (∀ (i : Nat) (kv : DKey × PV) (v : V), xs[i]? = some kv → vs[i]? = some v → Rep K mg H kv.2 v) → RepD K mg H xs vs
  | [], [], _, _ => rfl
  | [], _ :: _, e, _ => by simp at e
  | _ :: _, [], e, _ => by simp at e
  | (k, x) :: xs, v :: vs, e, h => ⟨v, vs, rfl, h 0 (k, x) v rfl rfl, RepD.of (by simpa using e) fun i y u h1 h2 => h (i + 1) y u (by simpa using h1) (by simpa using h2)⟩
end

/-! ### what is owned -/
abbrev Lab := Addr → Option (List Nat)
section
variable (K : PySem.W.Frag) (mg : Str → Option Value)
/-- a tree whose lists and dicts, d deep, stand at addresses of one's own (labelled by their paths); what lies deeper is frozen -/
def Own (H Hf : Hp) (L : Lab) : Nat → List Nat → PV → V → Prop
  | 0, _, x, v => Rep K mg Hf x v
  | d + 1, p, .lst xs, v => xs.length ≤ SZ ∧ ∃ a vs, v = .ref a ∧ L a = some p ∧ H a = some (.lst vs) ∧ vs.length = xs.length ∧ ∀ i x u, xs[i]? = some x → vs[i]? = some u → Own H Hf L d (p ++ [i]) x u
  | d + 1, p, .dct t kvs, v => kvs.length ≤ SZ ∧ ∃ a vs, v = .ref a ∧ L a = some p ∧ DictAt H a t (kvs.map (·.1)) vs ∧ vs.length = kvs.length ∧
      ∀ i (kv : DKey × PV) u, kvs[i]? = some kv → vs[i]? = some u → Own H Hf L d (p ++ [i]) kv.2 u
  | _ + 1, _, x, v => Rep K mg Hf x v
end
section
variable {K : PySem.W.Frag} {mg : Str → Option Value} {H Hf H' Hf' : Hp} {L L' : Lab}
theorem Own.rep (sub : Ex Hf H) : ∀ {d : Nat} {p : List Nat} {x : PV} {v : V}, Own K mg H Hf L d p x v → Rep K mg H x v
  | 0, _, _, _, h => Rep.ex sub h
  | d + 1, p, .lst xs, v, ⟨n, a, vs, h1, h2, h3, h4, h5⟩ => ⟨n, a, vs, h1, h3, RepL.of h4 fun i x u e1 e2 => (h5 i x u e1 e2).rep sub⟩
  | d + 1, p, .dct t kvs, v, ⟨n, a, vs, h1, h2, h3, h4, h5⟩ => ⟨n, a, vs, h1, h3, RepD.of h4 fun i x u e1 e2 => (h5 i x u e1 e2).rep sub⟩
  | d + 1, _, .non, _, h => Rep.ex sub h
  | d + 1, _, .bl _, _, h => Rep.ex sub h
  | d + 1, _, .int _, _, h => Rep.ex sub h
  | d + 1, _, .str _, _, h => Rep.ex sub h
  | d + 1, _, .tup _, _, h => Rep.ex sub h
  | d + 1, _, .fn _, _, h => Rep.ex sub h
  | d + 1, _, .scr _, _, h => Rep.ex sub h
/-- what is owned stays while its addresses do; the labels may be told otherwise -/
theorem Own.move (g : List Nat → List Nat) (hg : ∀ p i, g (p ++ [i]) = g p ++ [i]) (hL : ∀ a p, L a = some p → L' a = some (g p)) (hH : ∀ a p o, L a = some p → H a = some o → H' a = some o) (hf : Ex Hf Hf') :
    ∀ {d : Nat} {p : List Nat} {x : PV} {v : V}, Own K mg H Hf L d p x v → Own K mg H' Hf' L' d (g p) x v
  | 0, _, _, _, h => Rep.ex hf h
  | d + 1, p, .lst xs, v, ⟨n, a, vs, h1, h2, h3, h4, h5⟩ => ⟨n, a, vs, h1, hL a p h2, hH a p _ h2 h3, h4, fun i x u e1 e2 => by rw [← hg]; exact Own.move g hg hL hH hf (h5 i x u e1 e2)⟩
  | d + 1, p, .dct t kvs, v, ⟨n, a, vs, h1, h2, h3, h4, h5⟩ => ⟨n, a, vs, h1, hL a p h2, h3.ex fun o e => hH a p o h2 e, h4, fun i x u e1 e2 => by rw [← hg]; exact Own.move g hg hL hH hf (h5 i x u e1 e2)⟩
  | d + 1, _, .non, _, h => Rep.ex hf h
  | d + 1, _, .bl _, _, h => Rep.ex hf h
  | d + 1, _, .int _, _, h => Rep.ex hf h
  | d + 1, _, .str _, _, h => Rep.ex hf h
  | d + 1, _, .tup _, _, h => Rep.ex hf h
  | d + 1, _, .fn _, _, h => Rep.ex hf h
  | d + 1, _, .scr _, _, h => Rep.ex hf h
theorem Own.stay {d : Nat} {p : List Nat} {x : PV} {v : V} (h : Own K mg H Hf L d p x v) (hH : ∀ a p o, L a = some p → H a = some o → H' a = some o) (hf : Ex Hf Hf') : Own K mg H' Hf' L d p x v :=
  Own.move id (fun _ _ => rfl) (fun _ _ e => e) hH hf h
/-- flat things are owned by nobody -/
theorem Own.flat {d : Nat} {p : List Nat} {x : PV} {v : V} (h : Rep K mg Hf x v) (hx : (∀ xs, x ≠ .lst xs) ∧ ∀ t kvs, x ≠ .dct t kvs) : Own K mg H Hf L d p x v := by
  cases d with
  | zero => exact h
  | succ d =>
    cases x with
    | lst xs => exact absurd rfl (hx.1 xs)
    | dct t kvs => exact absurd rfl (hx.2 t kvs)
    | _ => exact h
end

/-! ### new values -/
/-- tuples stand for ever -/
def isT : HO → Bool
  | .tup _ => true
  | _ => false
section
variable (K : PySem.W.Frag) (mg : Str → Option Value)
/-- a value made since H: d deep at new addresses that nobody else knows -/
def Fresh (H H' Hf' : Hp) (d : Nat) (x : PV) (v : V) : Prop :=
  ∃ L : Lab, (∀ a p, L a = some p → H a = none ∧ Hf' a = none ∧ ∃ o, H' a = some o ∧ isT o = false) ∧ Own K mg H' Hf' L d [] x v
end
section
variable {K : PySem.W.Frag} {mg : Str → Option Value} {H Hf H' Hf' : Hp} {x : PV} {v : V}
theorem Fresh.zero (h : Rep K mg Hf' x v) : Fresh K mg H H' Hf' 0 x v := ⟨fun _ => none, (fun _ _ e => by cases e), h⟩
theorem Fresh.rep0 (h : Fresh K mg H H' Hf' 0 x v) : Rep K mg Hf' x v := let ⟨_, _, o⟩ := h; o
/-- what is owned under L is frozen by laying it into the frozen heap -/
def thaw (L : Lab) (H Hf : Hp) : Hp := fun a => match L a with
  | some _ => H a
  | none => Hf a
theorem thaw_ex {L : Lab} (hL : ∀ a p, L a = some p → Hf a = none) : Ex Hf (thaw L H Hf) := fun a o e => by
  unfold thaw
  cases q : L a with
  | none => exact e
  | some p => rw [hL a p q] at e; cases e
theorem thaw_sub {L : Lab} (sub : Ex Hf H) : Ex (thaw L H Hf) H := fun a o e => by
  unfold thaw at e
  cases q : L a with
  | none => rw [q] at e; exact sub a o e
  | some p => rw [q] at e; exact e
theorem thaw_new {L : Lab} {a : Addr} {o : HO} (e : thaw L H Hf a = some o) : Hf a = some o ∨ ∃ p, L a = some p := by
  unfold thaw at e
  cases q : L a with
  | none => rw [q] at e; exact .inl e
  | some p => exact .inr ⟨p, rfl⟩
theorem Own.thaw {L : Lab} (hL : ∀ a p, L a = some p → Hf a = none) : ∀ {d : Nat} {p : List Nat} {x : PV} {v : V}, Own K mg H Hf L d p x v → Rep K mg (PVL.thaw L H Hf) x v
  | 0, _, _, _, h => Rep.ex (thaw_ex hL) h
  | d + 1, p, .lst xs, v, ⟨n, a, vs, h1, h2, h3, h4, h5⟩ => ⟨n, a, vs, h1, (by unfold PVL.thaw; rw [h2]; exact h3), RepL.of h4 fun i x u e1 e2 => (h5 i x u e1 e2).thaw hL⟩
  | d + 1, p, .dct t kvs, v, ⟨n, a, vs, h1, h2, h3, h4, h5⟩ => ⟨n, a, vs, h1, h3.ex (fun o e => by unfold PVL.thaw; rw [h2]; exact e), RepD.of h4 fun i x u e1 e2 => (h5 i x u e1 e2).thaw hL⟩
  | d + 1, _, .non, _, h => Rep.ex (thaw_ex hL) h
  | d + 1, _, .bl _, _, h => Rep.ex (thaw_ex hL) h
  | d + 1, _, .int _, _, h => Rep.ex (thaw_ex hL) h
  | d + 1, _, .str _, _, h => Rep.ex (thaw_ex hL) h
  | d + 1, _, .tup _, _, h => Rep.ex (thaw_ex hL) h
  | d + 1, _, .fn _, _, h => Rep.ex (thaw_ex hL) h
  | d + 1, _, .scr _, _, h => Rep.ex (thaw_ex hL) h
end

/-! ### a frame's state -/
/-- owners: a slot's number, or none: the cell; the path -/
abbrev Ow := Addr → Option (Option Nat × List Nat)
def lab (O : Ow) (r : Option Nat) : Lab := fun a => match O a with
  | some (r', p) => if r' = r then some p else none
  | none => none
theorem lab_of {O : Ow} {r : Option Nat} {a : Addr} {p : List Nat} (h : lab O r a = some p) : O a = some (r, p) := by
  unfold lab at h
  cases q : O a with
  | none => rw [q] at h; cases h
  | some t =>
    obtain ⟨r', p'⟩ := t
    rw [q] at h
    by_cases e : r' = r
    · subst e
      simp at h
      rw [h]
    · simp [e] at h
theorem lab_mk {O : Ow} {r : Option Nat} {a : Addr} {p : List Nat} (h : O a = some (r, p)) : lab O r a = some p := by
  unfold lab
  rw [h]
  simp
/-- what is fixed of a frame: the heap and the frozen heap at its entry, the address of the parameter that it changes, that name's slot -/
structure Frame where
  H0 : Hp
  Hf0 : Hp
  ca : Option Addr
  cs : Option Nat
section
variable (K : PySem.W.Frag) (mg : Str → Option Value) (F : Frame)
def CellOk (σ : St) (H Hf : Hp) (O : Ow) (c : PV) : Prop := c = .non ∨ ∃ k v, F.cs = some k ∧ σ[k]? = some (some v) ∧ Own K mg H Hf (lab O none) 1 [] c v
structure Good (env : Env) (c : PV) (σ : St) (H Hf : Hp) (O : Ow) : Prop where
  len : σ.length = env.length
  slots : ∀ i s, env[i]? = some (some s) → ∃ v, σ[i]? = some (some v) ∧ Own K mg H Hf (lab O (some i)) s.d [] s.v v
  cell : CellOk K mg F σ H Hf O c
  sub : Ex Hf H
  own : ∀ a t, O a = some t → Hf a = none ∧ ∃ o, H a = some o ∧ isT o = false
  keep : ∀ a o, F.H0 a = some o → some a ≠ F.ca → H a = some o
  frz0 : Ex F.Hf0 Hf
  new : ∀ a o, Hf a = some o → F.Hf0 a = some o ∨ F.H0 a = none ∨ isT o = true
  ownNew : ∀ a t, O a = some t → F.H0 a = none ∨ (some a = F.ca ∧ t.1 = none)
  caOk : ∀ a, F.ca = some a → ∃ p, O a = some (none, p)
  atCa : ∀ a, F.ca = some a → ∃ k, F.cs = some k ∧ σ[k]? = some (some (.ref a))
  caT : ∀ a o, F.ca = some a → F.H0 a = some o → isT o = false
end
/-- from one state to another one within an expression -/
structure Step (O : Ow) (H Hf H' Hf' : Hp) : Prop where
  h : ∀ a o, H a = some o → (∀ p, O a ≠ some (none, p)) → H' a = some o
  there : ∀ a o, H a = some o → ∃ o', H' a = some o' ∧ isT o' = isT o
  f : Ex Hf Hf'
  sub : Ex Hf' H'
  new : ∀ a o, Hf' a = some o → Hf a = some o ∨ H a = none ∨ isT o = true
theorem Step.refl {O : Ow} {H Hf : Hp} (sub : Ex Hf H) : Step O H Hf H Hf := ⟨fun _ _ e _ => e, fun _ o e => ⟨o, e, rfl⟩, Ex.refl _, sub, fun _ _ e => .inl e⟩
theorem Step.trans {O : Ow} {H Hf H1 Hf1 H2 Hf2 : Hp} (a : Step O H Hf H1 Hf1) (b : Step O H1 Hf1 H2 Hf2) : Step O H Hf H2 Hf2 where
  h := fun x o e n => b.h x o (a.h x o e n) n
  there := fun x o e => let ⟨o1, e1, t1⟩ := a.there x o e; let ⟨o2, e2, t2⟩ := b.there x o1 e1; ⟨o2, e2, t2.trans t1⟩
  f := a.f.trans b.f
  sub := b.sub
  new := fun x o e => by
    rcases b.new x o e with h | h | h
    · exact a.new x o h
    · refine .inr (.inl ?_)
      cases q : H x with
      | none => rfl
      | some u =>
        obtain ⟨o', e', _⟩ := a.there x u q
        rw [h] at e'; cases e'
    · exact .inr (.inr h)
/-- a new object laid, and frozen -/
theorem Step.lay {O : Ow} {H Hf : Hp} (sub : Ex Hf H) {p : Addr} {o : HO} (h : H p = none) : Step O H Hf (upd H p o) (upd Hf p o) where
  h := fun a u e _ => Ex.upd h a u e
  there := fun a u e => ⟨u, Ex.upd h a u e, rfl⟩
  f := Ex.upd (sub.free h)
  sub := fun a u e => by
    by_cases q : a = p
    · subst q; rw [upd_same] at e ⊢; exact e
    · rw [upd_ne q] at e ⊢; exact sub a u e
  new := fun a u e => by
    by_cases q : a = p
    · subst q; exact .inr (.inl h)
    · rw [upd_ne q] at e; exact .inl e
/-- a new object laid, known to nobody -/
theorem Step.lay0 {O : Ow} {H Hf : Hp} (sub : Ex Hf H) {p : Addr} {o : HO} (h : H p = none) : Step O H Hf (upd H p o) Hf where
  h := fun a u e _ => Ex.upd h a u e
  there := fun a u e => ⟨u, Ex.upd h a u e, rfl⟩
  f := Ex.refl _
  sub := sub.trans (Ex.upd h)
  new := fun a u e => .inl e
section
variable {K : PySem.W.Frag} {mg : Str → Option Value} {F : Frame} {env : Env} {c c' : PV} {σ : St} {H Hf H' Hf' : Hp} {O : Ow}
theorem Good.step (g : Good K mg F env c σ H Hf O) (s : Step O H Hf H' Hf') (hc : CellOk K mg F σ H' Hf' O c') : Good K mg F env c' σ H' Hf' O where
  len := g.len
  slots := fun i t e => by
    obtain ⟨v, h1, h2⟩ := g.slots i t e
    refine ⟨v, h1, h2.stay (fun a p o q e => s.h a o e fun p' z => ?_) s.f⟩
    rw [lab_of q] at z
    cases z
  cell := hc
  sub := s.sub
  own := fun a t e => by
    obtain ⟨h1, o, h2, h3⟩ := g.own a t e
    obtain ⟨o2, e2, t2⟩ := s.there a o h2
    refine ⟨?_, o2, e2, t2.trans h3⟩
    cases q : Hf' a with
    | none => rfl
    | some u =>
      rcases s.new a u q with z | z | z
      · rw [h1] at z; cases z
      · rw [h2] at z; cases z
      · have := s.sub a u q
        rw [e2] at this
        cases this
        rw [t2.trans h3] at z
        cases z
  keep := fun a o e n => s.h a o (g.keep a o e n) fun p z => by
    rcases g.ownNew a _ z with h | h
    · rw [e] at h; cases h
    · exact n h.1
  frz0 := g.frz0.trans s.f
  new := fun a o e => by
    rcases s.new a o e with h | h | h
    · exact g.new a o h
    · refine .inr (.inl ?_)
      cases q : F.H0 a with
      | none => rfl
      | some u =>
        by_cases z : some a = F.ca
        · obtain ⟨t, e1⟩ := g.caOk a z.symm
          obtain ⟨_, o', e2, _⟩ := g.own a _ e1
          rw [h] at e2; cases e2
        · rw [g.keep a u q z] at h; cases h
    · exact .inr (.inr h)
  ownNew := g.ownNew
  caOk := g.caOk
  atCa := g.atCa
  caT := g.caT
end

/-! ### readings -/
/-- what is asked of an exception behind an expression -/
def ExcRep (K : PySem.W.Frag) (mg : Str → Option Value) (H Hf : Hp) (e : Exc) (cls : Value) (d : Option Addr) : Prop :=
  ∃ C, mg e.cls = some (.ref C) ∧ cls = .ref C ∧ ((e.fs = [] ∧ d = none) ∨ ∃ dd fs, d = some dd ∧ H dd = some (.xd fs) ∧ fs.map (·.1) = e.fs.map (·.1) ∧ RepL K mg Hf (e.fs.map (·.2)) (fs.map (·.2)))
/-- a value that is lent: owned by a slot, or frozen -/
def Lent (K : PySem.W.Frag) (mg : Str → Option Value) (O : Ow) (H Hf : Hp) (d : Nat) (x : PV) (v : V) : Prop := ∃ i p, Own K mg H Hf (lab O (some i)) d p x v
section
variable {K : PySem.W.Frag} {mg : Str → Option Value} {H Hf H' Hf' : Hp} {O : Ow} {x : PV} {v : V} {d : Nat}
theorem Lent.zero (h : Rep K mg Hf x v) : Lent K mg O H Hf 0 x v := ⟨0, [], h⟩
theorem Lent.rep0 (h : Lent K mg O H Hf 0 x v) : Rep K mg Hf x v := let ⟨_, _, o⟩ := h; o
theorem Lent.step (h : Lent K mg O H Hf d x v) (s : Step O H Hf H' Hf') : Lent K mg O H' Hf' d x v := by
  obtain ⟨i, p, o⟩ := h
  refine ⟨i, p, o.stay (fun a p o q e => s.h a o e fun p' z => ?_) s.f⟩
  rw [lab_of q] at z
  cases z
theorem Lent.rep (sub : Ex Hf H) (h : Lent K mg O H Hf d x v) : Rep K mg H x v := let ⟨_, _, o⟩ := h; o.rep sub
/-- the items of what is owned one deep are frozen -/
theorem Lent.lst (sub : Ex Hf H) {xs : List PV} (h : Lent K mg O H Hf d (.lst xs) v) (hd : d ≤ 1) : xs.length ≤ SZ ∧ ∃ a vs, v = .ref a ∧ H a = some (.lst vs) ∧ RepL K mg Hf xs vs := by
  obtain ⟨i, p, o⟩ := h
  match d, hd, o with
  | 0, _, ⟨n, a, vs, h1, h2, h3⟩ => exact ⟨n, a, vs, h1, sub _ _ h2, h3⟩
  | 1, _, ⟨n, a, vs, h1, h2, h3, h4, h5⟩ => exact ⟨n, a, vs, h1, h3, RepL.of h4 fun i x u e1 e2 => h5 i x u e1 e2⟩
theorem Lent.tup (sub : Ex Hf H) {xs : List PV} (h : Lent K mg O H Hf d (.tup xs) v) : xs.length ≤ SZ ∧ ∃ a vs, v = .ref a ∧ H a = some (.tup vs) ∧ RepL K mg Hf xs vs := by
  obtain ⟨i, p, o⟩ := h
  match d, o with
  | 0, ⟨n, a, vs, h1, h2, h3⟩ => exact ⟨n, a, vs, h1, sub _ _ h2, h3⟩
  | _ + 1, ⟨n, a, vs, h1, h2, h3⟩ => exact ⟨n, a, vs, h1, sub _ _ h2, h3⟩
theorem Lent.dct (sub : Ex Hf H) {t : Bool} {kvs : List (DKey × PV)} (h : Lent K mg O H Hf d (.dct t kvs) v) (hd : d ≤ 1) : kvs.length ≤ SZ ∧ ∃ a vs, v = .ref a ∧ DictAt H a t (kvs.map (·.1)) vs ∧ RepD K mg Hf kvs vs := by
  obtain ⟨i, p, o⟩ := h
  match d, hd, o with
  | 0, _, ⟨n, a, vs, h1, h2, h3⟩ => exact ⟨n, a, vs, h1, h2.ex (fun o e => sub a o e), h3⟩
  | 1, _, ⟨n, a, vs, h1, h2, h3, h4, h5⟩ => exact ⟨n, a, vs, h1, h3, RepD.of h4 fun i x u e1 e2 => h5 i x u e1 e2⟩
theorem Lent.flat (hx : (∀ xs, x ≠ .lst xs) ∧ ∀ t kvs, x ≠ .dct t kvs) (h : Lent K mg O H Hf d x v) : Rep K mg Hf x v := by
  obtain ⟨i, p, o⟩ := h
  cases d with
  | zero => exact o
  | succ d =>
    cases x with
    | lst xs => exact absurd rfl (hx.1 xs)
    | dct t kvs => exact absurd rfl (hx.2 t kvs)
    | _ => exact o
end
end PVL
end

section
set_option Elab.async false
set_option linter.all false
set_option maxRecDepth 100000
set_option maxHeartbeats 2000000
/-! PVL3: readings by the evaluator; the rules of expressions. -/
namespace PVL
open PySem L2

theorem PE.imp {X : Cx} {e : Expr} {t t' : TE} (h : PE X e t) (i : ∀ σ H Q, t' σ H Q → t σ H Q) : PE X e t' := ⟨fun pins s σ H Q I q => h.run pins s σ H Q I (i _ _ _ q)⟩
theorem PT.imp {X : Cx} {e : Expr} {t t' : TT} (h : PT X e t) (i : ∀ σ H Q, t' σ H Q → t σ H Q) : PT X e t' := ⟨fun pins s σ H Q I q => h.run pins s σ H Q I (i _ _ _ q)⟩
theorem PA.imp {X : Cx} {e : List Expr} {t t' : TA} (h : PA X e t) (i : ∀ σ H Q, t' σ H Q → t σ H Q) : PA X e t' := ⟨fun pos pins s σ H Q I q => h.run pos pins s σ H Q I (i _ _ _ q)⟩

section
variable (K : PySem.W.Frag) (mg : Str → Option Value) (F : Frame) (W : WX)
/-- what is wanted of an evaluation's result, begun at H, Hf -/
def Wn {α β : Type} (post : α → β → Hp → Hp → Prop) (σ : St) (O : Ow) (H Hf : Hp) (r : Res α) (Q : β → Hp → Prop) : Prop := match r with
  | .ok x c => ∀ v H' Hf', Step O H Hf H' Hf' → CellOk K mg F σ H' Hf' O c → post x v H' Hf' → Q v H'
  | .exc e c => ∀ cls d H' Hf', Step O H Hf H' Hf' → CellOk K mg F σ H' Hf' O c → ExcRep K mg H' Hf' e cls d → W cls d σ H'
  | .stuck => False
/-- lent; frozen; frozen ones; a truth; a truth as a value -/
abbrev pM (O : Ow) (p : Nat × PV) (v : V) (H' Hf' : Hp) : Prop := Lent K mg O H' Hf' p.1 p.2 v
abbrev pL (O : Ow) (n : Nat) (x : PV) (v : V) (H' Hf' : Hp) : Prop := ∃ d, d ≤ n ∧ Lent K mg O H' Hf' d x v
abbrev pZ (x : PV) (v : V) (_ Hf' : Hp) : Prop := Rep K mg Hf' x v
abbrev pA (xs : List PV) (vs : List V) (_ Hf' : Hp) : Prop := RepL K mg Hf' xs vs
abbrev pB (t : Bool) (b : Bool) (_ _ : Hp) : Prop := b = t
abbrev pO (x : PV) (v : V) (H' Hf' : Hp) : Prop := True
end
section
variable {K : PySem.W.Frag} {mg : Str → Option Value} {F : Frame} {W : WX} {α β γ δ : Type} {post : α → β → Hp → Hp → Prop} {post1 : γ → δ → Hp → Hp → Prop} {σ : St} {O : Ow} {H Hf H1 Hf1 : Hp} {r : Res α} {Q : β → Hp → Prop}
theorem Wn.after (h : Wn K mg F W post σ O H Hf r Q) (s : Step O H Hf H1 Hf1) : Wn K mg F W post σ O H1 Hf1 r Q := by
  cases r with
  | ok x c => exact fun v H' Hf' s' k p => h v H' Hf' (s.trans s') k p
  | exc e c => exact fun cls d H' Hf' s' k p => h cls d H' Hf' (s.trans s') k p
  | stuck => exact h
theorem wn_bind {r : Res γ} {f : γ → PV → Res α} {Q1 : δ → Hp → Prop} (h : Wn K mg F W post σ O H Hf (r.bind f) Q)
    (k : ∀ x c v H' Hf', r = .ok x c → Step O H Hf H' Hf' → CellOk K mg F σ H' Hf' O c → post1 x v H' Hf' → Wn K mg F W post σ O H' Hf' (f x c) Q → Q1 v H') : Wn K mg F W post1 σ O H Hf r Q1 := by
  cases r with
  | ok x c => exact fun v H' Hf' s c' p => k x c v H' Hf' rfl s c' p (Wn.after h s)
  | exc e c => exact h
  | stuck => exact h
theorem wn_mono {post2 : α → β → Hp → Hp → Prop} (h : Wn K mg F W post σ O H Hf r Q) (k : ∀ x c v H' Hf', r = .ok x c → post2 x v H' Hf' → post x v H' Hf') : Wn K mg F W post2 σ O H Hf r Q := by
  cases r with
  | ok x c => exact fun v H' Hf' s c' p => h v H' Hf' s c' (k x c v H' Hf' rfl p)
  | exc e c => exact h
  | stuck => exact h
theorem wn_lo {n : Nat} {r : Res (Nat × PV)} {f : PV → PV → Res α} {Q1 : V → Hp → Prop} (h : Wn K mg F W post σ O H Hf ((lo n r).bind f) Q)
    (k : ∀ x c v H' Hf', Step O H Hf H' Hf' → CellOk K mg F σ H' Hf' O c → pL K mg O n x v H' Hf' → Wn K mg F W post σ O H' Hf' (f x c) Q → Q1 v H') : Wn K mg F W (pM K mg O) σ O H Hf r Q1 := by
  cases r with
  | ok p c =>
    obtain ⟨d, x⟩ := p
    intro v H' Hf' s c' p
    by_cases hd : d ≤ n
    · refine k x c v H' Hf' s c' ⟨d, hd, p⟩ (Wn.after (Hf := Hf) ?_ s)
      simpa [lo, hd] using h
    · exact (by simpa [lo, hd] using h : Wn K mg F W post σ O H Hf .stuck Q).elim
  | exc e c => exact h
  | stuck => exact h
theorem wn_hi {r : Res PV} {Q : V → Hp → Prop} (h : Wn K mg F W (pM K mg O) σ O H Hf (hi r) Q) : Wn K mg F W (pZ K mg) σ O H Hf r Q := by
  cases r with
  | ok x c => exact fun v H' Hf' s c' p => h v H' Hf' s c' (Lent.zero p)
  | exc e c => exact h
  | stuck => exact h
/-- a pure operation's end -/
theorem wn_of {o : Option α} {c : PV} (h : Wn K mg F W post σ O H Hf (.of o c) Q) : ∃ x, o = some x ∧ ∀ v H' Hf', Step O H Hf H' Hf' → CellOk K mg F σ H' Hf' O c → post x v H' Hf' → Q v H' := by
  cases o with
  | none => exact h.elim
  | some x => exact ⟨x, rfl, h⟩
end

/-- where the code stands: the names by slot, the scope, the program's form, the level of calls -/
structure Ctx (P : Prog) (n : Nat) (N : List Str) (sc : Scope) (W : WX) (X : Cx) : Prop where
  hN : X.N = N
  nd : N.Nodup
  hsc : X.env.scope = sc
  calm : X.calm = true
  room : Room n X.A
  takes : Takes X W
section
variable (K : PySem.W.Frag) (mg : Str → Option Value) (F : Frame) (W : WX) (call : CallF)
/-- an expression's reading -/
def tM (e : E) : TE := fun σ H Q => ∃ env c Hf O, Good K mg F env c σ H Hf O ∧ Wn K mg F W (pM K mg O) σ O H Hf (em call e env c) Q
def tAs (n : Nat) (es : List E) : TA := fun σ H Q => ∃ env c Hf O, Good K mg F env c σ H Hf O ∧ Wn K mg F W (fun xs vs H' Hf' => Paired (fun x v => pL K mg O n x v H' Hf') xs vs) σ O H Hf (evs call n es env c) Q
def tB (r : Env → PV → Res Bool) : TT := fun σ H Q => ∃ env c Hf O, Good K mg F env c σ H Hf O ∧ Wn K mg F W pB σ O H Hf (r env c) Q
end
abbrev Good' (X : Cx) (F : Frame) := Good X.K X.mg F
section
variable {X : Cx} {P : Prog} {n : Nat} {N : List Str} {sc : Scope} {W : WX} {F : Frame} {call : CallF} {pos : Pos}
/-! ### names, constants -/
theorem s_var {i : Nat} {x : Str} (C : Ctx P n N sc W X) (hN : N[i]? = some x) (hv : Vis sc x) (hd : (x == ("__debug__" : Str)) = false) (hcd : (x == ("__classdict__" : Str)) = false) : PE X (.Name x pos) ((tM X.K X.mg F W call) (.var i)) := by
  refine PE.imp (pe_var (i := i) (by rw [C.hN]; exact hN) (by rw [C.hsc]; exact hv) hd hcd) fun σ H Q ⟨env, c, Hf, O, g, h⟩ => ?_
  unfold em at h
  cases e : env[i]? with
  | none => rw [e] at h; exact h.elim
  | some o =>
    cases o with
    | none => rw [e] at h; exact h.elim
    | some s =>
      rw [e] at h
      obtain ⟨v, h1, h2⟩ := g.slots i s e
      exact ⟨v, h1, h v H Hf (Step.refl g.sub) g.cell ⟨i, [], h2⟩⟩
theorem s_con {v : V} {x : PV} {e : Expr} (h : PE X e (tC v)) (r : ∀ H, Rep X.K X.mg H x v) : PE X e ((tM X.K X.mg F W call) (.con x)) :=
  PE.imp h fun σ H Q ⟨env, c, Hf, O, g, h⟩ => h v H Hf (Step.refl g.sub) g.cell (Lent.zero (r Hf))
theorem s_gint {x : Str} {i : Int} (hg : Gl X x) (hm : ∃ t, X.mg x = some (.int i t)) (hd : (x == ("__debug__" : Str)) = false) : PE X (.Name x pos) ((tM X.K X.mg F W call) (.gint x i)) := by
  obtain ⟨t, hm⟩ := hm
  exact PE.imp (pe_glob (v := .int i) hg hm ⟨t, rfl⟩ hd) fun σ H Q ⟨env, c, Hf, O, g, h⟩ => h (.int i) H Hf (Step.refl g.sub) g.cell (Lent.zero rfl)
theorem s_fn {x : Str} {a : Addr} (hg : Gl X x) (hm : X.mg x = some (.ref a)) (hd : (x == ("__debug__" : Str)) = false) : PE X (.Name x pos) ((tM X.K X.mg F W call) (.fn x)) :=
  PE.imp (pe_glob (v := .ref a) hg hm rfl hd) fun σ H Q ⟨env, c, Hf, O, g, h⟩ => h (.ref a) H Hf (Step.refl g.sub) g.cell (Lent.zero ⟨a, rfl, hm⟩)
/-! ### two operands -/
/-- two operands, then a rule on what they are -/
theorem s_bin {a b : E} {na nb : Nat} {f : PV → PV → PV → Res PV} {r : R2} {σ : St} {H : Hp} {Q : VK}
    (h : ∃ env c Hf O, Good X.K X.mg F env c σ H Hf O ∧ Wn X.K X.mg F W (pM X.K X.mg O) σ O H Hf (hi ((lo na (em call a env c)).bind fun x c => (lo nb (em call b env c)).bind fun y c => f x y c)) Q)
    (k : ∀ O H Hf x y v u c, Ex Hf H → CellOk X.K X.mg F σ H Hf O c → pL X.K X.mg O na x v H Hf → pL X.K X.mg O nb y u H Hf → Wn X.K X.mg F W (pZ X.K X.mg) σ O H Hf (f x y c) Q → r v u H Q) : tOp r ((tM X.K X.mg F W call) a) ((tM X.K X.mg F W call) b) σ H Q := by
  obtain ⟨env, c, Hf, O, g, h⟩ := h
  refine ⟨env, c, Hf, O, g, wn_lo (wn_hi h) fun x c1 v H1 Hf1 s1 k1 l1 h1 => ⟨env, c1, Hf1, O, g.step s1 k1, wn_lo h1 fun y c2 u H2 Hf2 s2 k2 l2 h2 => ?_⟩⟩
  obtain ⟨d1, e1, l1⟩ := l1
  exact k O H2 Hf2 x y v u c2 s2.sub k2 ⟨d1, e1, l1.step s2⟩ l2 h2
/-- one operand, then a rule on what it is -/
theorem s_one {a : E} {na : Nat} {f : PV → PV → Res PV} {σ : St} {H : Hp} {Q : VK} {k : V → Hp → Prop}
    (h : ∃ env c Hf O, Good X.K X.mg F env c σ H Hf O ∧ Wn X.K X.mg F W (pM X.K X.mg O) σ O H Hf (hi ((lo na (em call a env c)).bind f)) Q)
    (kk : ∀ O H Hf x v c d, Ex Hf H → CellOk X.K X.mg F σ H Hf O c → d ≤ na → Lent X.K X.mg O H Hf d x v → Wn X.K X.mg F W (pZ X.K X.mg) σ O H Hf (f x c) Q → k v H) : (tM X.K X.mg F W call) a σ H k := by
  obtain ⟨env, c, Hf, O, g, h⟩ := h
  refine ⟨env, c, Hf, O, g, wn_lo (wn_hi h) fun x c1 v H1 Hf1 s1 k1 l1 h1 => ?_⟩
  obtain ⟨d1, e1, l1⟩ := l1
  exact kk O H1 Hf1 x v c1 d1 s1.sub k1 e1 l1 h1
end
section
variable (K : PySem.W.Frag) (mg : Str → Option Value) (F : Frame) (W : WX) (call : CallF)
/-- an expression's reading where its value is to be new, d deep -/
def tF (d : Nat) (e : E) : TE := fun σ H Q => ∃ env c Hf O, Good K mg F env c σ H Hf O ∧ Wn K mg F W (fun (p : Nat × PV) v H' Hf' => Fresh K mg H H' Hf' d p.2 v) σ O H Hf (em call e env c) Q
end
section
variable {K : PySem.W.Frag} {mg : Str → Option Value} {F : Frame} {W : WX} {σ : St} {O : Ow} {H Hf H' Hf' : Hp} {c z : PV} {v : V} {p : Addr} {o : HO} {Q : VK} {d : Nat}
theorem wn_hi' {r : Res PV} {ψ : PV → V → Hp → Hp → Prop} {Q : V → Hp → Prop} (h : Wn K mg F W (fun (p : Nat × PV) v H' Hf' => ψ p.2 v H' Hf') σ O H Hf (hi r) Q) : Wn K mg F W ψ σ O H Hf r Q := by
  cases r <;> exact h
theorem CellOk.thaw {L : Lab} (k : CellOk K mg F σ H Hf O c) (hL : ∀ a p, L a = some p → Hf a = none) : CellOk K mg F σ H (thaw L H Hf) O c := by
  rcases k with k | ⟨i, v, h1, h2, h3⟩
  · exact .inl k
  · exact .inr ⟨i, v, h1, h2, h3.stay (fun a q u _ e => e) (thaw_ex hL)⟩
theorem Step.thaw {L : Lab} (s : Step O H Hf H' Hf') (hL : ∀ a p, L a = some p → H a = none ∧ Hf' a = none ∧ ∃ o, H' a = some o ∧ isT o = false) : Step O H Hf H' (thaw L H' Hf') where
  h := s.h
  there := s.there
  f := s.f.trans (thaw_ex fun a p e => (hL a p e).2.1)
  sub := thaw_sub s.sub
  new := fun a o e => by
    rcases thaw_new e with h | ⟨p, h⟩
    · exact s.new a o h
    · exact .inr (.inl (hL a p h).1)
/-- what is wanted of a frozen value is had of a new one -/
theorem fresh_rep (hq : ∀ v H' Hf', Step O H Hf H' Hf' → CellOk K mg F σ H' Hf' O c → Rep K mg Hf' z v → Q v H') (s : Step O H Hf H' Hf') (k : CellOk K mg F σ H' Hf' O c) (f : Fresh K mg H H' Hf' d z v) : Q v H' := by
  obtain ⟨L, hL, o⟩ := f
  exact hq v H' (PVL.thaw L H' Hf') (s.thaw hL) (k.thaw fun a p e => (hL a p e).2.1) (o.thaw fun a p e => (hL a p e).2.1)
end
section
variable {X : Cx} {W : WX} {F : Frame} {call : CallF} {pos : Pos} {ea : Expr} {a b : E} {d : Nat}
theorem of_fresh (h : PE X ea (tF X.K X.mg F W call d a)) (hz : ∀ env c n x c', em call a env c = .ok (n, x) c' → n = 0) : PE X ea ((tM X.K X.mg F W call) a) := by
  refine PE.imp h fun σ H Q ⟨env, c, Hf, O, g, h⟩ => ⟨env, c, Hf, O, g, ?_⟩
  cases q : em call a env c with
  | stuck => rw [q] at h; exact h.elim
  | exc e c1 => rw [q] at h; exact h
  | ok p c1 =>
    obtain ⟨n, x⟩ := p
    have e0 := hz _ _ _ _ _ q
    subst e0
    rw [q] at h
    intro v H' Hf' s k f
    exact fresh_rep (fun v H' Hf' s k r => h v H' Hf' s k (Lent.zero r)) s k f
theorem hi_zero {r : Res PV} {n : Nat} {x c : PV} (h : hi r = .ok (n, x) c) : n = 0 := by
  cases r <;> simp only [hi_ok, hi_exc, hi_stuck] at h <;> first | (cases h; rfl) | cases h
/-- two operands, a new value -/
theorem s_binF {na nb : Nat} {f : PV → PV → PV → Res PV} {r : R2} {σ : St} {H : Hp} {Q : VK}
    (h : ∃ env c Hf O, Good X.K X.mg F env c σ H Hf O ∧ Wn X.K X.mg F W (fun (p : Nat × PV) v H' Hf' => Fresh X.K X.mg H H' Hf' d p.2 v) σ O H Hf (hi ((lo na (em call a env c)).bind fun x c => (lo nb (em call b env c)).bind fun y c => f x y c)) Q)
    (k : ∀ O H1 Hf x y v u c, (∀ p, H1 p = none → H p = none) → Ex Hf H1 → CellOk X.K X.mg F σ H1 Hf O c → pL X.K X.mg O na x v H1 Hf → pL X.K X.mg O nb y u H1 Hf → Wn X.K X.mg F W (fun x v H' Hf' => Fresh X.K X.mg H H' Hf' d x v) σ O H1 Hf (f x y c) Q → r v u H1 Q) : tOp r ((tM X.K X.mg F W call) a) ((tM X.K X.mg F W call) b) σ H Q := by
  obtain ⟨env, c, Hf, O, g, h⟩ := h
  refine ⟨env, c, Hf, O, g, wn_lo (wn_hi' (ψ := fun x v H' Hf' => Fresh X.K X.mg H H' Hf' d x v) h) fun x c1 v H1 Hf1 s1 k1 l1 h1 => ⟨env, c1, Hf1, O, g.step s1 k1, wn_lo h1 fun y c2 u H2 Hf2 s2 k2 l2 h2 => ?_⟩⟩
  obtain ⟨d1, e1, l1⟩ := l1
  refine k O H2 Hf2 x y v u c2 (fun p hp => ?_) s2.sub k2 ⟨d1, e1, l1.step s2⟩ l2 h2
  cases q : H p with
  | none => rfl
  | some o =>
    obtain ⟨o', e', _⟩ := (s1.trans s2).there p o q
    rw [hp] at e'; cases e'
theorem s_oneF {na : Nat} {f : PV → PV → Res PV} {σ : St} {H : Hp} {Q : VK} {k : V → Hp → Prop}
    (h : ∃ env c Hf O, Good X.K X.mg F env c σ H Hf O ∧ Wn X.K X.mg F W (fun (p : Nat × PV) v H' Hf' => Fresh X.K X.mg H H' Hf' d p.2 v) σ O H Hf (hi ((lo na (em call a env c)).bind f)) Q)
    (kk : ∀ O H1 Hf x v c d1, (∀ p, H1 p = none → H p = none) → Ex Hf H1 → CellOk X.K X.mg F σ H1 Hf O c → d1 ≤ na → Lent X.K X.mg O H1 Hf d1 x v → Wn X.K X.mg F W (fun x v H' Hf' => Fresh X.K X.mg H H' Hf' d x v) σ O H1 Hf (f x c) Q → k v H1) : (tM X.K X.mg F W call) a σ H k := by
  obtain ⟨env, c, Hf, O, g, h⟩ := h
  refine ⟨env, c, Hf, O, g, wn_lo (wn_hi' (ψ := fun x v H' Hf' => Fresh X.K X.mg H H' Hf' d x v) h) fun x c1 v H1 Hf1 s1 k1 l1 h1 => ?_⟩
  obtain ⟨d1, e1, l1⟩ := l1
  refine kk O H1 Hf1 x v c1 d1 (fun p hp => ?_) s1.sub k1 e1 l1 h1
  cases q : H p with
  | none => rfl
  | some o =>
    obtain ⟨o', e', _⟩ := s1.there p o q
    rw [hp] at e'; cases e'
end
end PVL
end

section
set_option Elab.async false
set_option linter.all false
set_option maxRecDepth 100000
set_option maxHeartbeats 2000000
/-! PVL4: operators, comparisons, truth. -/
namespace PVL
open PySem L2
theorem SZ_le {n : Nat} (h : n ≤ SZ) : n ≤ sizeLine := by rw [sizeLine_eq]; exact h
theorem SZ_lt {n : Nat} (h : n < SZ) : n < sizeLine := by rw [sizeLine_eq]; exact h
section
variable {K : PySem.W.Frag} {mg : Str → Option Value} {F : Frame} {σ : St} {O : Ow} {H Hf : Hp} {c : PV} {p : Addr} {o : HO} {z : PV} {Q : VK}
theorem CellOk.lay (k : CellOk K mg F σ H Hf O c) (hp : H p = none) (hf : Hf p = none) : CellOk K mg F σ (upd H p o) (upd Hf p o) O c := by
  rcases k with k | ⟨i, v, h1, h2, h3⟩
  · exact .inl k
  · exact .inr ⟨i, v, h1, h2, h3.stay (fun a q u _ e => Ex.upd hp a u e) (Ex.upd hf)⟩
theorem CellOk.lay0 (k : CellOk K mg F σ H Hf O c) (hp : H p = none) : CellOk K mg F σ (upd H p o) Hf O c := by
  rcases k with k | ⟨i, v, h1, h2, h3⟩
  · exact .inl k
  · exact .inr ⟨i, v, h1, h2, h3.stay (fun a q u _ e => Ex.upd hp a u e) (Ex.refl _)⟩
/-- the end: a new object, frozen at once -/
theorem fin_lay (hq : ∀ v H' Hf', Step O H Hf H' Hf' → CellOk K mg F σ H' Hf' O c → Rep K mg Hf' z v → Q v H') (sub : Ex Hf H) (ck : CellOk K mg F σ H Hf O c) (hp : H p = none) (r : Ex Hf (upd Hf p o) → Rep K mg (upd Hf p o) z (.ref p)) : Q (.ref p) (upd H p o) :=
  hq _ _ (upd Hf p o) (Step.lay sub hp) (ck.lay hp (sub.free hp)) (r (Ex.upd (sub.free hp)))
theorem fin_at (hq : ∀ v H' Hf', Step O H Hf H' Hf' → CellOk K mg F σ H' Hf' O c → Rep K mg Hf' z v → Q v H') (sub : Ex Hf H) (ck : CellOk K mg F σ H Hf O c) {v : V} (r : Rep K mg Hf z v) : Q v H :=
  hq _ _ Hf (Step.refl sub) ck r
end
section
variable {X : Cx} {W : WX} {F : Frame} {call : CallF} {pos : Pos} {ea eb ec : Expr} {a b d : E}
/-- the end: a new list -/
theorem fin_new {K : PySem.W.Frag} {mg : Str → Option Value} {F : Frame} {σ : St} {O : Ow} {H0 H Hf : Hp} {c : PV} {p : Addr} {Q : VK} {zs : List PV} {vs : List V}
    (hq : ∀ v H' Hf', Step O H Hf H' Hf' → CellOk K mg F σ H' Hf' O c → Fresh K mg H0 H' Hf' 1 (.lst zs) v → Q v H') (h0 : ∀ p, H p = none → H0 p = none) (sub : Ex Hf H) (ck : CellOk K mg F σ H Hf O c) (hp : H p = none)
    (hz : zs.length ≤ SZ) (r : RepL K mg Hf zs vs) : Q (.ref p) (upd H p (.lst vs)) := by
  refine hq _ _ Hf (Step.lay0 sub hp) (ck.lay0 hp) ⟨fun a => if a = p then some [] else none, fun a q e => ?_, hz, p, vs, rfl, by simp, upd_same, r.length, fun i x u e1 e2 => ?_⟩
  · by_cases e1 : a = p
    · subst e1
      exact ⟨h0 _ hp, sub.free hp, _, upd_same, rfl⟩
    · simp [e1] at e
  · obtain ⟨w', h1, h2⟩ := r.get e1
    rw [e2] at h1
    cases h1
    exact h2
/-- the end: a frozen value is new enough -/
theorem fin_rep {K : PySem.W.Frag} {mg : Str → Option Value} {F : Frame} {σ : St} {O : Ow} {H0 H Hf : Hp} {c : PV} {Q : VK} {z : PV} {d : Nat} (hz : (∀ xs, z ≠ .lst xs) ∧ ∀ t kvs, z ≠ .dct t kvs)
    (hq : ∀ v H' Hf', Step O H Hf H' Hf' → CellOk K mg F σ H' Hf' O c → Fresh K mg H0 H' Hf' d z v → Q v H') : ∀ v H' Hf', Step O H Hf H' Hf' → CellOk K mg F σ H' Hf' O c → Rep K mg Hf' z v → Q v H' :=
  fun v H' Hf' s k r => hq v H' Hf' s k ⟨fun _ => none, (fun _ _ e => by cases e), Own.flat r hz⟩
theorem f_add (ha : PE X ea ((tM X.K X.mg F W call) a)) (hb : PE X eb ((tM X.K X.mg F W call) b)) : PE X (.BinOp ea .Add eb pos) (tF X.K X.mg F W call 1 (.op .add a b)) := by
  refine PE.imp (pe_op (op_add.or (op_catA.or (op_cat.or op_add_str))) ha hb) fun σ H Q h => s_binF (f := fun x y c => .of (op2 .add x y) c) h fun O H1 Hf x y v u c h0 sub ck lx ly hw => ?_
  obtain ⟨d1, e1, lx⟩ := lx
  obtain ⟨d2, e2, ly⟩ := ly
  obtain ⟨z, ez, hq⟩ := wn_of hw
  clear hw
  cases x <;> cases y <;> first | (simp only [op2] at ez; cases ez; done) | skip
  case int.int i j =>
    cases ez
    cases lx.flat (by simp)
    cases ly.flat (by simp)
    exact .inl ⟨i, j, rfl, rfl, fin_at (fin_rep (by simp) hq) sub ck rfl⟩
  case str.str i j =>
    simp only [op2] at ez
    split at ez
    · rename_i hz
      cases ez
      cases lx.flat (by simp)
      cases ly.flat (by simp)
      exact .inr (.inr (.inr ⟨i, j, rfl, rfl, SZ_le hz, fin_at (fin_rep (by simp) hq) sub ck rfl⟩))
    · cases ez
  case tup.tup xs ys =>
    simp only [op2] at ez
    split at ez
    · rename_i hz
      cases ez
      obtain ⟨n1, p1, vs, rfl, t1, r1⟩ := lx.tup sub
      obtain ⟨n2, p2, us, rfl, t2, r2⟩ := ly.tup sub
      have l1 := r1.length
      have l2 := r2.length
      refine .inr (.inl ⟨p1, p2, vs, us, rfl, rfl, SqT.of t1, SqT.of t2, SZ_le (by omega), fun e => ?_, fun _ e => ?_, fun _ _ p hp => ?_⟩)
      · subst e
        have : xs = [] := by simpa using l1.symm
        subst this
        exact fin_at (fin_rep (by simp) hq) sub ck (ly.flat (by simp))
      · subst e
        have : ys = [] := by simpa using l2.symm
        subst this
        refine fin_at (fin_rep (by simp) hq) sub ck ?_
        rw [List.append_nil]
        exact lx.flat (by simp)
      · refine fin_lay (fin_rep (by simp) hq) sub ck hp fun ex => ⟨by simpa using hz, p, _, rfl, upd_same, (r1.ex ex).app (r2.ex ex)⟩
    · cases ez
  case lst.lst xs ys =>
    simp only [op2] at ez
    split at ez
    · rename_i hz
      cases ez
      obtain ⟨n1, p1, vs, rfl, t1, r1⟩ := lx.lst sub e1
      obtain ⟨n2, p2, us, rfl, t2, r2⟩ := ly.lst sub e2
      have l1 := r1.length
      have l2 := r2.length
      refine .inr (.inr (.inl ⟨p1, p2, vs, us, rfl, rfl, t1, t2, SZ_le (by omega), fun p hp => ?_⟩))
      exact fin_new hq h0 sub ck hp (by simpa using hz) (r1.app r2)
    · cases ez

theorem s_add (ha : PE X ea ((tM X.K X.mg F W call) a)) (hb : PE X eb ((tM X.K X.mg F W call) b)) : PE X (.BinOp ea .Add eb pos) ((tM X.K X.mg F W call) (.op .add a b)) := of_fresh (f_add ha hb) fun _ _ _ _ _ e => hi_zero e
/-- an int rule of two operands -/
theorem s_int {op : Operator} {o : Op2} {Cd : Int → Int → Prop} {g : Int → Int → Int} (rule : OpR X (binaryOp op) (rI Cd fun i j => .int (g i j))) (he : ∀ x y z, op2 o x y = some z → ∃ i j, x = .int i ∧ y = .int j ∧ Cd i j ∧ z = .int (g i j))
    (ha : PE X ea ((tM X.K X.mg F W call) a)) (hb : PE X eb ((tM X.K X.mg F W call) b)) : PE X (.BinOp ea op eb pos) ((tM X.K X.mg F W call) (.op o a b)) := by
  refine PE.imp (pe_op rule ha hb) fun σ H Q h => s_bin (f := fun x y c => .of (op2 o x y) c) h fun O H Hf x y v u c sub ck lx ly hw => ?_
  obtain ⟨d1, e1, lx⟩ := lx
  obtain ⟨d2, e2, ly⟩ := ly
  obtain ⟨z, ez, hq⟩ := wn_of hw
  obtain ⟨i, j, rfl, rfl, hc, rfl⟩ := he _ _ _ ez
  cases lx.flat (by simp)
  cases ly.flat (by simp)
  exact ⟨i, j, rfl, rfl, hc, fin_at hq sub ck rfl⟩
theorem OpR.c {f : Value → Value → Sem Value} {g : Int → Int → V} (h : OpR X f (rI0 g)) : OpR X f (rI (fun _ _ => True) g) := fun pins s σ H x y v u Q I rx ry ⟨i, j, e1, e2, _, q⟩ => h pins s σ H x y v u Q I rx ry ⟨i, j, e1, e2, q⟩
theorem s_sub (ha : PE X ea ((tM X.K X.mg F W call) a)) (hb : PE X eb ((tM X.K X.mg F W call) b)) : PE X (.BinOp ea .Sub eb pos) ((tM X.K X.mg F W call) (.op .sub a b)) :=
  s_int (OpR.c op_sub) (fun x y z e => by
    cases x <;> cases y <;> simp only [op2] at e <;> first | (cases e; done) | exact ⟨_, _, rfl, rfl, trivial, (Option.some.inj e).symm⟩) ha hb
theorem s_fdiv (ha : PE X ea ((tM X.K X.mg F W call) a)) (hb : PE X eb ((tM X.K X.mg F W call) b)) : PE X (.BinOp ea .FloorDiv eb pos) ((tM X.K X.mg F W call) (.op .fdiv a b)) :=
  s_int op_fdiv (fun x y z e => by
    cases x <;> cases y <;> simp only [op2] at e <;> first
      | (cases e; done)
      | (split at e
         · rename_i h
           exact ⟨_, _, rfl, rfl, by simpa [CDiv] using h, (Option.some.inj e).symm⟩
         · cases e)) ha hb
theorem s_mod (ha : PE X ea ((tM X.K X.mg F W call) a)) (hb : PE X eb ((tM X.K X.mg F W call) b)) : PE X (.BinOp ea .Mod eb pos) ((tM X.K X.mg F W call) (.op .mod a b)) :=
  s_int op_mod (fun x y z e => by
    cases x <;> cases y <;> simp only [op2] at e <;> first
      | (cases e; done)
      | (split at e
         · rename_i h
           exact ⟨_, _, rfl, rfl, by simpa using h, (Option.some.inj e).symm⟩
         · cases e)) ha hb
theorem s_pow (ha : PE X ea ((tM X.K X.mg F W call) a)) (hb : PE X eb ((tM X.K X.mg F W call) b)) : PE X (.BinOp ea .Pow eb pos) ((tM X.K X.mg F W call) (.op .pow a b)) :=
  s_int op_pow (fun x y z e => by
    cases x <;> cases y <;> simp only [op2] at e <;> first
      | (cases e; done)
      | (split at e
         · rename_i h
           exact ⟨_, _, rfl, rfl, by simpa [CPow, and_assoc] using h, (Option.some.inj e).symm⟩
         · cases e)) ha hb
theorem s_neg (ha : PE X ea ((tM X.K X.mg F W call) a)) : PE X (.UnaryOp .USub ea pos) ((tM X.K X.mg F W call) (.neg a)) := by
  refine PE.imp (pe_un un_neg ha) fun σ H Q h => s_one (f := fun x c => .of ((int? x).map fun i => PV.int (-i)) c) h fun O H Hf x v c d sub ck hd l1 hw => ?_
  obtain ⟨z, ez, hq⟩ := wn_of hw
  cases x <;> simp only [int?, Option.map] at ez <;> first | (cases ez; done) | skip
  cases ez
  cases l1.flat (by simp)
  exact ⟨_, rfl, fin_at hq sub ck rfl⟩
end
/-! ### equality of data -/
mutual
def toD : PV → PyData
  | .non => .none
  | .bl b => .bool b
  | .int i => .int i
  | .str s => .str s
  | .tup xs => .tuple (toDL xs)
  | .lst xs => .list (toDL xs)
  | _ => .none
termination_by structural x => x
def toDL : List PV → List PyData
  | [] => []
  | x :: xs => toD x :: toDL xs
termination_by structural x => x
end
section
variable {K : PySem.W.Frag} {mg : Str → Option Value} {H : Hp}
mutual
theorem dp_of : ∀ (x : PV) (n : Nat) (v : V), isData n x = true → Rep K mg H x v → Dp K H v (toD x)
  | .non, _, _, _, h => by cases (show _ = _ from h); exact .non
  | .bl b, _, _, _, h => by cases (show _ = _ from h); exact .bl b
  | .int i, _, _, _, h => by cases (show _ = _ from h); exact .int i
  | .str s, _, _, _, h => by cases (show _ = _ from h); exact .str s
  | .tup xs, 0, _, e, _ => by cases e
  | .lst xs, 0, _, e, _ => by cases e
  | .tup xs, n + 1, _, e, ⟨_, a, vs, h1, h2, h3⟩ => by subst h1; exact .tup (SqT.of h2) (dpL_of xs n vs e h3)
  | .lst xs, n + 1, _, e, ⟨_, a, vs, h1, h2, h3⟩ => by subst h1; exact .lst (SqL.of h2) (dpL_of xs n vs e h3)
  | .dct _ _, 0, _, e, _ => by cases e
  | .dct _ _, _ + 1, _, e, _ => by cases e
  | .fn _, 0, _, e, _ => by cases e
  | .fn _, _ + 1, _, e, _ => by cases e
  | .scr _, 0, _, e, _ => by cases e
  | .scr _, _ + 1, _, e, _ => by cases e
termination_by structural x => x
theorem dpL_of : ∀ (xs : List PV) (n : Nat) (vs : List V), isDataL n xs = true → RepL K mg H xs vs → DpAll K H vs (toDL xs)
  | [], _, _, _, h => by cases (show _ = [] from h); exact .nil
  | x :: xs, n, _, e, ⟨v, r, h1, h2, h3⟩ => by
    subst h1
    have e' : (isData n x && isDataL n xs) = true := e
    rw [Bool.and_eq_true] at e'
    exact .cons (dp_of x n v e'.1 h2) (dpL_of xs n r e'.2 h3)
termination_by structural x => x
end
mutual
theorem eqv_toD : ∀ (x y : PV) (n m : Nat), isData n x = true → isData m y = true → PyData.eqv (toD x) (toD y) = eqv x y
  | .tup xs, .tup ys, n + 1, m + 1, hx, hy => eqvL_toD xs ys n m hx hy
  | .lst xs, .lst ys, n + 1, m + 1, hx, hy => eqvL_toD xs ys n m hx hy
  | .tup _, y, 0, _, hx, _ => by cases hx
  | .lst _, y, 0, _, hx, _ => by cases hx
  | .dct _ _, y, 0, _, hx, _ => by cases hx
  | .dct _ _, y, _ + 1, _, hx, _ => by cases hx
  | .fn _, y, 0, _, hx, _ => by cases hx
  | .fn _, y, _ + 1, _, hx, _ => by cases hx
  | .scr _, y, 0, _, hx, _ => by cases hx
  | .scr _, y, _ + 1, _, hx, _ => by cases hx
  | .non, y, _, m, _, hy => by cases y <;> first | rfl | (cases m <;> cases hy)
  | .bl _, y, _, m, _, hy => by cases y <;> first | rfl | (cases m <;> cases hy)
  | .int _, y, _, m, _, hy => by cases y <;> first | rfl | (cases m <;> cases hy)
  | .str _, y, _, m, _, hy => by cases y <;> first | rfl | (cases m <;> cases hy)
  | .tup _, .non, _ + 1, _, _, _ => rfl
  | .tup _, .bl _, _ + 1, _, _, _ => rfl
  | .tup _, .int _, _ + 1, _, _, _ => rfl
  | .tup _, .str _, _ + 1, _, _, _ => rfl
  | .tup _, .lst _, _ + 1, _, _, _ => rfl
  | .tup _, .tup _, _ + 1, 0, _, hy => by cases hy
  | .tup _, .dct _ _, _ + 1, m, _, hy => by cases m <;> cases hy
  | .tup _, .fn _, _ + 1, m, _, hy => by cases m <;> cases hy
  | .tup _, .scr _, _ + 1, m, _, hy => by cases m <;> cases hy
  | .lst _, .non, _ + 1, _, _, _ => rfl
  | .lst _, .bl _, _ + 1, _, _, _ => rfl
  | .lst _, .int _, _ + 1, _, _, _ => rfl
  | .lst _, .str _, _ + 1, _, _, _ => rfl
  | .lst _, .tup _, _ + 1, _, _, _ => rfl
  | .lst _, .lst _, _ + 1, 0, _, hy => by cases hy
  | .lst _, .dct _ _, _ + 1, m, _, hy => by cases m <;> cases hy
  | .lst _, .fn _, _ + 1, m, _, hy => by cases m <;> cases hy
  | .lst _, .scr _, _ + 1, m, _, hy => by cases m <;> cases hy
termination_by structural x => x
theorem eqvL_toD : ∀ (xs ys : List PV) (n m : Nat), isDataL n xs = true → isDataL m ys = true → PyData.eqvAll (toDL xs) (toDL ys) = eqvL xs ys
  | [], [], _, _, _, _ => rfl
  | [], _ :: _, _, _, _, _ => rfl
  | _ :: _, [], _, _, _, _ => rfl
  | x :: xs, y :: ys, n, m, hx, hy => by
    have e1 : (isData n x && isDataL n xs) = true := hx
    have e2 : (isData m y && isDataL m ys) = true := hy
    rw [Bool.and_eq_true] at e1 e2
    show (PyData.eqv (toD x) (toD y) && PyData.eqvAll (toDL xs) (toDL ys)) = (eqv x y && eqvL xs ys)
    rw [eqv_toD x y n m e1.1 e2.1, eqvL_toD xs ys n m e1.2 e2.2]
termination_by structural x => x
end
theorem asc_ok {s : Str} (h : asc s = true) : PyData.strOk s = true := by
  unfold asc at h
  unfold PyData.strOk
  rw [← Array.all_toList, List.all_eq_true]
  intro x hx
  have := List.all_eq_true.mp h x hx
  simp only [decide_eq_true_eq] at this ⊢
  omega
mutual
theorem lay_of : ∀ (x : PV) (n : Nat), isData n x = true → (toD x).canLay0 = true ∧ (toD x).depth ≤ n
  | .non, _, _ => ⟨rfl, Nat.zero_le _⟩
  | .bl _, _, _ => ⟨rfl, Nat.zero_le _⟩
  | .int _, _, _ => ⟨rfl, Nat.zero_le _⟩
  | .str s, n, h => ⟨asc_ok (by cases n <;> exact h), Nat.zero_le _⟩
  | .tup xs, 0, h => by cases h
  | .lst xs, 0, h => by cases h
  | .tup xs, n + 1, h => ⟨(layL_of xs n h).1, Nat.succ_le_succ (layL_of xs n h).2⟩
  | .lst xs, n + 1, h => ⟨(layL_of xs n h).1, Nat.succ_le_succ (layL_of xs n h).2⟩
  | .dct _ _, 0, e => by cases e
  | .dct _ _, _ + 1, e => by cases e
  | .fn _, 0, e => by cases e
  | .fn _, _ + 1, e => by cases e
  | .scr _, 0, e => by cases e
  | .scr _, _ + 1, e => by cases e
termination_by structural x => x
theorem layL_of : ∀ (xs : List PV) (n : Nat), isDataL n xs = true → PyData.canLayAll0 (toDL xs) = true ∧ PyData.depthAll (toDL xs) ≤ n
  | [], _, _ => ⟨rfl, Nat.zero_le _⟩
  | x :: xs, n, h => by
    have e1 : (isData n x && isDataL n xs) = true := h
    rw [Bool.and_eq_true] at e1
    have h1 := lay_of x n e1.1
    have h2 := layL_of xs n e1.2
    refine ⟨?_, ?_⟩
    · show ((toD x).canLay0 && PyData.canLayAll0 (toDL xs)) = true
      rw [h1.1, h2.1]; rfl
    · exact Nat.max_le.mpr ⟨h1.2, h2.2⟩
termination_by structural x => x
end
theorem shaped_of {x : PV} (h : isData 60 x = true) : SeqAt.shaped (toD x) = true := by
  have := lay_of x 60 h
  unfold SeqAt.shaped
  rw [this.1, Bool.true_and]
  exact decide_eq_true (by omega)
/-! ### in -/
theorem flatV_of {x : PV} {v : V} {K : PySem.W.Frag} {mg : Str → Option Value} {H : Hp} (hx : flat x = true) (r : Rep K mg H x v) : flatV v = true := by
  cases x <;> first | (cases hx; done) | (cases (show _ = _ from r); rfl)
theorem eqV_of {x y : PV} {v u : V} {K : PySem.W.Frag} {mg : Str → Option Value} {H : Hp} (hx : flat x = true) (hy : flat y = true) (r : Rep K mg H x v) (r2 : Rep K mg H y u) : eqV u v = eqv y x := by
  cases x <;> cases y <;> first | (cases hx; done) | (cases hy; done) | (cases (show _ = _ from r); cases (show _ = _ from r2); simp [eqV, eqv])
theorem inV_of {x : PV} {v : V} {K : PySem.W.Frag} {mg : Str → Option Value} {H : Hp} (hx : flat x = true) (r : Rep K mg H x v) : ∀ {ys : List PV} {us : List V}, ys.all flat = true → RepL K mg H ys us → us.all flatV = true ∧ inV v us = ys.any fun y => eqv y x
  | [], _, _, h => by cases (show _ = [] from h); exact ⟨rfl, rfl⟩
  | y :: ys, _, e, ⟨u, us, h1, h2, h3⟩ => by
    subst h1
    rw [List.all_cons, Bool.and_eq_true] at e
    obtain ⟨i1, i2⟩ := inV_of hx r e.2 h3
    refine ⟨by rw [List.all_cons, flatV_of e.1 h2, i1]; rfl, ?_⟩
    unfold inV at i2 ⊢
    rw [List.any_cons, List.any_cons, i2, eqV_of hx e.1 r h2]
end
section
variable {X : Cx} {W : WX} {F : Frame} {call : CallF} {pos : Pos} {ea eb ec : Expr} {a b d : E} {n : Nat}
/-- lists of ints -/
theorem ints_rep {K : PySem.W.Frag} {mg : Str → Option Value} {H : Hp} : ∀ {xs : List PV} {vs : List V} {ns : List Int}, ints? xs = some ns → RepL K mg H xs vs → vs = ns.map V.int ∧ xs = ns.map PV.int
  | [], _, _, e, h => by cases e; cases (show _ = [] from h); exact ⟨rfl, rfl⟩
  | x :: xs, _, ns, e, ⟨v, r, h1, h2, h3⟩ => by
    subst h1
    cases x <;> simp only [ints?] at e <;> first | (cases e; done) | skip
    cases q : ints? xs with
    | none => rw [q] at e; cases e
    | some ms =>
      rw [q] at e
      cases e
      obtain ⟨i1, i2⟩ := ints_rep q h3
      cases (show v = _ from h2)
      subst i1 i2
      exact ⟨rfl, rfl⟩
/-! ### dicts -/
theorem keys_rep {K : PySem.W.Frag} {mg : Str → Option Value} {H : Hp} : ∀ {xs : List PV} {vs : List V} {ks : List Key}, keyOf?.keys? xs = some ks → RepL K mg H xs vs → vs = ks.map kV
  | [], _, _, e, h => by cases e; cases (show _ = [] from h); rfl
  | x :: xs, _, ks, e, ⟨v, r, h1, h2, h3⟩ => by
    subst h1
    cases x <;> simp only [keyOf?.keys?] at e <;> first | (cases e; done) | skip
    all_goals
      cases q : keyOf?.keys? xs with
      | none => rw [q] at e; cases e
      | some ms =>
        rw [q] at e
        cases e
        have i1 := keys_rep q h3
        cases (show v = _ from h2)
        subst i1
        rfl
theorem keyIn_at {x : PV} {k : DKey} (h : keyIn false x = some k) : (∃ i, x = .int i ∧ k = .at_ (.inl i)) ∨ ∃ s, x = .str s ∧ k = .at_ (.inr s) := by
  unfold keyIn at h
  cases x <;> simp only [keyOf?, Option.bind_none, Option.bind_some, isTupKey, if_true] at h <;> first | (cases h; done) | skip
  · cases h; exact .inl ⟨_, rfl, rfl⟩
  · cases h; exact .inr ⟨_, rfl, rfl⟩
  · rename_i xs
    cases q : keyOf?.keys? xs with
    | none => rw [q] at h; cases h
    | some ks => rw [q] at h; simp [isTupKey] at h
theorem keyIn_tup {x : PV} {k : DKey} (h : keyIn true x = some k) : ∃ xs ks, x = .tup xs ∧ keyOf?.keys? xs = some ks ∧ k = .tup ks := by
  unfold keyIn at h
  cases x <;> simp only [keyOf?, Option.bind_none, Option.bind_some, isTupKey] at h <;> first | (cases h; done) | (simp at h; done) | skip
  rename_i xs
  cases q : keyOf?.keys? xs with
  | none => rw [q] at h; cases h
  | some ks =>
    rw [q] at h
    simp [isTupKey] at h
    exact ⟨xs, ks, rfl, q, h.symm⟩
theorem find_rel {κ : Type} [DecidableEq κ] {K : PySem.W.Frag} {mg : Str → Option Value} {Hf : Hp} (q : κ → DKey) (inj : ∀ a b, q a = q b → a = b) (k : κ) : ∀ (kvs : List (DKey × PV)) (qs : List κ) (vs : List V), kvs.map (·.1) = qs.map q → RepD K mg Hf kvs vs →
    match dget kvs (q k) with
    | none => valV (qs.zip vs) k = none
    | some y => ∃ u, valV (qs.zip vs) k = some u ∧ Rep K mg Hf y u
  | [], [], _, _, _ => rfl
  | [], _ :: _, _, e, _ => by simp at e
  | _ :: _, [], _, e, _ => by simp at e
  | (k', y) :: kvs, a :: qs, _, e, ⟨v, r, h1, h2, h3⟩ => by
    subst h1
    rw [List.map_cons, List.map_cons] at e
    injection e with e1 e2
    have e1 : k' = q a := e1
    subst e1
    have ih := find_rel q inj k kvs qs r e2 h3
    unfold dget valV at ih ⊢
    rw [List.zip_cons_cons, List.find?_cons, List.find?_cons]
    by_cases hk : a = k
    · subst hk
      simp only [decide_true, Option.map_some]
      exact ⟨v, rfl, h2⟩
    · have hq : ¬ q a = q k := fun z => hk (inj _ _ z)
      simp only [hk, hq, decide_false]
      exact ih
/-- a look into a dict -/
theorem dget_at {K : PySem.W.Frag} {mg : Str → Option Value} {H Hf : Hp} {t : Bool} {kvs : List (DKey × PV)} {vs : List V} {a : Addr} {x : PV} {v : V} {k : DKey} (hd : DictAt H a t (kvs.map (·.1)) vs) (r : RepD K mg Hf kvs vs) (hk : keyIn t x = some k) (rx : Rep K mg H x v) :
    ∃ o, DGet H a v o ∧ match dget kvs k with
      | none => o = none
      | some y => ∃ u, o = some u ∧ Rep K mg Hf y u := by
  cases t with
  | false =>
    obtain ⟨qs, h1, h2⟩ := hd
    rcases keyIn_at hk with ⟨i, rfl, rfl⟩ | ⟨s, rfl, rfl⟩
    · cases (show v = _ from rx)
      exact ⟨_, DGet.k (k := .inl i) h2, find_rel DKey.at_ (fun a b e => by injection e) (.inl i) kvs qs vs h1 r⟩
    · cases (show v = _ from rx)
      exact ⟨_, DGet.k (k := .inr s) h2, find_rel DKey.at_ (fun a b e => by injection e) (.inr s) kvs qs vs h1 r⟩
  | true =>
    obtain ⟨qs, h1, h2⟩ := hd
    obtain ⟨xs, ks, rfl, hks, rfl⟩ := keyIn_tup hk
    obtain ⟨_, b, us, rfl, hb, r2⟩ := rx
    have e := keys_rep hks r2
    subst e
    exact ⟨_, DGet.t h2 hb, find_rel DKey.tup (fun a b e => by injection e) ks kvs qs vs h1 r⟩
theorem op_inD (hu : X.A.units + 1 < cLine) : OpR X (compareOp .In) (fun x y H Q => ∃ a o, y = .ref a ∧ DGet H a x o ∧ Q (.bl o.isSome) H) := by
  intro pins s σ H x y v u Q I rx ry h
  obtain ⟨a, o, rfl, g, q⟩ := h
  obtain rfl : u = Value.ref a := ry
  exact d_in hu I g rx fun s3 I3 => ⟨.bl o.isSome, H, I3, rfl, q⟩
theorem op_notInD (hu : X.A.units + 1 < cLine) : OpR X (compareOp .NotIn) (fun x y H Q => ∃ a o, y = .ref a ∧ DGet H a x o ∧ Q (.bl (!o.isSome)) H) := by
  intro pins s σ H x y v u Q I rx ry h
  obtain ⟨a, o, rfl, g, q⟩ := h
  obtain rfl : u = Value.ref a := ry
  exact d_notIn hu I g rx fun s3 I3 => ⟨.bl (!o.isSome), H, I3, rfl, q⟩
/-- the rule of a comparison's operator -/
def CmR (X : Cx) (cop : CmpOp) (o : Cm) : Prop := ∃ r, OpR X (compareOp cop) r ∧ ∀ F O H Hf σ x y v u d1 d2 (Q : VK) t, Ex Hf H → Lent X.K X.mg O H Hf d1 x v → Lent X.K X.mg O H Hf d2 y u → PVL.cmp o x y = some t → Q (.bl t) H → (F : Frame) = F → (σ : St) = σ → r v u H Q
theorem lexLt_eq : ∀ ns ms : List Int, HT.lexLt ns ms = PVL.lexLt ns ms
  | [], [] => rfl
  | [], _ :: _ => rfl
  | _ :: _, [] => rfl
  | x :: xs, y :: ys => by
    show (if x = y then HT.lexLt xs ys else decide (x < y)) = if x = y then PVL.lexLt xs ys else decide (x < y)
    rw [lexLt_eq xs ys]
theorem cm_lt (hr : Room n X.A) : CmR X .Lt .lt := by
  refine ⟨_, op_lt.or (op_ltT hr.units0), fun F O H Hf σ x y v u d1 d2 Q t sub lx ly e q _ _ => ?_⟩
  cases x <;> cases y <;> simp only [PVL.cmp] at e <;> first | (cases e; done) | skip
  · cases e
    cases lx.flat (by simp)
    cases ly.flat (by simp)
    exact .inl ⟨_, _, rfl, rfl, q⟩
  · rename_i xs ys
    cases e1 : ints? xs with
    | none => rw [e1] at e; cases e
    | some ns =>
      cases e2 : ints? ys with
      | none => rw [e1, e2] at e; cases e
      | some ms =>
        rw [e1, e2] at e
        cases e
        obtain ⟨_, p1, vs, rfl, t1, r1⟩ := lx.tup sub
        obtain ⟨_, p2, us, rfl, t2, r2⟩ := ly.tup sub
        obtain ⟨rfl, _⟩ := ints_rep e1 r1
        obtain ⟨rfl, _⟩ := ints_rep e2 r2
        exact .inr ⟨p1, p2, ns, ms, rfl, rfl, SqT.of t1, SqT.of t2, by rw [lexLt_eq]; exact q⟩
theorem cm_int {cop : CmpOp} {o : Cm} {g : Int → Int → Bool} (rule : OpR X (compareOp cop) (rI0 fun i j => .bl (g i j))) (he : ∀ x y t, PVL.cmp o x y = some t → ∃ i j, x = .int i ∧ y = .int j ∧ t = g i j) : CmR X cop o := by
  refine ⟨_, rule, fun F O H Hf σ x y v u d1 d2 Q t sub lx ly e q _ _ => ?_⟩
  obtain ⟨i, j, rfl, rfl, rfl⟩ := he _ _ _ e
  cases lx.flat (by simp)
  cases ly.flat (by simp)
  exact ⟨_, _, rfl, rfl, q⟩
theorem cm_le : CmR X .LtE .le := cm_int op_le fun x y t e => by
  cases x <;> cases y <;> simp only [PVL.cmp] at e <;> first | (cases e; done) | exact ⟨_, _, rfl, rfl, (Option.some.inj e).symm⟩
theorem cm_gt : CmR X .Gt .gt := cm_int op_gt fun x y t e => by
  cases x <;> cases y <;> simp only [PVL.cmp] at e <;> first | (cases e; done) | exact ⟨_, _, rfl, rfl, (Option.some.inj e).symm⟩
theorem cm_ge : CmR X .GtE .ge := cm_int op_ge fun x y t e => by
  cases x <;> cases y <;> simp only [PVL.cmp] at e <;> first | (cases e; done) | exact ⟨_, _, rfl, rfl, (Option.some.inj e).symm⟩
theorem cm_eq (hr : Room n X.A) : CmR X .Eq .eq := by
  refine ⟨_, op_eqD hr.units, fun F O H Hf σ x y v u d1 d2 Q t sub lx ly e q _ _ => ?_⟩
  simp only [PVL.cmp] at e
  split at e
  · rename_i h
    cases e
    rw [Bool.and_eq_true] at h
    exact ⟨_, _, dp_of x 60 v h.1 (lx.rep sub), dp_of y 60 u h.2 (ly.rep sub), shaped_of h.1, shaped_of h.2, by rw [eqv_toD x y 60 60 h.1 h.2]; exact q⟩
  · cases e
theorem cm_ne (hr : Room n X.A) : CmR X .NotEq .ne := by
  refine ⟨_, op_neD hr.units, fun F O H Hf σ x y v u d1 d2 Q t sub lx ly e q _ _ => ?_⟩
  simp only [PVL.cmp] at e
  split at e
  · rename_i h
    cases e
    rw [Bool.and_eq_true] at h
    exact ⟨_, _, dp_of x 60 v h.1 (lx.rep sub), dp_of y 60 u h.2 (ly.rep sub), shaped_of h.1, shaped_of h.2, by rw [eqv_toD x y 60 60 h.1 h.2]; exact q⟩
  · cases e
theorem cm_in (hr : Room n X.A) : CmR X .In .isin := by
  refine ⟨_, op_in_seq.or (op_inD (hu_of hr)), fun F O H Hf σ x y v u d1 d2 Q t sub lx ly e q _ _ => ?_⟩
  cases y <;> simp only [PVL.cmp] at e <;> first | (cases e; done) | skip
  case dct t kvs =>
    cases ek : keyIn t x with
    | none => rw [ek] at e; cases e
    | some k =>
      rw [ek] at e
      cases e
      obtain ⟨i, p, ow⟩ := ly
      obtain ⟨_, a, vs, rfl, hd, r2⟩ := ow.rep sub
      obtain ⟨o, g, ho⟩ := dget_at hd r2 ek (lx.rep sub)
      refine .inr ⟨a, o, rfl, g, ?_⟩
      cases eg : dget kvs k with
      | none => rw [eg] at ho; dsimp only at q; rw [eg] at q; subst ho; exact q
      | some y => rw [eg] at ho; dsimp only at q; rw [eg] at q; obtain ⟨u, rfl, _⟩ := ho; exact q
  all_goals
    split at e
    · rename_i h
      cases e
      rw [Bool.and_eq_true] at h
      obtain ⟨_, p, us, rfl, t2, r2⟩ := ly.rep sub
      obtain ⟨i1, i2⟩ := inV_of h.1 (lx.rep sub) h.2 r2
      exact .inl ⟨p, us, rfl, by first | exact .inr (SqT.of t2) | exact .inl (SqL.of t2), flatV_of h.1 (lx.rep sub), i1, by simpa [i2] using q⟩
    · cases e
theorem cm_notin (hr : Room n X.A) : CmR X .NotIn .notin := by
  refine ⟨_, op_notIn_seq.or (op_notInD (hu_of hr)), fun F O H Hf σ x y v u d1 d2 Q t sub lx ly e q _ _ => ?_⟩
  cases y <;> simp only [PVL.cmp] at e <;> first | (cases e; done) | skip
  case dct t kvs =>
    cases ek : keyIn t x with
    | none => rw [ek] at e; cases e
    | some k =>
      rw [ek] at e
      cases e
      obtain ⟨i, p, ow⟩ := ly
      obtain ⟨_, a, vs, rfl, hd, r2⟩ := ow.rep sub
      obtain ⟨o, g, ho⟩ := dget_at hd r2 ek (lx.rep sub)
      refine .inr ⟨a, o, rfl, g, ?_⟩
      cases eg : dget kvs k with
      | none => rw [eg] at ho; dsimp only at q; rw [eg] at q; subst ho; exact q
      | some y => rw [eg] at ho; dsimp only at q; rw [eg] at q; obtain ⟨u, rfl, _⟩ := ho; exact q
  all_goals
    split at e
    · rename_i h
      cases e
      rw [Bool.and_eq_true] at h
      obtain ⟨_, p, us, rfl, t2, r2⟩ := ly.rep sub
      obtain ⟨i1, i2⟩ := inV_of h.1 (lx.rep sub) h.2 r2
      exact .inl ⟨p, us, rfl, by first | exact .inr (SqT.of t2) | exact .inl (SqL.of t2), flatV_of h.1 (lx.rep sub), i1, by simpa [i2] using q⟩
    · cases e
theorem s_cmp {cop : CmpOp} {o : Cm} (R : CmR X cop o) (hm : behindInMarks cop eb = false) (ha : PE X ea ((tM X.K X.mg F W call) a)) (hb : PE X eb ((tM X.K X.mg F W call) b)) : PE X (.Compare ea [cop] [eb] pos) ((tM X.K X.mg F W call) (.cmp o a b)) := by
  obtain ⟨r, hr, kk⟩ := R
  refine PE.imp (pe_cmpR hr ha hb hm) fun σ H Q h => s_bin (f := fun x y c => .of ((PVL.cmp o x y).map .bl) c) h fun O H Hf x y v u c sub ck lx ly hw => ?_
  obtain ⟨d1, e1, lx⟩ := lx
  obtain ⟨d2, e2, ly⟩ := ly
  obtain ⟨z, ez, hq⟩ := wn_of hw
  cases e : PVL.cmp o x y with
  | none => rw [e] at ez; cases ez
  | some t =>
    rw [e] at ez
    cases ez
    exact kk F O H Hf σ x y v u d1 d2 Q t sub lx ly e (fin_at hq sub ck rfl) rfl rfl
end
end PVL
end

section
set_option Elab.async false
set_option linter.all false
set_option maxRecDepth 100000
set_option maxHeartbeats 2000000
/-! PVL5: truth, tests, displays, subscripts. -/
namespace PVL
open PySem L2
section
variable {X : Cx} {W : WX} {F : Frame} {call : CallF} {pos : Pos} {ea eb ec : Expr} {a b d : E} {n : Nat}
theorem isEmpty_len {xs : List PV} {vs : List V} (h : vs.length = xs.length) : vs.isEmpty = xs.isEmpty := by
  cases xs <;> cases vs <;> first | rfl | (simp at h)
theorem truV_of {K : PySem.W.Frag} {mg : Str → Option Value} {H : Hp} {x : PV} {v : V} {t : Bool} (e : truth x = some t) (r : Rep K mg H x v) : TruV K v H t := by
  cases x <;> simp only [truth] at e <;> first | (cases e; done) | skip
  · cases e; cases (show _ = _ from r); rfl
  · cases e; cases (show _ = _ from r); rfl
  · cases e; cases (show _ = _ from r); rfl
  · cases e
    obtain ⟨_, p, vs, rfl, t1, r1⟩ := r
    exact .inr (.inl ⟨vs, SqT.of t1, by rw [isEmpty_len r1.length]⟩)
  · cases e
    obtain ⟨_, p, vs, rfl, t1, r1⟩ := r
    exact .inl ⟨vs, SqL.of t1, by rw [isEmpty_len r1.length]⟩
/-- a test's reading -/
abbrev tT (K : PySem.W.Frag) (mg : Str → Option Value) (F : Frame) (W : WX) (call : CallF) (e : E) : TT := tB K mg F W fun env c => tst (lo AN (em call e env c))
/-- what a value's truth needs -/
theorem tst_one {a : E} {σ : St} {H : Hp} {Q : Bool → Hp → Prop} {k : V → Hp → Prop} (h : (tT X.K X.mg F W call) a σ H Q) (kk : ∀ (O : Ow) (H Hf : Hp) (x : PV) (v : V) (t : Bool), Ex Hf H → Rep X.K X.mg H x v → truth x = some t → Q t H → k v H) : (tM X.K X.mg F W call) a σ H k := by
  obtain ⟨env, c, Hf, O, g, h⟩ := h
  refine ⟨env, c, Hf, O, g, wn_lo (n := AN) (f := fun x c => .of (truth x) c) h fun x c1 v H1 Hf1 s1 k1 l1 h1 => ?_⟩
  obtain ⟨d1, e1, l1⟩ := l1
  obtain ⟨t, et, hq⟩ := wn_of h1
  exact kk O H1 Hf1 x v t s1.sub (l1.rep s1.sub) et (hq t H1 Hf1 (Step.refl s1.sub) k1 rfl)
def plainT : Expr → Bool
  | .UnaryOp .. | .BoolOp .. | .IfExp .. | .Compare .. => false
  | _ => true
theorem plain_is {e : Expr} {env : PySem.Env} (h : plainT e = true) : ∀ whole, isTrue e env whole = (do let v ← whole; standAt e.pos; holding [v] (truthy v)) := by
  intro whole
  cases e <;> first | (cases h; done) | rfl
theorem t_plain (hp : plainT ea = true) (ha : PE X ea ((tM X.K X.mg F W call) a)) : PT X ea ((tT X.K X.mg F W call) a) :=
  PT.imp (pt_truth ha (plain_is hp)) fun σ H Q h => tst_one h fun O H Hf x v t sub r et q => ⟨t, truV_of et r, q⟩
theorem t_not (ha : PT X ea ((tT X.K X.mg F W call) a)) : PT X (.UnaryOp .Not ea pos) ((tT X.K X.mg F W call) (.not a)) := by
  refine PT.imp (pt_not ha) fun σ H Q ⟨env, c, Hf, O, g, h⟩ => ?_
  refine ⟨env, c, Hf, O, g, ?_⟩
  have h' : Wn X.K X.mg F W pB σ O H Hf ((tst (lo AN (em call a env c))).bind fun t c => .ok (!t) c) Q := by
    have e : tst (lo AN (em call (.not a) env c)) = (tst (lo AN (em call a env c))).bind fun t c => .ok (!t) c := by
      show tst (lo AN (hi ((tst (lo AN (em call a env c))).bind fun t c => .ok (.bl (!t)) c))) = _
      rw [lo_hi]
      cases tst (lo AN (em call a env c)) <;> rfl
    rw [← e]
    exact h
  exact wn_bind h' fun t c1 v H1 Hf1 _ s1 k1 p1 h1 => by
    cases (show v = t from p1)
    exact h1 _ H1 Hf1 (Step.refl s1.sub) k1 rfl
theorem s_not (ha : PE X ea ((tM X.K X.mg F W call) a)) : PE X (.UnaryOp .Not ea pos) ((tM X.K X.mg F W call) (.not a)) := by
  refine PE.imp (pe_notT ha) fun σ H Q ⟨env, c, Hf, O, g, h⟩ => ?_
  have h' : Wn X.K X.mg F W (pZ X.K X.mg) σ O H Hf ((lo AN (em call a env c)).bind fun x c => (Res.of (truth x) c).bind fun t c => .ok (.bl (!t)) c) Q := by
    have e : (lo AN (em call a env c)).bind (fun x c => (Res.of (truth x) c).bind fun t c => Res.ok (PV.bl (!t)) c) = (tst (lo AN (em call a env c))).bind fun t c => .ok (.bl (!t)) c := by
      unfold tst
      cases lo AN (em call a env c) <;> rfl
    rw [e]
    exact wn_hi h
  refine ⟨env, c, Hf, O, g, wn_lo h' fun x c1 v H1 Hf1 s1 k1 l1 h1 => ?_⟩
  obtain ⟨d1, e1, l1⟩ := l1
  cases et : truth x with
  | none => rw [et] at h1; exact h1.elim
  | some t =>
    rw [et] at h1
    exact ⟨t, truV_of et (l1.rep s1.sub), h1 _ H1 Hf1 (Step.refl s1.sub) k1 rfl⟩
theorem and_val {σ : St} {H : Hp} {Q : V → Hp → Prop} (h : (tM X.K X.mg F W call) (.and a b) σ H Q) : tAndT X.K ((tM X.K X.mg F W call) a) ((tM X.K X.mg F W call) b) σ H Q := by
  obtain ⟨env, c, Hf, O, g, h⟩ := h
  refine ⟨env, c, Hf, O, g, wn_lo (n := 0) (f := fun x c => (Res.of (truth x) c).bind fun t c => if t then lo 0 (em call b env c) else .ok x c) (wn_hi h) fun x c1 v H1 Hf1 s1 k1 l1 h1 => ?_⟩
  obtain ⟨d1, e1, l1⟩ := l1
  have e0 : d1 = 0 := by omega
  subst e0
  cases et : truth x with
  | none => rw [et] at h1; exact h1.elim
  | some t =>
    rw [et] at h1
    refine ⟨t, truV_of et (l1.rep s1.sub), ?_⟩
    cases t with
    | true => exact ⟨env, c1, Hf1, O, g.step s1 k1, wn_lo (n := 0) (f := fun x c => .ok x c) (by cases q : lo 0 (em call b env c1) <;> (simp only [of_some, bind_ok, if_true, q] at h1; exact h1)) fun y c2 u H2 Hf2 s2 k2 l2 h2 => by
        obtain ⟨d2, e2, l2⟩ := l2
        have e0 : d2 = 0 := by omega
        subst e0
        exact h2 u H2 Hf2 (Step.refl s2.sub) k2 l2.rep0⟩
    | false => exact h1 v H1 Hf1 (Step.refl s1.sub) k1 l1.rep0
theorem or_val {σ : St} {H : Hp} {Q : V → Hp → Prop} (h : (tM X.K X.mg F W call) (.or a b) σ H Q) : tOrT X.K ((tM X.K X.mg F W call) a) ((tM X.K X.mg F W call) b) σ H Q := by
  obtain ⟨env, c, Hf, O, g, h⟩ := h
  refine ⟨env, c, Hf, O, g, wn_lo (n := 0) (f := fun x c => (Res.of (truth x) c).bind fun t c => if t then .ok x c else lo 0 (em call b env c)) (wn_hi h) fun x c1 v H1 Hf1 s1 k1 l1 h1 => ?_⟩
  obtain ⟨d1, e1, l1⟩ := l1
  have e0 : d1 = 0 := by omega
  subst e0
  cases et : truth x with
  | none => rw [et] at h1; exact h1.elim
  | some t =>
    rw [et] at h1
    refine ⟨t, truV_of et (l1.rep s1.sub), ?_⟩
    cases t with
    | false => exact ⟨env, c1, Hf1, O, g.step s1 k1, wn_lo (n := 0) (f := fun x c => .ok x c) (by cases q : lo 0 (em call b env c1) <;> (simp only [of_some, bind_ok, Bool.false_eq_true, if_false, q] at h1; exact h1)) fun y c2 u H2 Hf2 s2 k2 l2 h2 => by
        obtain ⟨d2, e2, l2⟩ := l2
        have e0 : d2 = 0 := by omega
        subst e0
        exact h2 u H2 Hf2 (Step.refl s2.sub) k2 l2.rep0⟩
    | true => exact h1 v H1 Hf1 (Step.refl s1.sub) k1 l1.rep0
theorem s_and {rest : List Expr} (ha : PE X ea ((tM X.K X.mg F W call) a)) (hb : PE X (.BoolOp .And (eb :: rest) pos) ((tM X.K X.mg F W call) b)) : PE X (.BoolOp .And (ea :: eb :: rest) pos) ((tM X.K X.mg F W call) (.and a b)) :=
  PE.imp (pe_andT ha hb) fun σ H Q h => and_val h
theorem s_or {rest : List Expr} (ha : PE X ea ((tM X.K X.mg F W call) a)) (hb : PE X (.BoolOp .Or (eb :: rest) pos) ((tM X.K X.mg F W call) b)) : PE X (.BoolOp .Or (ea :: eb :: rest) pos) ((tM X.K X.mg F W call) (.or a b)) :=
  PE.imp (pe_orT ha hb) fun σ H Q h => or_val h
/-- a test of a and b by the tests of both -/
theorem and_tst {σ : St} {H : Hp} {Q : Bool → Hp → Prop} (h : (tT X.K X.mg F W call) (.and a b) σ H Q) : L2.tAnd ((tT X.K X.mg F W call) a) ((tT X.K X.mg F W call) b) σ H Q := by
  obtain ⟨env, c, Hf, O, g, h⟩ := h
  have h' : Wn X.K X.mg F W pB σ O H Hf ((lo 0 (em call a env c)).bind fun x c => ((Res.of (truth x) c).bind fun t c => if t then lo 0 (em call b env c) else .ok x c).bind fun x c => .of (truth x) c) Q := by
    have e : tst (lo AN (em call (.and a b) env c)) = (lo 0 (em call a env c)).bind fun x c => ((Res.of (truth x) c).bind fun t c => if t then lo 0 (em call b env c) else .ok x c).bind fun x c => .of (truth x) c := by
      show tst (lo AN (hi _)) = _
      rw [lo_hi]
      unfold tst
      cases lo 0 (em call a env c) <;> rfl
    rw [← e]
    exact h
  refine ⟨env, c, Hf, O, g, ?_⟩
  have sub : Ex Hf H := g.sub
  show Wn X.K X.mg F W pB σ O H Hf (tst (lo AN (em call a env c))) _
  cases q : em call a env c with
  | stuck => rw [q] at h'; exact h'.elim
  | exc e c1 => rw [q] at h'; exact h'
  | ok p c1 =>
    obtain ⟨d1, x⟩ := p
    rw [q] at h'
    by_cases hd : d1 ≤ 0
    · simp only [lo_ok, hd, if_true, bind_ok] at h'
      have hA : d1 ≤ AN := Nat.le_trans hd (by decide)
      simp only [lo_ok, hA, if_true, tst, bind_ok]
      cases et : truth x with
      | none => rw [et] at h'; exact h'.elim
      | some t =>
        rw [et] at h'
        intro v H1 Hf1 s1 k1 p1
        cases (show v = t from p1)
        cases t with
        | true =>
          refine ⟨env, c1, Hf1, O, g.step s1 k1, ?_⟩
          show Wn X.K X.mg F W pB σ O H1 Hf1 (tst (lo AN (em call b env c1))) _
          unfold tst
          simp only [of_some, bind_ok, if_true] at h'
          cases qb : em call b env c1 with
          | stuck => rw [qb] at h'; exact h'.elim
          | exc e c2 => rw [qb] at h'; exact Wn.after (r := .exc e c2) h' s1
          | ok p2 c2 =>
            obtain ⟨d2, y⟩ := p2
            rw [qb] at h'
            by_cases hd2 : d2 ≤ 0
            · have hA2 : d2 ≤ AN := Nat.le_trans hd2 (by decide)
              simp only [lo_ok, hd2, if_true, bind_ok] at h'
              simp only [lo_ok, hA2, if_true, bind_ok]
              exact Wn.after h' s1
            · simp only [lo_ok, hd2, if_false, bind_stuck] at h'
              exact h'.elim
        | false =>
          simp only [of_some, bind_ok, Bool.false_eq_true, if_false, et] at h'
          exact h' false H1 Hf1 s1 k1 rfl
    · simp only [lo_ok, hd, if_false, bind_stuck] at h'
      exact h'.elim
theorem or_tst {σ : St} {H : Hp} {Q : Bool → Hp → Prop} (h : (tT X.K X.mg F W call) (.or a b) σ H Q) : L2.tOr ((tT X.K X.mg F W call) a) ((tT X.K X.mg F W call) b) σ H Q := by
  obtain ⟨env, c, Hf, O, g, h⟩ := h
  have h' : Wn X.K X.mg F W pB σ O H Hf ((lo 0 (em call a env c)).bind fun x c => ((Res.of (truth x) c).bind fun t c => if t then .ok x c else lo 0 (em call b env c)).bind fun x c => .of (truth x) c) Q := by
    have e : tst (lo AN (em call (.or a b) env c)) = (lo 0 (em call a env c)).bind fun x c => ((Res.of (truth x) c).bind fun t c => if t then .ok x c else lo 0 (em call b env c)).bind fun x c => .of (truth x) c := by
      show tst (lo AN (hi _)) = _
      rw [lo_hi]
      unfold tst
      cases lo 0 (em call a env c) <;> rfl
    rw [← e]
    exact h
  refine ⟨env, c, Hf, O, g, ?_⟩
  have sub : Ex Hf H := g.sub
  show Wn X.K X.mg F W pB σ O H Hf (tst (lo AN (em call a env c))) _
  cases q : em call a env c with
  | stuck => rw [q] at h'; exact h'.elim
  | exc e c1 => rw [q] at h'; exact h'
  | ok p c1 =>
    obtain ⟨d1, x⟩ := p
    rw [q] at h'
    by_cases hd : d1 ≤ 0
    · simp only [lo_ok, hd, if_true, bind_ok] at h'
      have hA : d1 ≤ AN := Nat.le_trans hd (by decide)
      simp only [lo_ok, hA, if_true, tst, bind_ok]
      cases et : truth x with
      | none => rw [et] at h'; exact h'.elim
      | some t =>
        rw [et] at h'
        intro v H1 Hf1 s1 k1 p1
        cases (show v = t from p1)
        cases t with
        | false =>
          refine ⟨env, c1, Hf1, O, g.step s1 k1, ?_⟩
          show Wn X.K X.mg F W pB σ O H1 Hf1 (tst (lo AN (em call b env c1))) _
          unfold tst
          simp only [of_some, bind_ok, Bool.false_eq_true, if_false] at h'
          cases qb : em call b env c1 with
          | stuck => rw [qb] at h'; exact h'.elim
          | exc e c2 => rw [qb] at h'; exact Wn.after (r := .exc e c2) h' s1
          | ok p2 c2 =>
            obtain ⟨d2, y⟩ := p2
            rw [qb] at h'
            by_cases hd2 : d2 ≤ 0
            · have hA2 : d2 ≤ AN := Nat.le_trans hd2 (by decide)
              simp only [lo_ok, hd2, if_true, bind_ok] at h'
              simp only [lo_ok, hA2, if_true, bind_ok]
              exact Wn.after h' s1
            · simp only [lo_ok, hd2, if_false, bind_stuck] at h'
              exact h'.elim
        | true =>
          simp only [of_some, bind_ok, if_true, et] at h'
          exact h' true H1 Hf1 s1 k1 rfl
    · simp only [lo_ok, hd, if_false, bind_stuck] at h'
      exact h'.elim
theorem t_cmp {cop : CmpOp} {o : Cm} (R : CmR X cop o) (hm : behindInMarks cop eb = false) (ha : PE X ea ((tM X.K X.mg F W call) a)) (hb : PE X eb ((tM X.K X.mg F W call) b)) : PT X (.Compare ea [cop] [eb] pos) ((tT X.K X.mg F W call) (.cmp o a b)) := by
  obtain ⟨r, hr, kk⟩ := R
  refine PT.imp (pt_cmpR hr ha hb hm) fun σ H Q ⟨env, c, Hf, O, g, h⟩ => ?_
  have h' : Wn X.K X.mg F W pB σ O H Hf ((lo AN (em call a env c)).bind fun x c => (lo AN (em call b env c)).bind fun y c => .of (PVL.cmp o x y) c) Q := by
    have e : tst (lo AN (em call (.cmp o a b) env c)) = (lo AN (em call a env c)).bind fun x c => (lo AN (em call b env c)).bind fun y c => .of (PVL.cmp o x y) c := by
      show tst (lo AN (hi _)) = _
      rw [lo_hi]
      unfold tst
      cases lo AN (em call a env c) with
      | ok x c1 =>
        simp only [bind_ok]
        cases lo AN (em call b env c1) with
        | ok y c2 =>
          simp only [bind_ok]
          cases PVL.cmp o x y <;> rfl
        | exc e c2 => rfl
        | stuck => rfl
      | exc e c1 => rfl
      | stuck => rfl
    rw [← e]
    exact h
  refine ⟨env, c, Hf, O, g, wn_lo h' fun x c1 v H1 Hf1 s1 k1 l1 h1 => ⟨env, c1, Hf1, O, g.step s1 k1, wn_lo h1 fun y c2 u H2 Hf2 s2 k2 l2 h2 => ?_⟩⟩
  obtain ⟨d1, e1, l1⟩ := l1
  obtain ⟨d2, e2, l2⟩ := l2
  obtain ⟨t, et, hq⟩ := wn_of h2
  exact kk F O H2 Hf2 σ x y v u d1 d2 _ t s2.sub (l1.step s2) l2 et ⟨t, rfl, hq t H2 Hf2 (Step.refl s2.sub) k2 rfl⟩ rfl rfl
end
end PVL
end

section
set_option Elab.async false
set_option linter.all false
set_option maxRecDepth 100000
set_option maxHeartbeats 4000000
/-! PVL6: products; is; chains; conditional expressions; displays; subscripts; built-ins. -/
namespace L2
open PySem PySem.Spec PyProof.Rows
theorem tuple_mulW1 (l : Addr) (items : Array Value) (n : Nat) (dd : Option Addr) (sl : Array (Option Value)) (u : Tok) (hne : items.isEmpty = false) :
    Meets (Builtin.«tuple.__mul__» ⟨[.ref l, .int 1 u], []⟩) (fun _ R s => s.heap.get? l = some { cls := .type "tuple", dict := dd, data := .seq items n, slots := sl } ∧
      R (.ok (.ret (Value.ref l))) s) :=
  .of_wp fun prog w A R s h => by
    obtain ⟨hp, g, d, tk, os⟩ := s
    obtain ⟨hl, h⟩ := h
    have f1 := AutoSeq1.idx_int
    wp_walk using wpAny_loadPart' hl
    exact ⟨_, rfl, h⟩
section
variable {X : Cx}
def rRepT1 (K : PySem.W.Frag) : R2 := fun x y H Q => ∃ l xs, x = .ref l ∧ y = .int 1 ∧ SqT K H l xs ∧ xs ≠ [] ∧ Q (.ref l) H
theorem op_repT1 : OpR X (binaryOp .Mult) (rRepT1 X.K) := by
  intro pins s σ H x y v u Q I rx ry h
  obtain ⟨l, xs, rfl, rfl, hT, hne, q⟩ := h
  cases rx
  obtain ⟨t, rfl⟩ := ry
  obtain ⟨its, r, ⟨⟨cls, dd, data, sl⟩, ho, hc, n, hd⟩, hs⟩ := I.tuple hT
  simp only at hc hd
  subst hc hd
  have hle : its.length = xs.length := r.length.symm
  have hi : its.toArray.isEmpty = false := by
    cases its with
    | nil => exact absurd (List.eq_nil_of_length_eq_zero hle.symm) hne
    | cons a b => rfl
  refine wpAny_binaryOp_repeat_ref (T := "tuple") (U := "int") (by decide) ⟨_, ho, rfl⟩ (fun s' => typeIs_int s' 1 t) noFill_tuple_mul F.fills_int_mul F.slot_int_rmul repeat_tuple F.slot_int_index.lookup
    (call_meets F.slot_int_rmul (typeIs_int s 1 t) F.entry_int_rmul (F.args_int_rmul_2 _ _) (int_rmul_tuple 1 t l its.toArray n dd sl)
      ⟨ho, rfl, ⟨_, ho, rfl⟩, call_meets F.slot_tuple_mul ⟨_, ho, rfl⟩ F.entry_tuple_mul (F.args_tuple_mul_2 _ _) (tuple_mulW1 l its.toArray n dd sl t hi) ⟨ho, ?_⟩⟩)
  exact ⟨.ref l, H, I, rfl, q⟩
theorem is_bool_gen {M : Model} {A : Around} {E : Value → Shared → Prop} {s : Shared} {Q : Value → Shared → Prop} {v : Value} {b : Bool} (hv : ∀ n, v ≠ .builtin n) (h : Q (.bool (v == .bool b)) s) : wpAny M A (compareOp .Is v (.bool b)) Q E s := by
  cases v <;> first | exact wpAny_pure h | exact absurd rfl (hv _)
theorem isnot_bool_gen {M : Model} {A : Around} {E : Value → Shared → Prop} {s : Shared} {Q : Value → Shared → Prop} {v : Value} {b : Bool} (hv : ∀ n, v ≠ .builtin n) (h : Q (.bool (!(v == .bool b))) s) : wpAny M A (compareOp .IsNot v (.bool b)) Q E s := by
  cases v <;> first | exact wpAny_pure h | exact absurd rfl (hv _)
theorem rel_bool {x : V} {v : Value} {b : Bool} (r : RelV x v) : (v == Value.bool b) = decide (x = .bl b) := by
  cases x with
  | non => cases r; rfl
  | bl c => cases r; cases b <;> cases c <;> rfl
  | int _ => obtain ⟨t, rfl⟩ := r; rfl
  | str _ => obtain ⟨t, rfl⟩ := r; rfl
  | byt _ => obtain ⟨t, rfl⟩ := r; rfl
  | flt _ => obtain ⟨t, rfl⟩ := r; rfl
  | ref _ => cases r; rfl
  | ty _ => cases r; rfl
theorem rel_nobuiltin {x : V} {v : Value} (r : RelV x v) : ∀ n, v ≠ .builtin n := by
  intro n e
  cases x with
  | non => cases r; cases e
  | bl c => cases r; cases e
  | int _ => obtain ⟨t, rfl⟩ := r; cases e
  | str _ => obtain ⟨t, rfl⟩ := r; cases e
  | byt _ => obtain ⟨t, rfl⟩ := r; cases e
  | flt _ => obtain ⟨t, rfl⟩ := r; cases e
  | ref _ => cases r; cases e
  | ty _ => cases r; cases e
theorem op_isB : OpR X (compareOp .Is) (fun x y H Q => ∃ b, y = .bl b ∧ Q (.bl (decide (x = .bl b))) H) := by
  intro pins s σ H x y v u Q I rx ry h
  obtain ⟨b, rfl, q⟩ := h
  cases ry
  exact is_bool_gen (rel_nobuiltin rx) (fin_bl I q (rel_bool rx).symm)
theorem op_isnotB : OpR X (compareOp .IsNot) (fun x y H Q => ∃ b, y = .bl b ∧ Q (.bl (!decide (x = .bl b))) H) := by
  intro pins s σ H x y v u Q I rx ry h
  obtain ⟨b, rfl, q⟩ := h
  cases ry
  exact isnot_bool_gen (rel_nobuiltin rx) (fin_bl I q (congrArg not (rel_bool rx).symm))
end
end L2
namespace PVL
open PySem L2
section
variable {X : Cx} {W : WX} {F : Frame} {call : CallF} {pos : Pos} {ea eb ec : Expr} {a b d : E} {n : Nat}
theorem small_iff {i : Int} : small i = true → -(2 ^ 64) < i ∧ i < 2 ^ 64 := by
  unfold small B64
  intro h
  rw [Bool.and_eq_true] at h
  have h1 := of_decide_eq_true h.1
  have h2 := of_decide_eq_true h.2
  omega
theorem f_mul (ha : PE X ea ((tM X.K X.mg F W call) a)) (hb : PE X eb ((tM X.K X.mg F W call) b)) : PE X (.BinOp ea .Mult eb pos) (tF X.K X.mg F W call 1 (.op .mul a b)) := by
  refine PE.imp (pe_op (op_mul.or (op_repT.or (op_repT1.or op_rep))) ha hb) fun σ H Q h => s_binF (f := fun x y c => .of (op2 .mul x y) c) h fun O H1 Hf x y v u c h0 sub ck lx ly hw => ?_
  obtain ⟨d1, e1, lx⟩ := lx
  obtain ⟨d2, e2, ly⟩ := ly
  obtain ⟨z, ez, hq⟩ := wn_of hw
  clear hw
  cases x <;> cases y <;> first | (simp only [op2] at ez; cases ez; done) | skip
  case int.int i j =>
    simp only [op2] at ez
    split at ez
    · rename_i hz
      cases ez
      cases lx.flat (by simp)
      cases ly.flat (by simp)
      refine .inl ⟨i, j, rfl, rfl, ?_, fin_at (fin_rep (by simp) hq) sub ck rfl⟩
      rw [Bool.or_eq_true] at hz
      rcases hz with hz | hz
      · exact .inl (small_iff hz)
      · exact .inr (small_iff hz)
    · cases ez
  case tup.int xs k =>
    simp only [op2] at ez
    split at ez
    · rename_i hz
      cases ez
      cases ly.flat (by simp)
      obtain ⟨n1, p1, vs, rfl, t1, r1⟩ := lx.tup sub
      have l1 := r1.length
      simp only [Bool.and_eq_true, decide_eq_true_eq] at hz
      obtain ⟨⟨⟨z1, z2⟩, z3⟩, z4⟩ := hz
      have hne : vs ≠ [] := fun e => by subst e; have : xs = [] := by simpa using l1.symm
                                        subst this; simp at z1
      have hrep : ∀ (k : Nat) {Hf : Hp}, RepL X.K X.mg Hf xs vs → RepL X.K X.mg Hf (List.replicate k xs).flatten (List.replicate k vs).flatten := by
        intro k Hf hr
        induction k with
        | zero => rfl
        | succ k ih => rw [List.replicate_succ, List.replicate_succ, List.flatten_cons, List.flatten_cons]; exact hr.app ih
      have hlen : ((List.replicate k.toNat xs).flatten).length ≤ SZ := by
        rw [PyProof.Rows.lm_len_rep_flat]
        have a1 : k.toNat * xs.length ≤ 1000 * 1000 := Nat.mul_le_mul (by omega) z2
        unfold SZ; omega
      by_cases k1 : k = 1
      · subst k1
        refine .inr (.inr (.inl ⟨p1, vs, rfl, rfl, SqT.of t1, hne, fin_at (fin_rep (by simp) hq) sub ck ?_⟩))
        have : (List.replicate (1 : Int).toNat xs).flatten = xs := by simp
        rw [this]
        exact lx.flat (by simp)
      · refine .inr (.inl ⟨p1, k, vs, rfl, rfl, SqT.of t1, hne, by omega, by omega, by omega, fun p hp => ?_⟩)
        exact fin_lay (fin_rep (by simp) hq) sub ck hp fun ex => ⟨hlen, p, _, rfl, upd_same, hrep _ (r1.ex ex)⟩
    · cases ez
  case lst.int xs k =>
    simp only [op2] at ez
    split at ez
    · rename_i hz
      cases ez
      cases ly.flat (by simp)
      obtain ⟨n1, p1, vs, rfl, t1, r1⟩ := lx.lst sub e1
      have l1 := r1.length
      simp only [Bool.and_eq_true, decide_eq_true_eq] at hz
      obtain ⟨⟨z2, z3⟩, z4⟩ := hz
      have hrep : ∀ (k : Nat) {Hf : Hp}, RepL X.K X.mg Hf xs vs → RepL X.K X.mg Hf (List.replicate k xs).flatten (List.replicate k vs).flatten := by
        intro k Hf hr
        induction k with
        | zero => rfl
        | succ k ih => rw [List.replicate_succ, List.replicate_succ, List.flatten_cons, List.flatten_cons]; exact hr.app ih
      have a1 : k.toNat * xs.length ≤ 1000 * 1000 := Nat.mul_le_mul (by omega) z2
      have hlen : ((List.replicate k.toNat xs).flatten).length ≤ SZ := by
        rw [PyProof.Rows.lm_len_rep_flat]
        unfold SZ; omega
      refine .inr (.inr (.inr ⟨p1, k, vs, rfl, rfl, t1, by omega, by omega, ?_, fun p hp => ?_⟩))
      · rw [l1, sizeLine_eq, Nat.mul_comm]; omega
      · exact fin_new hq h0 sub ck hp hlen (hrep _ r1)
    · cases ez
theorem s_mul (ha : PE X ea ((tM X.K X.mg F W call) a)) (hb : PE X eb ((tM X.K X.mg F W call) b)) : PE X (.BinOp ea .Mult eb pos) ((tM X.K X.mg F W call) (.op .mul a b)) := of_fresh (f_mul ha hb) fun _ _ _ _ _ e => hi_zero e
/-! ### is -/
def singV : Sing → V
  | .non => .non
  | .tt => .bl true
  | .ff => .bl false
theorem isS_of {s : Sing} {K : PySem.W.Frag} {mg : Str → Option Value} {H : Hp} {x : PV} {v : V} (r : Rep K mg H x v) : decide (v = singV s) = isS s x := by
  cases s <;> cases x <;> first
    | (cases (show _ = _ from r); rfl)
    | (rename_i b; cases (show _ = _ from r); cases b <;> rfl)
    | (obtain ⟨_, p, vs, rfl, _⟩ := r; rfl)
    | (obtain ⟨p, rfl, _⟩ := r; rfl)
theorem s_is {cop : CmpOp} {ng : Bool} {s : Sing} {r : R2} (hr : OpR X (compareOp cop) r) (kk : ∀ v H (Q : VK), Q (.bl (if ng then !decide (v = singV s) else decide (v = singV s))) H → r v (singV s) H Q) (hb : PE X eb (tC (singV s))) (hm : behindInMarks cop eb = false)
    (ha : PE X ea ((tM X.K X.mg F W call) a)) : PE X (.Compare ea [cop] [eb] pos) ((tM X.K X.mg F W call) (.is ng s a)) := by
  refine PE.imp (pe_cmpR hr ha hb hm) fun σ H Q h => s_one (f := fun x c => .ok (.bl (if ng then !isS s x else isS s x)) c) h fun O H Hf x v c d sub ck hd l1 hw => ?_
  have e0 : d = 0 := by omega
  subst e0
  refine kk v H Q ?_
  rw [isS_of l1.rep0]
  exact hw _ H Hf (Step.refl sub) ck rfl
theorem t_is {cop : CmpOp} {ng : Bool} {s : Sing} {r : R2} (hr : OpR X (compareOp cop) r) (kk : ∀ v H (Q : VK), Q (.bl (if ng then !decide (v = singV s) else decide (v = singV s))) H → r v (singV s) H Q) (hb : PE X eb (tC (singV s))) (hm : behindInMarks cop eb = false)
    (ha : PE X ea ((tM X.K X.mg F W call) a)) : PT X (.Compare ea [cop] [eb] pos) ((tT X.K X.mg F W call) (.is ng s a)) := by
  refine PT.imp (pt_cmpR hr ha hb hm) fun σ H Q ⟨env, c, Hf, O, g, h⟩ => ?_
  have h' : Wn X.K X.mg F W pB σ O H Hf ((lo 0 (em call a env c)).bind fun x c => .ok (if ng then !isS s x else isS s x) c) Q := by
    have e : tst (lo AN (em call (.is ng s a) env c)) = (lo 0 (em call a env c)).bind fun x c => .ok (if ng then !isS s x else isS s x) c := by
      show tst (lo AN (hi _)) = _
      rw [lo_hi]
      unfold tst
      cases lo 0 (em call a env c) <;> rfl
    rw [← e]
    exact h
  refine ⟨env, c, Hf, O, g, wn_lo h' fun x c1 v H1 Hf1 s1 k1 l1 h1 => ?_⟩
  obtain ⟨d1, e1, l1⟩ := l1
  have e0 : d1 = 0 := by omega
  subst e0
  refine kk v H1 _ ⟨_, rfl, ?_⟩
  rw [isS_of l1.rep0]
  exact h1 _ H1 Hf1 (Step.refl s1.sub) k1 rfl
/-! ### a op b op c -/
theorem chain_val {cop cop' : CmpOp} {o o' : Cm} {r r' : R2} {ψ : V → Hp → Prop} {σ : St} {H : Hp} {env : Env} {c : PV} {Hf : Hp} {O : Ow}
    (kk : ∀ (F : Frame) (O : Ow) (H Hf : Hp) (σ : St) (x y : PV) (v u : V) (d1 d2 : Nat) (Q : VK) (t : Bool), Ex Hf H → Lent X.K X.mg O H Hf d1 x v → Lent X.K X.mg O H Hf d2 y u → PVL.cmp o x y = some t → Q (.bl t) H → (F : Frame) = F → (σ : St) = σ → r v u H Q)
    (kk' : ∀ (F : Frame) (O : Ow) (H Hf : Hp) (σ : St) (x y : PV) (v u : V) (d1 d2 : Nat) (Q : VK) (t : Bool), Ex Hf H → Lent X.K X.mg O H Hf d1 x v → Lent X.K X.mg O H Hf d2 y u → PVL.cmp o' x y = some t → Q (.bl t) H → (F : Frame) = F → (σ : St) = σ → r' v u H Q)
    (g : Good X.K X.mg F env c σ H Hf O)
    (h : Wn X.K X.mg F W pB σ O H Hf ((lo 0 (em call a env c)).bind fun x c => (lo 0 (em call b env c)).bind fun y c => (Res.of (PVL.cmp o x y) c).bind fun r c =>
      if r then (lo 0 (em call d env c)).bind fun z c => .of (PVL.cmp o' y z) c else .ok false c) fun t H' => ψ (.bl t) H') : tChain r r' ((tM X.K X.mg F W call) a) ((tM X.K X.mg F W call) b) ((tM X.K X.mg F W call) d) σ H ψ := by
  refine ⟨env, c, Hf, O, g, wn_lo h fun x c1 v H1 Hf1 s1 k1 l1 h1 => ⟨env, c1, Hf1, O, g.step s1 k1, wn_lo h1 fun y c2 u H2 Hf2 s2 k2 l2 h2 => ?_⟩⟩
  obtain ⟨d1, e1, l1⟩ := l1
  obtain ⟨d2, e2, l2⟩ := l2
  cases et : PVL.cmp o x y with
  | none => rw [et] at h2; exact h2.elim
  | some t =>
    rw [et] at h2
    refine kk F O H2 Hf2 σ x y v u d1 d2 _ t s2.sub (l1.step s2) l2 et ⟨t, rfl, ?_⟩ rfl rfl
    cases t with
    | false => exact h2 false H2 Hf2 (Step.refl s2.sub) k2 rfl
    | true =>
      refine ⟨env, c2, Hf2, O, (g.step s1 k1).step s2 k2, wn_lo (by simpa only [of_some, bind_ok, if_true] using h2) fun z c3 q H3 Hf3 s3 k3 l3 h3 => ?_⟩
      obtain ⟨d3, e3, l3⟩ := l3
      obtain ⟨t3, et3, hq⟩ := wn_of h3
      exact kk' F O H3 Hf3 σ y z u q d2 d3 _ t3 s3.sub (l2.step s3) l3 et3 (hq t3 H3 Hf3 (Step.refl s3.sub) k3 rfl) rfl rfl
theorem s_chain {cop cop' : CmpOp} {o o' : Cm} (R : CmR X cop o) (R' : CmR X cop' o') (hm : lastMarks [cop, cop'] [eb, ec] = false) (ha : PE X ea ((tM X.K X.mg F W call) a)) (hb : PE X eb ((tM X.K X.mg F W call) b)) (hc : PE X ec ((tM X.K X.mg F W call) d)) : PE X (.Compare ea [cop, cop'] [eb, ec] pos) ((tM X.K X.mg F W call) (.chain o o' a b d)) := by
  obtain ⟨r, hr, kk⟩ := R
  obtain ⟨r', hr', kk'⟩ := R'
  refine PE.imp (pe_chain hr hr' ha hb hc hm) fun σ H Q ⟨env, c, Hf, O, g, h⟩ => chain_val (cop := cop) (cop' := cop') kk kk' g ?_
  have h2 := wn_hi h
  have e : ((lo 0 (em call a env c)).bind fun x c => (lo 0 (em call b env c)).bind fun y c => (Res.of (PVL.cmp o x y) c).bind fun r c =>
      if r then (lo 0 (em call d env c)).bind fun z c => .of ((PVL.cmp o' y z).map PV.bl) c else .ok (.bl false) c) = ((lo 0 (em call a env c)).bind fun x c => (lo 0 (em call b env c)).bind fun y c => (Res.of (PVL.cmp o x y) c).bind fun r c =>
      if r then (lo 0 (em call d env c)).bind fun z c => .of (PVL.cmp o' y z) c else .ok false c).bind fun t c => .ok (.bl t) c := by
    cases lo 0 (em call a env c) with
    | ok x c1 =>
      simp only [bind_ok]
      cases lo 0 (em call b env c1) with
      | ok y c2 =>
        simp only [bind_ok]
        cases PVL.cmp o x y with
        | none => rfl
        | some t =>
          cases t with
          | false => rfl
          | true =>
            simp only [of_some, bind_ok, if_true]
            cases lo 0 (em call d env c2) with
            | ok z c3 => simp only [bind_ok]; cases PVL.cmp o' y z <;> rfl
            | exc e c3 => rfl
            | stuck => rfl
      | exc e c2 => rfl
      | stuck => rfl
    | exc e c1 => rfl
    | stuck => rfl
  have h3 : Wn X.K X.mg F W (pZ X.K X.mg) σ O H Hf _ Q := e ▸ h2
  exact wn_bind (post1 := pB) h3 fun t c1 v H1 Hf1 _ s1 k1 p1 h1 => by
    cases (show v = t from p1)
    exact h1 _ H1 Hf1 (Step.refl s1.sub) k1 rfl
theorem t_chain {cop cop' : CmpOp} {o o' : Cm} (R : CmR X cop o) (R' : CmR X cop' o') (hm : lastMarks [cop, cop'] [eb, ec] = false) (ha : PE X ea ((tM X.K X.mg F W call) a)) (hb : PE X eb ((tM X.K X.mg F W call) b)) (hc : PE X ec ((tM X.K X.mg F W call) d)) : PT X (.Compare ea [cop, cop'] [eb, ec] pos) ((tT X.K X.mg F W call) (.chain o o' a b d)) := by
  obtain ⟨r, hr, kk⟩ := R
  obtain ⟨r', hr', kk'⟩ := R'
  refine PT.imp (pt_chain hr hr' ha hb hc hm) fun σ H Q ⟨env, c, Hf, O, g, h⟩ => chain_val (cop := cop) (cop' := cop') kk kk' g ?_
  have e : tst (lo AN (em call (.chain o o' a b d) env c)) = ((lo 0 (em call a env c)).bind fun x c => (lo 0 (em call b env c)).bind fun y c => (Res.of (PVL.cmp o x y) c).bind fun r c =>
      if r then (lo 0 (em call d env c)).bind fun z c => .of (PVL.cmp o' y z) c else .ok false c) := by
    show tst (lo AN (hi _)) = _
    rw [lo_hi]
    unfold tst
    cases lo 0 (em call a env c) with
    | ok x c1 =>
      simp only [bind_ok]
      cases lo 0 (em call b env c1) with
      | ok y c2 =>
        simp only [bind_ok]
        cases PVL.cmp o x y with
        | none => rfl
        | some t =>
          cases t with
          | false => rfl
          | true =>
            simp only [of_some, bind_ok, if_true]
            cases lo 0 (em call d env c2) with
            | ok z c3 => simp only [bind_ok]; cases PVL.cmp o' y z <;> rfl
            | exc e c3 => rfl
            | stuck => rfl
      | exc e c2 => rfl
      | stuck => rfl
    | exc e c1 => rfl
    | stuck => rfl
  have h2 : Wn X.K X.mg F W pB σ O H Hf (tst (lo AN (em call (.chain o o' a b d) env c))) Q := h
  rw [e] at h2
  exact wn_mono (post2 := pB) (by
    cases q : ((lo 0 (em call a env c)).bind fun x c => (lo 0 (em call b env c)).bind fun y c => (Res.of (PVL.cmp o x y) c).bind fun r c =>
      if r then (lo 0 (em call d env c)).bind fun z c => .of (PVL.cmp o' y z) c else .ok false c) with
    | ok t c1 => rw [q] at h2; exact fun v H' Hf' s k p => ⟨v, rfl, h2 v H' Hf' s k p⟩
    | exc e c1 => rw [q] at h2; exact h2
    | stuck => rw [q] at h2; exact h2) fun _ _ _ _ _ _ p => p
/-! ### a if t else b -/
theorem s_ife (ht : PT X ec ((tT X.K X.mg F W call) d)) (ha : PE X ea ((tM X.K X.mg F W call) a)) (hb : PE X eb ((tM X.K X.mg F W call) b)) : PE X (.IfExp ec ea eb pos) ((tM X.K X.mg F W call) (.ife d a b)) := by
  refine PE.imp (pe_ifExp ht ha hb) fun σ H Q ⟨env, c, Hf, O, g, h⟩ => ⟨env, c, Hf, O, g, wn_bind (post1 := pB) (f := fun r c => if r then em call a env c else em call b env c) h fun t c1 v H1 Hf1 _ s1 k1 p1 h1 => ?_⟩
  cases (show v = t from p1)
  cases t with
  | true => exact ⟨env, c1, Hf1, O, g.step s1 k1, h1⟩
  | false => exact ⟨env, c1, Hf1, O, g.step s1 k1, h1⟩
end
end PVL
end

section
set_option Elab.async false
set_option linter.all false
set_option maxRecDepth 100000
set_option maxHeartbeats 4000000
/-! PVL7: arguments, displays, subscripts, slices, built-ins. -/
namespace PVL
open PySem L2
section
variable {X : Cx} {W : WX} {F : Frame} {call : CallF} {pos : Pos} {ea eb ec : Expr} {es : List Expr} {a b d : E} {as : List E} {n : Nat}
def notStar : Expr → Bool
  | .Starred .. => false
  | _ => true
theorem star_cons {e : Expr} {es : List Expr} {env : PySem.Env} (h : notStar e = true) : starEach (e :: es) env = (false, eval e env) :: starEach es env := by
  cases e <;> first | (cases h; done) | rfl
theorem star_none {env : PySem.Env} {pos : Pos} : ∀ {es : List Expr}, es.all notStar = true → (backTo pos (starEach es env)).any (·.1) = false
  | [], _ => rfl
  | e :: es, h => by
    rw [List.all_cons, Bool.and_eq_true] at h
    rw [star_cons h.1]
    exact star_none (es := es) h.2
theorem a_nil {n : Nat} : PA X [] ((tAs X.K X.mg F W call) n []) := PA.imp pa_nil fun σ H Q ⟨env, c, Hf, O, g, h⟩ => h [] H Hf (Step.refl g.sub) g.cell .nil
theorem a_cons {n : Nat} (hs : notStar ea = true) (ha : PE X ea ((tM X.K X.mg F W call) a)) (hr : PA X es ((tAs X.K X.mg F W call) n as)) : PA X (ea :: es) ((tAs X.K X.mg F W call) n (a :: as)) := by
  refine PA.imp (pa_cons ha hr (star_cons hs)) fun σ H Q ⟨env, c, Hf, O, g, h⟩ => ?_
  refine ⟨env, c, Hf, O, g, wn_lo (n := n) (f := fun x c => (evs call n as env c).bind fun xs c => .ok (x :: xs) c) h fun x c1 v H1 Hf1 s1 k1 l1 h1 => ⟨env, c1, Hf1, O, g.step s1 k1, wn_bind h1 fun xs c2 vs H2 Hf2 _ s2 k2 p2 h2 => ?_⟩⟩
  obtain ⟨d1, e1, l1⟩ := l1
  exact h2 (v :: vs) H2 Hf2 (Step.refl s2.sub) k2 (.cons ⟨d1, e1, l1.step s2⟩ p2)
theorem lents_rep {K : PySem.W.Frag} {mg : Str → Option Value} {O : Ow} {H Hf : Hp} : ∀ {xs : List PV} {vs : List V}, Paired (fun x v => pL K mg O 0 x v H Hf) xs vs → RepL K mg Hf xs vs
  | _, _, .nil => rfl
  | _, _, .cons ⟨d, hd, l⟩ r => by
    have e0 : d = 0 := by omega
    subst e0
    exact ⟨_, _, rfl, l.rep0, lents_rep r⟩
theorem evs_len {n : Nat} : ∀ {es : List E} {env : Env} {c : PV} {xs : List PV} {c' : PV}, evs call n es env c = .ok xs c' → xs.length = es.length
  | [], _, _, _, _, h => by cases h; rfl
  | e :: es, env, c, xs, c', h => by
    have h' : ((lo n (em call e env c)).bind fun x c => (evs call n es env c).bind fun xs c => Res.ok (x :: xs) c) = .ok xs c' := h
    cases q : lo n (em call e env c) with
    | ok x c1 =>
      rw [q] at h'
      simp only [bind_ok] at h'
      cases q2 : evs call n es env c1 with
      | ok ys c2 =>
        rw [q2] at h'
        cases h'
        rw [List.length_cons, List.length_cons, evs_len q2]
      | exc e c2 => rw [q2] at h'; cases h'
      | stuck => rw [q2] at h'; cases h'
    | exc e c1 => rw [q] at h'; cases h'
    | stuck => rw [q] at h'; cases h'
/-! ### displays -/
theorem s_tup {k : Nat} (hz : as.length ≤ 1000) (h : PA X es ((tAs X.K X.mg F W call) 0 as)) : PE X (.Tuple es k pos) ((tM X.K X.mg F W call) (.tup as)) := by
  refine PE.imp (pe_tup h) fun σ H Q ⟨env, c, Hf, O, g, h⟩ => ⟨env, c, Hf, O, g, wn_bind (f := fun xs c => .ok (0, PV.tup xs) c) h fun xs c1 vs H1 Hf1 e s1 k1 p1 h1 => ?_⟩
  have r := lents_rep p1
  have l := evs_len e
  have hz' : xs.length ≤ SZ := by unfold SZ; omega
  refine ⟨by rw [r.length]; exact SZ_le hz', fun p hp => ?_⟩
  exact h1 _ _ (upd Hf1 p _) (Step.lay s1.sub hp) (k1.lay hp (s1.sub.free hp)) (Lent.zero ⟨hz', p, vs, rfl, upd_same, r.ex (Ex.upd (s1.sub.free hp))⟩)
theorem f_lst (hz : as.length ≤ 1000) (h : PA X es ((tAs X.K X.mg F W call) 0 as)) : PE X (.List es pos) (tF X.K X.mg F W call 1 (.lst 0 as)) := by
  refine PE.imp (pe_lst h) fun σ H Q ⟨env, c, Hf, O, g, h⟩ => ⟨env, c, Hf, O, g, wn_bind (f := fun xs c => .ok (0, PV.lst xs) c) h fun xs c1 vs H1 Hf1 e s1 k1 p1 h1 => ?_⟩
  have r := lents_rep p1
  have l := evs_len e
  have hz' : xs.length ≤ SZ := by unfold SZ; omega
  refine ⟨by rw [r.length]; exact SZ_le hz', fun p hp => ?_⟩
  refine fin_new (Q := Q) h1 (fun p hp => ?_) s1.sub k1 hp hz' r
  cases q : H p with
  | none => rfl
  | some o =>
    obtain ⟨o', e', _⟩ := s1.there p o q
    rw [hp] at e'; cases e'
theorem bind0 {α : Type} {r : Res α} {f : α → PV} {n : Nat} {x c : PV} (h : (r.bind fun a c => .ok (0, f a) c) = .ok (n, x) c) : n = 0 := by
  cases r <;> simp only [bind_ok, bind_exc, bind_stuck] at h <;> first | (cases h; rfl) | cases h
theorem s_lst (hz : as.length ≤ 1000) (h : PA X es ((tAs X.K X.mg F W call) 0 as)) : PE X (.List es pos) ((tM X.K X.mg F W call) (.lst 0 as)) := of_fresh (f_lst hz h) fun _ _ _ _ _ e => bind0 (f := fun xs => .lst xs) e
theorem f_dct0 {t : Bool} : PE X (.Dict [] [] pos) (tF X.K X.mg F W call 1 (.dct0 t)) := by
  cases t with
  | false =>
    refine PE.imp pe_dnewK fun σ H Q ⟨env, c, Hf, O, g, h⟩ p hp => ?_
    refine h _ _ Hf (Step.lay0 g.sub hp) (g.cell.lay0 hp) ⟨fun a => if a = p then some [] else none, fun a q e => ?_, Nat.zero_le _, p, [], rfl, by simp, ⟨[], rfl, upd_same⟩, rfl, fun i x u e1 e2 => by simp at e1⟩
    by_cases e1 : a = p
    · subst e1
      exact ⟨hp, g.sub.free hp, _, upd_same, rfl⟩
    · simp [e1] at e
  | true =>
    refine PE.imp pe_dnewT fun σ H Q ⟨env, c, Hf, O, g, h⟩ p hp => ?_
    refine h _ _ Hf (Step.lay0 g.sub hp) (g.cell.lay0 hp) ⟨fun a => if a = p then some [] else none, fun a q e => ?_, Nat.zero_le _, p, [], rfl, by simp, ⟨[], rfl, upd_same⟩, rfl, fun i x u e1 e2 => by simp at e1⟩
    by_cases e1 : a = p
    · subst e1
      exact ⟨hp, g.sub.free hp, _, upd_same, rfl⟩
    · simp [e1] at e
theorem s_dct0 {t : Bool} : PE X (.Dict [] [] pos) ((tM X.K X.mg F W call) (.dct0 t)) := of_fresh f_dct0 fun _ _ _ _ _ e => by cases e; rfl
/-! ### built-ins -/
/-- the rule of a built-in of one argument -/
def B1R (X : Cx) (f : B1) (fv : Value) : Prop := ∃ r, CallR X fv r ∧ ∀ (F : Frame) (σ : St) (O : Ow) (H0 H Hf : Hp) (x z c : PV) (v : V) (d : Nat) (Q : VK), (∀ p, H p = none → H0 p = none) → Ex Hf H → CellOk X.K X.mg F σ H Hf O c → d ≤ 1 →
  Lent X.K X.mg O H Hf d x v → PVL.b1 f x = some z → (∀ v H' Hf', Step O H Hf H' Hf' → CellOk X.K X.mg F σ H' Hf' O c → Fresh X.K X.mg H0 H' Hf' 1 z v → Q v H') → r [v] H Q
theorem f_b1 {f : B1} {x : Str} {p : Pos} {fv : Value} (R : B1R X f fv) (ht : (∃ id, fv = .builtin id) ∨ ∃ T, fv = .type T) (hv : bootBuiltins x = some fv) (hg : Gl X x) (hm : X.mg x = none) (hn : x ≠ "__name__") (hd : (x == ("__debug__" : Str)) = false) (hs : notStar ea = true)
    (ha : PE X ea ((tM X.K X.mg F W call) a)) : PE X (.Call (.Name x p) [ea] [] pos) (tF X.K X.mg F W call 1 (.b1 f a)) := by
  obtain ⟨r, hr, kk⟩ := R
  have main : ∀ σ H Q, tF X.K X.mg F W call 1 (.b1 f a) σ H Q → tCB r (tCons ((tM X.K X.mg F W call) a) tNil) σ H Q := fun σ H Q h => s_oneF (na := 1) (f := fun x c => .of (PVL.b1 f x) c) h fun O H1 Hf x v c d1 h0 sub ck hd l1 hw => by
    obtain ⟨z, ez, hq⟩ := wn_of hw
    exact kk F σ O H H1 Hf x z c v d1 Q h0 sub ck hd l1 ez hq
  rcases ht with ⟨id, rfl⟩ | ⟨T, rfl⟩
  · exact PE.imp (pe_callB hr hg hm hv (pa_cons ha pa_nil (star_cons hs)) hn hd (star_cons hs) rfl) main
  · exact PE.imp (pe_callTy hr hg hm hv (pa_cons ha pa_nil (star_cons hs)) hn hd (star_cons hs) rfl) main
theorem b1_abs : B1R X .abs (.builtin "abs") := ⟨_, call_abs, fun F σ O H0 H Hf x z c v d Q h0 sub ck hd l e hq => by
  cases x <;> simp only [PVL.b1] at e <;> first | (cases e; done) | skip
  cases e
  cases l.flat (by simp)
  exact ⟨_, rfl, fin_at (fin_rep (by simp) hq) sub ck rfl⟩⟩
theorem b1_int : B1R X .int (.type "int") := ⟨_, call_int1, fun F σ O H0 H Hf x z c v d Q h0 sub ck hd l e hq => by
  cases x <;> simp only [PVL.b1] at e <;> first | (cases e; done) | skip
  · cases e
    cases l.flat (by simp)
    exact .inr ⟨_, rfl, fin_at (fin_rep (by simp) hq) sub ck rfl⟩
  · cases e
    cases l.flat (by simp)
    exact .inl ⟨_, rfl, fin_at (fin_rep (by simp) hq) sub ck rfl⟩⟩
theorem dict_len {H : Hp} {K : PySem.W.Frag} {mg : Str → Option Value} {Hf : Hp} {a : Addr} {t : Bool} {kvs : List (DKey × PV)} {vs : List V} (hd : DictAt H a t (kvs.map (·.1)) vs) (r : RepD K mg Hf kvs vs) :
    (∃ ms : List (L2.Key × V), H a = some (.dK ms) ∧ ms.length = kvs.length) ∨ ∃ ms : List (List L2.Key × V), H a = some (.dT ms) ∧ ms.length = kvs.length := by
  have l := r.length
  cases t with
  | false =>
    obtain ⟨qs, h1, h2⟩ := hd
    have l2 := congrArg List.length h1
    rw [List.length_map, List.length_map] at l2
    exact .inl ⟨_, h2, by rw [List.length_zip]; omega⟩
  | true =>
    obtain ⟨qs, h1, h2⟩ := hd
    have l2 := congrArg List.length h1
    rw [List.length_map, List.length_map] at l2
    exact .inr ⟨_, h2, by rw [List.length_zip]; omega⟩
theorem b1_len : B1R X .len (.builtin "len") := ⟨_, call_len_seq.or (call_lenD.or call_len_dT), fun F σ O H0 H Hf x z c v d Q h0 sub ck hd l e hq => by
  cases x <;> simp only [PVL.b1] at e <;> first | (cases e; done) | skip
  · cases e
    obtain ⟨_, p, vs, rfl, t1, r1⟩ := l.tup sub
    exact .inl ⟨p, vs, rfl, .inr (SqT.of t1), by rw [r1.length]; exact fin_at (fin_rep (by simp) hq) sub ck rfl⟩
  · cases e
    obtain ⟨_, p, vs, rfl, t1, r1⟩ := l.lst sub hd
    exact .inl ⟨p, vs, rfl, .inl (SqL.of t1), by rw [r1.length]; exact fin_at (fin_rep (by simp) hq) sub ck rfl⟩
  · cases e
    obtain ⟨_, p, vs, rfl, t1, r1⟩ := l.dct sub hd
    rcases dict_len t1 r1 with ⟨ms, h1, h2⟩ | ⟨ms, h1, h2⟩
    · exact .inr (.inl ⟨p, ms, rfl, h1, by rw [h2]; exact fin_at (fin_rep (by simp) hq) sub ck rfl⟩)
    · exact .inr (.inr ⟨p, ms, rfl, h1, by rw [h2]; exact fin_at (fin_rep (by simp) hq) sub ck rfl⟩)
  · cases e
    obtain ⟨_, p, vs, rfl, t1, r1⟩ := l.flat (by simp)
    exact .inl ⟨p, vs, rfl, .inl (ex_l sub t1), by rw [r1.length]; exact fin_at (fin_rep (by simp) hq) sub ck rfl⟩⟩
theorem bools_rep {K : PySem.W.Frag} {mg : Str → Option Value} {H : Hp} : ∀ {xs : List PV} {vs : List V} {ns : List Bool}, bools? xs = some ns → RepL K mg H xs vs → vs = ns.map V.bl
  | [], _, _, e, h => by cases e; cases (show _ = [] from h); rfl
  | x :: xs, _, ns, e, ⟨v, r, h1, h2, h3⟩ => by
    subst h1
    cases x <;> simp only [bools?] at e <;> first | (cases e; done) | skip
    cases q : bools? xs with
    | none => rw [q] at e; cases e
    | some ms =>
      rw [q] at e
      cases e
      have i1 := bools_rep q h3
      cases (show v = _ from h2)
      subst i1
      rfl
theorem b1_all (hc : X.calm = true) : B1R X .all (.builtin "all") := ⟨_, cr_all hc, fun F σ O H0 H Hf x z c v d Q h0 sub ck hd l e hq => by
  cases x <;> simp only [PVL.b1] at e <;> first | (cases e; done) | skip
  rename_i xs
  cases eb : bools? xs with
  | none => rw [eb] at e; cases e
  | some bs =>
    rw [eb] at e
    cases e
    obtain ⟨_, p, vs, rfl, t1, r1⟩ := l.lst sub hd
    have := bools_rep eb r1
    subst this
    exact ⟨p, bs, rfl, SqL.of t1, fin_at (fin_rep (by simp) hq) sub ck rfl⟩⟩
theorem b1_any (hc : X.calm = true) : B1R X .any (.builtin "any") := ⟨_, cr_any hc, fun F σ O H0 H Hf x z c v d Q h0 sub ck hd l e hq => by
  cases x <;> simp only [PVL.b1] at e <;> first | (cases e; done) | skip
  rename_i xs
  cases eb : bools? xs with
  | none => rw [eb] at e; cases e
  | some bs =>
    rw [eb] at e
    cases e
    obtain ⟨_, p, vs, rfl, t1, r1⟩ := l.lst sub hd
    have := bools_rep eb r1
    subst this
    exact ⟨p, bs, rfl, SqL.of t1, fin_at (fin_rep (by simp) hq) sub ck rfl⟩⟩
theorem b1_list : B1R X .list (.type "list") := ⟨_, call_list_of, fun F σ O H0 H Hf x z c v d Q h0 sub ck hd l e hq => by
  cases x <;> simp only [PVL.b1, seq?, Option.map] at e <;> first | (cases e; done) | skip
  · cases e
    obtain ⟨n, p, vs, rfl, t1, r1⟩ := l.tup sub
    exact ⟨p, vs, rfl, .inr (SqT.of t1), fun q hp => fin_new hq h0 sub ck hp n r1⟩
  · cases e
    obtain ⟨n, p, vs, rfl, t1, r1⟩ := l.lst sub hd
    exact ⟨p, vs, rfl, .inl (SqL.of t1), fun q hp => fin_new hq h0 sub ck hp n r1⟩
  · cases e
    obtain ⟨n, p, vs, rfl, t1, r1⟩ := l.flat (by simp)
    exact ⟨p, vs, rfl, .inl (ex_l sub t1), fun q hp => fin_new hq h0 sub ck hp n r1⟩⟩
theorem b1_tuple : B1R X .tuple (.type "tuple") := ⟨_, call_tuple_of, fun F σ O H0 H Hf x z c v d Q h0 sub ck hd l e hq => by
  cases x <;> simp only [PVL.b1, seq?, Option.map] at e <;> first | (cases e; done) | skip
  · cases e
    obtain ⟨n, p, vs, rfl, t1, r1⟩ := l.tup sub
    exact ⟨p, vs, rfl, .inr ⟨SqT.of t1, fin_at (fin_rep (by simp) hq) sub ck (l.flat (by simp))⟩⟩
  · cases e
    obtain ⟨n, p, vs, rfl, t1, r1⟩ := l.lst sub hd
    exact ⟨p, vs, rfl, .inl ⟨SqL.of t1, fun q hp => fin_lay (fin_rep (by simp) hq) sub ck hp fun ex => ⟨n, q, vs, rfl, upd_same, r1.ex ex⟩⟩⟩⟩
/-! ### two ints -/
theorem s_b2 {f : B2} {x id : Str} {p : Pos} {fid : String} {g : Int → Int → Int} (hr : CallR X (.builtin fid) (fun xs H Q => ∃ i j, xs = [.int i, .int j] ∧ Q (.int (g i j)) H)) (he : ∀ x y z, PVL.b2 f x y = some z → ∃ i j, x = .int i ∧ y = .int j ∧ z = .int (g i j))
    (hv : bootBuiltins x = some (.builtin fid)) (hg : Gl X x) (hm : X.mg x = none) (hn : x ≠ "__name__") (hd : (x == ("__debug__" : Str)) = false) (hs : notStar ea = true) (hs2 : notStar eb = true)
    (ha : PE X ea ((tM X.K X.mg F W call) a)) (hb : PE X eb ((tM X.K X.mg F W call) b)) : PE X (.Call (.Name x p) [ea, eb] [] pos) ((tM X.K X.mg F W call) (.b2 f a b)) := by
  refine PE.imp (pe_callB hr hg hm hv (pa_cons ha (pa_cons hb pa_nil (star_cons hs2)) (star_cons hs)) hn hd (star_cons hs) (star_none (by simp [hs2]))) fun σ H Q h => ?_
  refine s_bin (r := fun v u H Q => ∃ i j, [v, u] = [.int i, .int j] ∧ Q (.int (g i j)) H) (f := fun x y c => .of (PVL.b2 f x y) c) h fun O H Hf x y v u c sub ck lx ly hw => ?_
  obtain ⟨d1, e1, lx⟩ := lx
  obtain ⟨d2, e2, ly⟩ := ly
  obtain ⟨z, ez, hq⟩ := wn_of hw
  obtain ⟨i, j, rfl, rfl, rfl⟩ := he _ _ _ ez
  cases lx.flat (by simp)
  cases ly.flat (by simp)
  exact ⟨i, j, rfl, fin_at hq sub ck rfl⟩
/-! ### isinstance -/
def tyN : Ty → String
  | .int => "int" | .bool => "bool" | .tuple => "tuple" | .str => "str" | .list => "list" | .dict => "dict"
theorem isi_of {t : Ty} {K : PySem.W.Frag} {mg : Str → Option Value} {H : Hp} {x : PV} {v : V} {b : Bool} (e : PVL.isi t x = some b) (r : Rep K mg H x v) : ∃ T : String, TyX K H v (.type T) ∧ PySem.W.kitOne K (.type T) (.type (tyN t)) = some b := by
  cases x with
  | non => cases (show _ = _ from r); exact ⟨_, .base .non, by cases t <;> cases e <;> exact kit_ty (by decide +kernel)⟩
  | bl y => cases (show _ = _ from r); exact ⟨_, .base (.bl y), by cases t <;> cases e <;> exact kit_ty (by decide +kernel)⟩
  | int y => cases (show _ = _ from r); exact ⟨_, .base (.int y), by cases t <;> cases e <;> exact kit_ty (by decide +kernel)⟩
  | str y => cases (show _ = _ from r); exact ⟨_, .base (.str y), by cases t <;> cases e <;> exact kit_ty (by decide +kernel)⟩
  | tup xs =>
    obtain ⟨_, p, vs, rfl, h, _⟩ := r
    exact ⟨_, .base (.tup h), by cases t <;> cases e <;> exact kit_ty (by decide +kernel)⟩
  | lst xs =>
    obtain ⟨_, p, vs, rfl, h, _⟩ := r
    exact ⟨_, .base (.lst h), by cases t <;> cases e <;> exact kit_ty (by decide +kernel)⟩
  | dct tt kvs =>
    obtain ⟨_, p, vs, rfl, h, _⟩ := r
    cases tt with
    | false => obtain ⟨qs, _, h2⟩ := h; exact ⟨_, .base (.dK h2), by cases t <;> cases e <;> exact kit_ty (by decide +kernel)⟩
    | true => obtain ⟨qs, _, h2⟩ := h; exact ⟨_, .base (.dT h2), by cases t <;> cases e <;> exact kit_ty (by decide +kernel)⟩
  | fn _ => cases t <;> cases e
  | scr _ => cases t <;> cases e
theorem s_isi {t : Ty} {p : Pos} (hb : PE X eb (tC (.ty (tyN t)))) (hg : Gl X "isinstance") (hm : X.mg "isinstance" = none) (hs : notStar ea = true) (hs2 : notStar eb = true) (ha : PE X ea ((tM X.K X.mg F W call) a)) : PE X (.Call (.Name "isinstance" p) [ea, eb] [] pos) ((tM X.K X.mg F W call) (.isi t a)) := by
  refine PE.imp (pe_callB call_isi hg hm (by decide +kernel) (pa_cons ha (pa_cons hb pa_nil (star_cons hs2)) (star_cons hs)) (by decide) (by decide) (star_cons hs) (star_none (by simp [hs2]))) fun σ H Q h => ?_
  refine s_one (f := fun x c => .of ((PVL.isi t x).map .bl) c) h fun O H Hf x v c d sub ck hd l1 hw => ?_
  have e0 : d = 0 := by omega
  subst e0
  obtain ⟨z, ez, hq⟩ := wn_of hw
  cases e : PVL.isi t x with
  | none => rw [e] at ez; cases ez
  | some k =>
    rw [e] at ez
    cases ez
    obtain ⟨T, h1, h2⟩ := isi_of e (l1.rep sub)
    exact ⟨v, .ty (tyN t), .type T, .type (tyN t), k, rfl, .ty _, h1, h2, fin_at hq sub ck rfl⟩
end
end PVL
end

section
set_option Elab.async false
set_option linter.all false
set_option maxRecDepth 100000
set_option maxHeartbeats 4000000
/-! PVL8: subscripts, slices, the cell, calls. -/
namespace PVL
open PySem L2
section
variable {X : Cx} {W : WX} {F : Frame} {call : CallF} {pos : Pos} {ea eb ec : Expr} {es : List Expr} {a b d : E} {as : List E} {n : Nat}
def rIxG : R2 := fun x y H Q => ∃ a v, x = .ref a ∧ DGet H a y (some v) ∧ Q v H
theorem ix_dict (hu : X.A.units + 1 < cLine) : IxR X rIxG := by
  intro value slice pins s σ H x y v u Q I rx ry h hs
  obtain ⟨a, w, rfl, g, q⟩ := h
  obtain rfl : v = Value.ref a := rx
  exact PyProof.Rows.tail_any (dict_typeIs I g) PySem.F.slot_dict_getitem.lookup (d_getItem hu I g ry fun w' s3 I3 rw' => ⟨w, H, I3, rw', q⟩) hs
def notSlice : Expr → Bool
  | .Slice .. => false
  | _ => true
theorem plainIx_of {e : Expr} (h : notSlice e = true) : PlainIx e := by
  intro o i
  cases e <;> first | (cases h; done) | rfl
theorem ixN_eq (n : Nat) (i : Int) : L2.ixN n i = PVL.ixN n i := rfl
theorem at_rep {K : PySem.W.Frag} {mg : Str → Option Value} {H : Hp} {xs : List PV} {vs : List V} {i : Int} {y : PV} (e : PVL.atI xs i = some y) (r : RepL K mg H xs vs) : ∃ u, L2.atI vs i = some u ∧ Rep K mg H y u := by
  unfold PVL.atI at e
  unfold L2.atI
  rw [r.length, ixN_eq]
  cases q : PVL.ixN xs.length i with
  | none => rw [q] at e; cases e
  | some j =>
    rw [q] at e
    exact r.get e
theorem at_own {xs : List PV} {vs : List V} {i : Int} {y : PV} (e : PVL.atI xs i = some y) (l : vs.length = xs.length) : ∃ (j : Nat) (u : V), xs[j]? = some y ∧ vs[j]? = some u ∧ L2.atI vs i = some u := by
  unfold PVL.atI at e
  unfold L2.atI
  rw [l, ixN_eq]
  cases q : PVL.ixN xs.length i with
  | none => rw [q] at e; cases e
  | some j =>
    rw [q] at e
    have hj : j < vs.length := by rw [l]; exact (List.getElem?_eq_some_iff.mp e).1
    exact ⟨j, vs[j], e, by simp [hj], by simp [hj]⟩
theorem find_own {κ : Type} [DecidableEq κ] (q : κ → DKey) (inj : ∀ a b, q a = q b → a = b) (k : κ) : ∀ (kvs : List (DKey × PV)) (qs : List κ) (vs : List V) (y : PV), kvs.map (·.1) = qs.map q → vs.length = kvs.length → dget kvs (q k) = some y →
    ∃ (i : Nat) (kv : DKey × PV) (u : V), kvs[i]? = some kv ∧ kv.2 = y ∧ vs[i]? = some u ∧ valV (qs.zip vs) k = some u
  | [], _, _, _, _, _, e => by cases e
  | _ :: _, [], _, _, e, _, _ => by simp at e
  | _ :: _, _ :: _, [], _, _, e, _ => by simp at e
  | (k', z) :: kvs, a :: qs, v :: vs, y, e, l, g => by
    rw [List.map_cons, List.map_cons] at e
    injection e with e1 e2
    have e1 : k' = q a := e1
    subst e1
    unfold dget at g
    rw [List.find?_cons] at g
    unfold valV
    rw [List.zip_cons_cons, List.find?_cons]
    by_cases hk : a = k
    · subst hk
      simp only [decide_true, Option.map_some] at g ⊢
      exact ⟨0, (q a, z), v, rfl, Option.some.inj g, rfl, rfl⟩
    · have hq : ¬ q a = q k := fun z => hk (inj _ _ z)
      simp only [hk, hq, decide_false] at g ⊢
      obtain ⟨i, kv, u, h1, h2, h3, h4⟩ := find_own q inj k kvs qs vs y e2 (by simpa using l) g
      exact ⟨i + 1, kv, u, by simpa using h1, h2, by simpa using h3, h4⟩
/-- the owned item of a dict -/
theorem dget_own {K : PySem.W.Frag} {mg : Str → Option Value} {H : Hp} {t : Bool} {kvs : List (DKey × PV)} {vs : List V} {a : Addr} {x : PV} {v : V} {k : DKey} {y : PV} (hd : DictAt H a t (kvs.map (·.1)) vs) (l : vs.length = kvs.length) (hk : keyIn t x = some k) (rx : Rep K mg H x v) (g : dget kvs k = some y) :
    ∃ (i : Nat) (kv : DKey × PV) (u : V), kvs[i]? = some kv ∧ kv.2 = y ∧ vs[i]? = some u ∧ DGet H a v (some u) := by
  cases t with
  | false =>
    obtain ⟨qs, h1, h2⟩ := hd
    rcases keyIn_at hk with ⟨i, rfl, rfl⟩ | ⟨s, rfl, rfl⟩
    · cases (show v = _ from rx)
      obtain ⟨j, kv, u, e1, e2, e3, e4⟩ := find_own DKey.at_ (fun a b e => by injection e) (.inl i) kvs qs vs y h1 l g
      exact ⟨j, kv, u, e1, e2, e3, by rw [← e4]; exact DGet.k (k := .inl i) h2⟩
    · cases (show v = _ from rx)
      obtain ⟨j, kv, u, e1, e2, e3, e4⟩ := find_own DKey.at_ (fun a b e => by injection e) (.inr s) kvs qs vs y h1 l g
      exact ⟨j, kv, u, e1, e2, e3, by rw [← e4]; exact DGet.k (k := .inr s) h2⟩
  | true =>
    obtain ⟨qs, h1, h2⟩ := hd
    obtain ⟨xs, ks, rfl, hks, rfl⟩ := keyIn_tup hk
    obtain ⟨_, b, us, rfl, hb, r2⟩ := rx
    have e := keys_rep hks r2
    subst e
    obtain ⟨j, kv, u, e1, e2, e3, e4⟩ := find_own DKey.tup (fun a b e => by injection e) ks kvs qs vs y h1 l g
    exact ⟨j, kv, u, e1, e2, e3, by rw [← e4]; exact DGet.t h2 hb⟩
theorem Lent.any {K : PySem.W.Frag} {mg : Str → Option Value} {O : Ow} {H Hf : Hp} {x : PV} {v : V} {i : Nat} {p : List Nat} {d : Nat} (h : Own K mg H Hf (lab O (some i)) d p x v) : Lent K mg O H Hf d x v := ⟨i, p, h⟩
theorem s_ix (hr : Room n X.A) (hsl : notSlice eb = true) (ha : PE X ea ((tM X.K X.mg F W call) a)) (hb : PE X eb ((tM X.K X.mg F W call) b)) : PE X (.Subscript ea eb pos) ((tM X.K X.mg F W call) (.ix a b)) := by
  refine PE.imp (pe_ix ((ix_list.or ix_tup).or (ix_dict (hu_of hr))) ha hb (plainIx_of hsl)) fun σ H Q ⟨env, c, Hf, O, g, h⟩ => ?_
  have h' : Wn X.K X.mg F W (pM X.K X.mg O) σ O H Hf ((em call a env c).bind fun p c => (lo 0 (em call b env c)).bind fun k c => .of ((item p.2 k).map fun y => (downD p.1 p.2, y)) c) Q := h
  refine ⟨env, c, Hf, O, g, wn_bind h' fun p c1 v H1 Hf1 ep s1 k1 l1 h1 => ⟨env, c1, Hf1, O, g.step s1 k1, wn_lo h1 fun k c2 u H2 Hf2 s2 k2 l2 h2 => ?_⟩⟩
  clear ep h h' h1
  obtain ⟨d2, e2, l2⟩ := l2
  have e0 : d2 = 0 := by omega
  subst e0
  obtain ⟨d1, x⟩ := p
  replace l1 : Lent X.K X.mg O H2 Hf2 d1 x v := Lent.step l1 s2
  obtain ⟨z, ez, hq⟩ := wn_of h2
  clear h2
  have sub := s2.sub
  cases x <;> first | (simp only [item, Option.map_none] at ez; cases ez; done) | skip
  case tup xs =>
    cases k <;> first | (simp only [item, Option.map_none] at ez; cases ez; done) | skip
    rename_i i
    simp only [item] at ez
    cases ea' : PVL.atI xs i with
    | none => rw [ea'] at ez; cases ez
    | some y =>
      rw [ea'] at ez
      cases ez
      cases l2.flat (by simp)
      obtain ⟨n1, p1, vs, rfl, t1, r1⟩ := l1.tup sub
      obtain ⟨w, h1, h2⟩ := at_rep ea' r1
      exact .inl (.inr ⟨p1, vs, i, w, rfl, rfl, SqT.of t1, h1, hq w H2 Hf2 (Step.refl sub) k2 (Lent.zero h2)⟩)
  case lst xs =>
    cases k <;> first | (simp only [item, Option.map_none] at ez; cases ez; done) | skip
    rename_i i
    simp only [item] at ez
    cases ea' : PVL.atI xs i with
    | none => rw [ea'] at ez; cases ez
    | some y =>
      rw [ea'] at ez
      cases ez
      cases l2.flat (by simp)
      cases d1 with
      | zero =>
        obtain ⟨n1, p1, vs, rfl, t1, r1⟩ := l1.lst sub (Nat.zero_le _)
        obtain ⟨w, h1, h2⟩ := at_rep ea' r1
        exact .inl (.inl ⟨p1, vs, i, w, rfl, rfl, SqL.of t1, h1, hq w H2 Hf2 (Step.refl sub) k2 (Lent.zero h2)⟩)
      | succ d1 =>
        obtain ⟨i1, pp, n1, p1, vs, rfl, _, t1, l3, r1⟩ := l1
        obtain ⟨j, w, e1, e2, e3⟩ := at_own ea' l3
        exact .inl (.inl ⟨p1, vs, i, w, rfl, rfl, SqL.of t1, e3, hq w H2 Hf2 (Step.refl sub) k2 (Lent.any (r1 j y w e1 e2))⟩)
  case dct t kvs =>
    simp only [item] at ez
    cases ek : keyIn t k with
    | none => rw [ek] at ez; cases ez
    | some q =>
      rw [ek] at ez
      simp only [Option.bind_some] at ez
      cases eg : dget kvs q with
      | none => rw [eg] at ez; cases ez
      | some y =>
        rw [eg] at ez
        cases ez
        cases d1 with
        | zero =>
          obtain ⟨n1, p1, vs, rfl, t1, r1⟩ := l1.dct sub (Nat.zero_le _)
          obtain ⟨o, g1, ho⟩ := dget_at t1 r1 ek (l2.rep sub)
          rw [eg] at ho
          obtain ⟨w, rfl, h2⟩ := ho
          exact .inr ⟨p1, w, rfl, g1, hq w H2 Hf2 (Step.refl sub) k2 (Lent.zero h2)⟩
        | succ d1 =>
          obtain ⟨i1, pp, n1, p1, vs, rfl, _, t1, l3, r1⟩ := l1
          obtain ⟨j, kv, w, e1, rfl, e2, g1⟩ := dget_own t1 l3 ek (l2.rep sub) eg
          exact .inr ⟨p1, w, rfl, g1, hq w H2 Hf2 (Step.refl sub) k2 (Lent.any (r1 j kv w e1 e2))⟩
/-! ### slices -/
theorem sIx_eq (n d : Nat) (o : Option Int) : HT.sIx n d o = PVL.sIx n d o := by cases o <;> rfl
theorem cutV_rep {K : PySem.W.Frag} {mg : Str → Option Value} {H : Hp} {xs : List PV} {vs : List V} {l h : Option Int} (r : RepL K mg H xs vs) : RepL K mg H (PVL.cutV xs l h) (L2.cutV vs l h) := by
  unfold PVL.cutV L2.cutV
  rw [sIx_eq, sIx_eq, r.length]
  exact (r.drop _).take _
theorem cut_len {α : Type} (xs : List α) (l h : Option Int) : (PVL.cutV xs l h).length ≤ xs.length := by
  unfold PVL.cutV
  rw [List.length_take, List.length_drop]
  omega
/-- what a slice of a value gives -/
theorem slice_fin {σ : St} {O : Ow} {H0 H Hf : Hp} {c z : PV} {x : PV} {v : V} {d : Nat} {l h : Option Int} {Q : VK} (h0 : ∀ p, H p = none → H0 p = none) (sub : Ex Hf H) (ck : CellOk X.K X.mg F σ H Hf O c) (hd : d ≤ 1) (lx : Lent X.K X.mg O H Hf d x v) (e : slice x l h = some z)
    (hq : ∀ v H' Hf', Step O H Hf H' Hf' → CellOk X.K X.mg F σ H' Hf' O c → Fresh X.K X.mg H0 H' Hf' 1 z v → Q v H') : rSlA X.K v l h H Q ∨ rSlL X.K v l h H Q := by
  cases x <;> first | (simp only [slice] at e; cases e; done) | skip
  case tup xs =>
    cases e
    obtain ⟨n1, p1, vs, rfl, t1, r1⟩ := lx.tup sub
    refine .inl ⟨p1, vs, rfl, SqT.of t1, fun hw => ?_, fun _ p hp => fin_lay (fin_rep (by simp) hq) sub ck hp fun ex => ⟨Nat.le_trans (cut_len _ _ _) n1, p, _, rfl, upd_same, cutV_rep (r1.ex ex)⟩⟩
    have e : PVL.cutV xs l h = xs := by
      have hl := r1.length
      rw [sIx_eq, sIx_eq, hl] at hw
      unfold PVL.cutV
      rw [hw.1, hw.2]
      simp
    refine fin_at (fin_rep (by simp) hq) sub ck ?_
    rw [e]
    exact lx.flat (by simp)
  case lst xs =>
    cases e
    obtain ⟨n1, p1, vs, rfl, t1, r1⟩ := lx.lst sub hd
    exact .inr ⟨p1, vs, rfl, SqL.of t1, fun p hp => fin_new hq h0 sub ck hp (Nat.le_trans (cut_len _ _ _) n1) (cutV_rep r1)⟩
theorem paired1 {α β : Type} {R : α → β → Prop} {x : α} {vs : List β} (h : Paired R [x] vs) : ∃ v, vs = [v] ∧ R x v := by
  cases h with
  | cons r t => cases t; exact ⟨_, rfl, r⟩
theorem f_sl {lo' hi' : Option Expr} {p2 : Pos} {lw up : Bool} {ls : List E} (hlo : match lw, up, ls with
      | false, false, [] => lo' = none ∧ hi' = none
      | true, false, [i] => (∃ e, lo' = some e ∧ PE X e ((tM X.K X.mg F W call) i)) ∧ hi' = none
      | false, true, [i] => (∃ e, hi' = some e ∧ PE X e ((tM X.K X.mg F W call) i)) ∧ lo' = none
      | true, true, [i, j] => (∃ e, lo' = some e ∧ PE X e ((tM X.K X.mg F W call) i)) ∧ ∃ e, hi' = some e ∧ PE X e ((tM X.K X.mg F W call) j)
      | _, _, _ => False) (ha : PE X ea ((tM X.K X.mg F W call) a)) : PE X (.Subscript ea (.Slice lo' hi' none p2) pos) (tF X.K X.mg F W call 1 (.sl a lw up ls)) := by
  have hrule : SlR X (fun x l h H Q => rSlA X.K x l h H Q ∨ rSlL X.K x l h H Q) := sl_tupA.or sl_list
  match lw, up, ls, hlo with
  | false, false, [], ⟨h1, h2⟩ =>
    subst h1 h2
    refine PE.imp (pe_slice hrule ha po_none po_none) fun σ H Q h => s_oneF (na := 1) (f := fun x c => .of (slice x none none) c) h fun O H1 Hf x v c d1 h0 sub ck hd l1 hw => ?_
    obtain ⟨z, ez, hq⟩ := wn_of hw
    exact slice_fin h0 sub ck hd l1 ez hq
  | true, false, [i], ⟨⟨e, h1, hI⟩, h2⟩ =>
    subst h1 h2
    refine PE.imp (pe_slice hrule ha (po_some hI) po_none) fun σ H Q h => ?_
    show tOp (fun x y H Q => ∃ i, y = .int i ∧ (rSlA X.K x (some i) none H Q ∨ rSlL X.K x (some i) none H Q)) ((tM X.K X.mg F W call) a) ((tM X.K X.mg F W call) i) σ H Q
    have e : ∀ env c, em call (.sl a true false [i]) env c = hi ((lo 1 (em call a env c)).bind fun x c => (lo 0 (em call i env c)).bind fun y c => (Res.of (int? y) c).bind fun k c => .of (slice x (some k) none) c) := by
      intro env c
      show hi ((lo 1 (em call a env c)).bind fun x c => (((lo 0 (em call i env c)).bind fun x c => (Res.of (int? x) c).bind fun i c => (Res.ok [] c).bind fun xs c => Res.ok (i :: xs) c)).bind _) = _
      congr 2
      funext x c
      cases lo 0 (em call i env c) with
      | ok y c2 => simp only [bind_ok]; cases int? y <;> rfl
      | exc e c2 => rfl
      | stuck => rfl
    obtain ⟨env, c, Hf, O, g, h⟩ := h
    rw [e] at h
    refine s_binF (na := 1) (nb := 0) ⟨env, c, Hf, O, g, h⟩ fun O H1 Hf x y v u c h0 sub ck lx ly hw => ?_
    obtain ⟨d1, e1, lx⟩ := lx
    obtain ⟨d2, e2, ly⟩ := ly
    cases y <;> first | exact hw.elim | skip
    rename_i k
    cases ly.flat (by simp)
    obtain ⟨z, ez, hq⟩ := wn_of hw
    exact ⟨k, rfl, slice_fin h0 sub ck e1 lx ez hq⟩
  | false, true, [i], ⟨⟨e, h1, hI⟩, h2⟩ =>
    subst h1 h2
    refine PE.imp (pe_slice hrule ha po_none (po_some hI)) fun σ H Q h => ?_
    show tOp (fun x y H Q => ∃ i, y = .int i ∧ (rSlA X.K x none (some i) H Q ∨ rSlL X.K x none (some i) H Q)) ((tM X.K X.mg F W call) a) ((tM X.K X.mg F W call) i) σ H Q
    have e : ∀ env c, em call (.sl a false true [i]) env c = hi ((lo 1 (em call a env c)).bind fun x c => (lo 0 (em call i env c)).bind fun y c => (Res.of (int? y) c).bind fun k c => .of (slice x none (some k)) c) := by
      intro env c
      show hi ((lo 1 (em call a env c)).bind fun x c => (((lo 0 (em call i env c)).bind fun x c => (Res.of (int? x) c).bind fun i c => (Res.ok [] c).bind fun xs c => Res.ok (i :: xs) c)).bind _) = _
      congr 2
      funext x c
      cases lo 0 (em call i env c) with
      | ok y c2 => simp only [bind_ok]; cases int? y <;> rfl
      | exc e c2 => rfl
      | stuck => rfl
    obtain ⟨env, c, Hf, O, g, h⟩ := h
    rw [e] at h
    refine s_binF (na := 1) (nb := 0) ⟨env, c, Hf, O, g, h⟩ fun O H1 Hf x y v u c h0 sub ck lx ly hw => ?_
    obtain ⟨d1, e1, lx⟩ := lx
    obtain ⟨d2, e2, ly⟩ := ly
    cases y <;> first | exact hw.elim | skip
    rename_i k
    cases ly.flat (by simp)
    obtain ⟨z, ez, hq⟩ := wn_of hw
    exact ⟨k, rfl, slice_fin h0 sub ck e1 lx ez hq⟩
  | true, true, [i, j], ⟨⟨e, h1, hI⟩, e', h2, hJ⟩ =>
    subst h1 h2
    refine PE.imp (pe_slice hrule ha (po_some hI) (po_some hJ)) fun σ H Q ⟨env, c, Hf, O, g, h⟩ => ?_
    have e : em call (.sl a true true [i, j]) env c = hi ((lo 1 (em call a env c)).bind fun x c => (lo 0 (em call i env c)).bind fun y c => (Res.of (int? y) c).bind fun k c => (lo 0 (em call j env c)).bind fun z c => (Res.of (int? z) c).bind fun l c => .of (slice x (some k) (some l)) c) := by
      show hi ((lo 1 (em call a env c)).bind fun x c => (((lo 0 (em call i env c)).bind fun x c => (Res.of (int? x) c).bind fun i c => (((lo 0 (em call j env c)).bind fun x c => (Res.of (int? x) c).bind fun i c => (Res.ok [] c).bind fun xs c => Res.ok (i :: xs) c)).bind fun xs c => Res.ok (i :: xs) c)).bind _) = _
      congr 2
      funext x c
      cases lo 0 (em call i env c) with
      | ok y c2 =>
        simp only [bind_ok]
        cases int? y with
        | none => rfl
        | some k =>
          simp only [of_some, bind_ok]
          cases lo 0 (em call j env c2) with
          | ok z c3 => simp only [bind_ok]; cases int? z <;> rfl
          | exc e c2 => rfl
          | stuck => rfl
      | exc e c2 => rfl
      | stuck => rfl
    rw [e] at h
    refine ⟨env, c, Hf, O, g, wn_lo (wn_hi' (ψ := fun x v H' Hf' => Fresh X.K X.mg H H' Hf' 1 x v) h) fun x c1 v H1 Hf1 s1 k1 l1 h1 => ⟨env, c1, Hf1, O, g.step s1 k1, wn_lo h1 fun y c2 u H2 Hf2 s2 k2 l2 h2 => ?_⟩⟩
    obtain ⟨d1, e1, l1⟩ := l1
    obtain ⟨d2, e2, l2⟩ := l2
    cases y <;> first | exact h2.elim | skip
    rename_i k
    cases l2.flat (by simp)
    refine ⟨k, rfl, env, c2, Hf2, O, (g.step s1 k1).step s2 k2, wn_lo h2 fun z c3 w H3 Hf3 s3 k3 l3 h3 => ?_⟩
    obtain ⟨d3, e3, l3⟩ := l3
    cases z <;> first | exact h3.elim | skip
    rename_i l
    cases l3.flat (by simp)
    obtain ⟨zz, ez, hq⟩ := wn_of h3
    refine ⟨l, rfl, slice_fin (fun p hp => ?_) s3.sub k3 e1 ((l1.step s2).step s3) ez hq⟩
    cases q : H p with
    | none => rfl
    | some o =>
      obtain ⟨o', e', _⟩ := ((s1.trans s2).trans s3).there p o q
      rw [hp] at e'; cases e'
theorem s_sl {lo' hi' : Option Expr} {p2 : Pos} {lw up : Bool} {ls : List E} (h : PE X (.Subscript ea (.Slice lo' hi' none p2) pos) (tF X.K X.mg F W call 1 (.sl a lw up ls))) : PE X (.Subscript ea (.Slice lo' hi' none p2) pos) ((tM X.K X.mg F W call) (.sl a lw up ls)) := of_fresh h fun _ _ _ _ _ e => hi_zero e
/-! ### the cell -/
theorem s_cel {i : Nat} {x : Str} {p : Pos} {k : Int} {t : TE} (hc : F.cs = some i) (hN : X.N[i]? = some x) (hv : Vis X.env.scope x) (hd : (x == ("__debug__" : Str)) = false) (hcd : (x == ("__classdict__" : Str)) = false) (hsl : notSlice eb = true) (hb : PE X eb (tC (.int k))) :
    PE X (.Subscript (.Name x p) eb pos) ((tM X.K X.mg F W call) (.cel k)) := by
  refine PE.imp (pe_ix ix_list (pe_var hN hv hd hcd) hb (plainIx_of hsl)) fun σ H Q ⟨env, c, Hf, O, g, h⟩ => ?_
  have h1 := wn_hi (r := .of (celAt c k) c) h
  obtain ⟨z, ez, hq⟩ := wn_of h1
  rcases g.cell with e | ⟨j, v, e1, e2, ow⟩
  · subst e; cases ez
  · rw [hc] at e1
    cases e1
    cases c <;> first | (simp only [celAt] at ez; cases ez; done) | skip
    case lst xs =>
      obtain ⟨n1, p1, vs, rfl, _, t1, l3, r1⟩ := ow
      obtain ⟨j, w, e1, e3, e4⟩ := at_own ez l3
      exact ⟨_, e2, p1, vs, k, w, rfl, rfl, SqL.of t1, e4, hq w H Hf (Step.refl g.sub) g.cell (r1 j z w e1 e3)⟩
end
end PVL
end

section
set_option Elab.async false
set_option linter.all false
set_option maxRecDepth 100000
set_option maxHeartbeats 4000000
/-! PVL9: the promise of a def; calls. -/
namespace PVL
open PySem L2
/-- what a call leaves -/
structure After (H Hf : Hp) (ca : Option Addr) (H' Hf' : Hp) : Prop where
  h : ∀ a o, H a = some o → some a ≠ ca → H' a = some o
  there : ∀ a o, H a = some o → ∃ o', H' a = some o' ∧ isT o' = isT o
  f : Ex Hf Hf'
  sub : Ex Hf' H'
  new : ∀ a o, Hf' a = some o → Hf a = some o ∨ H a = none ∨ isT o = true
section
variable (K : PySem.W.Frag) (mg : Str → Option Value)
/-- the cell that is handed in stands at a -/
def CellAt (H Hf : Hp) (a : Addr) (c : PV) : Prop := Hf a = none ∧ ∃ xs us, c = .lst xs ∧ xs.length ≤ SZ ∧ H a = some (.lst us) ∧ RepL K mg Hf xs us
/-- the promise of a def: what the evaluator says -/
def spOf (P : Prog) (n : Nat) (fn : Fn) : Sp := fun vs H Q E => ∃ (args : List PV) (c : PV) (Hf : Hp) (ca : Option Addr) (rest : List V), Ex Hf H ∧ RepL K mg Hf args rest ∧ vs.length = fn.np ∧
  ((fn.cellPar = false ∧ ca = none ∧ vs = rest ∧ c = .non) ∨ (fn.cellPar = true ∧ ∃ a, ca = some a ∧ vs = .ref a :: rest ∧ CellAt K mg H Hf a c)) ∧
  match callF P n fn.name args c with
  | .ok r c' => ∀ v H' Hf', After H Hf ca H' Hf' → (∀ a, ca = some a → CellAt K mg H' Hf' a c') → Fresh K mg H H' Hf' fn.retd r v → Q v H'
  | .exc e c' => ∀ cls d H' Hf', After H Hf ca H' Hf' → (∀ a, ca = some a → CellAt K mg H' Hf' a c') → ExcRep K mg H' Hf' e cls d → E cls d H'
  | .stuck => False
end
section
variable {X : Cx} {W : WX} {F : Frame} {pos : Pos} {ea eb ec : Expr} {es : List Expr} {a b d : E} {as : List E} {P : Prog} {n : Nat}
theorem After.step {O : Ow} {H Hf H' Hf' : Hp} {ca : Option Addr} (a : After H Hf ca H' Hf') (hO : ∀ b, ca = some b → ∃ p, O b = some (none, p)) : Step O H Hf H' Hf' :=
  ⟨fun b o e nO => a.h b o e fun q => by
    obtain ⟨p, e2⟩ := hO b q.symm
    exact nO p e2, a.there, a.f, a.sub, a.new⟩
theorem not_after {H H' : Hp} (there : ∀ a o, H a = some o → ∃ o', H' a = some o' ∧ isT o' = isT o) : ∀ p, H' p = none → H p = none := fun p hp => by
  cases q : H p with
  | none => rfl
  | some o =>
    obtain ⟨o', e', _⟩ := there p o q
    rw [hp] at e'; cases e'
/-- a value new since a later state is new since an earlier one -/
theorem Fresh.back {K : PySem.W.Frag} {mg : Str → Option Value} {H H1 H' Hf' : Hp} {d : Nat} {x : PV} {v : V} (f : Fresh K mg H1 H' Hf' d x v) (there : ∀ a o, H a = some o → ∃ o', H1 a = some o' ∧ isT o' = isT o) : Fresh K mg H H' Hf' d x v := by
  obtain ⟨L, hL, o⟩ := f
  exact ⟨L, fun a p e => ⟨not_after there a (hL a p e).1, (hL a p e).2⟩, o⟩
/-- f(..): a (callF P n) that changes no cell; its value as new as the def hands it back -/
theorem f_call {x : Str} {p : Pos} {f : Addr} {fd : FuncData} {fn : Fn} (G : FnOk X.prog X.w X.K X.mg X.base (L2.CX X.prog X.w) n f fd (fn.N.take fn.np) (spOf X.K X.mg P n fn)) (hx : fn.name = x) (hcp : fn.cellPar = false) (hr : Room n X.A) (tk : Takes X W)
    (hm : X.mg x = some (.ref f)) (hk : PySem.W.keepIn X.K (.ref f) = true) (hb : Binds X.K fd (fn.N.take fn.np) []) (hg : Gl X x) (hd : (x == ("__debug__" : Str)) = false) (hs : (ea :: es).all notStar = true) (hl : as.length = fn.np)
    (ha : PA X (ea :: es) ((tAs X.K X.mg F W (callF P n)) 0 as)) : PE X (.Call (.Name x p) (ea :: es) [] pos) (tF X.K X.mg F W (callF P n) fn.retd (.call x as)) := by
  rw [List.all_cons, Bool.and_eq_true] at hs
  refine PE.imp (pe_callS G hr hg hm hk hb (fun σ => passAt tk σ) ha hd (star_cons hs.1) (star_none hs.2)) fun σ H Q ⟨env, c, Hf, O, g, h⟩ => ?_
  have h' := wn_hi' (r := (evs (callF P n) 0 as env c).bind fun xs c => match callF P n x xs .non with
      | .ok v _ => .ok v c
      | .exc e _ => .exc e c
      | .stuck => .stuck) (ψ := fun x v H' Hf' => Fresh X.K X.mg H H' Hf' fn.retd x v) h
  refine ⟨env, c, Hf, O, g, wn_bind h' fun xs c1 vs H1 Hf1 e1 s1 k1 p1 h1 => ?_⟩
  have r := lents_rep p1
  refine ⟨xs, .non, Hf1, none, vs, s1.sub, r, by rw [r.length, evs_len e1, hl], .inl ⟨hcp, rfl, rfl, rfl⟩, ?_⟩
  rw [hx]
  cases q : callF P n x xs .non with
  | stuck => rw [q] at h1; exact h1.elim
  | ok v c2 =>
    rw [q] at h1
    intro w H2 Hf2 af _ fr
    refine h1 w H2 Hf2 (af.step fun b e => by cases e) ?_ (fr.back s1.there)
    rcases k1 with k | ⟨i, u, e2, e3, e4⟩
    · exact .inl k
    · exact .inr ⟨i, u, e2, e3, e4.stay (fun a p o _ e => af.h a o e fun z => by cases z) af.f⟩
  | exc e c2 =>
    rw [q] at h1
    intro cls d H2 Hf2 af _ er
    refine h1 cls d H2 Hf2 (af.step fun b e => by cases e) ?_ er
    rcases k1 with k | ⟨i, u, e2, e3, e4⟩
    · exact .inl k
    · exact .inr ⟨i, u, e2, e3, e4.stay (fun a p o _ e => af.h a o e fun z => by cases z) af.f⟩
theorem s_call {x : Str} {p : Pos} {dd : Nat} (h : PE X (.Call (.Name x p) (ea :: es) [] pos) (tF X.K X.mg F W (callF P n) dd (.call x as))) : PE X (.Call (.Name x p) (ea :: es) [] pos) ((tM X.K X.mg F W (callF P n)) (.call x as)) := of_fresh h fun _ _ _ _ _ e => hi_zero e
/-- a def that changes its first argument wants a list there -/
theorem callF_cell {fn : Fn} (hf : P.fn fn.name = some fn) (hcp : fn.cellPar = true) {xs : List PV} {c : PV} (h : callF P n fn.name xs c ≠ Res.stuck) : ∃ ys, c = .lst ys := by
  cases n with
  | zero => exact absurd rfl h
  | succ n =>
    have e : callF P (n + 1) fn.name xs c = fn.run P.fr (callF P n) xs c := by
      show (match P.fn fn.name with
        | none => Res.stuck
        | some f => f.run P.fr (callF P n) xs c) = _
      rw [hf]
    rw [e] at h
    unfold Fn.run at h
    rw [hcp] at h
    simp only [if_true] at h
    cases c with
    | lst ys => exact ⟨ys, rfl⟩
    | _ => exact absurd (by simp [isLst]) h
theorem s_callc {i : Nat} {y : Str} {py : Pos} {x : Str} {p : Pos} {f : Addr} {fd : FuncData} {fn : Fn} (G : FnOk X.prog X.w X.K X.mg X.base (L2.CX X.prog X.w) n f fd (fn.N.take fn.np) (spOf X.K X.mg P n fn)) (hx : fn.name = x) (hf : P.fn fn.name = some fn) (hcp : fn.cellPar = true) (hrd : fn.retd = 0) (hr : Room n X.A) (tk : Takes X W)
    (hm : X.mg x = some (.ref f)) (hk : PySem.W.keepIn X.K (.ref f) = true) (hb : Binds X.K fd (fn.N.take fn.np) []) (hg : Gl X x) (hd : (x == ("__debug__" : Str)) = false) (hs : es.all notStar = true) (hl : as.length + 1 = fn.np)
    (hc : F.cs = some i) (hN : X.N[i]? = some y) (hv : Vis X.env.scope y) (hdy : (y == ("__debug__" : Str)) = false) (hcd : (y == ("__classdict__" : Str)) = false)
    (ha : PA X es ((tAs X.K X.mg F W (callF P n)) 0 as)) : PE X (.Call (.Name x p) (.Name y py :: es) [] pos) ((tM X.K X.mg F W (callF P n)) (.callc x as)) := by
  refine PE.imp (pe_callS G hr hg hm hk hb (fun σ => passAt tk σ) (pa_cons (pe_var hN hv hdy hcd) ha (star_cons rfl)) hd (star_cons rfl) (star_none hs)) fun σ H Q ⟨env, c, Hf, O, g, h⟩ => ?_
  have hl1 : isLst c = true := by
    cases q : isLst c with
    | true => rfl
    | false =>
      have e : em (callF P n) (.callc x as) env c = .stuck := by
        show (if isLst c then hi _ else Res.stuck) = _
        rw [q]; rfl
      rw [e] at h
      exact h.elim
  have h0 : Wn X.K X.mg F W (pM X.K X.mg O) σ O H Hf (hi ((evs (callF P n) 0 as env c).bind fun xs c => callF P n x xs c)) Q := by
    have e : em (callF P n) (.callc x as) env c = hi ((evs (callF P n) 0 as env c).bind fun xs c => callF P n x xs c) := by
      show (if isLst c then hi _ else Res.stuck) = _
      rw [hl1]; rfl
    rw [← e]
    exact h
  have h' := wn_hi h0
  rcases g.cell with e0 | ⟨j, v, e0, e1, ow⟩
  · subst e0; cases hl1
  · rw [hc] at e0
    cases e0
    refine ⟨v, e1, env, c, Hf, O, g, wn_bind h' fun xs c1 vs H1 Hf1 e2 s1 k1 p1 h1 => ?_⟩
    have r := lents_rep p1
    have hne : callF P n fn.name xs c1 ≠ Res.stuck := fun z => by
      rw [hx] at z
      rw [z] at h1
      exact h1.elim
    obtain ⟨ys, rfl⟩ := callF_cell hf hcp hne
    rcases k1 with k | ⟨j, v', e3, e4, n1, a1, us, e5, la, ta, lu, ru⟩
    · cases k
    · rw [hc] at e3
      cases e3
      rw [e1] at e4
      cases e4
      cases e5
      have oa : O a1 = some (none, []) := lab_of la
      have hfa : Hf1 a1 = none := ((g.step s1 (c' := .non) (.inl rfl)).own a1 _ oa).1
      refine ⟨xs, .lst ys, Hf1, some a1, vs, s1.sub, r, by rw [List.length_cons, r.length, evs_len e2, hl], .inr ⟨hcp, a1, rfl, rfl, hfa, ys, us, rfl, n1, ta, RepL.of lu ru⟩, ?_⟩
      rw [hx]
      have step : ∀ {H2 Hf2 : Hp}, After H1 Hf1 (some a1) H2 Hf2 → Step O H1 Hf1 H2 Hf2 := fun af => af.step fun b e => by cases e; exact ⟨[], oa⟩
      have cell : ∀ {H2 Hf2 : Hp} {c2 : PV}, CellAt X.K X.mg H2 Hf2 a1 c2 → CellOk X.K X.mg F σ H2 Hf2 O c2 := fun ⟨_, zs, ws, q1, q2, q3, q4⟩ => by
        subst q1
        refine .inr ⟨i, .ref a1, hc, e1, q2, a1, ws, rfl, la, q3, q4.length, fun j x u g1 g2 => ?_⟩
        obtain ⟨u', g3, g4⟩ := q4.get g1
        rw [g2] at g3
        cases g3
        exact g4
      cases q : callF P n x xs (.lst ys) with
      | stuck => rw [q] at h1; exact h1.elim
      | ok w c2 =>
        rw [q] at h1
        intro w' H2 Hf2 af ca fr
        rw [hrd] at fr
        exact h1 w' H2 Hf2 (step af) (cell (ca a1 rfl)) fr.rep0
      | exc e c2 =>
        rw [q] at h1
        intro cls d H2 Hf2 af ca er
        exact h1 cls d H2 Hf2 (step af) (cell (ca a1 rfl)) er
end
end PVL
end

section
set_option Elab.async false
set_option linter.all false
set_option maxRecDepth 100000
set_option maxHeartbeats 4000000
/-! PVL9S: sorted. -/
namespace L2
open PySem PySem.Spec PyProof.Rows
section
variable {prog : Program} {w : World} {A : Around} {d : Addr} {o : Obj} {es : Array DictEntry} {ep : Nat}
theorem walks_raw (hh : A.handled = none) (I : Addr) (hne : d ≠ I) (hdat : o.data = .dict es ep) :
    Walks prog w A I [I, d] [I] es.size (fun i v => ∃ en, es[i]? = some en ∧ v = en.key) (fun i h => h.IsKeyIter I d i es.size ep ∧ h.get? d = some o) where
  sub := fun b hb => by simp at hb; simp [hb]
  frame := fun _ _ _ st hk => ⟨st.1.at fun o e => hk I (by simp) o e, hk d (by simp) _ st.2⟩
  item := fun i s Q E hi st hQ => by
    have hx : es[i]? = some es[i] := Array.getElem?_eq_getElem hi
    refine next_key_item st.1 st.2 hdat rfl hx fun h' hit' hs' => ?_
    exact hQ _ h' s.toks ⟨_, hx, rfl⟩ ⟨hit', (hs'.2 d hne).trans st.2⟩ fun b o hb e => (hs'.2 b (fun z => hb (by simp [z]))).trans e
  done := fun s Q E st hQ => next_key_end hh st.1 st.2 hdat rfl (Nat.le_refl _) fun h' he' => hQ h' s.toks fun b o hb e => he' b o (fun h => hb (by simp [h])) e
  self := fun _ _ _ _ st hQ => wpAny_pyIter_keyiter st.1 hQ
theorem kdl_raw (hs : (d == sysModules) = false) (hx : o.ExactDict) (hdat : o.data = .dict es ep) : PySem.W.KdlSrc prog w "dict" d d es.size (fun i v => ∃ en, es[i]? = some en ∧ v = en.key) (fun h => h.get? d = some o) where
  type := fun _ hm => ⟨o, hm, hx.1⟩
  there := fun _ hm => ⟨Heap.lt_size hm, Heap.lt_size hm⟩
  keep := fun _ _ hm hk => hk d (.inl rfl) o hm
  notList := by decide
  notTuple := by decide
  hint := fun _ _ s _ hm hq => PySem.W.kdl_hint_dict ⟨o, hm, hx.1⟩ hq
  iter := fun _ s hh hm => ⟨_, _, (fun _ _ hq => iter_keys hs hm hx hdat hq), walks_raw hh _ (Nat.ne_of_lt (Heap.lt_size hm)) hdat, ⟨⟨_, Heap.get?_push_size _ rfl, rfl, rfl⟩, Heap.get?_push_of_some _ hm⟩⟩
end
section
variable {X : Cx}
/-- a pair, told by its address -/
def PairAt (H : Hp) (p : Int × Int) (y : V) : Prop := ∃ t, y = .ref t ∧ H t = some (.tup [.int p.1, .int p.2])
/-- sorted(d), d's keys pairs of ints -/
def rSortedDT : List V → Hp → VK → Prop := fun xs H Q => ∃ (a : Addr) (kvs : List (List Key × V)) (ps : List (Int × Int)), xs = [.ref a] ∧ Rd H a (.dT kvs) ∧ kvs.map (·.1) = ps.map (fun p => [Sum.inl p.1, Sum.inl p.2]) ∧
  ∀ (qs : List (Int × Int)) (ys : List V) (p : Addr), qs.Perm ps → qs.Pairwise (fun x y => SrtO.lexB y x = false) → Paired (PairAt H) qs ys → H p = none → Q (.ref p) (upd H p (.lst ys))
theorem pair_is {P : Program} {w : World} {H : Hp} {h : Heap} {t : Addr} {i j : Int} (ok : HOk P w H h) (e : H t = some (.tup [.int i, .int j])) : Srt.IsPair h (.ref t) i j := by
  obtain ⟨_, its2, r2, o, ho, hc, n, hd⟩ := ok _ _ e
  obtain ⟨u1, u2, rfl, ri, rj⟩ := vals2 r2
  obtain ⟨t1, rfl⟩ := ri
  obtain ⟨t2, rfl⟩ := rj
  exact ⟨t, o, t1, t2, n, rfl, ho, hc, hd⟩
theorem call_sortedDT (hcalm : X.calm = true) : CallR X (.builtin "sorted") rSortedDT := by
  intro pins s σ H xs us Q I r q
  obtain ⟨a, kvs, ps, ex, hd, hks, q⟩ := q
  subst ex
  obtain ⟨u, eu, rx⟩ := vals1 r
  subst eu
  cases rx
  obtain ⟨z, y, zs, rel, o, es, ep, h1, h2, h3, h4, h5⟩ := (show ObjOk X.prog X.w H s.heap a (.dT kvs) from hd.ok I.hok)
  have l1 : es.size = zs.length := size_of_entries h4
  have l2 : kvs.length = zs.length := Paired.length rel
  have l3 : kvs.length = ps.length := by have := congrArg List.length hks; rwa [List.length_map, List.length_map] at this
  -- the key of an entry
  have key : ∀ (i : Nat) (en : DictEntry), es[i]? = some en → ∃ (p : Int × Int) (t : Addr), ps[i]? = some p ∧ en.key = .ref t ∧ H t = some (.tup [.int p.1, .int p.2]) := fun i en he => by
    have hi : i < kvs.length := by have := (Array.getElem?_eq_some_iff.mp he).1; omega
    obtain ⟨b, hb, e1, e2, _⟩ := paired_get rel (List.getElem?_eq_getElem hi)
    have qe := entry_at h4 i
    rw [hb, he] at qe
    have qe' : en = entryOfKey (tupleKind (mixKind X.prog X.w)) b := by simpa using qe
    have hp : ps[i]? = some (ps[i]'(by omega)) := List.getElem?_eq_getElem (by omega)
    refine ⟨_, b.2.1, hp, by rw [qe']; rfl, ?_⟩
    have ek : (kvs.map (·.1))[i]? = some kvs[i].1 := by rw [List.getElem?_map, List.getElem?_eq_getElem hi] <;> rfl
    rw [hks, List.getElem?_map, hp] at ek
    have ek' : [Sum.inl (ps[i]'(by omega)).1, Sum.inl (ps[i]'(by omega)).2] = kvs[i].1 := Option.some.inj ek
    rw [e2, ← ek']
    rfl
  refine Calls.call_function_entry PyProof.Rows.kind_sorted PyProof.Rows.plain_sorted PyProof.Rows.entry_sorted (PyProof.Rows.args_sorted1 _) ?_
  unfold Builtin.«sorted»
  refine wpAny_bind (m := checkCount "sorted" 1 1 _) (wpAny_pure ?_)
  refine wpAny_bind (PySem.W.kdu_collect (A := X.A.in1) (kdl_raw y h2 h3) (I.ok.hd hcalm) h1 (by omega) fun h' tk acc hk hacc => ?_)
  have hal : acc.toList.length = ps.length := by rw [Array.length_toList, hacc.1, l1]; omega
  have I1 : Inv X pins σ H { s with heap := h', toks := tk } := I.kept hk
  have hz : acc.toList.length ≤ sizeLine := by rw [hal, ← l3]; exact z
  -- the pairs in a row
  obtain ⟨k, hkk⟩ : ∃ k : Value → Int × Int, ∀ (i : Nat) (v : Value), acc.toList[i]? = some v → ∃ p, ps[i]? = some p ∧ k v = p ∧ ∃ t, v = .ref t ∧ H t = some (.tup [.int p.1, .int p.2]) := by
    refine ⟨fun v => match v with
      | .ref t => (match H t with
        | some (.tup [.int i, .int j]) => (i, j)
        | _ => (0, 0))
      | _ => (0, 0), fun i v hv => ?_⟩
    obtain ⟨en, e1, e2⟩ := hacc.2 i v (by rw [← Array.getElem?_toList]; exact hv)
    obtain ⟨p, t, e3, e4, e5⟩ := key i en e1
    rw [e4] at e2
    subst e2
    exact ⟨p, e3, by simp only [e5], t, rfl, e5⟩
  have hmem : ∀ v ∈ acc.toList, ∃ t, v = .ref t ∧ H t = some (.tup [.int (k v).1, .int (k v).2]) := fun v hv => by
    obtain ⟨i, hi⟩ := List.mem_iff_getElem?.mp hv
    obtain ⟨p, _, e1, t, e2, e3⟩ := hkk i v hi
    exact ⟨t, e2, by rw [e1]; exact e3⟩
  have hmap : acc.toList.map k = ps := by
    refine List.ext_getElem? fun i => ?_
    rw [List.getElem?_map]
    cases hv : acc.toList[i]? with
    | none =>
      have : ps[i]? = none := by
        rw [List.getElem?_eq_none_iff] at hv ⊢
        omega
      rw [this] <;> rfl
    | some v =>
      obtain ⟨p, e1, e2, _⟩ := hkk i v hv
      rw [e1, ← e2] <;> rfl
  refine wpAny_bind (wpAny_newList ?_ hz)
  have hoL : (h'.push (seqObj "list" acc.toList.toArray 0)).get? h'.objs.size = some (seqObj "list" acc.toList.toArray 0) := Heap.get?_push_size _ rfl
  show wpAny _ _ _ _ _ { s with heap := h'.push (seqObj "list" acc.toList.toArray 0), toks := tk }
  refine wpAny_bind (wpAny_holding (wpAny_call_entry PyProof.Rows.slot_list_sort ⟨_, hoL, rfl⟩ PyProof.Rows.entry_list_sort
    (SrtO.list_sort_ord (s := { s with heap := h'.push (seqObj "list" acc.toList.toArray 0), toks := tk }) (SrtO.swo_lex k) hoL hz (fun h2' => ?_) fun out hs hb => ⟨_, rfl, ?_⟩) (PyProof.Rows.args_list_sort _)))
  · refine SrtO.pairs_sortableO (by omega) (fun v hv => ?_) fun o' e => ?_
    · obtain ⟨t, rfl, e⟩ := hmem v hv
      exact (pair_is I1.hok e).keeps fun b ob q _ => Heap.get?_push_of_some _ q
    · have e' : some o' = some (seqObj "list" acc.toList.toArray 0) := e.symm.trans hoL
      cases e'
      intro c
      exact absurd (Value.type.inj c) (by decide)
  · obtain ⟨e', he'⟩ := PyProof.Rows.sortedHeap_at (vs := acc.toList) (out := out.toArray) hoL
    have hm2 : ∀ v ∈ out, ∃ t, v = .ref t ∧ H t = some (.tup [.int (k v).1, .int (k v).2]) := fun v hv => hmem v (hb.perm.mem_iff.mp hv)
    have hvals : Vals (out.map backV) out := vals_back fun u hu => by
      obtain ⟨t, e, _⟩ := hm2 u hu
      exact ⟨t, e⟩
    have hlen : (out.map backV).length ≤ sizeLine := by rw [List.length_map, hb.len]; exact hz
    refine wpAny_pure ⟨_, rfl, .ref h'.objs.size, upd H h'.objs.size (.lst (out.map backV)), I1.laid (t' := tk) (fun b u e => ?_) (Nat.le_refl _) ⟨hlen, out, _, hvals, he'⟩, rfl, q (out.map k) (out.map backV) _ ?_ ?_ ?_ (I1.hok.fresh (Nat.le_refl _))⟩
    · have hlt : b < h'.objs.size := Heap.lt_size e
      rw [PyProof.Rows.sortedHeap_old (Nat.ne_of_lt hlt) (by rw [Heap.size_push]; exact Nat.lt_succ_of_lt hlt)]
      exact Heap.get?_push_of_some _ e
    · rw [← hmap]
      exact hb.perm.map k
    · exact List.pairwise_map.mpr hs
    · have : ∀ (l : List Value), (∀ v ∈ l, ∃ t, v = Value.ref t ∧ H t = some (.tup [.int (k v).1, .int (k v).2])) → Paired (PairAt H) (l.map k) (l.map backV) := fun l => by
        induction l with
        | nil => intro _; exact .nil
        | cons v l ih =>
          intro h
          obtain ⟨t, e1, e2⟩ := h v List.mem_cons_self
          exact .cons ⟨t, by rw [e1] <;> rfl, e2⟩ (ih fun u hu => h u (List.mem_cons_of_mem _ hu))
      exact this out hm2
end
end L2
namespace PVL
open PySem L2
theorem perm_insI (x : Int) : ∀ l, (insI x l).Perm (x :: l)
  | [] => .refl _
  | y :: r => by
    unfold insI
    split
    · exact .refl _
    · exact ((perm_insI x r).cons y).trans (.swap x y r)
theorem perm_sortI : ∀ l, (sortI l).Perm l
  | [] => .refl _
  | x :: r => (perm_insI x (sortI r)).trans ((perm_sortI r).cons x)
theorem pw_insI (x : Int) : ∀ {l : List Int}, l.Pairwise (· ≤ ·) → (insI x l).Pairwise (· ≤ ·)
  | [], _ => List.pairwise_singleton _ _
  | y :: r, h => by
    unfold insI
    rw [List.pairwise_cons] at h
    split
    · rename_i hxy
      exact List.pairwise_cons.mpr ⟨fun z hz => by
        rcases List.mem_cons.mp hz with e | e
        · rw [e]; exact hxy
        · exact Int.le_trans hxy (h.1 z e), List.pairwise_cons.mpr h⟩
    · rename_i hxy
      refine List.pairwise_cons.mpr ⟨fun z hz => ?_, pw_insI x h.2⟩
      rcases List.mem_cons.mp ((perm_insI x r).mem_iff.mp hz) with e | e
      · rw [e]; omega
      · exact h.1 z e
theorem pw_sortI : ∀ l : List Int, (sortI l).Pairwise (· ≤ ·)
  | [] => .nil
  | x :: r => pw_insI x (pw_sortI r)
theorem sortI_uniq {l m : List Int} (h : m.Perm l) (s : m.Pairwise (· ≤ ·)) : m = sortI l :=
  List.Perm.eq_of_pairwise (fun a b _ _ h1 h2 => by omega) s (pw_sortI l) (h.trans (perm_sortI l).symm)
theorem leP_iff {p q : Int × Int} : leP p q = true ↔ p.1 < q.1 ∨ (p.1 = q.1 ∧ p.2 ≤ q.2) := by
  unfold leP
  split
  · rw [decide_eq_true_eq]; omega
  · rw [decide_eq_true_eq]; omega
theorem perm_insP (x : Int × Int) : ∀ l, (insP x l).Perm (x :: l)
  | [] => .refl _
  | y :: r => by
    unfold insP
    split
    · exact .refl _
    · exact ((perm_insP x r).cons y).trans (.swap x y r)
theorem perm_sortP : ∀ l, (sortP l).Perm l
  | [] => .refl _
  | x :: r => (perm_insP x (sortP r)).trans ((perm_sortP r).cons x)
theorem pw_insP (x : Int × Int) : ∀ {l : List (Int × Int)}, l.Pairwise (fun p q => leP p q = true) → (insP x l).Pairwise (fun p q => leP p q = true)
  | [], _ => List.pairwise_singleton _ _
  | y :: r, h => by
    unfold insP
    rw [List.pairwise_cons] at h
    split
    · rename_i hxy
      exact List.pairwise_cons.mpr ⟨fun z hz => by
        rcases List.mem_cons.mp hz with e | e
        · rw [e]; exact hxy
        · have := leP_iff.mp hxy
          have := leP_iff.mp (h.1 z e)
          exact leP_iff.mpr (by omega), List.pairwise_cons.mpr h⟩
    · rename_i hxy
      refine List.pairwise_cons.mpr ⟨fun z hz => ?_, pw_insP x h.2⟩
      rcases List.mem_cons.mp ((perm_insP x r).mem_iff.mp hz) with e | e
      · rw [e]
        have : ¬ (x.1 < y.1 ∨ (x.1 = y.1 ∧ x.2 ≤ y.2)) := fun z => hxy (leP_iff.mpr z)
        exact leP_iff.mpr (by omega)
      · exact h.1 z e
theorem pw_sortP : ∀ l : List (Int × Int), (sortP l).Pairwise (fun p q => leP p q = true)
  | [] => .nil
  | x :: r => pw_insP x (pw_sortP r)
theorem sortP_uniq {l m : List (Int × Int)} (h : m.Perm l) (s : m.Pairwise (fun p q => SrtO.lexB q p = false)) : m = sortP l := by
  have s' : m.Pairwise (fun p q => leP p q = true) := s.imp fun {p q} e => by
    have := SrtO.lexB_no.mp e
    exact leP_iff.mpr (by omega)
  refine List.Perm.eq_of_pairwise (fun a b _ _ h1 h2 => ?_) s' (pw_sortP l) (h.trans (perm_sortP l).symm)
  have h1 := leP_iff.mp h1
  have h2 := leP_iff.mp h2
  exact Prod.ext (by omega) (by omega)
section
variable {K : PySem.W.Frag} {mg : Str → Option Value} {O : Ow} {H Hf : Hp} {F : Frame} {σ : St} {c : PV}
theorem ints_repL : ∀ {xs : List PV} {vs : List V} {ns : List Int}, ints? xs = some ns → RepL K mg H xs vs → vs = ns.map V.int
  | [], _, _, e, h => by cases e; cases (show _ = [] from h); rfl
  | x :: xs, _, ns, e, ⟨v, r, h1, h2, h3⟩ => by
    subst h1
    cases x <;> simp only [ints?] at e <;> first | (cases e; done) | skip
    cases q : ints? xs with
    | none => rw [q] at e; cases e
    | some ms =>
      rw [q] at e
      cases e
      have i1 := ints_repL q h3
      cases (show v = _ from h2)
      subst i1
      rfl
theorem ints_back {xs : List PV} {ns : List Int} (e : ints? xs = some ns) : xs = ns.map .int := by
  induction xs generalizing ns with
  | nil => cases e; rfl
  | cons x xs ih =>
    cases x <;> simp only [ints?] at e <;> first | (cases e; done) | skip
    cases q : ints? xs with
    | none => rw [q] at e; cases e
    | some ms =>
      rw [q] at e
      cases e
      rw [ih q] <;> rfl
theorem int_repL : ∀ ns : List Int, RepL K mg H (ns.map PV.int) (ns.map V.int)
  | [] => rfl
  | i :: ns => ⟨_, _, rfl, rfl, int_repL ns⟩
theorem prs_rep : ∀ {xs : List PV} {vs : List V} {ps : List (Int × Int)}, prs? xs = some ps → RepL K mg H xs vs → Paired (PairAt H) ps vs
  | [], _, _, e, h => by cases e; cases (show _ = [] from h); exact .nil
  | x :: xs, _, ps, e, ⟨v, r, h1, h2, h3⟩ => by
    subst h1
    match x, e, h2 with
    | .tup [.int i, .int j], e, h2 =>
      simp only [prs?] at e
      cases q : prs? xs with
      | none => rw [q] at e; cases e
      | some ms =>
        rw [q] at e
        cases e
        obtain ⟨_, t, us, rfl, e1, u1, _, rfl, r1, u2, _, rfl, r2, r3⟩ := h2
        cases (show u1 = _ from r1)
        cases (show u2 = _ from r2)
        cases (show _ = [] from r3)
        exact .cons ⟨t, rfl, e1⟩ (prs_rep q h3)
theorem rep_prs : ∀ {ps : List (Int × Int)} {vs : List V}, Paired (PairAt H) ps vs → RepL K mg H (ps.map prV) vs
  | _, _, .nil => rfl
  | _, _, .cons ⟨t, e1, e2⟩ r => ⟨_, _, rfl, ⟨by show 2 ≤ 16777216; omega, t, _, e1, e2, _, _, rfl, rfl, _, _, rfl, rfl, rfl⟩, rep_prs r⟩
theorem dprs_keys : ∀ {kvs : List (DKey × PV)} {ps : List (Int × Int)}, dprs? kvs = some ps → kvs.map (·.1) = ps.map fun p => DKey.tup [Sum.inl p.1, Sum.inl p.2]
  | [], _, e => by cases e; rfl
  | (k, x) :: kvs, ps, e => by
    match k, e with
    | .tup [.inl i, .inl j], e =>
      simp only [dprs?] at e
      cases q : dprs? kvs with
      | none => rw [q] at e; cases e
      | some ms =>
        rw [q] at e
        cases e
        rw [List.map_cons, dprs_keys q] <;> rfl
/-- all tuples frozen -/
def tups (H Hf : Hp) : Hp := fun b => match Hf b with
  | some o => some o
  | none => match H b with
    | some (.tup vs) => some (.tup vs)
    | _ => none
theorem tups_ex : Ex Hf (tups H Hf) := fun a o e => by unfold tups; rw [e]
theorem tups_at {t : Addr} {vs : List V} (sub : Ex Hf H) (e : H t = some (.tup vs)) : tups H Hf t = some (.tup vs) := by
  unfold tups
  cases q : Hf t with
  | some o => have := sub _ _ q; rw [e] at this; cases this; rfl
  | none => simp only [e]
theorem tups_step (sub : Ex Hf H) : Step O H Hf H (tups H Hf) where
  h := fun _ _ e _ => e
  there := fun _ o e => ⟨o, e, rfl⟩
  f := tups_ex
  sub := fun a o e => by
    unfold tups at e
    cases q : Hf a with
    | some u => rw [q] at e; cases e; exact sub _ _ q
    | none =>
      rw [q] at e
      simp only [] at e
      split at e
      · cases e; assumption
      · cases e
  new := fun a o e => by
    unfold tups at e
    cases q : Hf a with
    | some u => rw [q] at e; cases e; exact .inl rfl
    | none =>
      rw [q] at e
      simp only [] at e
      split at e
      · cases e; exact .inr (.inr rfl)
      · cases e
theorem CellOk.ex {Hf' : Hp} (k : CellOk K mg F σ H Hf O c) (e : Ex Hf Hf') : CellOk K mg F σ H Hf' O c := by
  rcases k with k | ⟨i, v, h1, h2, h3⟩
  · exact .inl k
  · exact .inr ⟨i, v, h1, h2, h3.stay (fun a q u _ e => e) e⟩
end
section
variable {X : Cx}
theorem len_map_sortI (ns : List Int) : ((sortI ns).map PV.int).length = ns.length := by rw [List.length_map, (perm_sortI ns).length_eq]
theorem b1_sorted (hcalm : X.calm = true) : B1R X .sorted (.builtin "sorted") := ⟨_, cr_sortedI.or (cr_sortedPO.or (call_sortedDT hcalm)), fun F σ O H0 H Hf x z c v d Q h0 sub ck hd l e hq => by
  cases x <;> simp only [PVL.b1] at e <;> first | (cases e; done) | skip
  case lst xs =>
    obtain ⟨n1, p, vs, rfl, t1, r1⟩ := l.lst sub hd
    cases eb : ints? xs with
    | some ns =>
      rw [eb] at e
      cases e
      have := ints_repL eb r1
      subst this
      have hl := r1.length
      rw [List.length_map] at hl
      refine .inl ⟨p, ns, rfl, SqL.of t1, fun ns' q hp hs hn => ?_⟩
      rw [sortI_uniq hp hs]
      exact fin_new hq h0 sub ck hn (by rw [len_map_sortI]; omega) (int_repL _)
    | none =>
      rw [eb] at e
      cases ep : prs? xs with
      | none => rw [ep] at e; cases e
      | some ps =>
        rw [ep] at e
        cases e
        have pr := prs_rep ep r1
        have hl := pr.length
        have hl2 := r1.length
        have at' : ∀ y ∈ vs, ∃ (p : Int × Int) (t : Addr), y = .ref t ∧ Hf t = some (.tup [.int p.1, .int p.2]) := fun y hy => by
          have : ∀ {ps : List (Int × Int)} {vs : List V}, Paired (PairAt Hf) ps vs → y ∈ vs → ∃ (p : Int × Int) (t : Addr), y = .ref t ∧ Hf t = some (.tup [.int p.1, .int p.2]) := by
            intro ps vs q
            induction q with
            | nil => intro h; cases h
            | cons h t ih =>
              intro hy
              rcases List.mem_cons.mp hy with e | e
              · subst e
                obtain ⟨t, e1, e2⟩ := h
                exact ⟨_, t, e1, e2⟩
              · exact ih e
          exact this pr hy
        let k : V → Int × Int := fun y => match y with
          | .ref t => (match Hf t with
            | some (.tup [.int i, .int j]) => (i, j)
            | _ => (0, 0))
          | _ => (0, 0)
        have kat : ∀ y ∈ vs, PairAt Hf (k y) y := fun y hy => by
          obtain ⟨p, t, rfl, e2⟩ := at' y hy
          exact ⟨t, rfl, by show Hf t = some (.tup [.int (k (.ref t)).1, .int (k (.ref t)).2]); simp only [k, e2]⟩
        have kmap : vs.map k = ps := by
          have : ∀ {ps : List (Int × Int)} {vs : List V}, Paired (PairAt Hf) ps vs → vs.map k = ps := by
            intro ps vs q
            induction q with
            | nil => rfl
            | cons h t ih =>
              obtain ⟨t, rfl, e2⟩ := h
              rw [List.map_cons, ih]
              simp only [k, e2]
          exact this pr
        refine .inr (.inl ⟨p, vs, k, rfl, SqL.of t1, fun y hy => ?_, fun ys q hs hb hn => ?_⟩)
        · obtain ⟨t, e1, e2⟩ := kat y hy
          exact ⟨t, e1, sub _ _ e2⟩
        · have hp : (ys.map k).Perm ps := by rw [← kmap]; exact hb.perm.map k
          have hu := sortP_uniq hp (List.pairwise_map.mpr hs)
          have pr2 : Paired (PairAt Hf) (ys.map k) ys := by
            have : ∀ (l : List V), (∀ y ∈ l, PairAt Hf (k y) y) → Paired (PairAt Hf) (l.map k) l := fun l => by
              induction l with
              | nil => intro _; exact .nil
              | cons v l ih => intro h; exact .cons (h v List.mem_cons_self) (ih fun u hu => h u (List.mem_cons_of_mem _ hu))
            exact this ys fun y hy => kat y (hb.perm.mem_iff.mp hy)
          rw [hu] at pr2
          refine fin_new hq h0 sub ck hn ?_ (rep_prs pr2)
          rw [List.length_map, (perm_sortP ps).length_eq]
          omega
  case dct t kvs =>
    cases t with
    | false => cases e
    | true =>
      simp only [PVL.b1] at e
      cases ep : dprs? kvs with
      | none => rw [ep] at e; cases e
      | some ps =>
        rw [ep] at e
        cases e
        obtain ⟨n1, p, vs, rfl, ⟨qs, k1, k2⟩, r1⟩ := l.dct sub hd
        have lv := r1.length
        have lk : qs.length = kvs.length := by have := congrArg List.length k1; rw [List.length_map, List.length_map] at this; omega
        have kk := dprs_keys ep
        have lp : kvs.length = ps.length := by have := congrArg List.length kk; rwa [List.length_map, List.length_map] at this
        have hqs : qs = ps.map fun p => [Sum.inl p.1, Sum.inl p.2] := by
          rw [k1] at kk
          have inj : ∀ (as bs : List (List Key)), as.map DKey.tup = bs.map DKey.tup → as = bs := fun as bs h => by
            induction as generalizing bs with
            | nil => cases bs with | nil => rfl | cons => simp at h
            | cons a as ih =>
              cases bs with
              | nil => simp at h
              | cons b bs =>
                rw [List.map_cons, List.map_cons] at h
                injection h with h1 h2
                injection h1 with h1
                rw [h1, ih bs h2]
          refine inj _ _ (kk.trans ?_)
          rw [List.map_map] <;> rfl
        refine .inr (.inr ⟨p, qs.zip vs, ps, rfl, .inl k2, ?_, fun qs' ys q hp hs pr hn => ?_⟩)
        · rw [List.map_fst_zip (by omega)]
          exact hqs
        · have hu := sortP_uniq hp hs
          subst hu
          have st := tups_step (O := O) sub
          have pr2 : Paired (PairAt (tups H Hf)) (sortP ps) ys := by
            have : ∀ {as : List (Int × Int)} {bs : List V}, Paired (PairAt H) as bs → Paired (PairAt (tups H Hf)) as bs := by
              intro as bs h
              induction h with
              | nil => exact .nil
              | cons h t ih =>
                obtain ⟨t, e1, e2⟩ := h
                exact .cons ⟨t, e1, tups_at sub e2⟩ ih
            exact this pr
          refine fin_new (fun v H' Hf' s k f => hq v H' Hf' (st.trans s) k f) h0 st.sub (ck.ex tups_ex) hn ?_ (rep_prs pr2)
          rw [List.length_map, (perm_sortP ps).length_eq]
          omega⟩
theorem b1_str : B1R X .str (.type "str") := ⟨_, SkE.call_str_str, fun F σ O H0 H Hf x z c v d Q h0 sub ck hd l e hq => by
  cases x <;> simp only [PVL.b1] at e <;> first | (cases e; done) | skip
  cases e
  cases l.flat (by simp)
  exact ⟨_, rfl, fin_at (fin_rep (by simp) hq) sub ck rfl⟩⟩
theorem fold_min : ∀ (r : List Int) (x : Int), (r.foldl (fun a b => if b < a then b else a) x) ∈ x :: r ∧ ∀ y ∈ x :: r, (r.foldl (fun a b => if b < a then b else a) x) ≤ y
  | [], x => ⟨by simp, fun y hy => by simp at hy; subst hy; exact Int.le_refl _⟩
  | b :: r, x => by
    obtain ⟨h1, h2⟩ := fold_min r (if b < x then b else x)
    rw [List.foldl_cons]
    refine ⟨?_, fun y hy => ?_⟩
    · rcases List.mem_cons.mp h1 with e | e
      · rw [e]; split <;> simp
      · exact List.mem_cons_of_mem _ (List.mem_cons_of_mem _ e)
    · have h0 := h2 _ List.mem_cons_self
      rcases List.mem_cons.mp hy with e | hy
      · subst e
        refine Int.le_trans h0 ?_
        split <;> omega
      · rcases List.mem_cons.mp hy with e | hy
        · subst e
          refine Int.le_trans h0 ?_
          split <;> omega
        · exact h2 y (List.mem_cons_of_mem _ hy)
theorem fold_max : ∀ (r : List Int) (x : Int), (r.foldl (fun a b => if b > a then b else a) x) ∈ x :: r ∧ ∀ y ∈ x :: r, y ≤ (r.foldl (fun a b => if b > a then b else a) x)
  | [], x => ⟨by simp, fun y hy => by simp at hy; subst hy; exact Int.le_refl _⟩
  | b :: r, x => by
    obtain ⟨h1, h2⟩ := fold_max r (if b > x then b else x)
    rw [List.foldl_cons]
    refine ⟨?_, fun y hy => ?_⟩
    · rcases List.mem_cons.mp h1 with e | e
      · rw [e]; split <;> simp
      · exact List.mem_cons_of_mem _ (List.mem_cons_of_mem _ e)
    · have h0 := h2 _ List.mem_cons_self
      rcases List.mem_cons.mp hy with e | hy
      · subst e
        refine Int.le_trans ?_ h0
        split <;> omega
      · rcases List.mem_cons.mp hy with e | hy
        · subst e
          refine Int.le_trans ?_ h0
          split <;> omega
        · exact h2 y (List.mem_cons_of_mem _ hy)
theorem minI_of {ns : List Int} {m : Int} (h : minI ns = some m) : 0 < ns.length ∧ m ∈ ns ∧ ∀ y ∈ ns, m ≤ y := by
  cases ns with
  | nil => cases h
  | cons x r => cases h; exact ⟨Nat.zero_lt_succ _, fold_min r x⟩
theorem maxI_of {ns : List Int} {m : Int} (h : maxI ns = some m) : 0 < ns.length ∧ m ∈ ns ∧ ∀ y ∈ ns, y ≤ m := by
  cases ns with
  | nil => cases h
  | cons x r => cases h; exact ⟨Nat.zero_lt_succ _, fold_max r x⟩
theorem b1_sum (hcalm : X.calm = true) : B1R X .sum (.builtin "sum") := ⟨_, cr_sum hcalm, fun F σ O H0 H Hf x z c v d Q h0 sub ck hd l e hq => by
  cases x <;> simp only [PVL.b1] at e <;> first | (cases e; done) | skip
  rename_i xs
  cases eb : ints? xs with
  | none => rw [eb] at e; cases e
  | some ns =>
    rw [eb] at e
    cases e
    obtain ⟨_, p, vs, rfl, t1, r1⟩ := l.lst sub hd
    have := ints_repL eb r1
    subst this
    exact ⟨p, ns, rfl, SqL.of t1, fin_at (fin_rep (by simp) hq) sub ck rfl⟩⟩
end
end PVL
end

section
set_option Elab.async false
set_option linter.all false
set_option maxRecDepth 100000
set_option maxHeartbeats 4000000
/-! PVL9R: slices with the step -1. -/
namespace HT
open PySem PyProof.Rows PySem.Spec
theorem pick_rev {α : Type} (xs : List α) : ∀ k, k ≤ xs.length → ((List.range k).filterMap fun (m : Nat) => xs[((k : Int) - 1 + (m : Int) * -1).toNat]?) = (xs.take k).reverse
  | 0, _ => rfl
  | k + 1, h => by
    have ih := pick_rev xs k (by omega)
    rw [List.range_succ_eq_map, List.filterMap_cons]
    have e0 : (((k + 1 : Nat) : Int) - 1 + ((0 : Nat) : Int) * -1).toNat = k := by omega
    rw [e0, List.getElem?_eq_getElem (show k < xs.length by omega)]
    simp only []
    rw [List.filterMap_map]
    have e1 : ((fun (m : Nat) => xs[(((k + 1 : Nat) : Int) - 1 + (m : Int) * -1).toNat]?) ∘ Nat.succ) = fun (m : Nat) => xs[((k : Int) - 1 + (m : Int) * -1).toNat]? := by
      funext m
      show xs[(((k + 1 : Nat) : Int) - 1 + ((m + 1 : Nat) : Int) * -1).toNat]? = _
      congr 2
      omega
    rw [e1, ih, List.take_succ_eq_append_getElem (show k < xs.length by omega), List.reverse_append] <;> rfl
/-- where x[lo::-1] begins -/
def rIx (n : Nat) : Option Int → Nat
  | none => n
  | some v => if v < 0 then (v + (n : Int) + 1).toNat else min (v.toNat + 1) n
theorem rIx_le (n : Nat) (o : Option Int) : rIx n o ≤ n := by
  cases o with
  | none => exact Nat.le_refl _
  | some v =>
    show (if v < 0 then (v + (n : Int) + 1).toNat else min (v.toNat + 1) n) ≤ n
    split <;> omega
theorem adjust_rev (lo : Option Int) (n : Nat) : Builtin.Slice.sliceAdjust lo none (-1) (n : Int) = ((rIx n lo : Int) - 1, -1) := by
  unfold Builtin.Slice.sliceAdjust
  have h1 : ((-1 : Int) < 0) := by omega
  simp only [h1, if_true]
  refine Prod.ext ?_ rfl
  cases lo with
  | none => rfl
  | some v =>
    show (if v < 0 then max (v + (n : Int)) (-1) else min v ((n : Int) - 1)) = (((if v < 0 then (v + (n : Int) + 1).toNat else min (v.toNat + 1) n : Nat)) : Int) - 1
    split <;> omega
theorem places_rev (k : Nat) : Builtin.Slice.slicePlaces ((k : Int) - 1) (-1) (-1) = k := by
  unfold Builtin.Slice.slicePlaces
  have h1 : ¬ ((-1 : Int) > 0) := by omega
  have e : -(-1 : Int) = 1 := rfl
  simp only [h1, if_false, e, Int.ediv_one]
  split <;> omega
section
variable {prog : Program} {w : World} {A : Around} {E : Value → Shared → Prop} {s : Shared}
theorem sliceApplied_rev {sl : Addr} {vl vs : Value} {lo : Option Int} {n : Nat} {Q : Int × Int × Nat → Shared → Prop} (hs : s.heap.IsSliceOf sl vl .none vs) (pl : IsPart vl lo) (ps : IsPart vs (some (-1)))
    (h : Q ((rIx n lo : Int) - 1, -1, rIx n lo) s) : wpAny (model prog w) A (Builtin.Slice.sliceApplied (.ref sl) (pure (n : Int))) Q E s := by
  obtain ⟨os, hos, hcs, hds⟩ := id hs
  unfold Builtin.Slice.sliceApplied Builtin.Slice.sliceFields
  refine wpAny_bind (wpAny_bind (wpAny_field hos hds (x := vl) rfl (wpAny_bind (wpAny_field hos hds (x := .none) rfl (wpAny_bind (wpAny_field hos hds (x := vs) rfl (wpAny_pure ?_)))))))
  refine wpAny_bind (slicePart_ ps ?_)
  show wpAny _ _ (if ((-1 : Int) == 0) = true then _ else _) _ _ s
  rw [if_neg (by decide)]
  refine wpAny_bind (slicePart_ pl (wpAny_bind (slicePart_none (wpAny_bind (wpAny_pure ?_)))))
  show wpAny _ _ (match Builtin.Slice.sliceAdjust lo none (-1) (n : Int) with | (lo, hi) => pure (lo, (-1 : Int), Builtin.Slice.slicePlaces lo hi (-1))) _ _ s
  rw [adjust_rev lo n]
  show wpAny _ _ (pure ((rIx n lo : Int) - 1, (-1 : Int), Builtin.Slice.slicePlaces ((rIx n lo : Int) - 1) (-1) (-1))) _ _ s
  rw [places_rev]
  exact wpAny_pure h
theorem getItem_tuple_rev {t sl : Addr} {items : Array Value} {vl vs : Value} {lo : Option Int} {Q : Value → Shared → Prop} (ht : IsTup s.heap t items) (hs : s.heap.IsSliceOf sl vl .none vs) (pl : IsPart vl lo) (ps : IsPart vs (some (-1)))
    (h : Q (.ref s.heap.objs.size) { s with heap := s.heap.push { cls := .type "tuple", data := .seq ((items.toList.take (rIx items.size lo)).reverse).toArray } })
    (hsz : items.size ≤ sizeLine) : wpAny (model prog w) A (getItem (.ref t) (.ref sl)) Q E s := by
  have htake : sizeOk (.seq ((items.toList.take (rIx items.size lo)).reverse).toArray) := by
    show ((items.toList.take (rIx items.size lo)).reverse).toArray.size ≤ sizeLine
    rw [List.size_toArray, List.length_reverse, List.length_take, Array.length_toList]
    omega
  obtain ⟨os, hos, hcs, hds⟩ := id hs
  have hTs : s.TypeIs (.ref sl) "slice" := ⟨os, hos, hcs⟩
  unfold getItem
  try with_reducible refine wpAny_holding ?_
  first | refine wpAny_bind (wpAny_pure ?_) | skip
  refine wpAny_bind (wpAny_sequenceKey ht.typeIs (by decide) ?_)
  refine wpAny_bind (wpAny_callSpecial?_slot (name := Str.ofString "__getitem__") ht.typeIs PyProof.Rows.slot_tuple_getitem
    (wpAny_call_entry PyProof.Rows.slot_tuple_getitem ht.typeIs entry_tuple_getitem ?_ (args_tuple_getitem _ _)))
  show wpAny _ _ (Builtin.Tuple.tupleItemsOf (.ref t) >>= _) _ _ s
  refine wpAny_bind (tupleItemsOf_ ht ?_)
  refine wpAny_bind (wpAny_typeOf hTs ?_)
  rw [if_pos (by decide)]
  refine wpAny_bind (sliceApplied_rev hs pl ps ?_)
  have hno : ¬ (((rIx items.size lo : Int) - 1 == 0 && (-1 : Int) == 1 && rIx items.size lo == items.size) = true) := by
    intro q
    rw [Bool.and_eq_true, Bool.and_eq_true] at q
    exact absurd q.1.2 (by decide)
  show wpAny _ _ (if ((rIx items.size lo : Int) - 1 == 0 && (-1 : Int) == 1 && rIx items.size lo == items.size) = true then _ else _) _ _ s
  have hp : ((List.range (rIx items.size lo)).filterMap fun (m : Nat) => items[((rIx items.size lo : Int) - 1 + (m : Int) * -1).toNat]?) = (items.toList.take (rIx items.size lo)).reverse := by
    rw [← pick_rev items.toList _ (by rw [Array.length_toList]; exact rIx_le _ _)]
    congr 1
    funext m
    rw [Array.getElem?_toList]
  rw [if_neg hno, hp]
  first
    | exact wpAny_bind (m := Builtin.Tuple.tupleExact _) (wpAny_newObj_type (wpAny_pure ⟨_, rfl, wpAny_pure h⟩) htake)
    | exact wpAny_bind (m := Builtin.Tuple.tupleExact _) (wpAny_newObj_type (wpAny_bind (wpAny_pure (wpAny_pure ⟨_, rfl, wpAny_pure h⟩))) htake)
    | exact wpAny_bind (wpAny_bind (m := Builtin.Tuple.tupleExact _) (wpAny_newObj_type (wpAny_pure (wpAny_pure ⟨_, rfl, wpAny_pure h⟩)) htake))
    | exact wpAny_bind (wpAny_bind (m := Builtin.Tuple.tupleExact _) (wpAny_newObj_type (wpAny_pure ⟨_, rfl, wpAny_pure h⟩) htake))
end
end HT
namespace L2
open PySem PySem.Spec PyProof.Rows
section
variable {X : Cx} {e : Expr} {te : TE} {tl : TO} {l : Option Expr} {k : Nat} {p1 p2 p3 pos : Pos}
/-- x[lo::-1] of a tuple, x[::-1] of a list -/
def rRev (K : PySem.W.Frag) : V → Option Int → Hp → VK → Prop := fun x lo H Q => (∃ a xs, x = .ref a ∧ SqT K H a xs ∧ ∀ p, H p = none → Q (.ref p) (upd H p (.tup (xs.take (HT.rIx xs.length lo)).reverse))) ∨
  (lo = none ∧ ∃ a xs, x = .ref a ∧ SqL K H a xs ∧ ∀ p, H p = none → Q (.ref p) (upd H p (.lst xs.reverse)))
def tRev (K : PySem.W.Frag) (te : TE) (tl : TO) : TE := fun σ H Q => te σ H fun x H1 => tl σ H1 fun lo H2 => rRev K x lo H2 Q
theorem pe_rev (he : PE X e te) (hl : PO X l tl) : PE X (.Subscript e (.Slice l none (some (.UnaryOp .USub (.Constant (.int 1) k p1) p2)) p3) pos) (tRev X.K te tl) := by
  refine ⟨fun pins s σ H Q I h => ?_⟩
  refine Subscript_ (thn (he.run pins s σ H _ I h) fun v s1 ⟨x, H1, I1, r1, q1⟩ => ?_)
  have hst : PO X (some (.UnaryOp .USub (.Constant (.int 1) k p1) p2)) (tPart (tUn (rU fun i => .int (-i)) (tC (.int 1)))) := po_some (pe_un un_neg pe_int)
  refine wpAny_Slice (thn (hl.run pins s1 σ H1 _ I1 q1) fun vl s2 ⟨lo, H2, I2, pl, q2⟩ => ?_)
  refine thn (po_none.run pins s2 σ H2 (fun o H3 => o = none ∧ H3 = H2) I2 ⟨rfl, rfl⟩) fun vu s3 ⟨u, H3, I3, pu, eu, e3⟩ => ?_
  subst eu e3
  have evu : vu = .none := by cases pu; rfl
  subst evu
  refine thn (hst.run pins s3 σ H3 (fun o H4 => o = some (-1) ∧ H4 = H3) I3 ⟨1, rfl, -1, rfl, rfl, rfl⟩) fun vs s4 ⟨o, H4, I4, ps, eo, e4⟩ => ?_
  subst eo e4
  have I5 : Inv X pins σ H4 { s4 with heap := s4.heap.push { cls := .type "slice", data := .fields #[vl, .none, vs] } } := I4.kept (t' := s4.toks) fun b ob q => Heap.get?_push_of_some _ q
  show wpAny (model X.prog X.w) X.A (subscriptTail e (.Slice l none (some (.UnaryOp .USub (.Constant (.int 1) k p1) p2)) p3) v (.ref s4.heap.objs.size)) (EP X pins σ Q) X.xe { s4 with heap := s4.heap.push { cls := .type "slice", data := .fields #[vl, .none, vs] } }
  rcases q2 with ⟨a, xs, ex, hx, q⟩ | ⟨el, a, xs, ex, hx, q⟩
  · subst ex
    cases r1
    obtain ⟨its, r, ht, hz⟩ := I5.tuple hx
    have hlen : its.toArray.size = xs.length := by rw [List.size_toArray]; exact r.length.symm
    refine tail_any (ops := [.ref a, .ref s4.heap.objs.size]) ht.typeIs PyProof.Rows.slot_tuple_getitem.lookup ?_ (by with_unfolding_all rfl)
    refine HT.getItem_tuple_rev ht (Heap.IsSliceOf.new _ vl .none vs) pl ps ?_ (by rw [hlen]; exact hz)
    rw [hlen, List.toList_toArray]
    refine ⟨.ref _, _, I5.laid (t' := s4.toks) (o := .tup (xs.take (HT.rIx xs.length lo)).reverse) (fun b ob q => Heap.get?_push_of_some _ q) (Nat.le_refl _) ?_, rfl, q _ (I5.hok.fresh (Nat.le_refl _))⟩
    exact ⟨by rw [List.length_reverse, List.length_take]; omega, _, (r.take _).reverse, _, Heap.get?_push_size _ rfl, rfl, _, rfl⟩
  · subst ex el
    cases r1
    obtain ⟨its, r, ht, hz⟩ := I5.list hx
    have hlen := r.length
    refine tail_any (ops := [.ref a, .ref s4.heap.objs.size]) ht.isList.typeIs (PySem.slot_list_getitem.lookup) ?_ (by with_unfolding_all rfl)
    refine wpAny_getItem_list_slice ht.isList (Heap.IsSliceOf.new _ vl .none vs) pl .none ps (by decide) ?_ (by rw [List.size_toArray]; omega)
    rw [PySem.W.krv_pick]
    refine ⟨.ref _, _, I5.laid (t' := s4.toks) (o := .lst xs.reverse) (fun b ob q => Heap.get?_push_of_some _ q) (Nat.le_refl _) ?_, rfl, q _ (I5.hok.fresh (Nat.le_refl _))⟩
    exact ⟨by rw [List.length_reverse]; exact hz, _, 0, r.reverse, Heap.get?_push_size _ rfl⟩
end
end L2
namespace PVL
open PySem L2
section
variable {X : Cx} {W : WX} {F : Frame} {call : CallF} {pos : Pos} {ea eb : Expr} {a b : E} {es : List E} {l : Option Expr} {k : Nat} {p1 p2 p3 : Pos}
theorem RepL.rev {K : PySem.W.Frag} {mg : Str → Option Value} {H : Hp} : ∀ {xs : List PV} {vs : List V}, RepL K mg H xs vs → RepL K mg H xs.reverse vs.reverse
  | [], _, h => by cases (show _ = [] from h); rfl
  | x :: xs, _, ⟨v, r, h1, h2, h3⟩ => by
    subst h1
    rw [List.reverse_cons, List.reverse_cons]
    exact (RepL.rev h3).app (RepL.one h2)
theorem rIx_eq (n : Nat) (o : Option Int) : HT.rIx n o = PVL.rIx n o := by cases o <;> rfl
theorem rev_fin {O : Ow} {σ : St} {H0 H Hf : Hp} {c x z : PV} {v : V} {d : Nat} {lo : Option Int} {Q : VK} (h0 : ∀ p, H p = none → H0 p = none) (sub : Ex Hf H) (ck : CellOk X.K X.mg F σ H Hf O c) (hd : d ≤ 1) (lx : Lent X.K X.mg O H Hf d x v) (e : revV x lo = some z)
    (hq : ∀ v H' Hf', Step O H Hf H' Hf' → CellOk X.K X.mg F σ H' Hf' O c → Fresh X.K X.mg H0 H' Hf' 1 z v → Q v H') : rRev X.K v lo H Q := by
  cases x <;> first | (simp only [revV] at e; cases e; done) | skip
  case tup xs =>
    cases e
    obtain ⟨n1, p1, vs, rfl, t1, r1⟩ := lx.tup sub
    have hl := r1.length
    refine .inl ⟨p1, vs, rfl, SqT.of t1, fun p hp => ?_⟩
    have hc : ((xs.take (PVL.rIx xs.length lo)).reverse).length ≤ SZ := by rw [List.length_reverse, List.length_take]; omega
    refine fin_lay (fin_rep (by simp) hq) sub ck hp fun ex => ⟨hc, p, _, rfl, upd_same, ?_⟩
    have er : HT.rIx vs.length lo = PVL.rIx xs.length lo := by rw [rIx_eq, hl]
    rw [← er]
    exact ((r1.ex ex).take _).rev
  case lst xs =>
    cases lo with
    | some v => cases e
    | none =>
      cases e
      obtain ⟨n1, p1, vs, rfl, t1, r1⟩ := lx.lst sub hd
      exact .inr ⟨rfl, p1, vs, rfl, SqL.of t1, fun p hp => fin_new hq h0 sub ck hp (by rw [List.length_reverse]; exact n1) r1.rev⟩
theorem f_rev0 (ha : PE X ea (tM X.K X.mg F W call a)) : PE X (.Subscript ea (.Slice none none (some (.UnaryOp .USub (.Constant (.int 1) k p1) p2)) p3) pos) (tF X.K X.mg F W call 1 (.rev a [])) :=
  PE.imp (pe_rev ha po_none) fun σ H Q h => s_oneF (na := 1) (f := fun x c => .of (revV x none) c) h fun O H1 Hf x v c d1 h0 sub ck hd l1 hw => by
    obtain ⟨z, ez, hq⟩ := wn_of hw
    exact rev_fin h0 sub ck hd l1 ez hq
theorem f_rev1 (ha : PE X ea (tM X.K X.mg F W call a)) (hb : PE X eb (tM X.K X.mg F W call b)) : PE X (.Subscript ea (.Slice (some eb) none (some (.UnaryOp .USub (.Constant (.int 1) k p1) p2)) p3) pos) (tF X.K X.mg F W call 1 (.rev a [b])) := by
  refine PE.imp (pe_rev ha (po_some hb)) fun σ H Q h => ?_
  have e : ∀ env c, em call (.rev a [b]) env c = hi ((lo 1 (em call a env c)).bind fun x c => (lo 0 (em call b env c)).bind fun y c => (Res.of (int? y) c).bind fun k c => .of (revV x (some k)) c) := by
    intro env c
    show hi ((lo 1 (em call a env c)).bind fun x c => (((lo 0 (em call b env c)).bind fun x c => (Res.of (int? x) c).bind fun i c => (Res.ok [] c).bind fun xs c => Res.ok (i :: xs) c)).bind _) = _
    congr 2
    funext x c
    cases lo 0 (em call b env c) with
    | ok y c2 => simp only [bind_ok]; cases int? y <;> rfl
    | exc e c2 => rfl
    | stuck => rfl
  obtain ⟨env, c, Hf, O, g, h⟩ := h
  rw [e] at h
  refine s_binF (na := 1) (nb := 0) (r := fun x y H Q => ∃ i, y = .int i ∧ rRev X.K x (some i) H Q) (f := fun x y c => (Res.of (int? y) c).bind fun k c => .of (revV x (some k)) c) ⟨env, c, Hf, O, g, h⟩ fun O H1 Hf x y v u c h0 sub ck lx ly hw => ?_
  obtain ⟨d1, e1, lx⟩ := lx
  obtain ⟨d2, e2, ly⟩ := ly
  cases ey : int? y with
  | none => rw [ey] at hw; exact hw.elim
  | some i =>
    rw [ey] at hw
    cases y <;> first | (cases ey; done) | skip
    cases ey
    cases ly.flat (by simp)
    obtain ⟨z, ez, hq⟩ := wn_of hw
    exact ⟨_, rfl, rev_fin h0 sub ck e1 lx ez hq⟩
end
end PVL
end

section
set_option Elab.async false
set_option linter.all false
set_option maxRecDepth 100000
set_option maxHeartbeats 4000000
/-! PVL9Z: zip of two tuples to a name; enumerate of a tuple; least and greatest of a tuple. -/
namespace PVL
open PySem L2
/-! ### min, max of a tuple of ints -/
section
variable {X : Cx}
def rMinT (K : PySem.W.Frag) : List V → Hp → VK → Prop := fun vs H Q => ∃ (a : Addr) (n : Int) (ns : List Int), vs = [V.ref a] ∧ SqT K H a ((n :: ns).map V.int) ∧ Q (.int (ns.foldl (fun a b => if b < a then b else a) n)) H
def rMaxT (K : PySem.W.Frag) : List V → Hp → VK → Prop := fun vs H Q => ∃ (a : Addr) (n : Int) (ns : List Int), vs = [V.ref a] ∧ SqT K H a ((n :: ns).map V.int) ∧ Q (.int (ns.foldl (fun a b => if b > a then b else a) n)) H
theorem hold_ints {h : Heap} : ∀ {ns : List Int} {its : List Value}, Vals (ns.map V.int) its → PySem.W.HoldAll h its ns
  | [], its, r => by cases r; exact PySem.W.HoldAll.nil
  | n :: ns, its, r => by
    cases r with
    | cons r rr =>
      obtain ⟨t, rfl⟩ := r
      exact PySem.W.HoldAll.cons ⟨_, .int _ _⟩ (hold_ints rr)
theorem minOf_eq (n : Int) (ns : List Int) : PySem.W.minOf n ns = ns.foldl (fun a b => if b < a then b else a) n := by
  unfold PySem.W.minOf
  congr 1
  funext a b
  show (if decide (b < a) = true then b else a) = _
  simp
theorem maxOf_eq (n : Int) (ns : List Int) : PySem.W.maxOf n ns = ns.foldl (fun a b => if b > a then b else a) n := by
  unfold PySem.W.maxOf
  congr 1
  funext a b
  show (if decide (a < b) = true then b else a) = _
  simp
theorem cr_minT (hc : X.calm = true) (hu : X.A.units + 64 < cLine) : CallR X (.builtin "min") (rMinT X.K) := by
  intro pins s σ H vs us Q I r h
  obtain ⟨a, n, ns, rfl, hs, q⟩ := h
  obtain ⟨its, rv, ht, hz⟩ := I.tuple hs
  cases r with
  | cons r0 rr =>
    cases rr
    cases r0
    refine PySem.W.min_tuple_datum (α := Int) (x := n) (xs := ns) (I.ok.hd hc) ht (hold_ints rv) (by show X.A.units + 1 + 0 < cLine; omega) fun i v h' tk _ hh hk => ?_
    rw [minOf_eq] at hh
    obtain ⟨as, hh⟩ := hh
    cases hh with
    | int _ t => exact ⟨.int _, H, I.kept hk, ⟨t, rfl⟩, q⟩
theorem cr_maxT (hc : X.calm = true) (hu : X.A.units + 64 < cLine) : CallR X (.builtin "max") (rMaxT X.K) := by
  intro pins s σ H vs us Q I r h
  obtain ⟨a, n, ns, rfl, hs, q⟩ := h
  obtain ⟨its, rv, ht, hz⟩ := I.tuple hs
  cases r with
  | cons r0 rr =>
    cases rr
    cases r0
    refine PySem.W.max_tuple_datum (α := Int) (x := n) (xs := ns) (I.ok.hd hc) ht (hold_ints rv) (by show X.A.units + 1 + 0 < cLine; omega) fun i v h' tk _ hh hk => ?_
    rw [maxOf_eq] at hh
    obtain ⟨as, hh⟩ := hh
    cases hh with
    | int _ t => exact ⟨.int _, H, I.kept hk, ⟨t, rfl⟩, q⟩
end
section
variable {X : Cx}
theorem b1_min (hcalm : X.calm = true) (hu : X.A.units + 64 < cLine) : B1R X .min (.builtin "min") := ⟨_, (cr_min hcalm).or (cr_minT hcalm hu), fun F σ O H0 H Hf x z c v d Q h0 sub ck hd l e hq => by
  cases x <;> simp only [PVL.b1] at e <;> first | (cases e; done) | skip
  all_goals rename_i xs
  all_goals cases eb : ints? xs with
    | none => rw [eb] at e; cases e
    | some ns => _
  all_goals rw [eb] at e
  all_goals simp only [Option.bind_some] at e
  all_goals cases em : minI ns with
    | none => rw [em] at e; cases e
    | some m => _
  all_goals rw [em] at e
  all_goals cases e
  · obtain ⟨_, p, vs, rfl, t1, r1⟩ := l.tup sub
    have := ints_repL eb r1
    subst this
    cases ns with
    | nil => cases em
    | cons n ns =>
      cases em
      exact .inr ⟨p, n, ns, rfl, SqT.of t1, fin_at (fin_rep (by simp) hq) sub ck rfl⟩
  · obtain ⟨g1, g2, g3⟩ := minI_of em
    obtain ⟨_, p, vs, rfl, t1, r1⟩ := l.lst sub hd
    have := ints_repL eb r1
    subst this
    refine .inl ⟨p, ns, rfl, SqL.of t1, g1, fun m' h1 h2 => ?_⟩
    have e1 := h2 m g2
    have e2 := g3 m' h1
    have : m' = m := by omega
    subst this
    exact fin_at (fin_rep (by simp) hq) sub ck rfl⟩
theorem b1_max (hcalm : X.calm = true) (hu : X.A.units + 64 < cLine) : B1R X .max (.builtin "max") := ⟨_, (cr_max hcalm).or (cr_maxT hcalm hu), fun F σ O H0 H Hf x z c v d Q h0 sub ck hd l e hq => by
  cases x <;> simp only [PVL.b1] at e <;> first | (cases e; done) | skip
  all_goals rename_i xs
  all_goals cases eb : ints? xs with
    | none => rw [eb] at e; cases e
    | some ns => _
  all_goals rw [eb] at e
  all_goals simp only [Option.bind_some] at e
  all_goals cases em : maxI ns with
    | none => rw [em] at e; cases e
    | some m => _
  all_goals rw [em] at e
  all_goals cases e
  · obtain ⟨_, p, vs, rfl, t1, r1⟩ := l.tup sub
    have := ints_repL eb r1
    subst this
    cases ns with
    | nil => cases em
    | cons n ns =>
      cases em
      exact .inr ⟨p, n, ns, rfl, SqT.of t1, fin_at (fin_rep (by simp) hq) sub ck rfl⟩
  · obtain ⟨g1, g2, g3⟩ := maxI_of em
    obtain ⟨_, p, vs, rfl, t1, r1⟩ := l.lst sub hd
    have := ints_repL eb r1
    subst this
    refine .inl ⟨p, ns, rfl, SqL.of t1, g1, fun m' h1 h2 => ?_⟩
    have e1 := h2 m g2
    have e2 := g3 m' h1
    have : m' = m := by omega
    subst this
    exact fin_at (fin_rep (by simp) hq) sub ck rfl⟩
end
/-! ### enumerate of a tuple -/
theorem enum_new1 {v : Value} {o : Obj} {G : Heap → Prop} (B : Begins v o G) :
    Meets (Builtin.«enumerate.__new__» ⟨[.type "enumerate", v], []⟩) (fun _ R s => G s.heap ∧
      R (.ok (.ret (.ref (s.heap.push o).objs.size))) { s with heap := (s.heap.push o).push { cls := .type "enumerate", data := .fields #[.none, .bool false, .ref s.heap.objs.size, rawInt 0, .none, .none] } }) :=
  .of_wp fun prog w A R s hyp => by
    obtain ⟨hp, g, d, tk, os⟩ := s
    obtain ⟨hG, hR⟩ := hyp
    have hsub := sub_enumerate
    have itr : ∀ {A' : Around} {E : Value → Shared → Prop} {Q : Value → Shared → Prop}, Q (.ref hp.objs.size) ⟨hp.push o, g, d, tk, os⟩ → wpAny (model prog w) A' (pyIter v) Q E ⟨hp, g, d, tk, os⟩ :=
      fun z => B.iter prog w _ _ ⟨hp, g, d, tk, os⟩ _ hG z
    wp_walk using itr
    all_goals first
      | exact ⟨_, rfl, hR⟩
      | (refine wpAny_stack_any fun st => wpAny_pure ?_
         split
         · rename_i c _ _ _ _ _
           cases (c == Value.type "enumerate") <;> (wp_walk using itr; exact ⟨_, rfl, hR⟩)
         · wp_walk using itr
           exact ⟨_, rfl, hR⟩)
section
variable {prog : Program} {w : World} {A : Around} {E : Value → Shared → Prop} {s : Shared}
theorem call_enum1 {v : Value} {o : Obj} {G : Heap → Prop} {Q : Value → Shared → Prop} (B : Begins v o G) (hG : G s.heap)
    (k : ∀ h', IsEnum h' (s.heap.objs.size + 1) s.heap.objs.size 0 .none → h'.get? s.heap.objs.size = some o → h'.objs.size = s.heap.objs.size + 2 →
      (∀ b ob, s.heap.get? b = some ob → h'.get? b = some ob) → Q (.ref (s.heap.objs.size + 1)) { s with heap := h' }) : wpAny (model prog w) A (call (.type "enumerate") [v]) Q E s := by
  have z1 : (s.heap.push o).objs.size = s.heap.objs.size + 1 := Heap.size_push ..
  have top : IsEnum ((s.heap.push o).push { cls := .type "enumerate", data := .fields #[.none, .bool false, .ref s.heap.objs.size, rawInt 0, .none, .none] }) (s.heap.objs.size + 1) s.heap.objs.size 0 .none := z1 ▸ (Heap.get?_push_size (s.heap.push o) (o := { cls := .type "enumerate", data := .fields #[.none, .bool false, .ref s.heap.objs.size, rawInt 0, .none, .none] }) rfl)
  refine callType_new F.called_enumerate (by decide) (F.typeCall_enumerate_1 _) (F.newCall_enumerate_1 _) (fun ob => F.args_object_init_2 ob _) F.entry_enumerate_new (enum_new1 B) ⟨hG, ?_⟩
  rw [z1]
  exact ⟨⟨_, top, rfl⟩, k _ top (Heap.get?_push_of_some _ (Heap.get?_push_size _ B.free)) (by rw [Heap.size_push, z1]) fun b ob q => Heap.get?_push_of_some _ (Heap.get?_push_of_some _ q)⟩
end
/-- the tuple at a, each item in a new pair -/
def IteT (K : PySem.W.Frag) (a : Addr) : It where
  go i H := ∃ (xs : List V) (x : V), SqT K H a xs ∧ xs[i]? = some x
  yld i H v H' := ∃ T x, v = .ref T ∧ H T = none ∧ H' = upd H T (.tup [.int (i : Nat), x]) ∧ ∀ xs, SqT K H a xs → xs[i]? = some x
  stop i H := ∃ xs : List V, SqT K H a xs ∧ xs.length ≤ i
theorem turn_enumT {P : Program} {w : World} {K : PySem.W.Frag} {elts : List Expr} {kk : Nat} {tpos : Pos} (a e it : Addr) (hai : a ≠ it) (hae : a ≠ e) (hne : e ≠ it) :
    Turn P w K (.Tuple elts kk tpos) (IteT K a) [e, it] e (fun i h => (∃ old, IsEnum h e it ((i : Nat) : Int) old) ∧ h.IsTupleIter it a i) where
  mem := List.mem_cons_self ..
  obj := by
    intro i h ⟨⟨old, he⟩, ⟨o, ho, hc, hd⟩⟩ b hb
    rcases List.mem_cons.mp hb with q | q
    · exact q ▸ ⟨_, he, fun v z => nomatch z⟩
    · exact (List.mem_singleton.mp q) ▸ ⟨o, ho, fun v z => by rw [hd] at z; cases z⟩
  keep := fun i h h' ⟨⟨old, he⟩, hi⟩ k => ⟨⟨old, k e (List.mem_cons_self ..) _ he⟩, hi.at fun o q => k it (List.mem_cons_of_mem _ (List.mem_singleton.mpr rfl)) o q⟩
  item := by
    intro X hP hw hK hc i pins s σ H E I hf ⟨⟨old, he⟩, hit⟩ ⟨xs, x, hq, hx⟩
    subst hP hw hK
    obtain ⟨its, rv, p, hz⟩ := I.tuple hq
    obtain ⟨u, hu, ru⟩ := rv.get hx
    have hil : i < its.length := (List.getElem?_eq_some_iff.mp hu).1
    have e1 : e < s.heap.objs.size := Heap.lt_size he
    have e2 : it < s.heap.objs.size := hit.elim fun _ q => Heap.lt_size q.1
    refine wpAny_pyNext_enum_itemD (Draws.tuple (A := X.A.in1) (I.ok.hd hc) it a hai its.toArray) he ⟨hit, p⟩ (by simpa using hil) hne (by simp [hne, Ne.symm hae]) fun y h' tk hy ho ⟨hit', _⟩ hT hsz hk => ?_
    have hy' : y = u := by
      have z : its.toArray[i]? = some y := hy
      rw [List.getElem?_toArray, hu] at z
      exact (Option.some.inj z).symm
    subst hy'
    refine ⟨_, rfl, wpAny_letOwnedTupleGo_enum (s := { s with heap := h', toks := tk + 1 }) ho fun h'' he' sb => ?_⟩
    have t2 := (sb.2 s.heap.objs.size (Nat.ne_of_gt e1)).trans hT
    have okO : ObjOk X.prog X.w (upd H s.heap.objs.size (.tup [.int (i : Nat), x])) h'' s.heap.objs.size (.tup [.int (i : Nat), x]) :=
      ⟨by show 2 ≤ sizeLine; decide, [.int i tk, y], .cons ⟨_, rfl⟩ (.cons ru .nil), ⟨_, t2, rfl, _, rfl⟩⟩
    have I' : Inv X pins σ (upd H s.heap.objs.size (.tup [.int (i : Nat), x])) { s with heap := h'', toks := tk + 1 } :=
      I.turnedNew (ch := [e, it]) (fun b ob hb q => (sb.2 b (fun z => hb (z ▸ List.mem_cons_self ..))).trans (hk b ob (fun z => hb (z ▸ List.mem_cons_self ..)) (fun z => hb (z ▸ List.mem_cons_of_mem _ (List.mem_singleton.mpr rfl))) q)) hf (Nat.le_refl _) okO
    refine ⟨.ref s.heap.objs.size, _, I', rfl, ⟨_, x, rfl, I.hok.fresh (Nat.le_refl _), rfl, fun ys hy => by rw [I.tuple_inj hy hq]; exact hx⟩, ⟨⟨y, he'⟩, hit'.at fun o q => (sb.2 it (Ne.symm hne)).trans q⟩, fun b hb => ?_⟩
    have hb' : b < s.heap.objs.size := by
      rcases List.mem_cons.mp hb with z | z
      · rw [z]; exact e1
      · rw [List.mem_singleton.mp z]; exact e2
    rw [upd_ne (Nat.ne_of_lt hb')]
    exact (hf b hb).1
  done := by
    intro X hP hw hK hc i pins s σ H E I hf ⟨⟨old, he⟩, hit⟩ ⟨xs, hq, hx⟩
    subst hP hw hK
    obtain ⟨its, rv, p, hz⟩ := I.tuple hq
    obtain ⟨f0, f1, f2, f3, f4, f5⟩ := hf it (List.mem_cons_of_mem _ (List.mem_singleton.mpr rfl))
    have hl := rv.length
    have hT : s.TypeIs (.ref e) "enumerate" := ⟨_, he, rfl⟩
    have fin : ∀ h', Heap.ExtBut it s.heap h' → (none : Option Value) = none ∧ Inv X pins σ H { s with heap := h' } := fun h' eb => ⟨rfl, I.turned (t' := s.toks) (fun b o hb q => eb b o hb q) f0 f1 f3 f4 f5⟩
    unfold pyNext
    refine wpAny_bind (wpAny_attempt (wpAny_callSpecial?_slot (name := Str.ofString "__next__") hT F.slot_enumerate_next (wpAny_call_entry F.slot_enumerate_next hT F.entry_enumerate_next ?_ (F.args_enumerate_next_1 _))))
    show wpAny _ _ (field (.ref e) 2 >>= _) _ _ _
    refine wpAny_bind (wpAny_field he rfl (x := .ref it) rfl (wpAny_bind (wpAny_nextOf_tuple_end (I.ok.hd hc) hit p (by simp; omega) fun h' x hx' ⟨o, ho, hcl⟩ => ?_)))
    exact wpAny_bind (wpAny_isInstance (T := "StopIteration") (b := true) ⟨o, ho, hcl⟩ isSubtype_stop (wpAny_pure (fin _ hx')))
  self := fun A i s Q E st h => wpAny_pyIter_enum st.1.choose_spec h
def iEnumT (K : PySem.W.Frag) (ta : TA) : TI := fun σ H R => ta σ H fun vs H1 => ∃ a xs, vs = [.ref a] ∧ ((SqL K H1 a xs ∧ R (Ite K a) H1) ∨ (SqT K H1 a xs ∧ R (IteT K a) H1))
theorem pi_enumT {X : Cx} {e : Expr} {ta : TA} {p pos tpos : Pos} {elts : List Expr} {kk : Nat} (hg : Gl X "enumerate") (hm : X.mg "enumerate" = none) (ha : PA X [e] ta) (hs : starEach [e] X.env = [(false, eval e X.env)] := by rfl) :
    PI X (.Tuple elts kk tpos) (.Call (.Name "enumerate" p) [e] [] pos) (iEnumT X.K ta) := by
  constructor
  intro pins s σ H R I h
  refine PyProof.Rows.Call_ (ld_blt I hg hm PyProof.Rows.boot_enumerate (PyProof.Rows.callWith_type1 (thn (ha.run pos pins s σ H _ I h) fun us s1 ⟨vs, H1, I1, r1, a, xs, ex, q1⟩ => ?_) hs rfl))
  subst ex
  obtain ⟨_, rfl, r2⟩ : ∃ u, us = [u] ∧ RelV (.ref a) u := by
    cases r1 with
    | cons r rr => cases rr; exact ⟨_, rfl, r⟩
  cases r2
  have fp : ∀ b ∈ [s1.heap.objs.size + 1, s1.heap.objs.size], FpOk X pins H1 b := fun b hb => by
    have hle : s1.heap.objs.size ≤ b := by
      rcases List.mem_cons.mp hb with z | z
      · rw [z]; exact Nat.le_succ _
      · rw [List.mem_singleton.mp z]; exact Nat.le_refl _
    exact I1.fpOk hle (I1.hok.fresh hle)
  rcases q1 with ⟨hq, q⟩ | ⟨hq, q⟩
  · obtain ⟨its, rv, p', hz⟩ := I1.list hq
    exact call_enumerate_list p'.isList fun h' he hit hsz hk => wpAny_pyIter_enum he ⟨_, _, _, _, H1, rfl, I1.kept (t' := s1.toks) hk, turn_enum a (s1.heap.objs.size + 1) s1.heap.objs.size, ⟨⟨.none, he⟩, hit, Nat.succ_ne_self _⟩, fp, q⟩
  · obtain ⟨its, rv, p', hz⟩ := I1.tuple hq
    have al : a < s1.heap.objs.size := by
      obtain ⟨o, ho, _⟩ := id p'
      exact Heap.lt_size ho
    refine call_enum1 (begins_tuple a its.toArray) p' fun h' he hit hsz hk => wpAny_pyIter_enum he ⟨_, _, _, _, H1, rfl, I1.kept (t' := s1.toks) hk, turn_enumT a (s1.heap.objs.size + 1) s1.heap.objs.size (Nat.ne_of_lt al) (Nat.ne_of_lt (Nat.lt_succ_of_lt al)) (Nat.succ_ne_self _), ⟨⟨.none, he⟩, ⟨_, hit, rfl, rfl⟩⟩, fp, q⟩
/-! ### zip of two tuples to a name: the pair that zip remembers may still be held -/
abbrev ZipAt (h : Heap) (z TI TO : Addr) (v0 : Value) (g : Bool) : Prop := h.get? z = some { cls := .type "zip", dict := none, data := .fields #[v0, .bool g, .bool false, .ref TI, .ref TO], slots := #[] }
section
variable {prog : Program} {w : World} {A : Around} {E : Value → Shared → Prop} {s : Shared} {z TI TO i1 i2 l1 l2 T : Addr} {g : Bool} {k1 k2 : Nat} {xs ys : Array Value} {a b : Value}
theorem free_gone {Q : Bool → Shared → Prop} (hz : ZipAt s.heap z TI TO (rawInt T) g) (hT : s.heap.get? T = none) (h : Q true s) : wpAny (model prog w) A (Builtin.SmallTypes.ownedTupleIsFree (.ref z)) Q E s := by
  unfold Builtin.SmallTypes.ownedTupleIsFree
  refine wpAny_bind (wpAny_field hz rfl (x := rawInt T) rfl ?_)
  show wpAny _ _ (loadIfAlive ((T : Int).toNat) >>= _) _ _ _
  have al : ∀ {Q : Option Obj → Shared → Prop}, Q none s → wpAny (model prog w) A (loadIfAlive T) Q E s := fun {Q} h => by
    have h' : Q (s.heap.get? T) s := by rw [hT]; exact h
    exact fun _ _ _ => h'
  rw [Int.toNat_natCast]
  exact wpAny_bind (al (wpAny_pure h))
/-- the next pair, the old one not held: the zip's own one is filled, a new one handed out -/
theorem znext_free {v0 x y : Value} {Q : Value → Shared → Prop} (D : ZipApart z TI TO i1 i2 l1 l2) (hz : ZipAt s.heap z TI TO v0 g) (fr : ∀ {Q : Bool → Shared → Prop}, Q true s → wpAny (model prog w) A (Builtin.SmallTypes.ownedTupleIsFree (.ref z)) Q E s)
    (hTI : IsPair s.heap TI (.ref i1) (.ref i2)) (hTO : IsPair s.heap TO a b) (h1 : s.heap.IsTupleIter i1 l1 k1) (h2 : s.heap.IsTupleIter i2 l2 k2) (hl1 : s.heap.IsTuple l1 xs) (hl2 : s.heap.IsTuple l2 ys) (hx : xs[k1]? = some x) (hy : ys[k2]? = some y)
    (hQ : ∀ h', ZipAt h' z TI TO (rawInt s.heap.objs.size) false → IsPair h' TO x y → h'.IsTupleIter i1 l1 (k1 + 1) → h'.IsTupleIter i2 l2 (k2 + 1) → IsPair h' s.heap.objs.size x y → h'.objs.size = s.heap.objs.size + 1 →
      (∀ c o, c ≠ z → c ≠ TO → c ≠ i1 → c ≠ i2 → s.heap.get? c = some o → h'.get? c = some o) → Q (.ref s.heap.objs.size) { s with heap := h' }) :
    wpAny (model prog w) A (Builtin.«zip.__next__» ⟨[.ref z], []⟩) (fun fin s' => ∃ v, fin = .done (.ret v) ∧ Q v s') E s := by
  show wpAny _ _ (field (.ref z) 2 >>= _) _ _ _
  refine wpAny_bind (wpAny_field hz rfl (x := .bool false) rfl (wpAny_bind (wpAny_field hz rfl (x := .ref TI) rfl (wpAny_bind (wpAny_seqItems hTI rfl (wpAny_bind (fr ?_)))))))
  simp only [if_true]
  refine wpAny_bind (wpAny_rule (wpAny_bind (wpAny_field hz rfl (x := .ref TO) rfl (wpAny_bind (wpAny_setField_rec hz (by simp) fun ha za sa => ?_)))))
  have za' : ZipAt ha z TI TO .ellipsis g := za
  refine wpAny_bind ?_
  simp only [List.zipIdx_cons, List.zipIdx_nil, List.forIn_cons, List.forIn_nil]
  refine wpAny_bind (wpAny_bind (wpAny_onRaise (wpAny_bind (m := Builtin.SmallTypes.nextOf (.ref i1)) (RZ.nextOf_tuple_item (h1.extBut sa.extBut D.i1z) (hl1.extBut sa.extBut D.l1z) hx fun hb b1 sb => wpAny_pure ?_))))
  have tb : IsPair hb TO a b := sb.extBut _ _ D.TOi1 (sa.extBut _ _ D.TOz hTO)
  refine wpAny_bind (wpAny_seqItems tb rfl (wpAny_bind (wpAny_updateSeq_pair tb fun hc tc sc => wpAny_bind (wpAny_letGo (wpAny_pure ?_)))))
  have tc' : IsPair hc TO x b := tc
  refine wpAny_bind (wpAny_bind (wpAny_onRaise (wpAny_bind (m := Builtin.SmallTypes.nextOf (.ref i2)) (RZ.nextOf_tuple_item (((h2.extBut sa.extBut D.i2z).extBut sb.extBut D.i12.symm).extBut sc.extBut D.TOi2.symm)
    (((hl2.extBut sa.extBut D.l2z).extBut sb.extBut D.l2i1).extBut sc.extBut D.l2TO) hy fun hd d2 sd => wpAny_pure ?_))))
  have td : IsPair hd TO x b := sd.extBut _ _ D.TOi2 tc'
  refine wpAny_bind (wpAny_seqItems td rfl (wpAny_bind (wpAny_updateSeq_pair td fun he te se => wpAny_bind (wpAny_letGo (wpAny_pure (wpAny_pure ?_))))))
  have te' : IsPair he TO x y := te
  refine wpAny_bind (wpAny_seqItems te' rfl (wpAny_bind (wpAny_newTuple ?_)))
  have size : he.objs.size = s.heap.objs.size := (((se.1.trans sd.1).trans sc.1).trans sb.1).trans sa.1
  have keep : ∀ c o, c ≠ z → c ≠ TO → c ≠ i1 → c ≠ i2 → s.heap.get? c = some o → he.get? c = some o := fun c o n1 n2 n3 n4 q => se.extBut _ _ n2 (sd.extBut _ _ n4 (sc.extBut _ _ n2 (sb.extBut _ _ n3 (sa.extBut _ _ n1 q))))
  have ze : ZipAt he z TI TO .ellipsis g := se.extBut _ _ D.TOz.symm (sd.extBut _ _ D.i2z.symm (sc.extBut _ _ D.TOz.symm (sb.extBut _ _ D.i1z.symm za')))
  have e1 : he.IsTupleIter i1 l1 (k1 + 1) := ((b1.extBut sc.extBut D.TOi1.symm).extBut sd.extBut D.i12).extBut se.extBut D.TOi1.symm
  have e2 : he.IsTupleIter i2 l2 (k2 + 1) := d2.extBut se.extBut D.TOi2.symm
  show wpAny _ _ (Builtin.SmallTypes.ownedTupleHandOut (.ref z) (.ref he.objs.size) >>= _) _ _ _
  unfold Builtin.SmallTypes.ownedTupleHandOut
  refine wpAny_bind (wpAny_bind (wpAny_setField_rec (show ZipAt (he.push { cls := .type "tuple", data := .seq #[x, y] }) z TI TO .ellipsis g from Heap.get?_push_of_some _ ze) (by simp) fun hf zf sf => ?_))
  have zf' : ZipAt hf z TI TO (rawInt he.objs.size) g := zf
  refine wpAny_setField_rec zf' (by simp) fun hg zg sg => wpAny_pure ⟨_, rfl, ?_⟩
  have zg' : ZipAt hg z TI TO (rawInt he.objs.size) false := zg
  have up : ∀ c o, c ≠ z → he.get? c = some o → hg.get? c = some o := fun c o n q => sg.extBut _ _ n (sf.extBut _ _ n (Heap.get?_push_of_some _ q))
  have new : IsPair hg he.objs.size x y := sg.extBut _ _ (Nat.ne_of_gt (Heap.lt_size ze)) (sf.extBut _ _ (Nat.ne_of_gt (Heap.lt_size ze)) (Heap.get?_push_size _ rfl))
  have size' : hg.objs.size = he.objs.size + 1 := by rw [sg.1, sf.1, Heap.size_push]
  show Q (.ref he.objs.size) _
  rw [size] at zg' new size' ⊢
  exact hQ hg zg' (up _ _ D.TOz te') (e1.at fun o q => up _ o D.i1z q) (e2.at fun o q => up _ o D.i2z q) new size' fun c o n1 n2 n3 n4 q => up c o n1 (keep c o n1 n2 n3 n4 q)
/-- the next pair, the old one still held -/
theorem znext_held {x y : Value} {oT : Obj} {Q : Value → Shared → Prop} (D : ZipApart z TI TO i1 i2 l1 l2) (hz : ZipAt s.heap z TI TO (rawInt T) g) (hT : s.heap.get? T = some oT)
    (hTI : IsPair s.heap TI (.ref i1) (.ref i2)) (h1 : s.heap.IsTupleIter i1 l1 k1) (h2 : s.heap.IsTupleIter i2 l2 k2) (hl1 : s.heap.IsTuple l1 xs) (hl2 : s.heap.IsTuple l2 ys) (hx : xs[k1]? = some x) (hy : ys[k2]? = some y)
    (hQ : ∀ h', ZipAt h' z TI TO (rawInt T) true → h'.IsTupleIter i1 l1 (k1 + 1) → h'.IsTupleIter i2 l2 (k2 + 1) → IsPair h' s.heap.objs.size x y → h'.objs.size = s.heap.objs.size + 1 →
      (∀ c o, c ≠ z → c ≠ i1 → c ≠ i2 → s.heap.get? c = some o → h'.get? c = some o) → Q (.ref s.heap.objs.size) { s with heap := h' }) :
    wpAny (model prog w) A (Builtin.«zip.__next__» ⟨[.ref z], []⟩) (fun fin s' => ∃ v, fin = .done (.ret v) ∧ Q v s') E s := by
  show wpAny _ _ (field (.ref z) 2 >>= _) _ _ _
  refine wpAny_bind (wpAny_field hz rfl (x := .bool false) rfl (wpAny_bind (wpAny_field hz rfl (x := .ref TI) rfl (wpAny_bind (wpAny_seqItems hTI rfl (wpAny_bind (PySem.wpAny_tupleHeld_zip hz hT fun ha za sa => ?_)))))))
  simp only [Bool.false_eq_true, if_false]
  refine wpAny_bind ?_
  rw [← Array.forIn_toList]
  simp only [List.forIn_cons, List.forIn_nil]
  refine wpAny_bind (wpAny_bind (wpAny_holding (wpAny_bind (m := Builtin.SmallTypes.nextOf (.ref i1)) (RZ.nextOf_tuple_item (s := { s with heap := ha }) (h1.extBut sa.extBut D.i1z) (hl1.extBut sa.extBut D.l1z) hx fun hb b1 sb => wpAny_pure (wpAny_pure ?_)))))
  refine wpAny_bind (wpAny_bind (wpAny_holding (wpAny_bind (m := Builtin.SmallTypes.nextOf (.ref i2)) (RZ.nextOf_tuple_item (s := { s with heap := hb }) ((h2.extBut sa.extBut D.i2z).extBut sb.extBut D.i12.symm) ((hl2.extBut sa.extBut D.l2z).extBut sb.extBut D.l2i1) hy fun hc c2 sc => wpAny_pure (wpAny_pure (wpAny_pure ?_))))))
  show wpAny _ _ (newTuple [x, y] >>= _) _ _ _
  refine wpAny_bind (wpAny_newTuple (wpAny_pure ⟨_, rfl, ?_⟩))
  have size : hc.objs.size = s.heap.objs.size := (sc.1.trans sb.1).trans sa.1
  have zc : ZipAt hc z TI TO (rawInt T) true := sc.extBut _ _ D.i2z.symm (sb.extBut _ _ D.i1z.symm za)
  have new : IsPair (hc.push { cls := .type "tuple", data := .seq #[x, y] }) hc.objs.size x y := Heap.get?_push_size _ rfl
  have size' : (hc.push { cls := .type "tuple", data := .seq #[x, y] }).objs.size = hc.objs.size + 1 := Heap.size_push ..
  show Q (.ref hc.objs.size) _
  rw [size] at new size' ⊢
  exact hQ _ (Heap.get?_push_of_some _ zc) ((b1.extBut sc.extBut D.i12).at fun o q => Heap.get?_push_of_some _ q) (c2.at fun o q => Heap.get?_push_of_some _ q) new size' fun c o n1 n2 n3 q => Heap.get?_push_of_some _ (sc.extBut _ _ n3 (sb.extBut _ _ n2 (sa.extBut _ _ n1 q)))
/-- the end -/
theorem zend_free {v0 : Value} {Q : Fin → Shared → Prop} (hh : A.handled = none) (D : ZipApart z TI TO i1 i2 l1 l2) (hz : ZipAt s.heap z TI TO v0 g) (fr : ∀ {Q : Bool → Shared → Prop}, Q true s → wpAny (model prog w) A (Builtin.SmallTypes.ownedTupleIsFree (.ref z)) Q E s)
    (hTI : IsPair s.heap TI (.ref i1) (.ref i2)) (hTO : IsPair s.heap TO a b) (h1 : s.heap.IsTupleIter i1 l1 k1) (h2 : s.heap.IsTupleIter i2 l2 k2) (hl1 : s.heap.IsTuple l1 xs) (hl2 : s.heap.IsTuple l2 ys) (hend : xs[k1]? = none ∨ ys[k2]? = none)
    (hE : ∀ h' e, (∀ c o, c ≠ z → c ≠ TO → c ≠ i1 → c ≠ i2 → s.heap.get? c = some o → h'.get? c = some o) → (∃ o, h'.get? e = some o ∧ o.cls = .type "StopIteration") → E (.ref e) { s with heap := h' }) :
    wpAny (model prog w) A (Builtin.«zip.__next__» ⟨[.ref z], []⟩) Q E s := by
  show wpAny _ _ (field (.ref z) 2 >>= _) _ _ _
  refine wpAny_bind (wpAny_field hz rfl (x := .bool false) rfl (wpAny_bind (wpAny_field hz rfl (x := .ref TI) rfl (wpAny_bind (wpAny_seqItems hTI rfl (wpAny_bind (fr ?_)))))))
  simp only [if_true]
  refine wpAny_bind (wpAny_rule (wpAny_bind (wpAny_field hz rfl (x := .ref TO) rfl (wpAny_bind (wpAny_setField_rec hz (by simp) fun ha za sa => ?_)))))
  have za' : ZipAt ha z TI TO .ellipsis g := za
  refine wpAny_bind ?_
  simp only [List.zipIdx_cons, List.zipIdx_nil, List.forIn_cons, List.forIn_nil]
  have stop : ∀ {hp : Heap} {e : Addr}, ZipAt hp z TI TO .ellipsis g → (∃ o, hp.get? e = some o ∧ o.cls = .type "StopIteration") → e ≠ z := fun {hp e} q ⟨o, r, c⟩ n => by subst n; rw [q] at r; cases r; simp at c
  by_cases c1 : xs[k1]? = none
  · refine wpAny_bind (wpAny_bind (wpAny_onRaise (wpAny_bind (m := Builtin.SmallTypes.nextOf (.ref i1)) (RZ.nextOf_tuple_end hh (h1.extBut sa.extBut D.i1z) (hl1.extBut sa.extBut D.l1z) c1 fun hb e sb se => ?_))))
    have zb : ZipAt hb z TI TO .ellipsis g := sb _ _ D.i1z.symm za'
    have ne := stop zb se
    obtain ⟨oe, q1, q2⟩ := se
    exact wpAny_setField_rec zb (by simp) fun hc _ sc => hE hc e (fun c o n1 _ n3 _ q => sc.extBut _ _ n1 (sb _ _ n3 (sa.extBut _ _ n1 q))) ⟨oe, sc.extBut _ _ ne q1, q2⟩
  · obtain ⟨x, hx⟩ := Option.ne_none_iff_exists'.mp c1
    have c2 : ys[k2]? = none := hend.resolve_left c1
    refine wpAny_bind (wpAny_bind (wpAny_onRaise (wpAny_bind (m := Builtin.SmallTypes.nextOf (.ref i1)) (RZ.nextOf_tuple_item (h1.extBut sa.extBut D.i1z) (hl1.extBut sa.extBut D.l1z) hx fun hb b1 sb => wpAny_pure ?_))))
    have tb : IsPair hb TO a b := sb.extBut _ _ D.TOi1 (sa.extBut _ _ D.TOz hTO)
    refine wpAny_bind (wpAny_seqItems tb rfl (wpAny_bind (wpAny_updateSeq_pair tb fun hc tc sc => wpAny_bind (wpAny_letGo (wpAny_pure ?_)))))
    refine wpAny_bind (wpAny_bind (wpAny_onRaise (wpAny_bind (m := Builtin.SmallTypes.nextOf (.ref i2)) (RZ.nextOf_tuple_end hh (((h2.extBut sa.extBut D.i2z).extBut sb.extBut D.i12.symm).extBut sc.extBut D.TOi2.symm)
      (((hl2.extBut sa.extBut D.l2z).extBut sb.extBut D.l2i1).extBut sc.extBut D.l2TO) c2 fun hd e sd se => ?_))))
    have zd : ZipAt hd z TI TO .ellipsis g := sd _ _ D.i2z.symm (sc.extBut _ _ D.TOz.symm (sb.extBut _ _ D.i1z.symm za'))
    have ne := stop zd se
    obtain ⟨oe, q1, q2⟩ := se
    exact wpAny_setField_rec zd (by simp) fun he _ sf => hE he e (fun c o n1 n2 n3 n4 q => sf.extBut _ _ n1 (sd _ _ n4 (sc.extBut _ _ n2 (sb.extBut _ _ n3 (sa.extBut _ _ n1 q))))) ⟨oe, sf.extBut _ _ ne q1, q2⟩
theorem zend_held {oT : Obj} {Q : Fin → Shared → Prop} (hh : A.handled = none) (D : ZipApart z TI TO i1 i2 l1 l2) (hz : ZipAt s.heap z TI TO (rawInt T) g) (hT : s.heap.get? T = some oT)
    (hTI : IsPair s.heap TI (.ref i1) (.ref i2)) (h1 : s.heap.IsTupleIter i1 l1 k1) (h2 : s.heap.IsTupleIter i2 l2 k2) (hl1 : s.heap.IsTuple l1 xs) (hl2 : s.heap.IsTuple l2 ys) (hend : xs[k1]? = none ∨ ys[k2]? = none)
    (hE : ∀ h' e, (∀ c o, c ≠ z → c ≠ TO → c ≠ i1 → c ≠ i2 → s.heap.get? c = some o → h'.get? c = some o) → (∃ o, h'.get? e = some o ∧ o.cls = .type "StopIteration") → E (.ref e) { s with heap := h' }) :
    wpAny (model prog w) A (Builtin.«zip.__next__» ⟨[.ref z], []⟩) Q E s := by
  show wpAny _ _ (field (.ref z) 2 >>= _) _ _ _
  refine wpAny_bind (wpAny_field hz rfl (x := .bool false) rfl (wpAny_bind (wpAny_field hz rfl (x := .ref TI) rfl (wpAny_bind (wpAny_seqItems hTI rfl (wpAny_bind (PySem.wpAny_tupleHeld_zip hz hT fun ha za sa => ?_)))))))
  simp only [Bool.false_eq_true, if_false]
  refine wpAny_bind ?_
  rw [← Array.forIn_toList]
  simp only [List.forIn_cons, List.forIn_nil]
  by_cases c1 : xs[k1]? = none
  · exact wpAny_bind (wpAny_bind (wpAny_holding (wpAny_bind (m := Builtin.SmallTypes.nextOf (.ref i1)) (RZ.nextOf_tuple_end (s := { s with heap := ha }) hh (h1.extBut sa.extBut D.i1z) (hl1.extBut sa.extBut D.l1z) c1 fun hb e sb se => hE hb e (fun c o n1 _ n3 _ q => sb _ _ n3 (sa.extBut _ _ n1 q)) se))))
  · obtain ⟨x, hx⟩ := Option.ne_none_iff_exists'.mp c1
    have c2 : ys[k2]? = none := hend.resolve_left c1
    refine wpAny_bind (wpAny_bind (wpAny_holding (wpAny_bind (m := Builtin.SmallTypes.nextOf (.ref i1)) (RZ.nextOf_tuple_item (s := { s with heap := ha }) (h1.extBut sa.extBut D.i1z) (hl1.extBut sa.extBut D.l1z) hx fun hb b1 sb => wpAny_pure (wpAny_pure ?_)))))
    exact wpAny_bind (wpAny_bind (wpAny_holding (wpAny_bind (m := Builtin.SmallTypes.nextOf (.ref i2)) (RZ.nextOf_tuple_end (s := { s with heap := hb }) hh ((h2.extBut sa.extBut D.i2z).extBut sb.extBut D.i12.symm) ((hl2.extBut sa.extBut D.l2z).extBut sb.extBut D.l2i1) c2 fun hc e sc se =>
      hE hc e (fun c o n1 _ n3 n4 q => sc _ _ n4 (sb.extBut _ _ n3 (sa.extBut _ _ n1 q))) se))))
/-- how zip stands between two pairs -/
def ZipSt (z TI TO i1 i2 l1 l2 : Addr) (i : Nat) (h : Heap) : Prop := (∃ v0 g, ZipAt h z TI TO v0 g ∧ (v0 = .none ∨ ∃ T : Addr, v0 = rawInt T)) ∧ IsPair h TI (.ref i1) (.ref i2) ∧ (∃ x y, IsPair h TO x y) ∧ h.IsTupleIter i1 l1 i ∧ h.IsTupleIter i2 l2 i
theorem zip_free {v0 : Value} (hz : ZipAt s.heap z TI TO v0 g) (hv : v0 = .none ∨ ∃ T : Addr, v0 = rawInt T ∧ s.heap.get? T = none) : ∀ {Q : Bool → Shared → Prop}, Q true s → wpAny (model prog w) A (Builtin.SmallTypes.ownedTupleIsFree (.ref z)) Q E s := fun {Q} h => by
  rcases hv with e | ⟨T, e, hT⟩
  · subst e
    unfold Builtin.SmallTypes.ownedTupleIsFree
    exact wpAny_bind (wpAny_field hz rfl (x := .none) rfl (wpAny_pure h))
  · subst e
    exact free_gone hz hT h
theorem zip_item {i : Nat} {x y : Value} {Q : Option Value → Shared → Prop} (D : ZipApart z TI TO i1 i2 l1 l2) (st : ZipSt z TI TO i1 i2 l1 l2 i s.heap) (hl1 : s.heap.IsTuple l1 xs) (hl2 : s.heap.IsTuple l2 ys) (hx : xs[i]? = some x) (hy : ys[i]? = some y)
    (hQ : ∀ h', ZipSt z TI TO i1 i2 l1 l2 (i + 1) h' → IsPair h' s.heap.objs.size x y → h'.objs.size = s.heap.objs.size + 1 → (∀ c o, c ≠ z → c ≠ TO → c ≠ i1 → c ≠ i2 → s.heap.get? c = some o → h'.get? c = some o) → Q (some (.ref s.heap.objs.size)) { s with heap := h' }) :
    wpAny (model prog w) A (pyNext (.ref z)) Q E s := by
  obtain ⟨⟨v0, g, hz, hv⟩, hTI, ⟨a, b, hTO⟩, h1, h2⟩ := st
  have hT : s.TypeIs (.ref z) "zip" := ⟨_, hz, rfl⟩
  unfold pyNext
  refine wpAny_bind (wpAny_attempt (wpAny_callSpecial?_slot (name := Str.ofString "__next__") hT F.slot_zip_next (wpAny_call_entry F.slot_zip_next hT F.entry_zip_next ?_ (F.args_zip_next_1 _))))
  by_cases c : v0 = .none ∨ ∃ T : Addr, v0 = rawInt T ∧ s.heap.get? T = none
  · exact znext_free D hz (zip_free hz c) hTI hTO h1 h2 hl1 hl2 hx hy fun h' a1 a2 a3 a4 a5 a6 a7 => wpAny_pure (hQ h' ⟨⟨_, _, a1, .inr ⟨_, rfl⟩⟩, a7 _ _ D.TIz D.TITO D.TIi1 D.TIi2 hTI, ⟨_, _, a2⟩, a3, a4⟩ a5 a6 a7)
  · rcases hv with e | ⟨T, e⟩
    · exact absurd (.inl e) c
    · subst e
      cases q : s.heap.get? T with
      | none => exact absurd (.inr ⟨T, rfl, q⟩) c
      | some oT => exact znext_held D hz q hTI h1 h2 hl1 hl2 hx hy fun h' a1 a3 a4 a5 a6 a7 => wpAny_pure (hQ h' ⟨⟨_, _, a1, .inr ⟨_, rfl⟩⟩, a7 _ _ D.TIz D.TIi1 D.TIi2 hTI, ⟨_, _, a7 _ _ D.TOz D.TOi1 D.TOi2 hTO⟩, a3, a4⟩ a5 a6 fun c o n1 _ n3 n4 q => a7 c o n1 n3 n4 q)
theorem zip_end {i : Nat} {Q : Option Value → Shared → Prop} (hh : A.handled = none) (D : ZipApart z TI TO i1 i2 l1 l2) (st : ZipSt z TI TO i1 i2 l1 l2 i s.heap) (hl1 : s.heap.IsTuple l1 xs) (hl2 : s.heap.IsTuple l2 ys) (hend : xs[i]? = none ∨ ys[i]? = none)
    (hQ : ∀ h', (∀ c o, c ≠ z → c ≠ TO → c ≠ i1 → c ≠ i2 → s.heap.get? c = some o → h'.get? c = some o) → Q none { s with heap := h' }) : wpAny (model prog w) A (pyNext (.ref z)) Q E s := by
  obtain ⟨⟨v0, g, hz, hv⟩, hTI, ⟨a, b, hTO⟩, h1, h2⟩ := st
  have hT : s.TypeIs (.ref z) "zip" := ⟨_, hz, rfl⟩
  unfold pyNext
  refine wpAny_bind (wpAny_attempt (wpAny_callSpecial?_slot (name := Str.ofString "__next__") hT F.slot_zip_next (wpAny_call_entry F.slot_zip_next hT F.entry_zip_next ?_ (F.args_zip_next_1 _))))
  by_cases c : v0 = .none ∨ ∃ T : Addr, v0 = rawInt T ∧ s.heap.get? T = none
  · exact zend_free hh D hz (zip_free hz c) hTI hTO h1 h2 hl1 hl2 hend fun h' e hk ⟨o, ho, hc⟩ => wpAny_bind (wpAny_isInstance (T := "StopIteration") (b := true) ⟨o, ho, hc⟩ isSubtype_stop (wpAny_pure (hQ h' hk)))
  · rcases hv with e | ⟨T, e⟩
    · exact absurd (.inl e) c
    · subst e
      cases q : s.heap.get? T with
      | none => exact absurd (.inr ⟨T, rfl, q⟩) c
      | some oT => exact zend_held hh D hz q hTI h1 h2 hl1 hl2 hend fun h' e hk ⟨o, ho, hc⟩ => wpAny_bind (wpAny_isInstance (T := "StopIteration") (b := true) ⟨o, ho, hc⟩ isSubtype_stop (wpAny_pure (hQ h' hk)))
end
/-- a target that is a name -/
def isNm : Expr → Bool
  | .Name .. => true
  | _ => false
theorem go_nm {M : Model} {A : Around} {E : Value → Shared → Prop} {s : Shared} {tg : Expr} {it v : Value} {Q : Unit → Shared → Prop} (h : isNm tg = true) (hQ : Q () s) : wpAny M A (letOwnedTupleGo tg it v) Q E s := by
  cases tg <;> first | (cases h; done) | exact wpAny_pure hQ
theorem turn_zipN {P : Program} {w : World} {K : PySem.W.Frag} {tg : Expr} (hn : isNm tg = true) {a b z TI TO i1 i2 : Addr} (D : ZipApart z TI TO i1 i2 a b) : Turn P w K tg (RZ.ItzT K a b) [z, TI, TO, i1, i2] z (ZipSt z TI TO i1 i2 a b) where
  mem := List.mem_cons_self ..
  obj := by
    intro i h ⟨⟨v0, g, hz, _⟩, hTI, ⟨x, y, hTO⟩, ⟨o1, e1, _, d1⟩, ⟨o2, e2, _, d2⟩⟩ c hc
    simp only [List.mem_cons, List.not_mem_nil, or_false] at hc
    rcases hc with q | q | q | q | q <;> subst q
    · exact ⟨_, hz, fun v q => nomatch q⟩
    · exact ⟨_, hTI, fun v q => nomatch q⟩
    · exact ⟨_, hTO, fun v q => nomatch q⟩
    · exact ⟨o1, e1, fun v q => by rw [d1] at q; cases q⟩
    · exact ⟨o2, e2, fun v q => by rw [d2] at q; cases q⟩
  keep := fun i h h' ⟨⟨v0, g, hz, hv⟩, hTI, ⟨x, y, hTO⟩, h1, h2⟩ k => ⟨⟨v0, g, k z (by simp) _ hz, hv⟩, k TI (by simp) _ hTI, ⟨x, y, k TO (by simp) _ hTO⟩, h1.at fun o q => k i1 (by simp) o q, h2.at fun o q => k i2 (by simp) o q⟩
  item := by
    intro X hP hw hK hc i pins s σ H E I hf st ⟨xs, ys, x, y, hqx, hqy, hx, hy⟩
    subst hP hw hK
    obtain ⟨its, rv, p, _⟩ := I.tuple hqx
    obtain ⟨its2, rv2, p2, _⟩ := I.tuple hqy
    obtain ⟨u, hu, ru⟩ := rv.get hx
    obtain ⟨u2, hu2, ru2⟩ := rv2.get hy
    have lt : ∀ c ∈ [z, TI, TO, i1, i2], c < s.heap.objs.size := fun c hcm => by
      obtain ⟨⟨v0, g, hz, _⟩, hTI, ⟨_, _, hTO⟩, ⟨o1, e1, _⟩, ⟨o2, e2, _⟩⟩ := st
      simp only [List.mem_cons, List.not_mem_nil, or_false] at hcm
      rcases hcm with q | q | q | q | q <;> subst q
      · exact Heap.lt_size hz
      · exact Heap.lt_size hTI
      · exact Heap.lt_size hTO
      · exact Heap.lt_size e1
      · exact Heap.lt_size e2
    refine zip_item D st p p2 (x := u) (y := u2) (by simpa using hu) (by simpa using hu2) fun h' st' hT hsz hk => ⟨_, rfl, go_nm hn ?_⟩
    have okO : ObjOk X.prog X.w (upd H s.heap.objs.size (.tup [x, y])) h' s.heap.objs.size (.tup [x, y]) := ⟨by show 2 ≤ sizeLine; decide, [u, u2], .cons ru (.cons ru2 .nil), ⟨_, hT, rfl, _, rfl⟩⟩
    have I1 : Inv X pins σ (upd H s.heap.objs.size (.tup [x, y])) { s with heap := h' } :=
      I.turnedNew (t' := s.toks) (ch := [z, TI, TO, i1, i2]) (fun c o hb q => hk c o (fun r => hb (by simp [r])) (fun r => hb (by simp [r])) (fun r => hb (by simp [r])) (fun r => hb (by simp [r])) q) hf (Nat.le_refl _) okO
    refine ⟨.ref s.heap.objs.size, _, I1, rfl, ⟨_, x, y, rfl, I.hok.fresh (Nat.le_refl _), rfl, fun l hl => by rw [I.tuple_inj hl hqx]; exact hx, fun l hl => by rw [I.tuple_inj hl hqy]; exact hy⟩, st', fun c hcm => ?_⟩
    rw [upd_ne (Nat.ne_of_lt (lt c hcm))]
    exact (hf c hcm).1
  done := by
    intro X hP hw hK hc i pins s σ H E I hf st ⟨xs, ys, hqx, hqy, hend⟩
    subst hP hw hK
    obtain ⟨its, rv, p, _⟩ := I.tuple hqx
    obtain ⟨its2, rv2, p2, _⟩ := I.tuple hqy
    have n1 := rv.length
    have n2 := rv2.length
    have he : its.toArray[i]? = none ∨ its2.toArray[i]? = none := by
      rcases hend with q | q
      · exact .inl (by simp; omega)
      · exact .inr (by simp; omega)
    exact zip_end (I.ok.hd hc) D st p p2 he fun h' hk => ⟨rfl, I.turnedL (t' := s.toks) (ch := [z, TI, TO, i1, i2]) (fun c o hb q => hk c o (fun r => hb (by simp [r])) (fun r => hb (by simp [r])) (fun r => hb (by simp [r])) (fun r => hb (by simp [r])) q) hf⟩
  self := by
    intro A i s Q E ⟨⟨v0, g, hz, hv⟩, _⟩ h
    have hT : s.TypeIs (.ref z) "zip" := ⟨_, hz, rfl⟩
    exact wpAny_pyIter_slot hT F.slot_zip_iter (wpAny_call_entry F.slot_zip_iter hT F.entry_zip_iter (show wpAny _ _ (ret (.ref z)) _ _ s from wpAny_pure ⟨_, rfl, "zip", _, hT, F.slot_zip_next.lookup, h⟩) (F.args_zip_iter_1 _))
def iZipN (K : PySem.W.Frag) (ta : TA) : TI := fun σ H R => ta σ H fun vs H1 => ∃ a b xs ys, vs = [.ref a, .ref b] ∧ SqT K H1 a xs ∧ SqT K H1 b ys ∧ R (RZ.ItzT K a b) H1
theorem pi_zipN {X : Cx} {tg e e2 : Expr} {ta : TA} {p pos : Pos} (hn : isNm tg = true) (hg : Gl X "zip") (hm : X.mg "zip" = none) (ha : PA X [e, e2] ta)
    (hs : starEach [e, e2] X.env = (false, eval e X.env) :: starEach [e2] X.env := by rfl) (hpl : (backTo pos (starEach [e2] X.env)).any (·.1) = false := by rfl) : PI X tg (.Call (.Name "zip" p) [e, e2] [] pos) (iZipN X.K ta) := by
  constructor
  intro pins s σ H R I h
  refine PyProof.Rows.Call_ (ld_blt I hg hm PyProof.Rows.boot_zip (PyProof.Rows.callWith_type1 (thn (ha.run pos pins s σ H _ I h) fun us s1 ⟨vs, H1, I1, r1, a, b, xs, ys, ex, hqx, hqy, q⟩ => ?_) hs hpl))
  subst ex
  obtain ⟨u, u2, rfl, r2, r3⟩ : ∃ u u2, us = [u, u2] ∧ RelV (.ref a) u ∧ RelV (.ref b) u2 := by
    cases r1 with
    | cons r rr =>
      cases rr with
      | cons r' rr => cases rr; exact ⟨_, _, rfl, r, r'⟩
  cases r2
  cases r3
  obtain ⟨its, rv, p1, _⟩ := I1.tuple hqx
  obtain ⟨its2, rv2, p2, _⟩ := I1.tuple hqy
  have la : a < s1.heap.objs.size := by
    obtain ⟨o, ho, _⟩ := id p1
    exact Heap.lt_size ho
  have lb : b < s1.heap.objs.size := by
    obtain ⟨o, ho, _⟩ := id p2
    exact Heap.lt_size ho
  refine RZ.call_zipT p1 p2 fun h' hz hTI hTO h1 h2 hsz hk => wpAny_pyIter_zip hz ⟨_, _, _, _, H1, rfl, I1.kept (t' := s1.toks) hk, turn_zipN hn (PySem.W.ktu_apart s1.heap.objs.size a b la lb), ⟨⟨.none, false, hz, .inl rfl⟩, hTI, ⟨_, _, hTO⟩, h1, h2⟩, fun c hcm => ?_, q⟩
  have hle : s1.heap.objs.size ≤ c := by
    simp only [List.mem_cons, List.not_mem_nil, or_false] at hcm
    rcases hcm with z | z | z | z | z <;> subst z <;> first | exact Nat.le_refl _ | exact Nat.le_add_right _ _
  exact I1.fpOk hle (I1.hok.fresh hle)
end PVL
end

section
set_option Elab.async false
set_option linter.all false
set_option maxRecDepth 100000
set_option maxHeartbeats 4000000
/-! PVL9D: a dict of one pair; d.get(k, x). -/
namespace PVL
open PySem L2
section
variable {X : Cx} {n : Nat} {W : WX} {F : Frame} {call : CallF} {pos apos cpos : Pos} {ea eb ec : Expr} {a b d : E}
theorem keyIn_kV {x : PV} {q : DKey} {K : PySem.W.Frag} {mg : Str → Option Value} {H : Hp} {v : V} (h : keyIn false x = some q) (r : Rep K mg H x v) : ∃ k : L2.Key, q = .at_ k ∧ v = kV k := by
  rcases keyIn_at h with ⟨i, rfl, rfl⟩ | ⟨s, rfl, rfl⟩
  · exact ⟨.inl i, rfl, r⟩
  · exact ⟨.inr s, rfl, r⟩
theorem wn_keep {K : PySem.W.Frag} {mg : Str → Option Value} {α β : Type} {post : α → β → Hp → Hp → Prop} {σ : St} {O : Ow} {H Hf H0 Hf0 : Hp} {m : Nat} {r : Res (Nat × PV)} {f : PV → PV → Res α} {Q : β → Hp → Prop} {Q1 : V → Hp → Prop} (h : Wn K mg F W post σ O H Hf ((lo m r).bind f) Q) (s0 : Step O H Hf H0 Hf0)
    (k : ∀ x c v H' Hf', Step O H0 Hf0 H' Hf' → CellOk K mg F σ H' Hf' O c → pL K mg O m x v H' Hf' → Wn K mg F W post σ O H Hf (f x c) Q → Q1 v H') : Wn K mg F W (pM K mg O) σ O H0 Hf0 r Q1 := by
  cases r with
  | ok p c =>
    obtain ⟨d, x⟩ := p
    intro v H' Hf' s c' p
    by_cases hd : d ≤ m
    · rw [lo_ok, if_pos hd] at h
      exact k x c v H' Hf' s c' ⟨d, hd, p⟩ h
    · rw [lo_ok, if_neg hd] at h
      exact h.elim
  | exc e c => exact fun cls d H' Hf' s k p => h cls d H' Hf' (s0.trans s) k p
  | stuck => exact h
theorem f_dct1 (ha : PE X ea ((tM X.K X.mg F W call) a)) (hb : PE X eb ((tM X.K X.mg F W call) b)) : PE X (.Dict [some ea] [eb] pos) (tF X.K X.mg F W call 1 (.dct1 a b)) := by
  refine PE.imp (pe_disp (pps_cons ha hb pps_nil) rfl rfl (by simp) (by simp)) fun σ H Q ⟨env, c, Hf, O, g, h⟩ p hp => ?_
  have s0 : Step O H Hf (upd H p (.dK [])) Hf := Step.lay0 g.sub hp
  have g0 := g.step s0 (g.cell.lay0 hp)
  have h0 : Wn X.K X.mg F W (fun (p : Nat × PV) v H' Hf' => Fresh X.K X.mg H H' Hf' 1 p.2 v) σ O H Hf ((lo 0 (em call a env c)).bind fun x c => (lo 0 (em call b env c)).bind fun y c => .of ((keyIn false x).map fun q => (0, PV.dct false [(q, y)])) c) Q := h
  refine ⟨env, c, Hf, O, g0, wn_keep h0 s0 fun x c1 v H1 Hf1 s1 k1 l1 h1 => ⟨env, c1, Hf1, O, g0.step s1 k1, wn_keep h1 (s0.trans s1) fun y c2 u H2 Hf2 s2 k2 l2 h2 => ?_⟩⟩
  obtain ⟨d1, e1, l1⟩ := l1
  obtain ⟨d2, e2, l2⟩ := l2
  have z1 : d1 = 0 := by omega
  have z2 : d2 = 0 := by omega
  subst z1 z2
  obtain ⟨z, ez, hq⟩ := wn_of h2
  cases ek : keyIn false x with
  | none => rw [ek] at ez; cases ez
  | some q =>
    rw [ek] at ez
    cases ez
    obtain ⟨k, rfl, rfl⟩ := keyIn_kV ek l1.rep0
    have s12 := s1.trans s2
    have np : ∀ t, O p ≠ some t := fun t z => by
      obtain ⟨o, e, _⟩ := (g.own p t z).2
      rw [hp] at e
      cases e
    have hp2 : H2 p = some (.dK []) := s12.h p _ upd_same fun t => np _
    have hf2 : Hf2 p = none := by
      cases e : Hf2 p with
      | none => rfl
      | some o =>
        rcases s12.new p o e with z | z | z
        · have := g.sub p o z
          rw [hp] at this
          cases this
        · rw [upd_same] at z
          cases z
        · have := s2.sub p o e
          rw [hp2] at this
          cases this
          cases z
    have mk : mergeK [] [(k, u)] = [(k, u)] := rfl
    refine ⟨hp2, [(k, u)], rfl, by simp, ?_⟩
    rw [mk]
    have sa := s0.trans s12
    have sw : Step O H Hf (upd H2 p (.dK [(k, u)])) Hf2 := {
      h := fun a o e w => by
        by_cases q : a = p
        · subst q
          rw [hp] at e
          cases e
        · rw [upd_ne q]
          exact sa.h a o e w
      there := fun a o e => by
        by_cases q : a = p
        · subst q
          rw [hp] at e
          cases e
        · rw [upd_ne q]
          exact sa.there a o e
      f := sa.f
      sub := fun a o e => by
        by_cases q : a = p
        · subst q
          rw [hf2] at e
          cases e
        · rw [upd_ne q]
          exact sa.sub a o e
      new := sa.new }
    have ck : CellOk X.K X.mg F σ (upd H2 p (.dK [(k, u)])) Hf2 O c2 := by
      rcases k2 with k2 | ⟨i, w, h1, h2, h3⟩
      · exact .inl k2
      · refine .inr ⟨i, w, h1, h2, h3.stay (fun a q o la e => ?_) (Ex.refl _)⟩
        have : a ≠ p := fun z => by
          subst z
          exact np _ (lab_of la)
        rw [upd_ne this]
        exact e
    refine hq _ _ Hf2 sw ck ⟨fun a => if a = p then some [] else none, fun a q e => ?_, by simp; unfold SZ; omega, p, [u], rfl, by simp, ⟨[k], rfl, upd_same⟩, rfl, fun i x w e1 e2 => ?_⟩
    · by_cases e1 : a = p
      · subst e1
        exact ⟨hp, hf2, _, upd_same, rfl⟩
      · simp [e1] at e
    · cases i with
      | zero =>
        simp at e1 e2
        subst e1 e2
        exact l2.rep0
      | succ i => simp at e1
theorem s_dct1 (ha : PE X ea ((tM X.K X.mg F W call) a)) (hb : PE X eb ((tM X.K X.mg F W call) b)) : PE X (.Dict [some ea] [eb] pos) ((tM X.K X.mg F W call) (.dct1 a b)) := of_fresh (f_dct1 ha hb) fun env c n x c1 e => by
  have e' : ((lo 0 (em call a env c)).bind fun x c => (lo 0 (em call b env c)).bind fun y c => Res.of ((keyIn false x).map fun q => (0, PV.dct false [(q, y)])) c) = .ok (n, x) c1 := e
  cases h1 : lo 0 (em call a env c) with
  | ok x c => 
    rw [h1, bind_ok] at e'
    cases h2 : lo 0 (em call b env c) with
    | ok y c =>
      rw [h2, bind_ok] at e'
      cases h3 : keyIn false x with
      | none => rw [h3] at e'; cases e'
      | some q => rw [h3] at e'; cases e'; rfl
    | exc e c => rw [h2] at e'; cases e'
    | stuck => rw [h2] at e'; cases e'
  | exc e c => rw [h1] at e'; cases e'
  | stuck => rw [h1] at e'; cases e'
/-- d.get(k, x) -/
theorem s_get2 (hr : Room n X.A) (ha : PE X ea ((tM X.K X.mg F W call) a)) (hb : PE X eb ((tM X.K X.mg F W call) b)) (hd : PE X ec ((tM X.K X.mg F W call) d)) (m : M2 X ea "get" apos eb ec cpos) : PE X (.Call (.Attribute ea "get" apos) [eb, ec] [] cpos) ((tM X.K X.mg F W call) (.get2 a b d)) := by
  refine PE.imp (pe_dget2 (hu_of hr) ha hb hd m) fun σ H Q ⟨env, c, Hf, O, g, h⟩ => ?_
  have h' : Wn X.K X.mg F W (pZ X.K X.mg) σ O H Hf ((lo 1 (em call a env c)).bind fun x c => (Res.of (isDct x) c).bind fun _ c => (lo 0 (em call b env c)).bind fun y c => (lo 0 (em call d env c)).bind fun z c => .of (getV x y z) c) Q := wn_hi h
  refine ⟨env, c, Hf, O, g, wn_lo h' fun x c1 v H1 Hf1 s1 k1 ⟨d1, e1, l1⟩ h1 => ?_⟩
  obtain ⟨t, kvs, rfl⟩ : ∃ t kvs, x = .dct t kvs := by cases x <;> first | exact h1.elim | exact ⟨_, _, rfl⟩
  have g1 := g.step s1 k1
  obtain ⟨n1, p1, vs, rfl, t1, r1⟩ := l1.dct s1.sub e1
  have isD : IsD H1 p1 := by
    cases t with
    | false => obtain ⟨qs, _, q⟩ := t1; exact .inl ⟨_, .inl q⟩
    | true => obtain ⟨qs, _, q⟩ := t1; exact .inr ⟨_, .inl q⟩
  have h1' : Wn X.K X.mg F W (pZ X.K X.mg) σ O H1 Hf1 ((lo 0 (em call b env c1)).bind fun y c => (lo 0 (em call d env c)).bind fun z c => .of (getV (.dct t kvs) y z) c) Q := h1
  refine ⟨p1, rfl, isD, env, c1, Hf1, O, g1, wn_lo h1' fun y c2 u H2 Hf2 s2 k2 ⟨d2, e2, l2⟩ h2 => ⟨env, c2, Hf2, O, g1.step s2 k2, wn_lo h2 fun z c3 w H3 Hf3 s3 k3 ⟨d3, e3, l3⟩ h3 => ?_⟩⟩
  have z2 : d2 = 0 := by omega
  have z3 : d3 = 0 := by omega
  subst z2 z3
  obtain ⟨r, er, hq⟩ := wn_of h3
  have l13 : Lent X.K X.mg O H3 Hf3 d1 (.dct t kvs) (.ref p1) := (l1.step s2).step s3
  obtain ⟨n3, p3, vs3, e5, t3, r3⟩ := l13.dct s3.sub e1
  cases e5
  cases ek : keyIn t y with
  | none =>
    have er' : (keyIn t y).map (fun q => (dget kvs q).getD z) = some r := er
    rw [ek] at er'; cases er'
  | some q =>
    obtain ⟨o, gg, ho⟩ := dget_at t3 r3 ek (((l2.step s3).rep s3.sub))
    refine ⟨o, gg, ?_⟩
    have er' : (keyIn t y).map (fun q => (dget kvs q).getD z) = some r := er
    rw [ek] at er'
    cases er'
    cases eg : dget kvs q with
    | none =>
      rw [eg] at ho
      subst ho
      simp only [eg] at hq
      exact hq w H3 Hf3 (Step.refl s3.sub) k3 l3.rep0
    | some y' =>
      rw [eg] at ho
      obtain ⟨u', rfl, ru⟩ := ho
      simp only [eg] at hq
      exact hq u' H3 Hf3 (Step.refl s3.sub) k3 ru
end
end PVL
end

section
set_option Elab.async false
set_option linter.all false
set_option maxRecDepth 100000
set_option maxHeartbeats 4000000
/-! PVL10: what loops and comprehensions walk. -/
namespace PVL
open PySem L2
/-- an iterator that gives xs, while what it walks stands (LL: the later states) -/
def Src (K : PySem.W.Frag) (mg : Str → Option Value) (LL : Hp → Hp → Prop) (J : It) (xs : List PV) : Prop :=
  xs.length ≤ SZ ∧ ∃ (G : Hp → Prop) (Y : Nat → Hp → V → Hp → Prop), Walk J xs.length G Y ∧ (∀ H1 Hf1, LL H1 Hf1 → G H1) ∧
    ∀ (i : Nat) (H1 Hf1 : Hp) (v : V) (H2 : Hp) (x : PV), LL H1 Hf1 → Ex Hf1 H1 → Y i H1 v H2 → xs[i]? = some x →
      (H2 = H1 ∧ Rep K mg Hf1 x v) ∨ ∃ T o, H1 T = none ∧ H2 = upd H1 T o ∧ Rep K mg (upd Hf1 T o) x v
/-- later states: all that is frozen stands; all that is owned stands -/
def LL (n : Nat) (O : Ow) (H Hf H1 Hf1 : Hp) : Prop := match n with
  | 0 => Ex Hf Hf1 ∧ Ex Hf1 H1
  | _ + 1 => Step O H Hf H1 Hf1
theorem LL.f {n : Nat} {O : Ow} {H Hf H1 Hf1 : Hp} (l : LL n O H Hf H1 Hf1) : Ex Hf Hf1 := by
  cases n with
  | zero => exact l.1
  | succ n => exact (show Step O H Hf H1 Hf1 from l).f
theorem LL.step {n : Nat} {O : Ow} {H Hf H1 Hf1 H2 Hf2 : Hp} (s : Step O H Hf H1 Hf1) (l : LL n O H1 Hf1 H2 Hf2) : LL n O H Hf H2 Hf2 := by
  cases n with
  | zero => exact ⟨s.f.trans l.1, l.2⟩
  | succ n => exact s.trans l
section
variable {K : PySem.W.Frag} {mg : Str → Option Value} {O : Ow} {H Hf : Hp} {v : V} {n d : Nat}
/-- a sequence that is lent stands -/
theorem lent_lst {xs : List PV} (sub : Ex Hf H) (l : Lent K mg O H Hf d (.lst xs) v) (hd : d ≤ n) (hn : n ≤ 1) : xs.length ≤ SZ ∧ ∃ a vs, v = .ref a ∧ H a = some (.lst vs) ∧ RepL K mg Hf xs vs ∧ ∀ H1 Hf1, LL n O H Hf H1 Hf1 → H1 a = some (.lst vs) := by
  obtain ⟨i, p, o⟩ := l
  match d, hd, o with
  | 0, _, ⟨z, a, vs, h1, h2, h3⟩ =>
    refine ⟨z, a, vs, h1, sub _ _ h2, h3, fun H1 Hf1 l => ?_⟩
    cases n with
    | zero => exact l.2 _ _ (l.1 _ _ h2)
    | succ n => exact (show Step O H Hf H1 Hf1 from l).sub _ _ ((show Step O H Hf H1 Hf1 from l).f _ _ h2)
  | 1, hd, ⟨z, a, vs, h1, h2, h3, h4, h5⟩ =>
    refine ⟨z, a, vs, h1, h3, RepL.of h4 fun i x u e1 e2 => h5 i x u e1 e2, fun H1 Hf1 l => ?_⟩
    cases n with
    | zero => omega
    | succ n =>
      refine (show Step O H Hf H1 Hf1 from l).h _ _ h3 fun p' z => ?_
      have e1 := (lab_of h2).symm.trans z
      cases e1
  | d + 2, hd, ⟨z, a, vs, h1, h2, h3, h4, h5⟩ => omega
theorem lent_tup {xs : List PV} (sub : Ex Hf H) (l : Lent K mg O H Hf d (.tup xs) v) : xs.length ≤ SZ ∧ ∃ a vs, v = .ref a ∧ H a = some (.tup vs) ∧ RepL K mg Hf xs vs ∧ ∀ H1 Hf1, LL n O H Hf H1 Hf1 → H1 a = some (.tup vs) := by
  obtain ⟨z, a, vs, h1, h2, h3⟩ := l.flat (by simp)
  refine ⟨z, a, vs, h1, sub _ _ h2, h3, fun H1 Hf1 l => ?_⟩
  cases n with
  | zero => exact l.2 _ _ (l.1 _ _ h2)
  | succ n => exact (show Step O H Hf H1 Hf1 from l).sub _ _ ((show Step O H Hf H1 Hf1 from l).f _ _ h2)
theorem src_lst {xs : List PV} {a : Addr} {vs : List V} {LL : Hp → Hp → Prop} (hf : ∀ {H1 Hf1}, LL H1 Hf1 → Ex Hf Hf1) (n : xs.length ≤ SZ) (r : RepL K mg Hf xs vs) (st : ∀ H1 Hf1, LL H1 Hf1 → H1 a = some (.lst vs)) : Src K mg LL (Itl K a) xs := by
  have l := r.length
  refine ⟨n, (fun H => SqL K H a vs), YAt vs, by rw [← l]; exact walk_list, fun H1 Hf1 l => SqL.of (st H1 Hf1 l), fun i H1 Hf1 v H2 x l sub y e => .inl ⟨y.1, ?_⟩⟩
  obtain ⟨u, h1, h2⟩ := r.get e
  rw [y.2] at h1
  cases h1
  exact h2.ex (hf l)
theorem src_tup {xs : List PV} {a : Addr} {vs : List V} {LL : Hp → Hp → Prop} (hf : ∀ {H1 Hf1}, LL H1 Hf1 → Ex Hf Hf1) (n : xs.length ≤ SZ) (r : RepL K mg Hf xs vs) (st : ∀ H1 Hf1, LL H1 Hf1 → H1 a = some (.tup vs)) : Src K mg LL (Itt K a) xs := by
  have l := r.length
  refine ⟨n, (fun H => SqT K H a vs), YAt vs, by rw [← l]; exact walk_tup, fun H1 Hf1 l => SqT.of (st H1 Hf1 l), fun i H1 Hf1 v H2 x l sub y e => .inl ⟨y.1, ?_⟩⟩
  obtain ⟨u, h1, h2⟩ := r.get e
  rw [y.2] at h1
  cases h1
  exact h2.ex (hf l)
theorem rng_len (lo : Int) (n : Nat) : (rng lo n).length = n := by unfold rng; simp
theorem src_rng {lo : Int} {n : Nat} {LL : Hp → Hp → Prop} (hn : n ≤ SZ) : Src K mg LL (Itr lo n) (rng lo n) := by
  refine ⟨by rw [rng_len]; exact hn, (fun _ => True), YFn fun i => .int (lo + i), by rw [rng_len]; exact walk_range, fun _ _ _ => trivial, fun i H1 Hf1 v H2 x l sub y e => .inl ⟨y.1, ?_⟩⟩
  unfold rng at e
  rw [List.getElem?_map] at e
  cases q : (List.range n)[i]? with
  | none => rw [q] at e; cases e
  | some j =>
    rw [q] at e
    obtain ⟨_, rfl⟩ := List.getElem?_eq_some_iff.mp q
    simp at e
    subst e
    exact y.2
theorem pair_rep {x y : PV} {u w : V} {Hf1 H1 : Hp} {T : Addr} (hT : H1 T = none) (sub : Ex Hf1 H1) (r1 : Rep K mg Hf1 x u) (r2 : Rep K mg Hf1 y w) : Rep K mg (upd Hf1 T (.tup [u, w])) (.tup [x, y]) (.ref T) :=
  ⟨by show 2 ≤ 16777216; omega, T, [u, w], rfl, upd_same, u, [w], rfl, r1.ex (Ex.upd (sub.free hT)), w, [], rfl, r2.ex (Ex.upd (sub.free hT)), rfl⟩
theorem zip_get {α β : Type} {xs : List α} {ys : List β} {i : Nat} {p : α × β} (h : (xs.zip ys)[i]? = some p) : xs[i]? = some p.1 ∧ ys[i]? = some p.2 := by
  rw [List.getElem?_zip_eq_some] at h
  exact h
theorem src_pair {xs ys : List PV} {vs us : List V} {J : It} {G : Hp → Prop} {LL : Hp → Hp → Prop} (hf : ∀ {H1 Hf1}, LL H1 Hf1 → Ex Hf Hf1) (n : xs.length ≤ SZ) (r : RepL K mg Hf xs vs) (r2 : RepL K mg Hf ys us)
    (w : Walk J (min vs.length us.length) G (YPair (fun i => vs[i]?) (fun i => us[i]?))) (st : ∀ H1 Hf1, LL H1 Hf1 → G H1) : Src K mg LL J ((xs.zip ys).map fun p => .tup [p.1, p.2]) := by
  have l := r.length
  have l2 := r2.length
  have e0 : ((xs.zip ys).map fun p => PV.tup [p.1, p.2]).length = min vs.length us.length := by rw [List.length_map, List.length_zip, l, l2]
  refine ⟨by rw [e0]; omega, G, _, by rw [e0]; exact w, st, fun i H1 Hf1 v H2 x l sub y e => .inr ?_⟩
  obtain ⟨T, u, w, rfl, hT, rfl, h3, h4⟩ := y
  rw [List.getElem?_map] at e
  cases q : (xs.zip ys)[i]? with
  | none => rw [q] at e; cases e
  | some p =>
    rw [q] at e
    obtain ⟨q1, q2⟩ := zip_get q
    cases e
    obtain ⟨u', g1, g2⟩ := r.get q1
    obtain ⟨w', g3, g4⟩ := r2.get q2
    have e1 : some u' = some u := g1.symm.trans h3
    have e2 : some w' = some w := g3.symm.trans h4
    cases e1
    cases e2
    exact ⟨T, _, hT, rfl, pair_rep hT sub (g2.ex (hf l)) (g4.ex (hf l))⟩
theorem src_enum {xs : List PV} {vs : List V} {J : It} {G : Hp → Prop} {LL : Hp → Hp → Prop} (hf : ∀ {H1 Hf1}, LL H1 Hf1 → Ex Hf Hf1) (n : xs.length ≤ SZ) (r : RepL K mg Hf xs vs)
    (w : Walk J vs.length G (YPair (fun i => some (.int (i : Nat))) (fun i => vs[i]?))) (st : ∀ H1 Hf1, LL H1 Hf1 → G H1) : Src K mg LL J (xs.zipIdx.map fun p => .tup [.int p.2, p.1]) := by
  have l := r.length
  have e0 : (xs.zipIdx.map fun p => PV.tup [.int p.2, p.1]).length = vs.length := by rw [List.length_map, List.length_zipIdx, l]
  refine ⟨by rw [e0]; omega, G, _, by rw [e0]; exact w, st, fun i H1 Hf1 v H2 x l sub y e => .inr ?_⟩
  obtain ⟨T, u, w, rfl, hT, rfl, h3, h4⟩ := y
  cases h3
  rw [List.getElem?_map, List.getElem?_zipIdx] at e
  cases q : xs[i]? with
  | none => rw [q] at e; cases e
  | some p =>
    rw [q] at e
    obtain ⟨w', g3, g4⟩ := r.get q
    have e2 : some w' = some w := g3.symm.trans h4
    cases e2
    simp only [Option.map_some, Nat.zero_add] at e
    cases e
    exact ⟨T, _, hT, rfl, pair_rep hT sub rfl (g4.ex (hf l))⟩
end
section
variable (K : PySem.W.Frag) (mg : Str → Option Value) (F : Frame) (W : WX) (call : CallF)
/-- a source's reading -/
def tI (n : Nat) (k : ItK) (srcs : List E) : TI := fun σ H R => ∃ env c Hf O, Good K mg F env c σ H Hf O ∧
  Wn K mg F W (fun xs J H' Hf' => Src K mg (LL n O H' Hf') J xs) σ O H Hf ((evs call n srcs env c).bind fun ss c => .of (items k ss) c) R
theorem PI.imp {X : Cx} {tg e : Expr} {t t' : TI} (h : PI X tg e t) (i : ∀ σ H Q, t' σ H Q → t σ H Q) : PI X tg e t' := ⟨fun pins s σ H R I q => h.run pins s σ H R I (i _ _ _ q)⟩
end
section
variable {X : Cx} {W : WX} {F : Frame} {call : CallF} {pos tpos : Pos} {tg ea eb ec : Expr} {elts es : List Expr} {a b d : E} {as : List E} {n kk : Nat}
/-- a list or a tuple -/
def iSeq (K : PySem.W.Frag) (tl : TE) : L2.TI := fun σ H R => tl σ H fun x H1 => ∃ a, x = .ref a ∧ (((∃ xs, SqL K H1 a xs) ∧ R (Itl K a) H1) ∨ ((∃ xs, SqT K H1 a xs) ∧ R (Itt K a) H1))
theorem pi_seq {l : Expr} {tl : TE} (hl : PE X l tl) : PI X tg l (iSeq X.K tl) := by
  refine ⟨fun pins s σ H R I h => ?_⟩
  refine thn (hl.run pins s σ H _ I h) fun v s1 ⟨x, H1, I1, r1, q1⟩ => ?_
  obtain ⟨a, e, ⟨⟨xs, hq⟩, q⟩ | ⟨⟨xs, hq⟩, q⟩⟩ := q1
  · subst e
    cases r1
    obtain ⟨its, rv, p, hz⟩ := I1.list hq
    refine wpAny_pyIter_list p.isList ?_
    refine ⟨s1.heap.objs.size, [s1.heap.objs.size], _, _, H1, rfl, I1.kept (t' := s1.toks) fun b o e => Heap.get?_push_of_some _ e, turn_list a _, ⟨_, Heap.get?_push_size _ rfl, rfl, rfl⟩, fun b hb => ?_, q⟩
    have e : b = s1.heap.objs.size := by simpa using hb
    subst e
    exact I1.fpOk (Nat.le_refl _) (I1.hok.fresh (Nat.le_refl _))
  · subst e
    cases r1
    obtain ⟨its, rv, p, hz⟩ := I1.tuple hq
    refine wpAny_pyIter_tuple (show s1.heap.IsTuple a its.toArray from p) ?_
    refine ⟨s1.heap.objs.size, [s1.heap.objs.size], _, _, H1, rfl, I1.kept (t' := s1.toks) fun b o e => Heap.get?_push_of_some _ e, turn_tuple a _, ⟨_, Heap.get?_push_size _ rfl, rfl, rfl⟩, fun b hb => ?_, q⟩
    have e : b = s1.heap.objs.size := by simpa using hb
    subst e
    exact I1.fpOk (Nat.le_refl _) (I1.hok.fresh (Nat.le_refl _))
theorem i_seq (hn : n ≤ 1) (ha : PE X ea ((tM X.K X.mg F W call) a)) : PI X tg ea ((tI X.K X.mg F W call) n .seq [a]) := by
  refine PI.imp (pi_seq ha) fun σ H R ⟨env, c, Hf, O, g, h⟩ => ⟨env, c, Hf, O, g, ?_⟩
  have h' : Wn X.K X.mg F W (fun xs J H' Hf' => Src X.K X.mg (LL n O H' Hf') J xs) σ O H Hf ((lo n (em call a env c)).bind fun x c => .of (items .seq [x]) c) R := by
    have e : (lo n (em call a env c)).bind (fun x c => Res.of (items .seq [x]) c) = (evs call n [a] env c).bind fun ss c => .of (items .seq ss) c := by
      show _ = ((lo n (em call a env c)).bind fun x c => Res.ok [x] c).bind _
      cases lo n (em call a env c) <;> rfl
    rw [e]
    exact h
  refine wn_lo h' fun x c1 v H1 Hf1 s1 k1 ⟨d1, e1, l1⟩ h1 => ?_
  obtain ⟨xs, ex, hq⟩ := wn_of h1
  cases x <;> simp only [items, seq?] at ex <;> first | (cases ex; done) | skip
  · cases ex
    obtain ⟨z, p, vs, rfl, t1, r1, st⟩ := lent_tup (n := n) s1.sub l1
    exact ⟨p, rfl, .inr ⟨⟨vs, SqT.of t1⟩, hq _ H1 Hf1 (Step.refl s1.sub) k1 (src_tup (fun l => l.f) z r1 st)⟩⟩
  · cases ex
    obtain ⟨z, p, vs, rfl, t1, r1, st⟩ := lent_lst s1.sub l1 e1 hn
    exact ⟨p, rfl, .inl ⟨⟨vs, SqL.of t1⟩, hq _ H1 Hf1 (Step.refl s1.sub) k1 (src_lst (fun l => l.f) z r1 st)⟩⟩
theorem paired2 {α β : Type} {R : α → β → Prop} {x y : α} {vs : List β} (h : Paired R [x, y] vs) : ∃ v u, vs = [v, u] ∧ R x v ∧ R y u := by
  cases h with
  | cons r rr =>
    obtain ⟨u, rfl, r2⟩ := paired1 rr
    exact ⟨_, _, rfl, r, r2⟩
theorem i_rng1 {p : Pos} (hg : Gl X "range") (hm : X.mg "range" = none) (hs : notStar ea = true) (ha : PA X [ea] ((tAs X.K X.mg F W call) n [a])) : PI X tg (.Call (.Name "range" p) [ea] [] pos) ((tI X.K X.mg F W call) n .rng1 [a]) := by
  refine PI.imp (pi_range1 hg hm ha (star_cons hs)) fun σ H R ⟨env, c, Hf, O, g, h⟩ => ⟨env, c, Hf, O, g, wn_bind h fun ss c1 vs H1 Hf1 _ s1 k1 p1 h1 => ?_⟩
  obtain ⟨xs, ex, hq⟩ := wn_of h1
  match ss, ex, p1 with
  | [.int j], ex, p1 =>
    obtain ⟨v, rfl, d, hd, l⟩ := paired1 p1
    cases l.flat (by simp)
    simp only [items] at ex
    split at ex
    · rename_i hz
      cases ex
      simp only [Bool.and_eq_true, decide_eq_true_eq] at hz
      have h1 := hz.1
      have h2 := hz.2
      unfold B62 at h1
      unfold SZ at h2
      exact ⟨j, rfl, by omega, by omega, hq _ H1 Hf1 (Step.refl s1.sub) k1 (src_rng (by unfold SZ; omega))⟩
    · cases ex
theorem i_rng2 {p : Pos} (hg : Gl X "range") (hm : X.mg "range" = none) (hs : notStar ea = true) (hs2 : notStar eb = true) (ha : PA X [ea, eb] ((tAs X.K X.mg F W call) n [a, b])) : PI X tg (.Call (.Name "range" p) [ea, eb] [] pos) ((tI X.K X.mg F W call) n .rng2 [a, b]) := by
  refine PI.imp (pi_range2 hg hm ha (by rw [star_cons hs, star_cons hs2]; rfl) (star_cons hs2)) fun σ H R ⟨env, c, Hf, O, g, h⟩ => ⟨env, c, Hf, O, g, wn_bind h fun ss c1 vs H1 Hf1 _ s1 k1 p1 h1 => ?_⟩
  obtain ⟨xs, ex, hq⟩ := wn_of h1
  match ss, ex, p1 with
  | [.int i, .int j], ex, p1 =>
    obtain ⟨v, u, rfl, ⟨d, hd, l⟩, d2, hd2, l2⟩ := paired2 p1
    cases l.flat (by simp)
    cases l2.flat (by simp)
    simp only [items] at ex
    split at ex
    · rename_i hz
      cases ex
      simp only [Bool.and_eq_true, decide_eq_true_eq] at hz
      obtain ⟨⟨⟨⟨h1, h2⟩, h3⟩, h4⟩, h5⟩ := hz
      unfold B62 at h1 h2 h3 h4
      unfold SZ at h5
      exact ⟨i, j, rfl, ⟨by omega, by omega, by omega, by omega⟩, hq _ H1 Hf1 (Step.refl s1.sub) k1 (src_rng (by unfold SZ; omega))⟩
    · cases ex
theorem walk_zipT {K : PySem.W.Frag} {q1 q2 : Addr} {vs us : List V} : Walk (RZ.ItzT K q1 q2) (min vs.length us.length) (fun H => SqT K H q1 vs ∧ SqT K H q2 us) (YPair (fun i => vs[i]?) (fun i => us[i]?)) := by
  refine ⟨fun i _ hi q => ?_, fun _ q => ⟨vs, us, q.1, q.2, by omega⟩, fun i H v H' _ q y => ?_⟩
  · have h1 : i < vs.length := by omega
    have h2 : i < us.length := by omega
    exact ⟨vs, us, vs[i], us[i], q.1, q.2, by simp [h1], by simp [h2]⟩
  · obtain ⟨T, x, z, h1, h2, h3, h4, h5⟩ := y
    exact ⟨T, x, z, h1, h2, h3, h4 vs q.1, h5 us q.2⟩
theorem i_zip {p : Pos} (hn : n ≤ 1) (hg : Gl X "zip") (hm : X.mg "zip" = none) (hs : notStar ea = true) (hs2 : notStar eb = true) (ha : PA X [ea, eb] ((tAs X.K X.mg F W call) n [a, b])) : PI X (.Tuple elts kk tpos) (.Call (.Name "zip" p) [ea, eb] [] pos) ((tI X.K X.mg F W call) n .zip [a, b]) := by
  refine PI.imp (RZ.pi_zipA hg hm ha (star_cons hs) (star_none (by simp [hs2]))) fun σ H R ⟨env, c, Hf, O, g, h⟩ => ⟨env, c, Hf, O, g, wn_bind h fun ss c1 vs H1 Hf1 _ s1 k1 p1 h1 => ?_⟩
  obtain ⟨xs, ex, hq⟩ := wn_of h1
  match ss, ex, p1 with
  | [.lst xs, .lst ys], ex, p1 =>
    obtain ⟨v, u, rfl, ⟨d, hd, l⟩, d2, hd2, l2⟩ := paired2 p1
    cases ex
    obtain ⟨z, q1, vs, rfl, t1, r1, st⟩ := lent_lst s1.sub l hd hn
    obtain ⟨z2, q2, us, rfl, t2, r2, st2⟩ := lent_lst s1.sub l2 hd2 hn
    exact ⟨q1, q2, vs, us, rfl, .inl ⟨SqL.of t1, SqL.of t2, hq _ H1 Hf1 (Step.refl s1.sub) k1 (src_pair (fun l => l.f) z r1 r2 (walk_zip rfl) fun H2 Hf2 l => ⟨SqL.of (st _ _ l), SqL.of (st2 _ _ l)⟩)⟩⟩
  | [.tup xs, .tup ys], ex, p1 =>
    obtain ⟨v, u, rfl, ⟨d, hd, l⟩, d2, hd2, l2⟩ := paired2 p1
    cases ex
    obtain ⟨z, q1, vs, rfl, t1, r1, st⟩ := lent_tup (n := n) s1.sub l
    obtain ⟨z2, q2, us, rfl, t2, r2, st2⟩ := lent_tup (n := n) s1.sub l2
    exact ⟨q1, q2, vs, us, rfl, .inr ⟨SqT.of t1, SqT.of t2, hq _ H1 Hf1 (Step.refl s1.sub) k1 (src_pair (fun l => l.f) z r1 r2 walk_zipT fun H2 Hf2 l => ⟨SqT.of (st _ _ l), SqT.of (st2 _ _ l)⟩)⟩⟩
theorem i_zipn {p : Pos} (hn : n ≤ 1) (ht : isNm tg = true) (hg : Gl X "zip") (hm : X.mg "zip" = none) (hs : notStar ea = true) (hs2 : notStar eb = true) (ha : PA X [ea, eb] ((tAs X.K X.mg F W call) n [a, b])) : PI X tg (.Call (.Name "zip" p) [ea, eb] [] pos) ((tI X.K X.mg F W call) n .zipn [a, b]) := by
  refine PI.imp (pi_zipN ht hg hm ha (star_cons hs) (star_none (by simp [hs2]))) fun σ H R ⟨env, c, Hf, O, g, h⟩ => ⟨env, c, Hf, O, g, wn_bind h fun ss c1 vs H1 Hf1 _ s1 k1 p1 h1 => ?_⟩
  obtain ⟨xs, ex, hq⟩ := wn_of h1
  match ss, ex, p1 with
  | [.tup xs, .tup ys], ex, p1 =>
    obtain ⟨v, u, rfl, ⟨d, hd, l⟩, d2, hd2, l2⟩ := paired2 p1
    cases ex
    obtain ⟨z, q1, vs, rfl, t1, r1, st⟩ := lent_tup (n := n) s1.sub l
    obtain ⟨z2, q2, us, rfl, t2, r2, st2⟩ := lent_tup (n := n) s1.sub l2
    exact ⟨q1, q2, vs, us, rfl, SqT.of t1, SqT.of t2, hq _ H1 Hf1 (Step.refl s1.sub) k1 (src_pair (fun l => l.f) z r1 r2 walk_zipT fun H2 Hf2 l => ⟨SqT.of (st _ _ l), SqT.of (st2 _ _ l)⟩)⟩
theorem i_enum {p : Pos} (hn : n ≤ 1) (hg : Gl X "enumerate") (hm : X.mg "enumerate" = none) (hs : notStar ea = true) (ha : PA X [ea] ((tAs X.K X.mg F W call) n [a])) : PI X (.Tuple elts kk tpos) (.Call (.Name "enumerate" p) [ea] [] pos) ((tI X.K X.mg F W call) n .enum [a]) := by
  refine PI.imp (pi_enumT hg hm ha (star_cons hs)) fun σ H R ⟨env, c, Hf, O, g, h⟩ => ⟨env, c, Hf, O, g, wn_bind h fun ss c1 vs H1 Hf1 _ s1 k1 p1 h1 => ?_⟩
  obtain ⟨xs, ex, hq⟩ := wn_of h1
  match ss, ex, p1 with
  | [.lst xs], ex, p1 =>
    obtain ⟨v, rfl, d, hd, l⟩ := paired1 p1
    cases ex
    obtain ⟨z, q1, vs, rfl, t1, r1, st⟩ := lent_lst s1.sub l hd hn
    exact ⟨q1, vs, rfl, .inl ⟨SqL.of t1, hq _ H1 Hf1 (Step.refl s1.sub) k1 (src_enum (fun l => l.f) z r1 walk_enum fun H2 Hf2 l => SqL.of (st _ _ l))⟩⟩
  | [.tup xs], ex, p1 =>
    obtain ⟨v, rfl, d, hd, l⟩ := paired1 p1
    cases ex
    obtain ⟨z, q1, vs, rfl, t1, r1, st⟩ := lent_tup (n := n) s1.sub l
    have w : Walk (IteT X.K q1) vs.length (fun H => SqT X.K H q1 vs) (YPair (fun i => some (.int (i : Nat))) (fun i => vs[i]?)) := by
      refine ⟨fun i _ hi q => ⟨vs, vs[i], q, by simp [hi]⟩, fun _ q => ⟨vs, q, Nat.le_refl _⟩, fun i H v H' _ q y => ?_⟩
      obtain ⟨T, x, h1, h2, h3, h4⟩ := y
      exact ⟨T, _, x, h1, h2, h3, rfl, h4 vs q⟩
    exact ⟨q1, vs, rfl, .inr ⟨SqT.of t1, hq _ H1 Hf1 (Step.refl s1.sub) k1 (src_enum (fun l => l.f) z r1 w fun H2 Hf2 l => SqT.of (st _ _ l))⟩⟩
end
end PVL
end

section
set_option Elab.async false
set_option linter.all false
set_option maxRecDepth 100000
set_option maxHeartbeats 4000000
/-! PVL11: targets; comprehensions. -/
namespace PVL
open PySem L2
mutual
def gT (K : PySem.W.Frag) : Tg → TG
  | .nm i => gName i
  | .tup ts => fun v σ H Q => gTup K ts.length (gTs K ts) v σ H Q ∨ gLst K ts.length (gTs K ts) v σ H Q
termination_by structural t => t
def gTs (K : PySem.W.Frag) : List Tg → TGs
  | [] => gNil
  | t :: ts => gCons (gT K t) (gTs K ts)
termination_by structural t => t
end
section
variable {K : PySem.W.Frag} {mg : Str → Option Value} {F : Frame} {env : Env} {c : PV} {σ : St} {H Hf : Hp} {O : Ow}
theorem CellOk.slots {σ' : St} (k : CellOk K mg F σ H Hf O c) (h : ∀ i, F.cs = some i → σ'[i]? = σ[i]?) : CellOk K mg F σ' H Hf O c := by
  rcases k with k | ⟨i, v, h1, h2, h3⟩
  · exact .inl k
  · exact .inr ⟨i, v, h1, by rw [h i h1]; exact h2, h3⟩
/-- a frozen value, or one whose labels stand already, into a slot -/
theorem Good.set {i d : Nat} {x : PV} {v : V} (g : Good K mg F env c σ H Hf O) (h : Own K mg H Hf (lab O (some i)) d [] x v) (hi : F.cs ≠ some i) : Good K mg F (env.set i (some ⟨d, x⟩)) c (σ.set i (some v)) H Hf O :=
  { g with
    len := by rw [List.length_set, List.length_set, g.len]
    slots := fun j s e => by
      by_cases q : i = j
      · subst q
        by_cases hl : i < env.length
        · rw [List.getElem?_set_self hl] at e
          cases e
          exact ⟨v, by rw [List.getElem?_set_self (by rw [g.len]; exact hl)], h⟩
        · rw [List.getElem?_eq_none (by simpa using hl)] at e
          cases e
      · rw [List.getElem?_set_ne q] at e ⊢
        exact g.slots j s e
    cell := g.cell.slots fun j hj => by
      have q : i ≠ j := fun e => hi (by rw [hj, e])
      rw [List.getElem?_set_ne q]
    atCa := fun a e => by
      obtain ⟨k, h1, h2⟩ := g.atCa a e
      have q : i ≠ k := fun e => hi (by rw [h1, e])
      exact ⟨k, h1, by rw [List.getElem?_set_ne q]; exact h2⟩ }
theorem Good.set0 {i : Nat} {x : PV} {v : V} (g : Good K mg F env c σ H Hf O) (h : Rep K mg Hf x v) (hi : F.cs ≠ some i) : Good K mg F (env.set i (some ⟨0, x⟩)) c (σ.set i (some v)) H Hf O := g.set (d := 0) h hi
theorem wipe_get : ∀ {own : List Nat} {i : Nat} {s : Slot}, (wipe env own)[i]? = some (some s) → env[i]? = some (some s) ∧ i ∉ own
  | [], i, s, h => ⟨h, by simp⟩
  | v :: vs, i, s, h => by
    unfold wipe at h
    by_cases hi : v = i
    · subst hi
      by_cases hv : v < (wipe env vs).length
      · rw [List.getElem?_set_self hv] at h; cases h
      · rw [List.getElem?_eq_none (by simpa using hv)] at h; cases h
    · rw [List.getElem?_set_ne hi] at h
      obtain ⟨h1, h2⟩ := wipe_get h
      exact ⟨h1, by simp only [List.mem_cons, not_or]; exact ⟨fun e => hi e.symm, h2⟩⟩
theorem wipe_len : ∀ (own : List Nat), (wipe env own).length = env.length
  | [] => rfl
  | v :: vs => by unfold wipe; rw [List.length_set, wipe_len vs]
theorem Good.wipe (g : Good K mg F env c σ H Hf O) {own : List Nat} (hc : ∀ k, F.cs = some k → k ∉ own) : Good K mg F (PVL.wipe env own) c (L2.wipe σ own) H Hf O :=
  { g with
    len := by rw [L2.wipe_length, wipe_len, g.len]
    slots := fun i s e => by
      obtain ⟨e1, e2⟩ := wipe_get e
      rw [L2.wipe_out e2]
      exact g.slots i s e1
    cell := g.cell.slots fun j hj => L2.wipe_out (hc j hj)
    atCa := fun a e => by
      obtain ⟨k, h1, h2⟩ := g.atCa a e
      exact ⟨k, h1, by rw [L2.wipe_out (hc k h1)]; exact h2⟩ }
theorem wipe_set {σ : St} {v : Option V} : ∀ {vs : List Nat} {i : Nat}, i ∈ vs → L2.wipe (σ.set i v) vs = L2.wipe σ vs
  | u :: vs, i, h => by
    show (L2.wipe (σ.set i v) vs).set u none = (L2.wipe σ vs).set u none
    by_cases e : i ∈ vs
    · rw [wipe_set e]
    · have e1 : i = u := by simpa [e] using h
      subst e1
      refine List.ext_getElem? fun j => ?_
      by_cases q : i = j
      · subst q
        by_cases hl : i < σ.length
        · rw [List.getElem?_set_self (by rw [L2.wipe_length, List.length_set]; exact hl), List.getElem?_set_self (by rw [L2.wipe_length]; exact hl)]
        · rw [List.getElem?_eq_none (by simpa [L2.wipe_length] using hl), List.getElem?_eq_none (by simpa [L2.wipe_length] using hl)]
      · rw [List.getElem?_set_ne q, List.getElem?_set_ne q]
        have key : ∀ (vs : List Nat), (L2.wipe (σ.set i v) vs)[j]? = (L2.wipe σ vs)[j]? := fun vs => by
          induction vs with
          | nil => exact List.getElem?_set_ne q
          | cons w ws ih =>
            show ((L2.wipe (σ.set i v) ws).set w none)[j]? = ((L2.wipe σ ws).set w none)[j]?
            by_cases z : w = j
            · subst z
              by_cases hl : w < σ.length
              · rw [List.getElem?_set_self (by rw [L2.wipe_length, List.length_set]; exact hl), List.getElem?_set_self (by rw [L2.wipe_length]; exact hl)]
              · rw [List.getElem?_eq_none (by simpa [L2.wipe_length] using hl), List.getElem?_eq_none (by simpa [L2.wipe_length] using hl)]
            · rw [List.getElem?_set_ne z, List.getElem?_set_ne z]
              exact ih
        exact key vs
mutual
/-- a target takes a frozen value -/
theorem put_good (hsub : Ex Hf H) : ∀ (tg : Tg) {x : PV} {v : V} {env env1 : Env} {σ : St} {Q : St → Hp → Prop}, Good K mg F env c σ H Hf O → Rep K mg Hf x v → (∀ k, F.cs = some k → k ∉ tg.ids) → tg.put x env = some env1 →
    (∀ σ1, Good K mg F env1 c σ1 H Hf O → (∀ vs, (∀ i ∈ tg.ids, i ∈ vs) → L2.wipe σ1 vs = L2.wipe σ vs) → Q σ1 H) → gT K tg v σ H Q
  | .nm i, x, v, env, env1, σ, Q, g, r, hc, e, k => by
    unfold Tg.put at e
    cases e
    unfold gT
    exact k _ (g.set0 r fun z => hc i z (by unfold Tg.ids; simp)) fun vs h => wipe_set (h i (by unfold Tg.ids; simp))
  | .tup ts, x, v, env, env1, σ, Q, g, r, hc, e, k => by
    unfold Tg.put at e
    unfold gT
    cases x <;> first | (cases e; done) | skip
    all_goals rename_i xs
    all_goals obtain ⟨_, a, vs, rfl, h1, h2⟩ := r
    all_goals have l := h2.length
    all_goals have hl : xs.length = ts.length := puts_len ts e
    · exact .inl ⟨a, vs, rfl, SqT.of (hsub _ _ h1), by rw [l, hl], puts_good hsub ts g h2 (fun k hk => by have := hc k hk; unfold Tg.ids at this; exact this) e fun σ1 g1 w => k σ1 g1 fun vs h => w vs fun i hi => h i (by unfold Tg.ids; exact hi)⟩
    · exact .inr ⟨a, vs, rfl, SqL.of (hsub _ _ h1), by rw [l, hl], puts_good hsub ts g h2 (fun k hk => by have := hc k hk; unfold Tg.ids at this; exact this) e fun σ1 g1 w => k σ1 g1 fun vs h => w vs fun i hi => h i (by unfold Tg.ids; exact hi)⟩
theorem puts_good (hsub : Ex Hf H) : ∀ (ts : List Tg) {xs : List PV} {vs : List V} {env env1 : Env} {σ : St} {Q : St → Hp → Prop}, Good K mg F env c σ H Hf O → RepL K mg Hf xs vs → (∀ k, F.cs = some k → k ∉ Tg.idsL ts) → Tg.puts ts xs env = some env1 →
    (∀ σ1, Good K mg F env1 c σ1 H Hf O → (∀ vs, (∀ i ∈ Tg.idsL ts, i ∈ vs) → L2.wipe σ1 vs = L2.wipe σ vs) → Q σ1 H) → gTs K ts vs σ H Q
  | [], xs, vs, env, env1, σ, Q, g, r, hc, e, k => by
    cases xs with
    | cons => unfold Tg.puts at e; cases e
    | nil =>
      unfold Tg.puts at e
      cases e
      unfold gTs
      cases (show vs = [] from r)
      exact ⟨rfl, k σ g fun _ _ => rfl⟩
  | t :: ts, xs, vs, env, env1, σ, Q, g, r, hc, e, k => by
    cases xs with
    | nil => unfold Tg.puts at e; cases e
    | cons x xs =>
      obtain ⟨v, us, rfl, h1, h2⟩ := r
      unfold Tg.puts at e
      unfold gTs
      cases q : t.put x env with
      | none => rw [q] at e; cases e
      | some env2 =>
        rw [q] at e
        refine ⟨v, us, rfl, put_good hsub t g h1 (fun k hk z => hc k hk (by unfold Tg.idsL; exact List.mem_append_left _ z)) q fun σ1 g1 w1 => ?_⟩
        refine puts_good hsub ts g1 h2 (fun k hk z => hc k hk (by unfold Tg.idsL; exact List.mem_append_right _ z)) e fun σ2 g2 w2 => k σ2 g2 fun vs h => ?_
        rw [w2 vs fun i hi => h i (by unfold Tg.idsL; exact List.mem_append_right _ hi), w1 vs fun i hi => h i (by unfold Tg.idsL; exact List.mem_append_left _ hi)]
theorem puts_len : ∀ (ts : List Tg) {xs : List PV} {env env1 : Env}, Tg.puts ts xs env = some env1 → xs.length = ts.length
  | [], [], _, _, _ => rfl
  | [], _ :: _, _, _, e => by unfold Tg.puts at e; cases e
  | _ :: _, [], _, _, e => by unfold Tg.puts at e; cases e
  | t :: ts, x :: xs, env, env1, e => by
    unfold Tg.puts at e
    cases q : t.put x env with
    | none => rw [q] at e; cases e
    | some env2 =>
      rw [q] at e
      rw [List.length_cons, List.length_cons, puts_len ts e]
end
end
section
variable (K : PySem.W.Frag) (mg : Str → Option Value) (F : Frame) (W : WX) (call : CallF)
/-- a value's reading, new d deep -/
def tV (d : Nat) (e : E) : TE := fun σ H Q => ∃ env c Hf O, Good K mg F env c σ H Hf O ∧ Wn K mg F W (fun x v H' Hf' => Fresh K mg H H' Hf' d x v) σ O H Hf (ev call e env c) Q
end
theorem tk0 {X : Cx} : Takes X (fun _ _ _ _ => False) := fun _ _ x => by
  obtain ⟨_, _, _, _, _, _, _, _, _, _, _, _, _, _, _, _, z⟩ := x
  exact z.elim
abbrev W0 : WX := fun _ _ _ _ => False
theorem lo_inv {n : Nat} {r : Res (Nat × PV)} {y c : PV} (h : lo n r = .ok y c) : ∃ d, d ≤ n ∧ r = .ok (d, y) c := by
  cases r with
  | ok p c1 =>
    obtain ⟨d, x⟩ := p
    rw [lo_ok] at h
    split at h
    · cases h; exact ⟨d, by assumption, rfl⟩
    · cases h
  | exc e c1 => cases h
  | stuck => cases h
section
variable {X : Cx} {W : WX} {F : Frame} {call : CallF} {pos : Pos} {n : Nat}
theorem comp_imp {own : List (Str × Nat)} {tg : Tg} {k : ItK} {srcs conds : List E} {d : Nat} {elt : E}
    (hin : ∀ i ∈ tg.ids, i ∈ own.map (·.2)) (hcs : ∀ k, F.cs = some k → k ∉ own.map (·.2)) (σ : St) (H : Hp) (Q : VK) (hh : tF X.K X.mg F W call (d + 1) (.comp (own.map (·.2)) tg k srcs conds d elt) σ H Q) :
    tLc (tI X.K X.mg F W call 1 k srcs) (gT X.K tg) (tB X.K X.mg F W0 fun env c => evc call conds env c) (tV X.K X.mg F W0 call d elt) (own.map (·.2)) σ H Q := by
  obtain ⟨env, c, Hf, O, g, h⟩ := hh
  refine ⟨env, c, Hf, O, g, ?_⟩
  have h' : Wn X.K X.mg F W (fun (p : Nat × PV) v H' Hf' => Fresh X.K X.mg H H' Hf' (d + 1) p.2 v) σ O H Hf (((evs call 1 srcs env c).bind fun ss c => .of (items k ss) c).bind fun xs c =>
      match compL (own.map (·.2)) tg env (fun env c => evc call conds env c) (fun env c => lo 0 (em call elt env c)) xs c with
        | .ok ys c => .ok (0, .lst ys) c
        | _ => .stuck) Q := by
    have e : em call (.comp (own.map (·.2)) tg k srcs conds d elt) env c = (((evs call 1 srcs env c).bind fun ss c => Res.of (items k ss) c).bind fun xs c =>
      match compL (own.map (·.2)) tg env (fun env c => evc call conds env c) (fun env c => lo 0 (em call elt env c)) xs c with
        | .ok ys c => .ok (0, .lst ys) c
        | _ => .stuck) := by
      conv => lhs; unfold em
      cases evs call 1 srcs env c with
      | ok ss c1 =>
        simp only [bind_ok]
        cases items k ss <;> rfl
      | exc e c1 => rfl
      | stuck => rfl
    rw [← e]
    exact h
  clear h
  refine wn_bind h' fun xs c1 J H1 Hf1 _ s1 k1 src h1 => ?_
  clear h'
  intro D hD
  obtain ⟨hz, G, Y, wk, hG, hY⟩ := src
  cases q : compL (own.map (·.2)) tg env (fun env c => evc call conds env c) (fun env c => lo 0 (em call elt env c)) xs c1 with
  | exc e c2 => rw [q] at h1; exact h1.elim
  | stuck => rw [q] at h1; exact h1.elim
  | ok all cE =>
  rw [q] at h1
  have g1 := g.step s1 k1
  have hOD : ∀ a t, H1 a = none → O a ≠ some t := fun a t hn e => by
    obtain ⟨_, o, e2, _⟩ := g1.own a t e
    rw [hn] at e2; cases e2
  have nD : ∀ {H H' : Hp}, H' D = none → H D = none → True := fun _ _ => trivial
  refine lc_it wk (fun i H => ∃ (Hf : Hp) (c : PV) (us : List V) (ys zs : List PV) (L : Lab), Step O H1 Hf1 H Hf ∧ CellOk X.K X.mg F σ H Hf O c ∧ Hf D = none ∧ H D = some (.lst us) ∧ us.length = ys.length ∧
    (∀ a p, L a = some p → H1 a = none ∧ a ≠ D ∧ Hf a = none ∧ ∃ o, H a = some o ∧ isT o = false) ∧ (∀ j x u, ys[j]? = some x → us[j]? = some u → Own X.K X.mg H Hf L d [j] x u) ∧ ys.length ≤ i ∧
    compL (own.map (·.2)) tg env (fun env c => evc call conds env c) (fun env c => lo 0 (em call elt env c)) (xs.drop i) c = .ok zs cE ∧ ys ++ zs = all) ?_ (fun i H hi ⟨Hf, c, us, ys, zs, L, st, _⟩ => hG H Hf st) ?_ ?_
  · exact ⟨Hf1, c1, [], [], all, fun _ => none, Step.lay0 s1.sub hD, k1.lay0 hD, s1.sub.free hD, upd_same, rfl, fun a p e => (by cases e), fun j x u e => (by simp at e), Nat.zero_le _, q, rfl⟩
  · rintro i v H2 H3 hi ⟨Hf2, c2, us, ys, zs, L, st, ck, fD, eD, lu, hL, ow, ly, hq, ea⟩ hy
    have hx : xs[i]? = some xs[i] := List.getElem?_eq_getElem hi
    rw [List.drop_eq_getElem_cons hi] at hq
    generalize hxe : xs[i] = x at hx hq
    -- the item
    obtain ⟨Hf3, st3, ck3, rx⟩ : ∃ Hf3, Step O H2 Hf2 H3 Hf3 ∧ CellOk X.K X.mg F σ H3 Hf3 O c2 ∧ Rep X.K X.mg Hf3 x v := by
      rcases hY i H2 Hf2 v H3 x st st.sub hy hx with ⟨rfl, r⟩ | ⟨T, o, hT, rfl, r⟩
      · exact ⟨Hf2, Step.refl st.sub, ck, r⟩
      · exact ⟨_, Step.lay st.sub hT, ck.lay hT (st.sub.free hT), r⟩
    have g3 := (g1.step (st.trans st3) ck3).wipe hcs
    unfold compL at hq
    cases ep : tg.put x (wipe env (own.map (·.2))) with
    | none => rw [ep] at hq; cases hq
    | some env1 =>
    rw [ep] at hq
    simp only [] at hq
    refine put_good st3.sub tg g3 rx (fun k hk z => hcs k hk (hin k z)) ep fun σ2 g4 hw => ⟨?_, ?_⟩
    · rw [hw _ hin]
      have key : ∀ (vs : List Nat), L2.wipe (L2.wipe σ vs) vs = L2.wipe σ vs := fun vs => List.ext_getElem? fun j => by
        by_cases hj : j ∈ vs
        · have nn : ∀ (σ : St), (L2.wipe σ vs)[j]? = (if j < σ.length then some none else none) := fun σ => by
            induction vs with
            | nil => simp at hj
            | cons w ws ih =>
              show ((L2.wipe σ ws).set w none)[j]? = _
              by_cases z : w = j
              · subst z
                by_cases hl : w < σ.length
                · rw [List.getElem?_set_self (by rw [L2.wipe_length]; exact hl), if_pos hl]
                · rw [List.getElem?_eq_none (by simpa [L2.wipe_length] using hl), if_neg hl]
              · rw [List.getElem?_set_ne z]
                exact ih (by simpa [Ne.symm z] using hj)
          rw [nn, nn, L2.wipe_length]
        · rw [L2.wipe_out hj]
      exact key _
    · -- the cell's slot stands through the targets
      have k4 : ∀ {H' Hf' : Hp} {c' : PV}, CellOk X.K X.mg F σ2 H' Hf' O c' → CellOk X.K X.mg F σ H' Hf' O c' := fun {H' Hf' c'} k => k.slots fun j hj => by
        have e1 := hw (own.map (·.2)) hin
        have e2 := L2.wipe_out (σ := σ2) (hcs j hj)
        rw [e1, L2.wipe_out (hcs j hj), L2.wipe_out (hcs j hj)] at e2
        exact e2
      cases et : evc call conds env1 c2 with
      | exc e c3 => rw [et] at hq; cases hq
      | stuck => rw [et] at hq; cases hq
      | ok t c3 =>
      rw [et] at hq
      refine ⟨env1, c2, Hf3, O, g4, ?_⟩
      show Wn _ _ _ _ _ _ _ _ _ (evc call conds env1 c2) _
      rw [et]
      intro b H4 Hf4 st4 ck4 eb
      cases (show b = t from eb)
      -- what stands from the turn's start to H4
      have st34 := st3.trans st4
      have stay : ∀ {Ha Hfa : Hp}, Step O H2 Hf2 Ha Hfa → ∀ a o, H1 a = none → H2 a = some o → Ha a = some o := fun st a o hn e => st.h a o e fun p => hOD a _ hn
      have free : ∀ {Ha Hfa : Hp}, Step O H2 Hf2 Ha Hfa → ∀ a o, H2 a = some o ∧ isT o = false → Hf2 a = none → Hfa a = none := fun {Ha Hfa} st a o e hn => by
        cases z : Hfa a with
        | none => rfl
        | some u =>
          rcases st.new a u z with w | w | w
          · rw [hn] at w; cases w
          · rw [e.1] at w; cases w
          · obtain ⟨o2, e2, t2⟩ := st.there a o e.1
            have := st.sub a u z
            rw [e2] at this
            cases this
            rw [t2.trans e.2] at w
            cases w
      cases t with
      | false =>
        simp only [Bool.false_eq_true, if_false] at hq ⊢
        exact ⟨Hf4, c3, us, ys, zs, L, st.trans st34, k4 ck4, free st34 D _ ⟨eD, rfl⟩ fD, stay st34 D _ hD eD, lu,
          fun a p e => by
            obtain ⟨h1, h2, h3, o, h4, h5⟩ := hL a p e
            exact ⟨h1, h2, free st34 a o ⟨h4, h5⟩ h3, o, stay st34 a o h1 h4, h5⟩,
          fun j x u e1 e2 => (ow j x u e1 e2).stay (fun a p o e h => stay st34 a o (hL a p e).1 h) st34.f, Nat.le_succ_of_le ly, hq, ea⟩
      | true =>
        simp only [if_true] at hq ⊢
        cases ee : lo 0 (em call elt env1 c3) with
        | exc e c4 => rw [ee] at hq; cases hq
        | stuck => rw [ee] at hq; cases hq
        | ok y c4 =>
        rw [ee] at hq
        cases er : compL (own.map (·.2)) tg env (fun env c => evc call conds env c) (fun env c => lo 0 (em call elt env c)) (xs.drop (i + 1)) c4 with
        | exc e c5 => simp only [er] at hq; cases hq
        | stuck => simp only [er] at hq; cases hq
        | ok ws c5 =>
        simp only [er] at hq
        cases hq
        refine ⟨env1, c3, Hf4, O, g4.step st4 ck4, ?_⟩
        show Wn _ _ _ _ _ _ _ _ _ (lo 0 (em call elt env1 c3)) _
        rw [ee]
        intro w H5 Hf5 st5 ck5 ⟨L2, hL2, ow2⟩
        have st35 := st34.trans st5
        have e5D := stay st35 D _ hD eD
        have f5D := free st35 D _ ⟨eD, rfl⟩ fD
        have H4D := stay st34 D _ hD eD
        have lt : ys.length < SZ := by
          have : i < xs.length := hi
          omega
        have nL : ∀ a p, L2 a = some p → L a = none := fun a p e => by
          cases z : L a with
          | none => rfl
          | some p' =>
            obtain ⟨h1, _, _, o, h4, _⟩ := hL a p' z
            have := stay st34 a o h1 h4
            rw [(hL2 a p e).1] at this
            cases this
        have nD2 : ∀ a p, L2 a = some p → a ≠ D := fun a p e z => by
          subst z
          rw [(hL2 a p e).1] at H4D
          cases H4D
        refine ⟨us, e5D, by rw [lu]; exact SZ_lt lt, Hf5, c4, us ++ [w], ys ++ [y], ws, fun a => match L a with | some p => some p | none => (L2 a).map fun p => ys.length :: p, ?_, ?_, f5D, upd_same, by simp [lu], ?_, ?_, ?_, er, by rw [List.append_assoc]; exact ea⟩
        · have s := st.trans st35
          exact ⟨fun a o e n => by rw [upd_ne (ne_of_none e hD)]; exact s.h a o e n, fun a o e => by
              obtain ⟨o', e', t'⟩ := s.there a o e
              exact ⟨o', by rw [upd_ne (ne_of_none e hD)]; exact e', t'⟩, s.f, fun a o e => by
              have : a ≠ D := fun z => by subst z; rw [f5D] at e; cases e
              rw [upd_ne this]
              exact s.sub a o e, s.new⟩
        · rcases k4 ck5 with z | ⟨kk, v', z1, z2, z3⟩
          · exact .inl z
          · refine .inr ⟨kk, v', z1, z2, z3.stay (fun a p o e h => ?_) (Ex.refl _)⟩
            have : a ≠ D := fun z => by subst z; exact hOD _ _ hD (lab_of e)
            rw [upd_ne this]
            exact h
        · intro a p e
          simp only at e
          cases z : L a with
          | some p' =>
            obtain ⟨h1, h2, h3, o, h4, h5⟩ := hL a p' z
            exact ⟨h1, h2, free st35 a o ⟨h4, h5⟩ h3, o, by rw [upd_ne h2]; exact stay st35 a o h1 h4, h5⟩
          | none =>
            rw [z] at e
            cases z2 : L2 a with
            | none => rw [z2] at e; cases e
            | some p2 =>
              obtain ⟨h1, h2, o, h3, h4⟩ := hL2 a p2 z2
              refine ⟨?_, nD2 a p2 z2, h2, o, by rw [upd_ne (nD2 a p2 z2)]; exact h3, h4⟩
              exact not_after (st.trans st34).there a h1
        · intro j x2 u2 e1 e2
          by_cases hj : j < ys.length
          · rw [List.getElem?_append_left hj] at e1
            rw [List.getElem?_append_left (by rw [lu]; exact hj)] at e2
            refine Own.move id (fun _ _ => rfl) (fun a p e => by simp only [e]; rfl) (fun a p o e h => ?_) st35.f (ow j x2 u2 e1 e2)
            obtain ⟨h1, h2, _⟩ := hL a p e
            rw [upd_ne h2]
            exact stay st35 a o h1 h
          · have hj2 : j = ys.length := by
              have := (List.getElem?_eq_some_iff.mp e1).1
              rw [List.length_append, List.length_singleton] at this
              omega
            subst hj2
            have e1' : x2 = y := by simpa using e1.symm
            have e2' : u2 = w := by rw [← lu] at e2; simpa using e2.symm
            subst e1'
            subst e2'
            refine Own.move (fun p => ys.length :: p) (fun _ _ => rfl) (fun a p e => by simp only [nL a p e, e]; rfl) (fun a p o e h => ?_) (Ex.refl _) ow2
            rw [upd_ne (nD2 a p e)]
            exact h
        · rw [List.length_append, List.length_singleton]
          omega
  · rintro H2 ⟨Hf2, c2, us, ys, zs, L, st, ck, fD, eD, lu, hL, ow, ly, hq, ea⟩
    rw [List.drop_length] at hq
    unfold compL at hq
    cases hq
    rw [List.append_nil] at ea
    subst ea
    refine h1 _ _ Hf2 st ck ⟨fun a => if a = D then some [] else L a, fun a p e => ?_, by omega, D, us, rfl, by simp, eD, lu, fun j x u e1 e2 => ?_⟩
    · by_cases z : a = D
      · subst z
        exact ⟨not_after s1.there _ hD, fD, _, eD, rfl⟩
      · simp only [if_neg z] at e
        obtain ⟨h1, h2, h3, h4⟩ := hL a p e
        exact ⟨not_after s1.there _ h1, h3, h4⟩
    · refine Own.move id (fun _ _ => rfl) (fun a p e => ?_) (fun a p o e h => h) (Ex.refl _) (ow j x u e1 e2)
      rw [if_neg (hL a p e).2.1]
      exact e
theorem f_comp {own : List (Str × Nat)} {tg : Tg} {k : ItK} {srcs conds : List E} {d : Nat} {elt : E} {tgE iterE eltE : Expr} {ifs : List Expr} {scope : Scope} (hc : X.calm = true) (hN : X.N.Nodup) (hi : PI X tgE iterE (tI X.K X.mg F W call 1 k srcs)) (ok : BlkOk X.N X.env.scope scope own)
    (hg : ∀ (s : Shared) (H : Hp) (C : Addr) (cl : List (Str × Addr)) (fp : List Addr), PG (X.blk s H scope (compEnvC scope cl C X.env) fp) tgE (gT X.K tg))
    (ht : ∀ (s : Shared) (H : Hp) (C : Addr) (cl : List (Str × Addr)) (fp : List Addr), PTs (X.blk s H scope (compEnvC scope cl C X.env) fp) ifs (tB X.K X.mg F W0 fun env c => evc call conds env c))
    (he : ∀ (s : Shared) (H : Hp) (C : Addr) (cl : List (Str × Addr)) (fp : List Addr), PE (X.blk s H scope (compEnvC scope cl C X.env) fp) eltE (tV X.K X.mg F W0 call d elt))
    (hin : ∀ i ∈ tg.ids, i ∈ own.map (·.2)) (hcs : ∀ k, F.cs = some k → k ∉ own.map (·.2)) (hs : ∀ x, foldedSetIterable iterE X.env x = pure x) :
    PE X (.ListComp eltE [⟨tgE, iterE, ifs, 0⟩] scope pos) (tF X.K X.mg F W call (d + 1) (.comp (own.map (·.2)) tg k srcs conds d elt)) :=
  PE.imp (pe_lc hc hN hi ok hg ht he hs) fun σ H Q h => comp_imp hin hcs σ H Q h
end
end PVL
end

section
set_option Elab.async false
set_option linter.all false
set_option maxRecDepth 100000
set_option maxHeartbeats 4000000
/-! PVL12: statements: names, if, loops, return. -/
namespace PVL
open PySem L2
theorem PS.imp {X : Cx} {st : Stmt} {t t' : TS} (h : PS X st t) (i : ∀ D σ H, t' D σ H → t D σ H) : PS X st t' := ⟨fun pins s σ H D I q => h.run pins s σ H D I (i _ _ _ q)⟩
theorem PSs.imp {X : Cx} {st : List Stmt} {t t' : TS} (h : PSs X st t) (i : ∀ D σ H, t' D σ H → t D σ H) : PSs X st t' := ⟨fun pins s σ H D I q => h.run pins s σ H D I (i _ _ _ q)⟩
section
variable (K : PySem.W.Frag) (mg : Str → Option Value) (F : Frame) (W : WX) (retd : Nat) (call : CallF) (fr : List Str)
/-- a frame is left -/
def Leave (c : PV) (H Hf : Hp) : Prop := After F.H0 F.Hf0 F.ca H Hf ∧ ∀ a, F.ca = some a → isLst c = true → CellAt K mg H Hf a c
/-- what is wanted behind a statement that ends so -/
def WnS (Hf : Hp) (D : Ends) (o : Out) : Prop := match o with
  | .nx env c => ∀ σ H Hf' O, Ex Hf Hf' → Good K mg F env c σ H Hf' O → D.nx σ H
  | .ret x c => ∀ v H Hf', Leave K mg F c H Hf' → Fresh K mg F.H0 H Hf' retd x v → D.rt v H
  | .exc e c => ∀ cls d σ H Hf', Leave K mg F c H Hf' → ExcRep K mg H Hf' e cls d → W cls d σ H
  | .stuck => False
def tS (s : S) : TS := fun D σ H => ∃ env c Hf O, Good K mg F env c σ H Hf O ∧ WnS K mg F W retd Hf D (evS call fr s env c)
def tBk (ss : List S) : TS := fun D σ H => ∃ env c Hf O, Good K mg F env c σ H Hf O ∧ WnS K mg F W retd Hf D (evB call fr ss env c)
end
section
variable {K : PySem.W.Frag} {mg : Str → Option Value} {F : Frame} {W : WX} {retd : Nat} {call : CallF} {fr : List Str} {env : Env} {c : PV} {σ : St} {H Hf Hf1 : Hp} {O : Ow} {D D' : Ends} {o : Out}
theorem Good.leave (g : Good K mg F env c σ H Hf O) : Leave K mg F c H Hf := by
  refine ⟨⟨fun a o e n => g.keep a o e n, fun a o e => ?_, g.frz0, g.sub, g.new⟩, fun a ea hl => ?_⟩
  · by_cases z : some a = F.ca
    · obtain ⟨t, e1⟩ := g.caOk a z.symm
      obtain ⟨o2, e2, t2⟩ := (g.own a _ e1).2
      exact ⟨o2, e2, t2.trans (g.caT a o z.symm e).symm⟩
    · exact ⟨o, g.keep a o e z, rfl⟩
  · obtain ⟨k, h1, h2⟩ := g.atCa a ea
    rcases g.cell with z | ⟨k', v, h3, h4, h5⟩
    · subst z; cases hl
    · rw [h1] at h3
      cases h3
      rw [h2] at h4
      cases h4
      cases c <;> first | (cases hl; done) | skip
      rename_i xs
      obtain ⟨n, a', us, e1, l1, t1, l2, r⟩ := h5
      cases e1
      exact ⟨(g.own _ _ (lab_of l1)).1, xs, us, rfl, n, t1, RepL.of l2 fun i x u e1 e2 => r i x u e1 e2⟩
theorem WnS.after (h : WnS K mg F W retd Hf D o) (s : Ex Hf Hf1) : WnS K mg F W retd Hf1 D o := by
  cases o with
  | nx env c => exact fun σ H Hf' O e g => h σ H Hf' O (s.trans e) g
  | ret x c => exact h
  | exc e c => exact h
  | stuck => exact h
/-- what stands behind the first of two -/
theorem wns_bind {f : Env → PV → Out} (h : WnS K mg F W retd Hf D (o.bind f)) (rt : D'.rt = D.rt) (nx : ∀ env c σ H Hf' O, o = .nx env c → Ex Hf Hf' → Good K mg F env c σ H Hf' O → WnS K mg F W retd Hf' D (f env c) → D'.nx σ H) : WnS K mg F W retd Hf D' o := by
  cases o with
  | nx env c => exact fun σ H Hf' O e g => nx env c σ H Hf' O rfl e g (WnS.after h e)
  | ret x c => exact fun v H Hf' l f => by rw [rt]; exact h v H Hf' l f
  | exc e c => exact h
  | stuck => exact h
/-- an expression within a statement -/
theorem wns_out {α β : Type} {post : α → β → Hp → Hp → Prop} {r : Res α} {f : α → PV → Out} {Q : β → Hp → Prop} (g : Good K mg F env c σ H Hf O) (h : WnS K mg F W retd Hf D (r.out f))
    (k : ∀ x c v H' Hf', r = .ok x c → Step O H Hf H' Hf' → Good K mg F env c σ H' Hf' O → post x v H' Hf' → WnS K mg F W retd Hf' D (f x c) → Q v H') : Wn K mg F W post σ O H Hf r Q := by
  cases r with
  | ok x c' => exact fun v H' Hf' s ck p => k x c' v H' Hf' rfl s (g.step s ck) p (WnS.after h s.f)
  | exc e c' => exact fun cls d H' Hf' s ck er => h cls d σ H' Hf' (g.step s ck).leave er
  | stuck => exact h
theorem not_o {a : Addr} (g : Good K mg F env c σ H Hf O) (h : H a = none) : O a = none := by
  cases q : O a with
  | none => rfl
  | some t =>
    obtain ⟨_, o, e, _⟩ := g.own a t q
    rw [h] at e; cases e
theorem not_h0 {a : Addr} (g : Good K mg F env c σ H Hf O) (h : H a = none) : F.H0 a = none := by
  cases q : F.H0 a with
  | none => rfl
  | some o =>
    by_cases z : some a = F.ca
    · obtain ⟨t, e1⟩ := g.caOk a z.symm
      rw [not_o g h] at e1; cases e1
    · rw [g.keep a o q z] at h; cases h
/-- a new value's labels, added -/
def addL (O : Ow) (r : Option Nat) (L : Lab) : Ow := fun a => match L a with
  | some p => some (r, p)
  | none => O a
theorem addL_new {r : Option Nat} {L : Lab} {a : Addr} {p : List Nat} (h : L a = some p) : lab (addL O r L) r a = some p := by
  apply lab_mk
  unfold addL
  rw [h]
theorem addL_old {r r' : Option Nat} {L : Lab} {a : Addr} {p : List Nat} (hL : ∀ a p, L a = some p → O a = none) (h : lab O r' a = some p) : lab (addL O r L) r' a = some p := by
  apply lab_mk
  unfold addL
  cases q : L a with
  | none => exact lab_of h
  | some p' =>
    have := lab_of h
    rw [hL a p' q] at this
    cases this
/-- the labels of a value that is new since H0 added to a good state -/
theorem Good.add {H0 Hf0 : Hp} {c0 : PV} {L : Lab} {r : Option Nat} (g0 : Good K mg F env c0 σ H0 Hf0 O) (g : Good K mg F env c σ H Hf O) (hL : ∀ a p, L a = some p → H0 a = none ∧ Hf a = none ∧ ∃ o, H a = some o ∧ isT o = false) : Good K mg F env c σ H Hf (addL O r L) :=
  have hO : ∀ a p, L a = some p → O a = none := fun a p e => not_o g0 (hL a p e).1
  { g with
    slots := fun i s e => by
      obtain ⟨v, h1, h2⟩ := g.slots i s e
      exact ⟨v, h1, Own.move id (fun _ _ => rfl) (fun a p e => addL_old hO e) (fun a p o e h => h) (Ex.refl _) h2⟩
    cell := by
      rcases g.cell with z | ⟨k, v, h1, h2, h3⟩
      · exact .inl z
      · exact .inr ⟨k, v, h1, h2, Own.move id (fun _ _ => rfl) (fun a p e => addL_old hO e) (fun a p o e h => h) (Ex.refl _) h3⟩
    own := fun a t e => by
      unfold addL at e
      cases q : L a with
      | none => rw [q] at e; exact g.own a t e
      | some p => exact (hL a p q).2
    ownNew := fun a t e => by
      unfold addL at e
      cases q : L a with
      | none => rw [q] at e; exact g.ownNew a t e
      | some p => exact .inl (not_h0 g0 (hL a p q).1)
    caOk := fun a e => by
      obtain ⟨t, h⟩ := g.caOk a e
      refine ⟨t, ?_⟩
      unfold addL
      cases q : L a with
      | none => exact h
      | some p => rw [hO a p q] at h; cases h }
theorem Own.add {d : Nat} {p : List Nat} {x : PV} {v : V} {L : Lab} {r : Option Nat} (h : Own K mg H Hf L d p x v) : Own K mg H Hf (lab (addL O r L) r) d p x v :=
  Own.move id (fun _ _ => rfl) (fun a p e => addL_new e) (fun a p o e h => h) (Ex.refl _) h
end
section
variable {X : Cx} {W : WX} {F : Frame} {retd : Nat} {call : CallF} {fr : List Str} {pos tpos : Pos} {tg ea eb ec : Expr} {st : Stmt} {sts sts2 : List Stmt} {a b d : E} {s : S} {ss ss2 : List S} {as : List E} {i : Nat} {x : Str}
theorem v_tF {n : Nat} (h : PE X ea (tF X.K X.mg F W call n a)) : PE X ea (PVL.tV X.K X.mg F W call n a) := PE.imp h fun σ H Q ⟨env, c, Hf, O, g, h⟩ => ⟨env, c, Hf, O, g, by
  unfold ev at h
  cases q : em call a env c with
  | ok p c1 =>
    obtain ⟨k, y⟩ := p
    rw [q, lo_ok] at h
    split at h
    · exact h
    · exact h.elim
  | exc e c1 => rw [q] at h; exact h
  | stuck => rw [q] at h; exact h⟩
theorem v_tM (h : PE X ea ((tM X.K X.mg F W call) a)) : PE X ea (PVL.tV X.K X.mg F W call 0 a) := PE.imp h fun σ H Q ⟨env, c, Hf, O, g, h⟩ => ⟨env, c, Hf, O, g, by
  unfold ev at h
  cases q : em call a env c with
  | ok p c1 =>
    obtain ⟨k, y⟩ := p
    rw [q, lo_ok] at h
    split at h
    · rename_i hk
      have e0 : k = 0 := by omega
      subst e0
      exact fun v H' Hf' s ck l => h v H' Hf' s ck (Fresh.zero l.rep0)
    · exact h.elim
  | exc e c1 => rw [q] at h; exact h
  | stuck => rw [q] at h; exact h⟩
/-! ### blocks -/
theorem r_nil : PSs X [] ((tBk X.K X.mg F W retd call fr) []) := PSs.imp pss_nil fun D σ H ⟨env, c, Hf, O, g, h⟩ => h σ H Hf O (Ex.refl _) g
theorem r_cons (h1 : PS X st ((tS X.K X.mg F W retd call fr) s)) (h2 : PSs X sts ((tBk X.K X.mg F W retd call fr) ss)) : PSs X (st :: sts) ((tBk X.K X.mg F W retd call fr) (s :: ss)) :=
  PSs.imp (pss_cons h1 h2) fun D σ H ⟨env, c, Hf, O, g, h⟩ => ⟨env, c, Hf, O, g, wns_bind h rfl fun env c σ H Hf' O _ e g h => ⟨env, c, Hf', O, g, h⟩⟩
/-- a slot's value is frozen -/
theorem Good.frz {K : PySem.W.Frag} {mg : Str → Option Value} {env : Env} {c : PV} {σ : St} {H Hf : Hp} {O : Ow} (g : Good K mg F env c σ H Hf O) (i : Nat) : ∃ Hf' O', Ex Hf Hf' ∧ Good K mg F (frzS env i) c σ H Hf' O' := by
  have hL : ∀ a p, lab O (some i) a = some p → Hf a = none := fun a p e => (g.own a _ (lab_of e)).1
  have ex := thaw_ex (H := H) hL
  refine ⟨thaw (lab O (some i)) H Hf, fun a => match lab O (some i) a with | some _ => none | none => O a, ex, ?_⟩
  have hlab : ∀ j, j ≠ some i → ∀ a p, lab O j a = some p → lab (fun a => match lab O (some i) a with | some _ => none | none => O a) j a = some p := fun j hj a p e => by
    apply lab_mk
    have e1 := lab_of e
    have : lab O (some i) a = none := by
      cases q : lab O (some i) a with
      | none => rfl
      | some q' =>
        have := lab_of q
        rw [e1] at this
        cases this
        exact absurd rfl hj
    simp only [this]
    exact e1
  have hlen : (frzS env i).length = env.length := by
    unfold frzS
    split
    · rw [List.length_set]
    · rfl
  exact {
    len := by rw [hlen, g.len]
    slots := fun j s e => by
      by_cases hj : j = i
      · subst hj
        unfold frzS at e
        cases q : env[j]? with
        | none => rw [q] at e; simp only [] at e; rw [q] at e; cases e
        | some o =>
          cases o with
          | none => rw [q] at e; simp only [] at e; rw [q] at e; cases e
          | some s0 =>
            rw [q] at e
            simp only [] at e
            rw [List.getElem?_set_self (List.getElem?_eq_some_iff.mp q).1] at e
            cases e
            obtain ⟨v, h1, h2⟩ := g.slots j s0 q
            exact ⟨v, h1, h2.thaw hL⟩
      · have e' : env[j]? = some (some s) := by
          unfold frzS at e
          split at e
          · rwa [List.getElem?_set_ne (Ne.symm hj)] at e
          · exact e
        obtain ⟨v, h1, h2⟩ := g.slots j s e'
        exact ⟨v, h1, Own.move id (fun _ _ => rfl) (hlab (some j) (fun z => hj (Option.some.inj z))) (fun a p o e h => h) ex h2⟩
    cell := by
      rcases g.cell with z | ⟨k, v, h1, h2, h3⟩
      · exact .inl z
      · exact .inr ⟨k, v, h1, h2, Own.move id (fun _ _ => rfl) (hlab none (fun z => by cases z)) (fun a p o e h => h) ex h3⟩
    sub := thaw_sub g.sub
    own := fun a t e => by
      cases q : lab O (some i) a with
      | some p => rw [q] at e; cases e
      | none =>
        rw [q] at e
        obtain ⟨h1, h2⟩ := g.own a t e
        refine ⟨?_, h2⟩
        unfold thaw
        rw [q]
        exact h1
    keep := g.keep
    frz0 := g.frz0.trans ex
    new := fun a o e => by
      rcases thaw_new e with h | ⟨p, h⟩
      · exact g.new a o h
      · rcases g.ownNew a _ (lab_of h) with z | ⟨_, z⟩
        · exact .inr (.inl z)
        · cases z
    ownNew := fun a t e => by
      cases q : lab O (some i) a with
      | some p => rw [q] at e; cases e
      | none => rw [q] at e; exact g.ownNew a t e
    caOk := fun a e => by
      obtain ⟨t, h⟩ := g.caOk a e
      refine ⟨t, ?_⟩
      have : lab O (some i) a = none := by
        cases q : lab O (some i) a with
        | none => rfl
        | some p =>
          have l := lab_of q
          rw [h] at l
          cases l
      simp only [this]
      exact h
    atCa := g.atCa
    caT := g.caT }
end
end PVL
end

section
set_option Elab.async false
set_option linter.all false
set_option maxRecDepth 100000
set_option maxHeartbeats 4000000
/-! PVL13: the rules of statements. -/
namespace PVL
open PySem L2
section
variable {X : Cx} {W : WX} {F : Frame} {retd : Nat} {call : CallF} {fr : List Str} {pos tpos : Pos} {tg ea eb ec : Expr} {st : Stmt} {sts sts2 : List Stmt} {a b d : E} {s : S} {ss ss2 : List S} {as : List E} {i : Nat} {x : Str}
theorem r_frz {i : Nat} (h : PSs X sts ((tBk X.K X.mg F W retd call fr) ss)) : PSs X sts ((tBk X.K X.mg F W retd call fr) (.frz i :: ss)) := PSs.imp h fun D σ H ⟨env, c, Hf, O, g, h⟩ => by
  obtain ⟨Hf', O', ex, g'⟩ := g.frz i
  exact ⟨frzS env i, c, Hf', O', g', WnS.after (o := evB call fr ss (frzS env i) c) h ex⟩
theorem r_pass : PS X (.Pass pos) ((tS X.K X.mg F W retd call fr) .pass) := PS.imp ps_pass fun D σ H ⟨env, c, Hf, O, g, h⟩ => h σ H Hf O (Ex.refl _) g
theorem r_doc {y : Str} {j : Nat} {p2 : Pos} : PS X (.Expr (.Constant (.str y) j p2) pos) ((tS X.K X.mg F W retd call fr) .pass) := PS.imp ps_doc fun D σ H ⟨env, c, Hf, O, g, h⟩ => h σ H Hf O (Ex.refl _) g
theorem r_raise : PS X st ((tS X.K X.mg F W retd call fr) .raise) := PS.imp ps_never fun D σ H ⟨env, c, Hf, O, g, h⟩ => h.elim
theorem r_expr (hp : PE X ea ((tV X.K X.mg F W call) 0 a)) (hs : swapsWith ea none pos.line X.env = pure false) : PS X (.Expr ea pos) ((tS X.K X.mg F W retd call fr) (.expr a)) :=
  PS.imp (ps_expr hp hs) fun D σ H ⟨env, c, Hf, O, g, h⟩ => ⟨env, c, Hf, O, g, wns_out g h fun x c1 v H1 Hf1 _ s1 g1 _ h1 => h1 σ H1 Hf1 O (Ex.refl _) g1⟩
theorem r_ret (hp : PE X ea ((tV X.K X.mg F W call) retd a)) : PS X (.Return (some ea) pos) ((tS X.K X.mg F W retd call fr) (.ret a)) :=
  PS.imp (ps_ret hp) fun D σ H ⟨env, c, Hf, O, g, h⟩ => ⟨env, c, Hf, O, g, wns_out g h fun x c1 v H1 Hf1 _ s1 g1 f1 h1 => h1 v H1 Hf1 g1.leave (by
    obtain ⟨L, hL, o⟩ := f1
    exact ⟨L, fun a p e => ⟨not_h0 g (hL a p e).1, (hL a p e).2⟩, o⟩)⟩
theorem r_if (hc : PT X ea ((tT X.K X.mg F W call) a)) (h1 : PSs X sts ((tBk X.K X.mg F W retd call fr) ss)) (h2 : PSs X sts2 ((tBk X.K X.mg F W retd call fr) ss2)) : PS X (.If ea sts sts2 pos) ((tS X.K X.mg F W retd call fr) (.ife a ss ss2)) :=
  PS.imp (ps_if hc h1 h2) fun D σ H ⟨env, c, Hf, O, g, h⟩ => ⟨env, c, Hf, O, g, wns_out g h fun t c1 b H1 Hf1 _ s1 g1 e1 h1 => by
    cases (show b = t from e1)
    cases t with
    | true => exact ⟨env, c1, Hf1, O, g1, h1⟩
    | false => exact ⟨env, c1, Hf1, O, g1, h1⟩⟩
/-- a name's new value, a statement whose reading is so -/
theorem r_set {own : Bool} (hp : PS X st (tAsg ((tV X.K X.mg F W call) (if own then fd fr a else 0) a) (gName i))) (hi : F.cs ≠ some i) : PS X st ((tS X.K X.mg F W retd call fr) (.set i own a)) :=
  PS.imp hp fun D σ H ⟨env, c, Hf, O, g, h⟩ => ⟨env, c, Hf, O, g, wns_out g h fun x c1 v H1 Hf1 _ s1 g1 f1 h1 => by
    obtain ⟨L, hL, o⟩ := f1
    exact h1 _ H1 Hf1 (addL O (some i) L) (Ex.refl _) ((g.add g1 hL).set o.add hi)⟩
theorem r_setc (hp : PS X st (tAsg ((tV X.K X.mg F W call) 1 a) (gName i))) (hi : F.cs = some i) (hca : F.ca = none) : PS X st ((tS X.K X.mg F W retd call fr) (.setc i a)) :=
  PS.imp hp fun D σ H ⟨env, c, Hf, O, g, h⟩ => by
    have g0 : Good X.K X.mg F env .non σ H Hf O := g.step (Step.refl g.sub) (.inl rfl)
    refine ⟨env, .non, Hf, O, g0, wns_out g0 h fun x c1 v H1 Hf1 _ s1 g1 f1 h1 => ?_⟩
    obtain ⟨L, hL, o⟩ := f1
    have g2 := g.add (r := none) g1 hL
    replace h1 : WnS X.K X.mg F W retd Hf1 D (if i < env.length then .nx (env.set i none) x else .stuck) := h1
    by_cases hl : i < env.length
    case neg => rw [if_neg hl] at h1; exact h1.elim
    rw [if_pos hl] at h1
    refine h1 _ H1 Hf1 (addL O none L) (Ex.refl _) { g2 with
      len := by rw [List.length_set, List.length_set, g2.len]
      slots := fun j s e => ?_
      cell := ?_
      atCa := fun a e => by rw [hca] at e; cases e }
    · by_cases q : i = j
      · subst q
        by_cases hl : i < env.length
        · rw [List.getElem?_set_self hl] at e; cases e
        · rw [List.getElem?_eq_none (by simpa using hl)] at e; cases e
      · rw [List.getElem?_set_ne q] at e ⊢
        exact g2.slots j s e
    · exact .inr ⟨i, v, hi, by rw [List.getElem?_set_self (by rw [g2.len]; exact hl)], o.add⟩
/-- (a, b, ..) = a tuple -/
theorem r_unp {t : Tg} (hp : PS X st (tAsg ((tV X.K X.mg F W call) 0 a) (gT X.K t))) (hi : ∀ k, F.cs = some k → k ∉ t.ids) : PS X st ((tS X.K X.mg F W retd call fr) (.unp t a)) :=
  PS.imp hp fun D σ H ⟨env, c, Hf, O, g, h⟩ => ⟨env, c, Hf, O, g, wns_out g h fun x c1 v H1 Hf1 _ s1 g1 f1 h1 => by
    cases e : t.put x env with
    | none => rw [e] at h1; exact h1.elim
    | some env1 =>
      rw [e] at h1
      exact put_good g1.sub t g1 f1.rep0 hi e fun σ1 g2 _ => h1 σ1 H1 Hf1 O (Ex.refl _) g2⟩
/-- while -/
theorem r_whl {n : Nat} (hp : PassesOwn (model X.prog X.w) X.A X.env X.xe) (hc : PT X ea ((tT X.K X.mg F W call) a)) (hb : PSs X sts ((tBk X.K X.mg F W retd call fr) ss)) : PS X (.While ea sts [] pos) ((tS X.K X.mg F W retd call fr) (.whl n a ss)) :=
  PS.imp (ps_while hp hc hb) fun D σ H ⟨env, c, Hf, O, g, h⟩ => by
    refine ⟨fun m σ H => ∃ env c Hf O, Good X.K X.mg F env c σ H Hf O ∧ WnS X.K X.mg F W retd Hf D (whlL (fun env c => tst (lo AN (em call a env c))) (fun env c => evB call fr ss env c) m env c), ⟨n, env, c, Hf, O, g, h⟩, ?_⟩
    rintro m σ H ⟨env, c, Hf, O, g, h⟩
    cases m with
    | zero => exact h.elim
    | succ m =>
      refine ⟨env, c, Hf, O, g, wns_out (f := fun t c => if t then (evB call fr ss env c).bind fun env c => whlL (fun env c => tst (lo AN (em call a env c))) (fun env c => evB call fr ss env c) m env c else .nx env c) g h fun t c1 b H1 Hf1 _ s1 g1 e1 h1 => ?_⟩
      cases (show b = t from e1)
      cases t with
      | false => exact h1 σ H1 Hf1 O (Ex.refl _) g1
      | true =>
        refine ⟨_, fun σ' H' w => ⟨m, Nat.lt_succ_self m, w⟩, env, c1, Hf1, O, g1, ?_⟩
        exact wns_bind (D' := { D with nx := _, ct := _, bk := D.nx }) h1 rfl fun env c σ H Hf' O _ e g h => ⟨env, c, Hf', O, g, h⟩
/-- for -/
theorem r_for {t : Tg} {k : ItK} (hp : PassesOwn (model X.prog X.w) X.A X.env X.xe) (hc : X.calm = true) (hi : PI X tg ea (tI X.K X.mg F W call 0 k as)) (hg : PG X tg (gT X.K t)) (hb : PSs X sts ((tBk X.K X.mg F W retd call fr) ss)) (hcs : ∀ k, F.cs = some k → k ∉ t.ids)
    (hs : ∀ x, foldedSetIterable ea X.env x = pure x) : PS X (.For tg ea sts [] pos) ((tS X.K X.mg F W retd call fr) (.for_ t k as ss)) :=
  PS.imp (ps_for hp hc hi hg hb hs) fun D σ H ⟨env, c, Hf, O, g, h⟩ => by
    have h' : WnS X.K X.mg F W retd Hf D (((evs call 0 as env c).bind fun xs c => .of (items k xs) c).out fun xs c => forL t (fun env c => evB call fr ss env c) xs env c) := by
      have e : ((evs call 0 as env c).bind fun xs c => Res.of (items k xs) c).out (fun xs c => forL t (fun env c => evB call fr ss env c) xs env c) = evS call fr (.for_ t k as ss) env c := by
        conv => rhs; unfold evS
        cases evs call 0 as env c with
        | ok xs c1 =>
          simp only [bind_ok, out_ok]
          cases items k xs <;> rfl
        | exc e c1 => rfl
        | stuck => rfl
      rw [e]
      exact h
    refine ⟨env, c, Hf, O, g, wns_out g h' fun xs c1 J H1 Hf1 _ s1 g1 src h1 => ?_⟩
    clear h h'
    obtain ⟨hz, G, Y, wk, hG, hY⟩ := src
    refine for_it wk (fun i σ H => ∃ env c Hf O, Ex Hf1 Hf ∧ Good X.K X.mg F env c σ H Hf O ∧ WnS X.K X.mg F W retd Hf D (forL t (fun env c => evB call fr ss env c) (xs.drop i) env c)) ⟨env, c1, Hf1, O, Ex.refl _, g1, h1⟩
      (fun i σ H hi ⟨env, c, Hf, O, ex, g, _⟩ => hG H Hf ⟨ex, g.sub⟩) ?_ ?_
    · rintro i v σ H2 H3 hi ⟨env2, c2, Hf2, O2, ex, g2, h2⟩ hy
      have hx : xs[i]? = some xs[i] := List.getElem?_eq_getElem hi
      rw [List.drop_eq_getElem_cons hi] at h2
      generalize hxe : xs[i] = y at hx h2
      obtain ⟨Hf3, ex3, g3, rx⟩ : ∃ Hf3, Ex Hf2 Hf3 ∧ Good X.K X.mg F env2 c2 σ H3 Hf3 O2 ∧ Rep X.K X.mg Hf3 y v := by
        rcases hY i H2 Hf2 v H3 y ⟨ex, g2.sub⟩ g2.sub hy hx with ⟨rfl, r⟩ | ⟨T, o, hT, rfl, r⟩
        · exact ⟨Hf2, Ex.refl _, g2, r⟩
        · have st := Step.lay (O := O2) (o := o) g2.sub hT
          exact ⟨_, st.f, g2.step st (g2.cell.lay hT (g2.sub.free hT)), r⟩
      unfold forL at h2
      cases e : t.put y env2 with
      | none => rw [e] at h2; exact h2.elim
      | some env3 =>
        rw [e] at h2
        refine put_good g3.sub t g3 rx hcs e fun σ1 g4 _ => ⟨env3, c2, Hf3, O2, g4, ?_⟩
        exact wns_bind (D' := { D with nx := _, ct := _, bk := D.nx }) (WnS.after (show WnS X.K X.mg F W retd Hf2 D ((evB call fr ss env3 c2).bind fun env c => forL t (fun env c => evB call fr ss env c) (xs.drop (i + 1)) env c) from h2) ex3) rfl
          fun env c σ H Hf' O _ e g h => ⟨env, c, Hf', O, (ex.trans ex3).trans e, g, h⟩
    · rintro σ H2 ⟨env2, c2, Hf2, O2, ex, g2, h2⟩
      rw [List.drop_length] at h2
      exact h2 σ H2 Hf2 O2 (Ex.refl _) g2
end
end PVL
end

section
set_option Elab.async false
set_option linter.all false
set_option maxRecDepth 100000
set_option maxHeartbeats 4000000
/-! PVL14: what is owned is changed. -/
namespace PVL
open PySem L2
section
variable {K : PySem.W.Frag} {mg : Str → Option Value} {H Hf H' Hf' : Hp} {L : Lab}
/-- what is owned below p stays while the addresses labelled below p do -/
theorem Own.below : ∀ {d : Nat} {p : List Nat} {x : PV} {v : V}, (∀ a q o, L a = some q → p <+: q → H a = some o → H' a = some o) → Own K mg H Hf L d p x v → Own K mg H' Hf L d p x v
  | 0, _, _, _, _, h => h
  | d + 1, p, .lst xs, v, hh, ⟨n, a, vs, h1, h2, h3, h4, h5⟩ => ⟨n, a, vs, h1, h2, hh a p _ h2 (List.prefix_refl p) h3, h4, fun i x u e1 e2 => Own.below (fun a q o l pr e => hh a q o l ((List.prefix_append p [i]).trans pr) e) (h5 i x u e1 e2)⟩
  | d + 1, p, .dct t kvs, v, hh, ⟨n, a, vs, h1, h2, h3, h4, h5⟩ => ⟨n, a, vs, h1, h2, h3.ex fun o e => hh a p o h2 (List.prefix_refl p) e, h4, fun i x u e1 e2 => Own.below (fun a q o l pr e => hh a q o l ((List.prefix_append p [i]).trans pr) e) (h5 i x u e1 e2)⟩
  | d + 1, _, .non, _, _, h => h
  | d + 1, _, .bl _, _, _, h => h
  | d + 1, _, .int _, _, _, h => h
  | d + 1, _, .str _, _, _, h => h
  | d + 1, _, .tup _, _, _, h => h
  | d + 1, _, .fn _, _, _, h => h
  | d + 1, _, .scr _, _, _, h => h
/-- where a path of at most one step leads -/
def ChildAt (H : Hp) : PV → V → List PV → V → Prop
  | _, v0, [], u => u = v0
  | .lst xs, v0, [k], u => ∃ a vs i j, v0 = .ref a ∧ H a = some (.lst vs) ∧ vs.length = xs.length ∧ k = .int i ∧ ixN xs.length i = some j ∧ vs[j]? = some u
  | .dct t kvs, v0, [k], u => ∃ a vs q j, v0 = .ref a ∧ DictAt H a t (kvs.map (·.1)) vs ∧ vs.length = kvs.length ∧ keyIn t k = some q ∧ (kvs.findIdx? fun kv => decide (kv.1 = q)) = some j ∧ vs[j]? = some u
  | _, _, _, _ => False
theorem dictAt_inj {t : Bool} {ks : List DKey} {vs us : List V} {a : Addr} (h1 : DictAt H a t ks vs) (h2 : DictAt H a t ks us) (l1 : vs.length = ks.length) (l2 : us.length = ks.length) : vs = us := by
  have key : ∀ {κ : Type} (qs qs2 : List κ) (vs us : List V), qs.length = vs.length → qs2.length = us.length → qs.zip vs = qs2.zip us → vs = us := fun {κ} qs qs2 vs us e1 e2 e => by
    have := congrArg (List.map Prod.snd) e
    rwa [List.map_snd_zip (by omega), List.map_snd_zip (by omega)] at this
  cases t with
  | false =>
    obtain ⟨qs, e1, e2⟩ := h1
    obtain ⟨qs2, e3, e4⟩ := h2
    rw [e2] at e4
    injection e4 with e4
    injection e4 with e4
    refine key qs qs2 vs us ?_ ?_ e4
    · have := congrArg List.length e1; rw [List.length_map] at this; omega
    · have := congrArg List.length e3; rw [List.length_map] at this; omega
  | true =>
    obtain ⟨qs, e1, e2⟩ := h1
    obtain ⟨qs2, e3, e4⟩ := h2
    rw [e2] at e4
    injection e4 with e4
    injection e4 with e4
    refine key qs qs2 vs us ?_ ?_ e4
    · have := congrArg List.length e1; rw [List.length_map] at this; omega
    · have := congrArg List.length e3; rw [List.length_map] at this; omega
theorem pre_ne {p q : List Nat} {i j : Nat} (h1 : p ++ [i] <+: q) (h2 : p ++ [j] = q) : i = j := by
  subst h2
  obtain ⟨r, e⟩ := h1
  rw [List.append_assoc, List.append_cancel_left_eq] at e
  cases r with
  | nil => simpa using e
  | cons => simp at e
/-- the container at the end of a path; the whole behind its change -/
theorem focus {f : PV → Option PV} {ks : List PV} {xv z : PV} {v0 u : V} (o : Own K mg H Hf L (ks.length + 1) [] xv v0) (c : ChildAt H xv v0 ks u) (e : modP f ks xv = some z) :
    ∃ y w p, f y = some w ∧ Own K mg H Hf L 1 p y u ∧ ∀ a H2, u = .ref a → L a = some p → (∀ b o, b ≠ a → H b = some o → H2 b = some o) → Own K mg H2 Hf L 1 p w u → Own K mg H2 Hf L (ks.length + 1) [] z v0 := by
  match ks, o, c, e with
  | [], o, c, e =>
    cases (show u = v0 from c)
    unfold modP at e
    exact ⟨xv, z, [], e, o, fun a H2 _ _ _ h => h⟩
  | [k], o, c, e =>
    cases xv with
    | lst xs =>
      obtain ⟨a0, vs, i, j, rfl, t1, l1, rfl, hi, hu⟩ := c
      obtain ⟨n, a0', vs', e1, l2, t2, l3, r⟩ := o
      cases e1
      rw [t1] at t2
      cases t2
      have hk : kidAt (.int i) xs = some j := hi
      unfold modP at e
      rw [hk] at e
      simp only [Option.bind_some] at e
      cases ex : xs[j]? with
      | none => rw [ex] at e; cases e
      | some y =>
        rw [ex] at e
        simp only [Option.bind_some] at e
        unfold modP at e
        cases ef : f y with
        | none => rw [ef] at e; cases e
        | some w =>
          rw [ef] at e
          cases e
          refine ⟨y, w, [] ++ [j], ef, r j y u ex hu, fun a H2 hua la hst ow => ?_⟩
          have ne0 : a0 ≠ a := fun z => by subst z; rw [l2] at la; cases la
          refine ⟨by rw [List.length_set]; exact n, a0, vs, rfl, l2, hst a0 _ ne0 t1, by rw [List.length_set, l1], fun m x2 u2 g1 g2 => ?_⟩
          by_cases hm : j = m
          · subst hm
            rw [List.getElem?_set_self (List.getElem?_eq_some_iff.mp ex).1] at g1
            cases g1
            rw [hu] at g2
            cases g2
            exact ow
          · rw [List.getElem?_set_ne hm] at g1
            refine Own.below (fun b q o lb pr eb => hst b o (fun z => ?_) eb) (r m x2 u2 g1 g2)
            subst z
            rw [la] at lb
            cases lb
            exact hm (pre_ne pr rfl).symm
    | dct t kvs =>
      obtain ⟨a0, vs, q, j, rfl, t1, l1, hq, hi, hu⟩ := c
      obtain ⟨n, a0', vs', e1, l2, t2, l3, r⟩ := o
      cases e1
      have ev := dictAt_inj t1 t2 (by rw [List.length_map]; exact l1) (by rw [List.length_map]; exact l3)
      subst ev
      have hk : kidOf t k kvs = some j := by unfold kidOf; rw [hq]; exact hi
      unfold modP at e
      rw [hk] at e
      simp only [Option.bind_some] at e
      cases ex : kvs[j]? with
      | none => rw [ex] at e; cases e
      | some kv =>
        rw [ex] at e
        simp only [Option.bind_some] at e
        unfold modP at e
        cases ef : f kv.2 with
        | none => rw [ef] at e; cases e
        | some w =>
          rw [ef] at e
          cases e
          refine ⟨kv.2, w, [] ++ [j], ef, r j kv u ex hu, fun a H2 hua la hst ow => ?_⟩
          have ne0 : a0 ≠ a := fun z => by subst z; rw [l2] at la; cases la
          have hkeys : (kvs.set j (kv.1, w)).map (·.1) = kvs.map (·.1) := by
            rw [List.map_set]
            refine List.ext_getElem? fun m => ?_
            by_cases hm : j = m
            · subst hm
              rw [List.getElem?_set_self (by rw [List.length_map]; exact (List.getElem?_eq_some_iff.mp ex).1), List.getElem?_map, ex] <;> rfl
            · rw [List.getElem?_set_ne hm]
          refine ⟨by rw [List.length_set]; exact n, a0, vs, rfl, l2, ?_, by rw [List.length_set, l1], fun m x2 u2 g1 g2 => ?_⟩
          · rw [hkeys]
            exact t1.ex fun o e => hst a0 o ne0 e
          · by_cases hm : j = m
            · subst hm
              rw [List.getElem?_set_self (List.getElem?_eq_some_iff.mp ex).1] at g1
              cases g1
              rw [hu] at g2
              cases g2
              exact ow
            · rw [List.getElem?_set_ne hm] at g1
              refine Own.below (fun b q o lb pr eb => hst b o (fun z => ?_) eb) (r m x2 u2 g1 g2)
              subst z
              rw [la] at lb
              cases lb
              exact hm (pre_ne pr rfl).symm
    | _ => exact c.elim
  | _ :: _ :: _, o, c, e => cases xv <;> exact c.elim
/-! ### dicts -/
theorem any_keys {κ : Type} [DecidableEq κ] (q : κ → DKey) (inj : ∀ a b, q a = q b → a = b) (k : κ) : ∀ (kvs : List (DKey × PV)) (qs : List κ) (vs : List V), kvs.map (·.1) = qs.map q → vs.length = kvs.length →
    ((qs.zip vs).any fun kv => decide (kv.1 = k)) = kvs.any fun kv => decide (kv.1 = q k)
  | [], qs, vs, e, l => by
    cases qs with
    | nil => rfl
    | cons => simp at e
  | (k', z) :: kvs, [], _, e, _ => by simp at e
  | (k', z) :: kvs, _ :: _, [], _, l => by simp at l
  | (k', z) :: kvs, a :: qs, v :: vs, e, l => by
    rw [List.map_cons, List.map_cons] at e
    injection e with e1 e2
    have e1 : k' = q a := e1
    subst e1
    rw [List.zip_cons_cons, List.any_cons, List.any_cons, any_keys q inj k kvs qs vs e2 (by simpa using l)]
    by_cases hk : a = k
    · subst hk; simp
    · have hq : ¬ q a = q k := fun z => hk (inj _ _ z)
      simp [hk, hq]
theorem map_keys {κ : Type} [DecidableEq κ] (q : κ → DKey) (inj : ∀ a b, q a = q b → a = b) (k : κ) (x : PV) (w : V) : ∀ (kvs : List (DKey × PV)) (qs : List κ) (vs : List V), kvs.map (·.1) = qs.map q → RepD K mg Hf kvs vs → Rep K mg Hf x w →
    ∃ us, (kvs.map fun kv => if kv.1 = q k then (q k, x) else kv).map (·.1) = qs.map q ∧ ((qs.zip vs).map fun kv => if kv.1 = k then (kv.1, w) else kv) = qs.zip us ∧ RepD K mg Hf (kvs.map fun kv => if kv.1 = q k then (q k, x) else kv) us
  | [], qs, vs, e, r, _ => by
    cases (show vs = [] from r)
    cases qs with
    | nil => exact ⟨[], rfl, rfl, rfl⟩
    | cons => simp at e
  | (k', z) :: kvs, [], _, e, _, _ => by simp at e
  | (k', z) :: kvs, a :: qs, vs, e, r, rx => by
    obtain ⟨v, us, rfl, r1, r2⟩ := r
    rw [List.map_cons, List.map_cons] at e
    injection e with e1 e2
    have e1 : k' = q a := e1
    subst e1
    obtain ⟨ws, h1, h2, h3⟩ := map_keys q inj k x w kvs qs us e2 r2 rx
    by_cases hk : a = k
    · subst hk
      refine ⟨w :: ws, ?_, ?_, ?_⟩
      · rw [List.map_cons, List.map_cons, if_pos rfl, h1] <;> rfl
      · rw [List.zip_cons_cons, List.map_cons, if_pos rfl, h2] <;> rfl
      · rw [List.map_cons, if_pos rfl]
        exact ⟨w, ws, rfl, rx, h3⟩
    · have hq : ¬ q a = q k := fun z => hk (inj _ _ z)
      refine ⟨v :: ws, ?_, ?_, ?_⟩
      · rw [List.map_cons, List.map_cons, if_neg hq, h1] <;> rfl
      · rw [List.zip_cons_cons, List.map_cons, if_neg hk, h2] <;> rfl
      · rw [List.map_cons, if_neg hq]
        exact ⟨v, ws, rfl, r1, h3⟩
theorem RepD.app : ∀ {xs ys : List (DKey × PV)} {vs us : List V}, RepD K mg H xs vs → RepD K mg H ys us → RepD K mg H (xs ++ ys) (vs ++ us)
  | [], _, _, _, h, h' => by cases (show _ = [] from h); exact h'
  | (k, x) :: xs, _, _, _, ⟨v, r, h1, h2, h3⟩, h' => by subst h1; exact ⟨v, _, rfl, h2, RepD.app h3 h'⟩
theorem zip_app {κ : Type} {qs : List κ} {vs : List V} {k : κ} {w : V} (l : qs.length = vs.length) : qs.zip vs ++ [(k, w)] = (qs ++ [k]).zip (vs ++ [w]) := by
  rw [List.zip_append l] <;> rfl
/-- a dict with one key more, or one value told anew -/
theorem dput_at {t : Bool} {kvs : List (DKey × PV)} {vs : List V} {a : Addr} {kx x : PV} {kv w : V} {q : DKey} (hd : DictAt H a t (kvs.map (·.1)) vs) (r : RepD K mg Hf kvs vs) (hk : keyIn t kx = some q) (rk : Rep K mg H kx kv) (rx : Rep K mg Hf x w) (hz : kvs.length < SZ) :
    ∃ o us, DPut H a kv w (upd H a o) ∧ DictAt (upd H a o) a t ((dput kvs q x).map (·.1)) us ∧ RepD K mg Hf (dput kvs q x) us := by
  have l := r.length
  cases t with
  | false =>
    obtain ⟨qs, h1, h2⟩ := hd
    have lq : qs.length = kvs.length := by have := congrArg List.length h1; rw [List.length_map, List.length_map] at this; omega
    obtain ⟨k, rfl, ek⟩ : ∃ k : L2.Key, q = .at_ k ∧ kv = kV k := by
      rcases keyIn_at hk with ⟨i, rfl, rfl⟩ | ⟨s, rfl, rfl⟩
      · cases (show kv = _ from rk); exact ⟨.inl i, rfl, rfl⟩
      · cases (show kv = _ from rk); exact ⟨.inr s, rfl, rfl⟩
    subst ek
    have hA := any_keys DKey.at_ (fun a b e => by injection e) k kvs qs vs h1 l
    by_cases hc : (kvs.any fun kv => decide (kv.1 = DKey.at_ k)) = true
    · obtain ⟨us, g1, g2, g3⟩ := map_keys (K := K) (mg := mg) (Hf := Hf) DKey.at_ (fun a b e => by injection e) k x w kvs qs vs h1 r rx
      refine ⟨_, us, DPut.k h2 (by rw [List.length_zip]; exact SZ_lt (by omega)), ?_, ?_⟩
      · refine ⟨qs, ?_, ?_⟩
        · unfold dput; rw [if_pos hc]; exact g1
        · rw [upd_same]
          unfold putK
          rw [if_pos (by rw [hA]; exact hc), g2]
      · unfold dput; rw [if_pos hc]; exact g3
    · refine ⟨_, vs ++ [w], DPut.k h2 (by rw [List.length_zip]; exact SZ_lt (by omega)), ?_, ?_⟩
      · refine ⟨qs ++ [k], ?_, ?_⟩
        · unfold dput; rw [if_neg hc, List.map_append, List.map_append, h1] <;> rfl
        · rw [upd_same]
          unfold putK
          rw [if_neg (by rw [hA]; exact hc), zip_app (by omega)]
      · unfold dput; rw [if_neg hc]
        exact r.app ⟨w, [], rfl, rx, rfl⟩
  | true =>
    obtain ⟨qs, h1, h2⟩ := hd
    have lq : qs.length = kvs.length := by have := congrArg List.length h1; rw [List.length_map, List.length_map] at this; omega
    obtain ⟨xs, ks, rfl, hks, rfl⟩ := keyIn_tup hk
    obtain ⟨_, b, us0, rfl, hb, r2⟩ := rk
    have e := keys_rep hks r2
    subst e
    have hA := any_keys DKey.tup (fun a b e => by injection e) ks kvs qs vs h1 l
    by_cases hc : (kvs.any fun kv => decide (kv.1 = DKey.tup ks)) = true
    · obtain ⟨us, g1, g2, g3⟩ := map_keys (K := K) (mg := mg) (Hf := Hf) DKey.tup (fun a b e => by injection e) ks x w kvs qs vs h1 r rx
      refine ⟨_, us, DPut.t h2 hb (by rw [List.length_zip]; exact SZ_lt (by omega)), ?_, ?_⟩
      · refine ⟨qs, ?_, ?_⟩
        · unfold dput; rw [if_pos hc]; exact g1
        · rw [upd_same]
          unfold putK
          rw [if_pos (by rw [hA]; exact hc), g2]
      · unfold dput; rw [if_pos hc]; exact g3
    · refine ⟨_, vs ++ [w], DPut.t h2 hb (by rw [List.length_zip]; exact SZ_lt (by omega)), ?_, ?_⟩
      · refine ⟨qs ++ [ks], ?_, ?_⟩
        · unfold dput; rw [if_neg hc, List.map_append, List.map_append, h1] <;> rfl
        · rw [upd_same]
          unfold putK
          rw [if_neg (by rw [hA]; exact hc), zip_app (by omega)]
      · unfold dput; rw [if_neg hc]
        exact r.app ⟨w, [], rfl, rx, rfl⟩
theorem dput_len {kvs : List (DKey × PV)} {q : DKey} {x : PV} : (dput kvs q x).length ≤ kvs.length + 1 := by
  unfold dput
  split
  · rw [List.length_map]; omega
  · rw [List.length_append, List.length_singleton]; omega
/-! ### a container's change -/
def tSet2 : TSet := fun o i v H Q => rSetL o i v H Q ∨ rSetD o i v H Q
theorem RepL.set {xs : List PV} {vs : List V} {j : Nat} {x : PV} {w : V} (r : RepL K mg H xs vs) (rx : Rep K mg H x w) : RepL K mg H (xs.set j x) (vs.set j w) := by
  have l := r.length
  refine RepL.of (by rw [List.length_set, List.length_set, l]) fun i y u e1 e2 => ?_
  by_cases hj : j = i
  · subst hj
    by_cases hl : j < xs.length
    · rw [List.getElem?_set_self hl] at e1
      rw [List.getElem?_set_self (by omega)] at e2
      cases e1; cases e2
      exact rx
    · rw [List.getElem?_eq_none (by simpa using hl)] at e1
      cases e1
  · rw [List.getElem?_set_ne hj] at e1 e2
    obtain ⟨u', h1, h2⟩ := r.get e1
    rw [e2] at h1
    cases h1
    exact h2
theorem put_op {p : List Nat} {y w kx x : PV} {u kv v : V} (sub : Ex Hf H) (o : Own K mg H Hf L 1 p y u) (rk : Rep K mg H kx kv) (rx : Rep K mg Hf x v) (e : putV x kx y = some w) :
    ∃ a ob, u = .ref a ∧ L a = some p ∧ Own K mg (upd H a ob) Hf L 1 p w u ∧ ∀ Q : Hp → Prop, Q (upd H a ob) → tSet2 u kv v H Q := by
  cases y <;> first | (simp only [putV] at e; cases e; done) | skip
  case lst xs =>
    obtain ⟨n, a, vs, rfl, l1, t1, l2, r⟩ := o
    simp only [putV] at e
    cases kx <;> first | (cases e; done) | skip
    rename_i i
    cases (show kv = _ from rk)
    cases hi : ixN xs.length i with
    | none => simp only [int?, Option.bind_some, hi] at e; cases e
    | some j =>
      simp only [int?, Option.bind_some, hi, Option.map_some] at e
      cases e
      have rr : RepL K mg Hf xs vs := RepL.of l2 fun i x u e1 e2 => r i x u e1 e2
      refine ⟨a, .lst (vs.set j v), rfl, l1, ⟨by rw [List.length_set]; exact n, a, _, rfl, l1, upd_same, by rw [List.length_set, List.length_set, l2], fun m x2 u2 g1 g2 => ?_⟩, fun Q q => .inl ⟨a, vs, i, j, rfl, rfl, t1, by rw [l2, ixN_eq]; exact hi, q⟩⟩
      obtain ⟨u', h1, h2⟩ := (rr.set (j := j) rx).get g1
      rw [g2] at h1
      cases h1
      exact h2
  case dct t kvs =>
    obtain ⟨n, a, vs, rfl, l1, t1, l2, r⟩ := o
    simp only [putV] at e
    cases hq : keyIn t kx with
    | none => rw [hq] at e; cases e
    | some q =>
      rw [hq] at e
      simp only [Option.bind_some] at e
      by_cases hz : kvs.length < SZ
      · rw [if_pos hz] at e
        cases e
        have rr : RepD K mg Hf kvs vs := RepD.of l2 fun i x u e1 e2 => r i x u e1 e2
        obtain ⟨ob, us, h1, h2, h3⟩ := dput_at t1 rr hq rk rx hz
        refine ⟨a, ob, rfl, l1, ⟨by have := dput_len (kvs := kvs) (q := q) (x := x); omega, a, us, rfl, l1, h2, h3.length, fun m x2 u2 g1 g2 => ?_⟩, fun Q q => .inr ⟨a, _, rfl, h1, q⟩⟩
        obtain ⟨u', e1, e2⟩ := h3.get g1
        rw [g2] at e1
        cases e1
        exact e2
      · rw [if_neg hz] at e
        cases e
theorem app_op {p : List Nat} {y w x : PV} {u v : V} (o : Own K mg H Hf L 1 p y u) (rx : Rep K mg Hf x v) (e : appV x y = some w) :
    ∃ a vs, u = .ref a ∧ L a = some p ∧ H a = some (.lst vs) ∧ vs.length < sizeLine ∧ Own K mg (upd H a (.lst (vs ++ [v]))) Hf L 1 p w u := by
  cases y <;> first | (simp only [appV] at e; cases e; done) | skip
  case lst xs =>
    obtain ⟨n, a, vs, rfl, l1, t1, l2, r⟩ := o
    simp only [appV] at e
    by_cases hz : xs.length < SZ
    · rw [if_pos hz] at e
      cases e
      have rr : RepL K mg Hf xs vs := RepL.of l2 fun i x u e1 e2 => r i x u e1 e2
      refine ⟨a, vs, rfl, l1, t1, by rw [l2]; exact SZ_lt hz, ⟨by rw [List.length_append, List.length_singleton]; omega, a, _, rfl, l1, upd_same, by simp [l2], fun m x2 u2 g1 g2 => ?_⟩⟩
      obtain ⟨u', h1, h2⟩ := (rr.app (RepL.one rx)).get g1
      rw [g2] at h1
      cases h1
      exact h2
    · rw [if_neg hz] at e
      cases e
end
theorem own_kind {K : PySem.W.Frag} {mg : Str → Option Value} {H Hf : Hp} {L : Lab} {p : List Nat} {w : PV} {a : Addr} {o : HO} {d : Nat} (h : Own K mg (upd H a o) Hf L (d + 1) p w (.ref a)) (hw : (∃ xs, w = .lst xs) ∨ ∃ t kvs, w = .dct t kvs) : isT o = false := by
  rcases hw with ⟨xs, rfl⟩ | ⟨t, kvs, rfl⟩
  · obtain ⟨_, b, vs, e1, _, h3, _⟩ := h
    cases e1
    rw [upd_same] at h3
    cases h3
    rfl
  · obtain ⟨_, b, vs, e1, _, h3, _⟩ := h
    cases e1
    cases t with
    | false =>
      obtain ⟨qs, _, h4⟩ := h3
      rw [upd_same] at h4
      cases h4
      rfl
    | true =>
      obtain ⟨qs, _, h4⟩ := h3
      rw [upd_same] at h4
      cases h4
      rfl
section
variable {K : PySem.W.Frag} {mg : Str → Option Value} {F : Frame} {env : Env} {c : PV} {σ : St} {H Hf : Hp} {O : Ow}
/-- a slot's object is changed -/
theorem Good.mut (g : Good K mg F env c σ H Hf O) {x d : Nat} {xv z : PV} {v0 : V} {a : Addr} {p : List Nat} {o : HO} (ex : env[x]? = some (some ⟨d, xv⟩)) (hx : σ[x]? = some (some v0)) (la : O a = some (some x, p)) (ho : isT o = false) (ow : Own K mg (upd H a o) Hf (lab O (some x)) d [] z v0) :
    Good K mg F (env.set x (some ⟨d, z⟩)) c σ (upd H a o) Hf O :=
  have hne : ∀ {r : Option Nat} {b : Addr} {q : List Nat}, r ≠ some x → lab O r b = some q → b ≠ a := fun hr l z => by
    subst z
    have := lab_of l
    rw [la] at this
    cases this
    exact hr rfl
  { g with
    len := by rw [List.length_set, g.len]
    slots := fun j s e => by
      by_cases q : x = j
      · subst q
        rw [List.getElem?_set_self (List.getElem?_eq_some_iff.mp ex).1] at e
        cases e
        exact ⟨v0, hx, ow⟩
      · rw [List.getElem?_set_ne q] at e
        obtain ⟨v, h1, h2⟩ := g.slots j s e
        exact ⟨v, h1, h2.stay (fun b q' o' l e => by rw [upd_ne (hne (fun z => q (Option.some.inj z).symm) l)]; exact e) (Ex.refl _)⟩
    cell := by
      rcases g.cell with z | ⟨k, v, h1, h2, h3⟩
      · exact .inl z
      · exact .inr ⟨k, v, h1, h2, h3.stay (fun b q' o' l e => by rw [upd_ne (hne (fun z => by cases z) l)]; exact e) (Ex.refl _)⟩
    sub := fun b o' e => by
      have : b ≠ a := fun z => by subst z; rw [(g.own _ _ la).1] at e; cases e
      rw [upd_ne this]
      exact g.sub b o' e
    own := fun b t e => by
      obtain ⟨h1, o', h2, h3⟩ := g.own b t e
      refine ⟨h1, ?_⟩
      by_cases z : b = a
      · subst z; exact ⟨_, upd_same, ho⟩
      · exact ⟨o', by rw [upd_ne z]; exact h2, h3⟩
    keep := fun b o' e n => by
      have : b ≠ a := fun z => by
        subst z
        rcases g.ownNew _ _ la with h | ⟨_, h⟩
        · rw [e] at h; cases h
        · cases h
      rw [upd_ne this]
      exact g.keep b o' e n }
/-- the cell's object is changed -/
theorem Good.mutc (g : Good K mg F env c σ H Hf O) {c' : PV} {a : Addr} {o : HO} {i : Nat} {v0 : V} {p : List Nat} (hi : F.cs = some i) (hx : σ[i]? = some (some v0)) (la : O a = some (none, p)) (ho : isT o = false) (ow : Own K mg (upd H a o) Hf (lab O none) 1 [] c' v0) :
    Good K mg F env c' σ (upd H a o) Hf O :=
  have hne : ∀ {r : Option Nat} {b : Addr} {q : List Nat}, r ≠ none → lab O r b = some q → b ≠ a := fun hr l z => by
    subst z
    have := lab_of l
    rw [la] at this
    cases this
    exact hr rfl
  { g with
    slots := fun j s e => by
      obtain ⟨v, h1, h2⟩ := g.slots j s e
      exact ⟨v, h1, h2.stay (fun b q' o' l e => by rw [upd_ne (hne (fun z => by cases z) l)]; exact e) (Ex.refl _)⟩
    cell := .inr ⟨i, v0, hi, hx, ow⟩
    sub := fun b o' e => by
      have : b ≠ a := fun z => by subst z; rw [(g.own _ _ la).1] at e; cases e
      rw [upd_ne this]
      exact g.sub b o' e
    own := fun b t e => by
      obtain ⟨h1, o', h2, h3⟩ := g.own b t e
      refine ⟨h1, ?_⟩
      by_cases z : b = a
      · subst z; exact ⟨_, upd_same, ho⟩
      · exact ⟨o', by rw [upd_ne z]; exact h2, h3⟩
    keep := fun b o' e n => by
      have : b ≠ a := fun z => by
        subst z
        rcases g.ownNew _ _ la with h | ⟨h, _⟩
        · rw [e] at h; cases h
        · exact n h
      rw [upd_ne this]
      exact g.keep b o' e n }
end
end PVL
end

section
set_option Elab.async false
set_option linter.all false
set_option maxRecDepth 100000
set_option maxHeartbeats 4000000
/-! PVL15: statements that change what is owned. -/
namespace PVL
open PySem L2
section
variable (K : PySem.W.Frag) (mg : Str → Option Value) (F : Frame) (W : WX) (call : CallF)
/-- a container's reading -/
def tCt (x : Nat) (ps : List E) : TE := fun σ H Q => ∃ env c Hf O d xv v0, Good K mg F env c σ H Hf O ∧ env[x]? = some (some ⟨d, xv⟩) ∧ σ[x]? = some (some v0) ∧
  Wn K mg F W (fun ks u H' _ => ChildAt H' xv v0 ks u) σ O H Hf (okR env x (evs call 0 ps env c)) Q
end
section
variable {X : Cx} {W : WX} {F : Frame} {retd : Nat} {call : CallF} {fr : List Str} {pos tpos : Pos} {tg ea eb ec : Expr} {st : Stmt} {sts sts2 : List Stmt} {a b d k : E} {s : S} {ss ss2 : List S} {as ps qs : List E} {i x : Nat} {y : Str} {n : Nat}
theorem ok_at {env : Env} {ks : List PV} {xv : PV} {d : Nat} (e : env[x]? = some (some ⟨d, xv⟩)) (h : okP env x ks = true) : d = ks.length + 1 ∧ validP ks xv = true := by
  unfold okP at h
  rw [e] at h
  simpa using h
theorem ct_nil (hN : X.N[x]? = some y) (hv : Vis X.env.scope y) (hd : (y == ("__debug__" : Str)) = false) (hcd : (y == ("__classdict__" : Str)) = false) : PE X (.Name y pos) (tCt X.K X.mg F W call x []) :=
  PE.imp (pe_var hN hv hd hcd) fun σ H Q ⟨env, c, Hf, O, d, xv, v0, g, ex, hx, h⟩ => by
    refine ⟨v0, hx, ?_⟩
    have h' : Wn X.K X.mg F W (fun ks u H' _ => ChildAt H' xv v0 ks u) σ O H Hf (if okP env x [] then Res.ok [] c else .stuck) Q := by
      unfold okR at h
      rw [ex] at h
      exact h
    by_cases q : okP env x [] = true
    · rw [if_pos q] at h'
      exact h' v0 H Hf (Step.refl g.sub) g.cell (by cases xv <;> rfl)
    · rw [if_neg q] at h'
      exact h'.elim
/-- the key's value, by the index of the key -/
theorem dkid_get {H : Hp} {t : Bool} {kvs : List (DKey × PV)} {vs : List V} {a : Addr} {kx : PV} {kv u : V} {q : DKey} {j : Nat} (hd : DictAt H a t (kvs.map (·.1)) vs) (l : vs.length = kvs.length) (hk : keyIn t kx = some q) (rk : Rep X.K X.mg H kx kv)
    (hj : (kvs.findIdx? fun kv => decide (kv.1 = q)) = some j) (hu : vs[j]? = some u) : DGet H a kv (some u) := by
  have key : ∀ {κ : Type} [DecidableEq κ] (f : κ → DKey) (inj : ∀ a b, f a = f b → a = b) (k : κ) (kvs : List (DKey × PV)) (qs : List κ) (vs : List V) (j : Nat), kvs.map (·.1) = qs.map f → vs.length = kvs.length →
      (kvs.findIdx? fun kv => decide (kv.1 = f k)) = some j → vs[j]? = some u → valV (qs.zip vs) k = some u := by
    intro κ _ f inj k kvs
    induction kvs with
    | nil => intro qs vs j _ _ e; cases e
    | cons kv kvs ih =>
      intro qs vs j e l hj hu
      cases qs with
      | nil => simp at e
      | cons a qs =>
        cases vs with
        | nil => simp at l
        | cons v vs =>
          rw [List.map_cons, List.map_cons] at e
          injection e with e1 e2
          rw [List.findIdx?_cons] at hj
          unfold valV
          rw [List.zip_cons_cons, List.find?_cons]
          by_cases hk : a = k
          · subst hk
            rw [e1] at hj
            simp only [decide_true, if_true] at hj
            cases hj
            simp only [decide_true]
            exact hu
          · have hq : ¬ f a = f k := fun z => hk (inj _ _ z)
            rw [e1] at hj
            simp only [hq, decide_false] at hj
            simp only [hk, decide_false]
            cases hj2 : kvs.findIdx? fun kv => decide (kv.1 = f k) with
            | none => rw [hj2] at hj; cases hj
            | some m =>
              rw [hj2] at hj
              simp at hj
              subst hj
              exact ih qs vs m e2 (by simpa using l) hj2 (by simpa using hu)
  cases t with
  | false =>
    obtain ⟨qs, h1, h2⟩ := hd
    rcases keyIn_at hk with ⟨i, rfl, rfl⟩ | ⟨s, rfl, rfl⟩
    · cases (show kv = _ from rk)
      rw [← key DKey.at_ (fun a b e => by injection e) (.inl i) kvs qs vs j h1 l hj hu]
      exact DGet.k (k := .inl i) h2
    · cases (show kv = _ from rk)
      rw [← key DKey.at_ (fun a b e => by injection e) (.inr s) kvs qs vs j h1 l hj hu]
      exact DGet.k (k := .inr s) h2
  | true =>
    obtain ⟨qs, h1, h2⟩ := hd
    obtain ⟨xs, ks, rfl, hks, rfl⟩ := keyIn_tup hk
    obtain ⟨_, b, us, rfl, hb, r2⟩ := rk
    have e := keys_rep hks r2
    subst e
    rw [← key DKey.tup (fun a b e => by injection e) ks kvs qs vs j h1 l hj hu]
    exact DGet.t h2 hb
theorem ct_one (hr : Room n X.A) (hsl : notSlice eb = true) (hN : X.N[x]? = some y) (hv : Vis X.env.scope y) (hd : (y == ("__debug__" : Str)) = false) (hcd : (y == ("__classdict__" : Str)) = false) (hb : PE X eb ((tM X.K X.mg F W call) b)) {p2 : Pos} :
    PE X (.Subscript (.Name y p2) eb pos) (tCt X.K X.mg F W call x [b]) :=
  PE.imp (pe_ix (ix_list.or (ix_dict (hu_of hr))) (pe_var hN hv hd hcd) hb (plainIx_of hsl)) fun σ H Q ⟨env, c, Hf, O, d, xv, v0, g, ex, hx, h⟩ => by
    refine ⟨v0, hx, env, c, Hf, O, g, ?_⟩
    have h' : Wn X.K X.mg F W (fun ks u H' _ => ChildAt H' xv v0 ks u) σ O H Hf ((lo 0 (em call b env c)).bind fun kv c => if okP env x [kv] then .ok [kv] c else .stuck) Q := by
      have e : okR env x (evs call 0 [b] env c) = (lo 0 (em call b env c)).bind fun kv c => if okP env x [kv] then .ok [kv] c else .stuck := by
        unfold okR
        rw [ex]
        show ((lo 0 (em call b env c)).bind fun x c => (Res.ok [] c).bind fun xs c => .ok (x :: xs) c).bind _ = _
        cases lo 0 (em call b env c) <;> rfl
      rw [← e]
      exact h
    clear h
    refine wn_lo h' fun kx c2 kv H2 Hf2 s2 k2 ⟨d2, hd2, l2⟩ h2 => ?_
    have e0 : d2 = 0 := by omega
    subst e0
    by_cases q : okP env x [kx] = true
    case neg => rw [if_neg q] at h2; exact h2.elim
    rw [if_pos q] at h2
    have g2 := g.step s2 k2
    obtain ⟨hd', hval⟩ := ok_at ex q
    subst hd'
    obtain ⟨v0', hx', ow⟩ := g2.slots x _ ex
    rw [hx] at hx'
    cases hx'
    have rk := Rep.ex g2.sub l2.rep0
    cases xv with
    | lst xs =>
      obtain ⟨nn, a0, vs, rfl, l1, t1, lv, r⟩ := ow
      simp only [validP] at hval
      cases hj : kidAt kx xs with
      | none => rw [hj] at hval; cases hval
      | some j =>
        obtain ⟨i, rfl⟩ : ∃ i, kx = .int i := by
          cases kx <;> first | exact ⟨_, rfl⟩ | cases hj
        have hi : ixN xs.length i = some j := hj
        have hjl : j < vs.length := by
          rw [lv]
          have := ixN_seq (n := xs.length) (i := i) (j := j) (by rw [ixN_eq]; exact hi)
          exact this.2.1
        cases (show kv = _ from rk)
        refine .inl ⟨a0, vs, i, vs[j], rfl, rfl, SqL.of t1, ?_, h2 _ H2 Hf2 (Step.refl s2.sub) k2 ⟨a0, vs, i, j, rfl, t1, lv, rfl, hi, List.getElem?_eq_getElem hjl⟩⟩
        unfold L2.atI
        rw [lv, ixN_eq, hi]
        exact List.getElem?_eq_getElem hjl
    | dct t kvs =>
      obtain ⟨nn, a0, vs, rfl, l1, t1, lv, r⟩ := ow
      simp only [validP] at hval
      cases hj : kidOf t kx kvs with
      | none => rw [hj] at hval; cases hval
      | some j =>
        unfold kidOf at hj
        cases hq : keyIn t kx with
        | none => rw [hq] at hj; cases hj
        | some q =>
          rw [hq] at hj
          simp only [Option.bind_some] at hj
          have hjl : j < vs.length := by
            rw [lv]
            exact (List.findIdx?_eq_some_iff_getElem.mp hj).1
          exact .inr ⟨a0, vs[j], rfl, dkid_get t1 lv hq rk hj (List.getElem?_eq_getElem hjl), h2 _ H2 Hf2 (Step.refl s2.sub) k2 ⟨a0, vs, q, j, rfl, t1, lv, hq, hj, List.getElem?_eq_getElem hjl⟩⟩
    | _ => cases hval
section
variable {K : PySem.W.Frag} {mg : Str → Option Value} {F : Frame} {W : WX} {retd : Nat} {env : Env} {c : PV} {σ : St} {H Hf : Hp} {O : Ow} {D : Ends} {o : Out}
/-- an expression that may be owned, within a statement -/
theorem wns_lo {n : Nat} {r : Res (Nat × PV)} {f : PV → PV → Out} {Q : V → Hp → Prop} (g : Good K mg F env c σ H Hf O) (h : WnS K mg F W retd Hf D ((lo n r).out f))
    (k : ∀ x c v H' Hf', Step O H Hf H' Hf' → Good K mg F env c σ H' Hf' O → pL K mg O n x v H' Hf' → WnS K mg F W retd Hf' D (f x c) → Q v H') : Wn K mg F W (pM K mg O) σ O H Hf r Q := by
  cases r with
  | ok p c' =>
    obtain ⟨d, x⟩ := p
    intro v H' Hf' s ck l
    by_cases hd : d ≤ n
    · rw [lo_ok, if_pos hd] at h
      exact k x c' v H' Hf' s (g.step s ck) ⟨d, hd, l⟩ (WnS.after h s.f)
    · rw [lo_ok, if_neg hd] at h
      exact h.elim
  | exc e c' => exact fun cls d H' Hf' s ck er => h cls d σ H' Hf' (g.step s ck).leave er
  | stuck => exact h
theorem ChildAt.step {H' Hf' : Hp} (g : Good K mg F env c σ H Hf O) (s : Step O H Hf H' Hf') {d : Nat} {xv : PV} {v0 u : V} {ks : List PV} (ow : Own K mg H Hf (lab O (some x)) (d + 1) [] xv v0) (h : ChildAt H xv v0 ks u) : ChildAt H' xv v0 ks u := by
  match ks, xv, h, ow with
  | [], xv, h, ow => cases (show u = v0 from h); cases xv <;> rfl
  | [k], .lst xs, h, ow =>
    obtain ⟨a, vs, i, j, rfl, t1, h3⟩ := h
    obtain ⟨n, a', vs', e1, l1, t2, r⟩ := ow
    cases e1
    exact ⟨a, vs, i, j, rfl, s.h _ _ t1 (fun p z => by have := (lab_of l1).symm.trans z; cases this), h3⟩
  | [k], .dct t kvs, h, ow =>
    obtain ⟨a, vs, q, j, rfl, t1, h3⟩ := h
    obtain ⟨n, a', vs', e1, l1, t2, r⟩ := ow
    cases e1
    exact ⟨a, vs, q, j, rfl, t1.ex fun o e => s.h _ _ e (fun p z => by have := (lab_of l1).symm.trans z; cases this), h3⟩
  | [_], .non, h, _ => exact h.elim
  | [_], .bl _, h, _ => exact h.elim
  | [_], .int _, h, _ => exact h.elim
  | [_], .str _, h, _ => exact h.elim
  | [_], .tup _, h, _ => exact h.elim
  | [_], .fn _, h, _ => exact h.elim
  | [_], .scr _, h, _ => exact h.elim
  | _ :: _ :: _, xv, h, _ => exact (by cases xv <;> exact h.elim)
theorem modS_inv {env1 : Env} {ks : List PV} {f : PV → Option PV} {d : Nat} {xv : PV} (ex : env[x]? = some (some ⟨d, xv⟩)) (h : modS env x ks f = some env1) : d = ks.length + 1 ∧ ∃ z, modP f ks xv = some z ∧ env1 = env.set x (some ⟨ks.length + 1, z⟩) := by
  unfold modS at h
  rw [ex] at h
  simp only [] at h
  by_cases hd : d = ks.length + 1
  · rw [if_pos hd] at h
    cases e : modP f ks xv with
    | none => rw [e] at h; cases h
    | some z =>
      rw [e] at h
      cases h
      exact ⟨hd, z, rfl, by rw [hd]⟩
  · rw [if_neg hd] at h
    cases h
/-- the end of a change -/
theorem mut_end {ks : List PV} {f : PV → Option PV} {d : Nat} {xv : PV} {v0 u : V} {Q : Prop} (g : Good K mg F env c σ H Hf O) (ex : env[x]? = some (some ⟨d, xv⟩)) (hx : σ[x]? = some (some v0)) (ch : ChildAt H xv v0 ks u) (h : WnS K mg F W retd Hf D (.of (modS env x ks f) c))
    (k : ∀ (yv w : PV) (p : List Nat), f yv = some w → Own K mg H Hf (lab O (some x)) 1 p yv u → (∀ a o, u = .ref a → lab O (some x) a = some p → isT o = false → Own K mg (upd H a o) Hf (lab O (some x)) 1 p w u → D.nx σ (upd H a o)) → Q) : Q := by
  cases e : modS env x ks f with
  | none => rw [e] at h; exact h.elim
  | some env1 =>
    rw [e] at h
    obtain ⟨hd, z, hz, rfl⟩ := modS_inv ex e
    subst hd
    obtain ⟨v0', hx', ow⟩ := g.slots x _ ex
    rw [hx] at hx'
    cases hx'
    obtain ⟨yv, w, p, h1, h2, h3⟩ := focus ow ch hz
    refine k yv w p h1 h2 fun a o ea la ho ow2 => h σ _ Hf O (Ex.refl _) (g.mut ex hx (lab_of la) ho (h3 a _ ea la (fun b o' hb e => by rw [upd_ne hb]; exact e) ow2))
end
theorem env_at {env : Env} {ps : List PV} {D : Ends} {Hf : Hp} {f : List PV → PV → Out} {r : Res (List PV)} (h : WnS X.K X.mg F W retd Hf D ((okR env x r).out f)) : ∃ d xv, env[x]? = some (some ⟨d, xv⟩) := by
  unfold okR at h
  cases q : env[x]? with
  | none => rw [q] at h; exact h.elim
  | some o =>
    cases o with
    | none => rw [q] at h; exact h.elim
    | some s => exact ⟨s.d, s.v, rfl⟩
theorem okR_ok {env : Env} {r : Res (List PV)} {ks : List PV} {c : PV} (h : okR env x r = .ok ks c) : okP env x ks = true := by
  unfold okR at h
  split at h
  · cases r with
    | ok ls c1 =>
      simp only [bind_ok] at h
      split at h
      · cases h; assumption
      · cases h
    | exc e c1 => cases h
    | stuck => cases h
  · cases h
theorem putV_kind {v k y w : PV} (h : putV v k y = some w) : (∃ xs, w = .lst xs) ∨ ∃ t kvs, w = .dct t kvs := by
  cases y <;> first | (simp only [putV] at h; cases h; done) | skip
  case lst xs =>
    simp only [putV] at h
    cases e : int? k with
    | none => rw [e] at h; cases h
    | some i =>
      rw [e] at h
      simp only [Option.bind_some] at h
      cases e2 : ixN xs.length i with
      | none => rw [e2] at h; cases h
      | some j => rw [e2] at h; cases h; exact .inl ⟨_, rfl⟩
  case dct t kvs =>
    simp only [putV] at h
    cases e : keyIn t k with
    | none => rw [e] at h; cases h
    | some q =>
      rw [e] at h
      simp only [Option.bind_some] at h
      split at h
      · cases h; exact .inr ⟨_, _, rfl⟩
      · cases h
/-- x[..][k] = e -/
theorem put_imp {D : Ends} {σ : St} {H Hf : Hp} {env : Env} {c : PV} {O : Ow} {vv : V} {v : PV} (g : Good X.K X.mg F env c σ H Hf O) (rv : Rep X.K X.mg Hf v vv)
    (h : WnS X.K X.mg F W retd Hf D ((okR env x (evs call 0 ps env c)).out fun ks c => (ev call k env c).out fun kv c => .of (modS env x ks (putV v kv)) c)) : gSub (tCt X.K X.mg F W call x ps) ((tM X.K X.mg F W call) k) tSet2 vv σ H D.nx := by
  obtain ⟨d, xv, ex⟩ := env_at (ps := []) h
  obtain ⟨v0, hx, ow⟩ := g.slots x _ ex
  refine ⟨env, c, Hf, O, d, xv, v0, g, ex, hx, wns_out g h fun ks c1 u H1 Hf1 eo s1 g1 ch h1 => ?_⟩
  obtain ⟨hd, _⟩ := ok_at ex (okR_ok eo)
  subst hd
  refine ⟨env, c1, Hf1, O, g1, wns_lo (n := 0) g1 h1 fun kv c2 i H2 Hf2 s2 g2 ⟨d2, hd2, l2⟩ h2 => ?_⟩
  have e0 : d2 = 0 := by omega
  subst e0
  obtain ⟨v0', hx', ow1⟩ := g1.slots x _ ex
  rw [hx] at hx'
  cases hx'
  have ch2 := ChildAt.step g1 s2 ow1 ch
  refine mut_end g2 ex hx ch2 h2 fun yv w p h3 h4 h5 => ?_
  obtain ⟨a, ob, rfl, la, ow2, kk⟩ := put_op g2.sub h4 (Rep.ex g2.sub l2.rep0) (Rep.ex (s1.f.trans s2.f) rv) h3
  exact kk _ (h5 a ob rfl la (own_kind ow2 (putV_kind h3)) ow2)
theorem r_put (hp : PS X st (tAsg ((tV X.K X.mg F W call) 0 a) (gSub (tCt X.K X.mg F W call x ps) ((tM X.K X.mg F W call) k) tSet2))) : PS X st ((tS X.K X.mg F W retd call fr) (.put x ps k a)) :=
  PS.imp hp fun D σ H ⟨env, c, Hf, O, g, h⟩ => ⟨env, c, Hf, O, g, wns_out g h fun v c1 vv H1 Hf1 _ s1 g1 f1 h1 => put_imp g1 f1.rep0 h1⟩
theorem lstV_some {yv w : PV} (h : lstV yv = some w) : ∃ zs, yv = .lst zs := by
  cases yv <;> first | exact ⟨_, rfl⟩ | cases h
/-- x[..].append(e) -/
theorem r_app (hp : PS X st (tDrop (tBM X.K "list" rAppend (tCt X.K X.mg F W call x ps) (tCons ((tM X.K X.mg F W call) a) tNil)))) : PS X st ((tS X.K X.mg F W retd call fr) (.app x ps a)) :=
  PS.imp hp fun D σ H ⟨env, c, Hf, O, g, h0⟩ => by
    have h : WnS X.K X.mg F W retd Hf D ((okR env x (evs call 0 ps env c)).out fun ks c => if (modS env x ks lstV).isSome then (ev call a env c).out fun v c => .of (modS env x ks (appV v)) c else .stuck) := by
      have e : (okR env x (evs call 0 ps env c)).out (fun ks c => if (modS env x ks lstV).isSome then (ev call a env c).out fun v c => Out.of (modS env x ks (appV v)) c else Out.stuck) = evS call fr (.app x ps a) env c := by
        conv => rhs; unfold evS okA
        cases okR env x (evs call 0 ps env c) with
        | ok ks c1 =>
          simp only [out_ok, bind_ok]
          split <;> rfl
        | exc e c1 => rfl
        | stuck => rfl
      rw [e]
      exact h0
    clear h0
    obtain ⟨d, xv, ex⟩ := env_at (ps := []) h
    obtain ⟨v0, hx, ow⟩ := g.slots x _ ex
    refine ⟨env, c, Hf, O, d, xv, v0, g, ex, hx, wns_out g h fun ks c1 u H1 Hf1 eo s1 g1 ch h1 => ?_⟩
    obtain ⟨hd, hval⟩ := ok_at ex (okR_ok eo)
    subst hd
    obtain ⟨v0', hx', ow1⟩ := g1.slots x _ ex
    rw [hx] at hx'
    cases hx'
    cases em0 : modS env x ks lstV with
    | none => rw [em0] at h1; exact h1.elim
    | some env2 =>
    rw [em0] at h1
    simp only [Option.isSome_some, if_true] at h1
    refine ⟨?_, env, c1, Hf1, O, g1, wns_lo (n := 0) g1 h1 fun v c2 vv H2 Hf2 s2 g2 ⟨d2, hd2, l2⟩ h2 => ?_⟩
    · obtain ⟨_, z, hz, _⟩ := modS_inv ex em0
      obtain ⟨yv, w, p, h3, h4, _⟩ := focus ow1 ch hz
      obtain ⟨zs, rfl⟩ := lstV_some h3
      obtain ⟨n, a, vs, rfl, l1, t1, l2, r⟩ := h4
      exact .inl ⟨rfl, vs, SqL.of t1⟩
    · have e0 : d2 = 0 := by omega
      subst e0
      refine mut_end g2 ex hx (ChildAt.step g1 s2 ow1 ch) h2 fun yv w p h3 h4 h5 => ?_
      obtain ⟨b, vs, rfl, la, t1, hz, ow2⟩ := app_op h4 l2.rep0 h3
      exact ⟨b, vs, vv, rfl, rfl, t1, hz, h5 b _ rfl la rfl ow2⟩
/-- cup[k] = e -/
theorem r_cput {k : Int} (hi : F.cs = some i) (hp : PS X st (tAsg ((tV X.K X.mg F W call) 0 a) (gSub (tVar i) (tC (.int k)) tSet2))) : PS X st ((tS X.K X.mg F W retd call fr) (.cput k a)) :=
  PS.imp hp fun D σ H ⟨env, c, Hf, O, g, h⟩ => ⟨env, c, Hf, O, g, wns_out g h fun v c1 vv H1 Hf1 _ s1 g1 f1 h1 => by
    cases e : putV v (.int k) c1 with
    | none => rw [e] at h1; exact h1.elim
    | some c2 =>
      rw [e] at h1
      rcases g1.cell with z | ⟨j, v0, h3, h4, h5⟩
      · subst z; cases e
      · rw [hi] at h3
        cases h3
        obtain ⟨a, ob, rfl, la, ow2, kk⟩ := put_op g1.sub h5 (show Rep X.K X.mg H1 (.int k) (.int k) from rfl) f1.rep0 e
        exact ⟨_, h4, kk _ (h1 σ _ Hf1 O (Ex.refl _) (g1.mutc hi h4 (lab_of la) (own_kind ow2 (putV_kind e)) ow2))⟩⟩
theorem extV_some {y x w : PV} (h : extV y x = some w) : ∃ xs ys, x = .lst xs ∧ y = .lst ys ∧ xs.length + ys.length ≤ SZ ∧ w = .lst (xs ++ ys) := by
  cases x <;> first | (cases h; done) | skip
  cases y <;> first | (cases h; done) | skip
  simp only [extV] at h
  split at h
  · cases h; exact ⟨_, _, rfl, rfl, by assumption, rfl⟩
  · cases h
/-- x += a list, x owned -/
theorem r_ext (hp : PS X st (tAug x ((tM X.K X.mg F W call) a) rExt2)) : PS X st ((tS X.K X.mg F W retd call fr) (.ext x a)) :=
  PS.imp hp fun D σ H ⟨env, c, Hf, O, g, h⟩ => by
    have h' : ∃ d xv, env[x]? = some (some ⟨d, xv⟩) ∧ WnS X.K X.mg F W retd Hf D ((lo 1 (em call a env c)).out fun y c => .of (modS env x [] (extV y)) c) := by
      unfold evS at h
      cases q : env[x]? with
      | none => rw [q] at h; exact h.elim
      | some o =>
        cases o with
        | none => rw [q] at h; exact h.elim
        | some s => rw [q] at h; exact ⟨s.d, s.v, rfl, h⟩
    clear h
    obtain ⟨d, xv, ex, h⟩ := h'
    obtain ⟨v0, hx, ow⟩ := g.slots x _ ex
    refine ⟨v0, hx, env, c, Hf, O, g, wns_lo (n := 1) g h fun y c1 u H1 Hf1 s1 g1 ⟨d1, hd1, l1⟩ h1 => ?_⟩
    refine mut_end (ks := []) g1 ex hx (by cases xv <;> rfl) h1 fun yv w p h3 h4 h5 => ?_
    obtain ⟨xs, ys, rfl, rfl, hz, rfl⟩ := extV_some h3
    obtain ⟨n, a, vs, rfl, la, t1, l2, r⟩ := h4
    obtain ⟨n2, b, us, rfl, t2, r2⟩ := l1.lst g1.sub hd1
    have lu := r2.length
    have rr : RepL X.K X.mg Hf1 xs vs := RepL.of l2 fun i x u e1 e2 => r i x u e1 e2
    have Ls : (σ.set x (some (V.ref a))) = σ := by
      refine List.ext_getElem? fun j => ?_
      by_cases hj : x = j
      · subst hj
        rw [List.getElem?_set_self (List.getElem?_eq_some_iff.mp hx).1, hx]
      · rw [List.getElem?_set_ne hj]
    refine ⟨a, b, vs, us, rfl, rfl, t1, t2, SZ_le (by omega), ?_⟩
    show D.nx (σ.set x (some (V.ref a))) _
    rw [Ls]
    refine h5 a _ rfl la rfl ⟨by rw [List.length_append]; exact hz, a, _, rfl, la, upd_same, by simp [l2, lu], fun m x2 u2 g1 g2 => ?_⟩
    obtain ⟨u', e1, e2⟩ := (rr.app r2).get g1
    rw [g2] at e1
    cases e1
    exact e2
/-! ### x op= e, frozen values -/
theorem no_tuple_iadd : typeLookup (.type "tuple") (dunderI "add") = pure none := by rw [typeLookup_type, builtinLookup_eq_fast]; kernel_rfl
theorem icat_tup0 {prog : Program} {w : World} {A : Around} {E : Value → Shared → Prop} {s : Shared} {t b : Addr} {ws : List Value} {Q : Value → Shared → Prop} (ht : PyProof.Rows.IsTup s.heap t ([] : List Value).toArray) (hb : PyProof.Rows.IsTup s.heap b ws.toArray) (h : Q (.ref b) s) : wpAny (model prog w) A (inplaceOp .Add (.ref t) (.ref b)) Q E s := by
  obtain ⟨⟨cls, dd, data, sl⟩, ho, hc, n, hd⟩ := id ht
  obtain ⟨⟨cls2, dd2, data2, sl2⟩, ho2, hc2, n2, hd2⟩ := id hb
  simp only at hc hd hc2 hd2
  subst hc hd hc2 hd2
  exact wpAny_inplaceOp_concat ⟨_, ho, rfl⟩ ⟨_, ho2, rfl⟩ no_tuple_iadd noFill_tuple_add seq_tuple_add (call_meets PySem.F.slot_tuple_add ⟨_, ho, rfl⟩ PySem.F.entry_tuple_add (PySem.F.args_tuple_add_2 _ _)
    (PyProof.Rows.tuple_addW0 t b ([] : List Value).toArray ws.toArray n n2 dd dd2 sl sl2 (by simp)) ⟨ho, ho2, h⟩)
theorem icat_tup {prog : Program} {w : World} {A : Around} {E : Value → Shared → Prop} {s : Shared} {t b : Addr} {vs ws : List Value} {Q : Value → Shared → Prop} (ht : PyProof.Rows.IsTup s.heap t vs.toArray) (hb : PyProof.Rows.IsTup s.heap b ws.toArray) (hv : vs ≠ [])
    (h1 : ws = [] → Q (.ref t) s) (h2 : ws ≠ [] → Q (.ref s.heap.objs.size) { s with heap := s.heap.push { cls := .type "tuple", data := .seq (vs ++ ws).toArray } })
    (hsz : vs.length + ws.length ≤ sizeLine) : wpAny (model prog w) A (inplaceOp .Add (.ref t) (.ref b)) Q E s := by
  obtain ⟨⟨cls, dd, data, sl⟩, ho, hc, n, hd⟩ := id ht
  obtain ⟨⟨cls2, dd2, data2, sl2⟩, ho2, hc2, n2, hd2⟩ := id hb
  simp only at hc hd hc2 hd2
  subst hc hd hc2 hd2
  have e : vs.toArray ++ ws.toArray = (vs ++ ws).toArray := by simp
  by_cases hw : ws = []
  · exact wpAny_inplaceOp_concat ⟨_, ho, rfl⟩ ⟨_, ho2, rfl⟩ no_tuple_iadd noFill_tuple_add seq_tuple_add (call_meets PySem.F.slot_tuple_add ⟨_, ho, rfl⟩ PySem.F.entry_tuple_add (PySem.F.args_tuple_add_2 _ _)
      (PyProof.Rows.tuple_addW1 t b vs.toArray ws.toArray n n2 dd dd2 sl sl2 (by simpa using hv) (by simp [hw])) ⟨ho, ho2, h1 hw⟩)
  · refine wpAny_inplaceOp_concat ⟨_, ho, rfl⟩ ⟨_, ho2, rfl⟩ no_tuple_iadd noFill_tuple_add seq_tuple_add (call_meets PySem.F.slot_tuple_add ⟨_, ho, rfl⟩ PySem.F.entry_tuple_add (PySem.F.args_tuple_add_2 _ _)
      (PyProof.Rows.tuple_addW2 t b vs.toArray ws.toArray n n2 dd dd2 sl sl2 (by simpa using hv) (by simpa using hw) (by rw [List.size_toArray, List.size_toArray]; exact hsz)) ⟨ho, ho2, ?_⟩)
    rw [e]
    exact h2 hw
theorem iop_catA : OpR X (inplaceOp .Add) (rCatA X.K) := by
  intro pins s σ H x y v u Q I rx ry h
  obtain ⟨a, b, xs, ys, rfl, rfl, ha, hb, hz, q0, q1, q2⟩ := h
  cases rx
  cases ry
  obtain ⟨its, r1, p1, _⟩ := I.tuple ha
  obtain ⟨its2, r2, p2, _⟩ := I.tuple hb
  by_cases hx : xs = []
  · subst hx
    cases r1
    exact icat_tup0 p1 p2 ⟨.ref b, H, I, rfl, q0 rfl⟩
  · refine icat_tup p1 p2 (fun z => hx (r1.nil_iff.mp z)) (fun z => ⟨.ref a, H, I, rfl, q1 hx (r2.nil_iff.mp z)⟩) (fun z => ?_) (by rw [← r1.length, ← r2.length]; exact hz)
    refine ⟨.ref s.heap.objs.size, _, I.laid (t' := s.toks) (o := .tup (xs ++ ys)) (fun b ob q => Heap.get?_push_of_some _ q) (Nat.le_refl _) ?_, rfl, q2 hx (fun w => z (r2.nil_iff.mpr w)) _ (I.hok.fresh (Nat.le_refl _))⟩
    exact ⟨by rw [List.length_append]; exact hz, _, r1.append r2, _, Heap.get?_push_size _ rfl, rfl, _, rfl⟩
/-- the rule of x += y for what is no list -/
def rAddF (K : PySem.W.Frag) : R2 := fun x y H Q => (rI0 fun i j => .int (i + j)) x y H Q ∨ rCatA K x y H Q ∨ ∃ i j, x = .str i ∧ y = .str j ∧ i.length + j.length ≤ sizeLine ∧ Q (.str (i ++ j)) H
theorem iop_addF : OpR X (inplaceOp .Add) (rAddF X.K) := iop_add.or (iop_catA.or iop_add_str)
theorem aug_end {D : Ends} {σ : St} {H Hf : Hp} {env : Env} {c : PV} {O : Ow} {x : Nat} {z : PV} (g : Good X.K X.mg F env c σ H Hf O) (hi : F.cs ≠ some x) (h : WnS X.K X.mg F W retd Hf D (.nx (env.set x (some ⟨0, z⟩)) c)) :
    ∀ v H' Hf', Step O H Hf H' Hf' → CellOk X.K X.mg F σ H' Hf' O c → Rep X.K X.mg Hf' z v → D.nx (σ.set x (some v)) H' := fun v H' Hf' s ck r => h _ H' Hf' O s.f ((g.step s ck).set0 r hi)
theorem aug_open {D : Ends} {σ : St} {H Hf : Hp} {env : Env} {c : PV} {O : Ow} {o : Op2} (g : Good X.K X.mg F env c σ H Hf O) (hi : F.cs ≠ some x) {r : R2} (h : WnS X.K X.mg F W retd Hf D (evS call fr (.aug x o a) env c))
    (k : ∀ (O : Ow) (H Hf : Hp) (xv yv z c : PV) (v u : V), Ex Hf H → CellOk X.K X.mg F σ H Hf O c → (∀ xs, xv ≠ .lst xs) → op2 o xv yv = some z → Lent X.K X.mg O H Hf 0 xv v → Lent X.K X.mg O H Hf 0 yv u →
      (∀ v H' Hf', Step O H Hf H' Hf' → CellOk X.K X.mg F σ H' Hf' O c → Rep X.K X.mg Hf' z v → D.nx (σ.set x (some v)) H') → r v u H fun z H2 => D.nx (σ.set x (some z)) H2) : tAug x ((tM X.K X.mg F W call) a) r D σ H := by
  have h' : WnS X.K X.mg F W retd Hf D ((ev call (.var x) env c).out fun p c => (ev call a env c).out fun b c => match p, op2 o p b with
      | .lst _, _ => .stuck
      | _, some r => .nx (env.set x (some ⟨0, r⟩)) c
      | _, none => .stuck) := h
  clear h
  cases q : env[x]? with
  | none => have e : ev call (.var x) env c = .stuck := by unfold ev em; rw [q] <;> rfl
            rw [e] at h'; exact h'.elim
  | some o' =>
  cases o' with
  | none => have e : ev call (.var x) env c = .stuck := by unfold ev em; rw [q] <;> rfl
            rw [e] at h'; exact h'.elim
  | some s =>
  obtain ⟨d, xv⟩ := s
  by_cases hd : d = 0
  case neg =>
    have e : ev call (.var x) env c = .stuck := by unfold ev em; rw [q]; show lo 0 (.ok (d, xv) c) = _; rw [lo_ok, if_neg (by omega)]
    rw [e] at h'; exact h'.elim
  subst hd
  have e : ev call (.var x) env c = .ok xv c := by unfold ev em; rw [q] <;> rfl
  rw [e] at h'
  simp only [out_ok] at h'
  obtain ⟨v0, hx, ow⟩ := g.slots x _ q
  refine ⟨v0, hx, env, c, Hf, O, g, wns_lo (n := 0) g h' fun yv c1 u H1 Hf1 s1 g1 ⟨d2, hd2, l2⟩ h1 => ?_⟩
  have e0 : d2 = 0 := by omega
  subst e0
  cases ez : op2 o xv yv with
  | none => rw [ez] at h1; cases xv <;> exact h1.elim
  | some z =>
    rw [ez] at h1
    have hl : ∀ xs, xv ≠ .lst xs := fun xs e => by subst e; exact h1.elim
    have h2 : WnS X.K X.mg F W retd Hf1 D (.nx (env.set x (some ⟨0, z⟩)) c1) := by
      cases xv <;> first | exact h1 | exact absurd rfl (hl _)
    have lx : Lent X.K X.mg O H1 Hf1 0 xv v0 := Lent.zero (Rep.ex s1.f ow)
    exact k O H1 Hf1 xv yv z c1 v0 u g1.sub g1.cell hl ez lx l2 (aug_end g1 hi h2)
theorem r_augAdd (hi : F.cs ≠ some x) (hp : PS X st (tAug x ((tM X.K X.mg F W call) a) (rAddF X.K))) : PS X st ((tS X.K X.mg F W retd call fr) (.aug x .add a)) :=
  PS.imp hp fun D σ H ⟨env, c, Hf, O, g, h⟩ => aug_open g hi h fun O H1 Hf xv yv z c v u sub ck hl ez lx ly hq => by
    cases xv <;> cases yv <;> first | (simp only [op2] at ez; cases ez; done) | skip
    case int.int i j =>
      cases ez
      cases lx.flat (by simp)
      cases ly.flat (by simp)
      exact .inl ⟨i, j, rfl, rfl, hq _ H1 Hf (Step.refl sub) ck rfl⟩
    case str.str i j =>
      simp only [op2] at ez
      split at ez
      · rename_i hz
        cases ez
        cases lx.flat (by simp)
        cases ly.flat (by simp)
        exact .inr (.inr ⟨i, j, rfl, rfl, SZ_le hz, hq _ H1 Hf (Step.refl sub) ck rfl⟩)
      · cases ez
    case tup.tup xs ys =>
      simp only [op2] at ez
      split at ez
      · rename_i hz
        cases ez
        obtain ⟨n1, p1, vs, rfl, t1, r1⟩ := lx.tup sub
        obtain ⟨n2, p2, us, rfl, t2, r2⟩ := ly.tup sub
        have l1 := r1.length
        have l2 := r2.length
        refine .inr (.inl ⟨p1, p2, vs, us, rfl, rfl, SqT.of t1, SqT.of t2, SZ_le (by omega), fun e => ?_, fun _ e => ?_, fun _ _ p hp => ?_⟩)
        · subst e
          have : xs = [] := by simpa using l1.symm
          subst this
          exact hq _ H1 Hf (Step.refl sub) ck (ly.flat (by simp))
        · subst e
          have : ys = [] := by simpa using l2.symm
          subst this
          refine hq _ H1 Hf (Step.refl sub) ck ?_
          rw [List.append_nil]
          exact lx.flat (by simp)
        · have ex := Ex.upd (o := .tup (vs ++ us)) (sub.free hp)
          exact hq _ _ (upd Hf p _) (Step.lay sub hp) (ck.lay hp (sub.free hp)) ⟨by simpa using hz, p, _, rfl, upd_same, (r1.ex ex).app (r2.ex ex)⟩
      · cases ez
    case lst.lst xs ys => exact absurd rfl (hl xs)
theorem r_augI {o : Op2} {Cd : Int → Int → Prop} {f : Int → Int → Int} (hi : F.cs ≠ some x) (he : ∀ x y z, op2 o x y = some z → (∀ xs, x ≠ .lst xs) → ∃ i j, x = .int i ∧ y = .int j ∧ Cd i j ∧ z = .int (f i j)) (hp : PS X st (tAug x ((tM X.K X.mg F W call) a) (rI Cd fun i j => .int (f i j)))) : PS X st ((tS X.K X.mg F W retd call fr) (.aug x o a)) :=
  PS.imp hp fun D σ H ⟨env, c, Hf, O, g, h⟩ => aug_open g hi h fun O H1 Hf xv yv z c v u sub ck hl ez lx ly hq => by
    obtain ⟨i, j, rfl, rfl, hc, rfl⟩ := he _ _ _ ez hl
    cases lx.flat (by simp)
    cases ly.flat (by simp)
    exact ⟨i, j, rfl, rfl, hc, hq _ H1 Hf (Step.refl sub) ck rfl⟩
/-! ### a, b = x, y -/
theorem setAll2 {env env1 : Env} {i j : Nat} {xs : List PV} (h : setAll env [i, j] xs = some env1) : ∃ x y, xs = [x, y] ∧ env1 = (env.set i (some ⟨0, x⟩)).set j (some ⟨0, y⟩) := by
  match xs, h with
  | [x, y], h => cases h; exact ⟨x, y, rfl, rfl⟩
theorem setAll3 {env env1 : Env} {i j l : Nat} {xs : List PV} (h : setAll env [i, j, l] xs = some env1) : ∃ x y z, xs = [x, y, z] ∧ env1 = ((env.set i (some ⟨0, x⟩)).set j (some ⟨0, y⟩)).set l (some ⟨0, z⟩) := by
  match xs, h with
  | [x, y, z], h => cases h; exact ⟨x, y, z, rfl, rfl⟩
theorem r_par2 {i j : Nat} (hi : F.cs ≠ some i) (hj : F.cs ≠ some j) (hp : PS X st (tPar i j (tAs X.K X.mg F W call 0 as))) : PS X st ((tS X.K X.mg F W retd call fr) (.par [i, j] as)) :=
  PS.imp hp fun D σ H ⟨env, c, Hf, O, g, h⟩ => ⟨env, c, Hf, O, g, wns_out g h fun xs c1 vs H1 Hf1 _ s1 g1 p1 h1 => by
    cases e : setAll env [i, j] xs with
    | none => rw [e] at h1; exact h1.elim
    | some env1 =>
      rw [e] at h1
      obtain ⟨x, y, rfl, rfl⟩ := setAll2 e
      have r := lents_rep p1
      obtain ⟨v, _, rfl, r1, w, _, rfl, r2, r3⟩ := r
      cases (show _ = [] from r3)
      exact ⟨v, w, rfl, h1 _ H1 Hf1 O (Ex.refl _) ((g1.set0 r1 hi).set0 r2 hj)⟩⟩
theorem r_par3 {i j l : Nat} (hi : F.cs ≠ some i) (hj : F.cs ≠ some j) (hl : F.cs ≠ some l) (hp : PS X st (tPar3 i j l (tAs X.K X.mg F W call 0 as))) : PS X st ((tS X.K X.mg F W retd call fr) (.par [i, j, l] as)) :=
  PS.imp hp fun D σ H ⟨env, c, Hf, O, g, h⟩ => ⟨env, c, Hf, O, g, wns_out g h fun xs c1 vs H1 Hf1 _ s1 g1 p1 h1 => by
    cases e : setAll env [i, j, l] xs with
    | none => rw [e] at h1; exact h1.elim
    | some env1 =>
      rw [e] at h1
      obtain ⟨x, y, z, rfl, rfl⟩ := setAll3 e
      have r := lents_rep p1
      obtain ⟨v, _, rfl, r1, w, _, rfl, r2, u, _, rfl, r3, r4⟩ := r
      cases (show _ = [] from r4)
      exact ⟨v, w, u, rfl, h1 _ H1 Hf1 O (Ex.refl _) (((g1.set0 r1 hi).set0 r2 hj).set0 r3 hl)⟩⟩
/-- x[..][k] = y[..][l] = e -/
theorem r_put2 {z : Nat} {l : E} (hp : PS X st (tAsg2 ((tV X.K X.mg F W call) 0 a) (gSub (tCt X.K X.mg F W call x ps) ((tM X.K X.mg F W call) k) tSet2) (gSub (tCt X.K X.mg F W call z qs) ((tM X.K X.mg F W call) l) tSet2))) : PS X st ((tS X.K X.mg F W retd call fr) (.put2 x ps k z qs l a)) :=
  PS.imp hp fun D σ H ⟨env, c, Hf, O, g, h⟩ => ⟨env, c, Hf, O, g, wns_out g h fun v c1 vv H1 Hf1 _ s1 g1 f1 h1 => by
    have e : ∀ (r : Res (List PV)) (f : List PV → PV → Res PV) (m : List PV → PV → Option Env) (rest : Env → PV → Out), (r.out fun ks c => (f ks c).out fun kv c => (Out.of (m ks kv) c).bind rest) = (r.out fun ks c => (f ks c).out fun kv c => .of (m ks kv) c).bind rest := by
      intro r f m rest
      cases r with
      | ok ks c =>
        simp only [out_ok]
        cases f ks c <;> rfl
      | exc e c => rfl
      | stuck => rfl
    rw [e (okR env x (evs call 0 ps env c1)) (fun ks c => ev call k env c) (fun ks kv => modS env x ks (putV v kv)) (fun env c => (okR env z (evs call 0 qs env c)).out fun ls c => (ev call l env c).out fun lv c => .of (modS env z ls (putV v lv)) c)] at h1
    exact put_imp (D := { D with nx := _ }) g1 f1.rep0 (wns_bind h1 rfl fun env2 c2 σ2 H2 Hf2 O2 _ ex2 g2 h2 => put_imp g2 (Rep.ex ex2 f1.rep0) h2)⟩
/-- a step within a change, ahead of what follows -/
theorem out_bind2 (r : Res (List PV)) (f : List PV → PV → Res PV) (m : List PV → PV → Option Env) (rest : Env → PV → Out) : (r.out fun ks c => (f ks c).out fun kv c => (Out.of (m ks kv) c).bind rest) = (r.out fun ks c => (f ks c).out fun kv c => .of (m ks kv) c).bind rest := by
  cases r with
  | ok ks c =>
    simp only [out_ok]
    cases f ks c <;> rfl
  | exc e c => rfl
  | stuck => rfl
theorem wns_and {D : Ends} {Hf : Hp} {o : Out} (h : WnS X.K X.mg F W retd Hf D o) : WnS X.K X.mg F W retd Hf { D with nx := fun σ H => ([] : List V) = [] ∧ D.nx σ H } o := by
  cases o with
  | nx env c => exact fun σ H Hf' O e g => ⟨rfl, h σ H Hf' O e g⟩
  | ret x c => exact h
  | exc e c => exact h
  | stuck => exact h
/-- the store of one of a pair -/
theorem tput_one {D : Ends} {σ : St} {H Hf : Hp} {env : Env} {c : PV} {O : Ow} {u w : V} {p q : PV} {z : Nat} {l : E} (g : Good X.K X.mg F env c σ H Hf O) (r1 : Rep X.K X.mg Hf p u) (r2 : Rep X.K X.mg Hf q w)
    (h : WnS X.K X.mg F W retd Hf D (((okR env x (evs call 0 ps env c)).out fun ks c => (ev call k env c).out fun kv c => .of (modS env x ks (putV p kv)) c).bind fun env c =>
        (okR env z (evs call 0 qs env c)).out fun ls c => (ev call l env c).out fun lv c => .of (modS env z ls (putV q lv)) c)) :
    gSub (tCt X.K X.mg F W call x ps) ((tM X.K X.mg F W call) k) tSet2 u σ H fun σ' H' => gCons (gSub (tCt X.K X.mg F W call z qs) ((tM X.K X.mg F W call) l) tSet2) gNil [w] σ' H' D.nx := by
  refine put_imp (D := { D with nx := fun σ' H' => gCons (gSub (tCt X.K X.mg F W call z qs) ((tM X.K X.mg F W call) l) tSet2) gNil [w] σ' H' D.nx }) g r1 (wns_bind h rfl fun env2 c2 σ2 H2 Hf2 O2 _ ex2 g2 h3 => ?_)
  have h4 := wns_and h3
  have h5 := put_imp g2 (Rep.ex ex2 r2) h4
  exact ⟨w, [], rfl, h5⟩
/-- x[..][k], y[..][l] = a pair -/
theorem r_tput {z : Nat} {l : E} (hp : PS X st (tAsg ((tV X.K X.mg F W call) 0 a) (gTup X.K 2 (gCons (gSub (tCt X.K X.mg F W call x ps) ((tM X.K X.mg F W call) k) tSet2) (gCons (gSub (tCt X.K X.mg F W call z qs) ((tM X.K X.mg F W call) l) tSet2) gNil))))) : PS X st ((tS X.K X.mg F W retd call fr) (.tput x ps k z qs l a)) :=
  PS.imp hp fun D σ H ⟨env, c, Hf, O, g, h⟩ => ⟨env, c, Hf, O, g, wns_out g h fun v c1 vv H1 Hf1 _ s1 g1 f1 h1 => by
    cases v <;> first | exact h1.elim | skip
    rename_i xs evq
    clear evq
    match xs, f1, h1 with
    | [], f1, h1 => exact h1.elim
    | [_], f1, h1 => exact h1.elim
    | _ :: _ :: _ :: _, f1, h1 => exact h1.elim
    | [p, q], f1, h1 =>
      obtain ⟨_, ad, us, rfl, t1, rr⟩ := f1.rep0
      obtain ⟨u, _, rfl, r1, w, _, rfl, r2, r3⟩ := rr
      cases (show _ = [] from r3)
      have h2 : WnS X.K X.mg F W retd Hf1 D ((okR env x (evs call 0 ps env c1)).out fun ks c => (ev call k env c).out fun kv c => (Out.of (modS env x ks (putV p kv)) c).bind fun env c =>
        (okR env z (evs call 0 qs env c)).out fun ls c => (ev call l env c).out fun lv c => .of (modS env z ls (putV q lv)) c) := h1
      rw [out_bind2 (okR env x (evs call 0 ps env c1)) (fun ks c => ev call k env c) (fun ks kv => modS env x ks (putV p kv)) (fun env c => (okR env z (evs call 0 qs env c)).out fun ls c => (ev call l env c).out fun lv c => .of (modS env z ls (putV q lv)) c)] at h2
      exact ⟨ad, [u, w], rfl, SqT.of (g1.sub _ _ t1), rfl, u, [w], rfl, tput_one g1 r1 r2 h2⟩⟩
end
end PVL
end

section
set_option Elab.async false
set_option linter.all false
set_option maxRecDepth 100000
set_option maxHeartbeats 4000000
/-! PVL16: the small language against the program's form: a check, and that it is sound. -/
namespace PVL
open PySem L2
/-- what is known of a text and a def in it: the names by slot, the cell, the defs, the ints, the names that stand nowhere in the module, the defs that hand back new lists -/
structure Mo where
  N : List Str
  cs : Option Nat
  fns : List Fn
  gis : List (Str × Int)
  free : List Str
  fr : List Str
def okName (x : Str) : Bool := !(x == ("__debug__" : Str)) && !(x == ("__classdict__" : Str)) && !(x == ("__name__" : Str))
def visB (sc : Scope) (x : Str) : Bool := match sc.names.lookup x with
  | some .local | some .cell | some .free => true
  | _ => false
def glB (sc : Scope) (x : Str) : Bool := sc.names.lookup x == some .globalImplicit
def blt (M : Mo) (sc : Scope) (x y : Str) : Bool := x == y && glB sc x && M.free.contains x && okName x
def opN : Op2 → Operator
  | .add => .Add | .sub => .Sub | .mul => .Mult | .fdiv => .FloorDiv | .mod => .Mod | .pow => .Pow
def cmN : Cm → CmpOp
  | .lt => .Lt | .le => .LtE | .gt => .Gt | .ge => .GtE | .eq => .Eq | .ne => .NotEq | .isin => .In | .notin => .NotIn
def conB : PV → Const → Bool
  | .non, .none => true
  | .bl b, .bool c => b == c
  | .int i, .int j => i == j
  | .str x, .str y => x == y
  | _, _ => false
def sgB : Sing → Const → Bool
  | .non, .none => true
  | .tt, .bool b => b
  | .ff, .bool b => !b
  | _, _ => false
def b1N : B1 → Option Str
  | .len => some "len" | .abs => some "abs" | .all => some "all" | .any => some "any" | .list => some "list" | .tuple => some "tuple" | .int => some "int"
  | .min => some "min" | .max => some "max" | .sum => some "sum" | .sorted => some "sorted" | .str => some "str"
def b2N : B2 → Str
  | .min => "min" | .max => "max"
def tyS : Ty → Str
  | .int => "int" | .bool => "bool" | .tuple => "tuple" | .str => "str" | .list => "list" | .dict => "dict"
/-- what an iterator's expression walks -/
def iterArgs (M : Mo) (sc : Scope) (tgE : Expr) (it : Expr) : ItK → Option (List Expr)
  | .seq => if notStar it then some [it] else none
  | .rng1 => match it with
    | .Call (.Name x _) [a] [] _ => if blt M sc x "range" then some [a] else none
    | _ => none
  | .rng2 => match it with
    | .Call (.Name x _) [a, b] [] _ => if blt M sc x "range" then some [a, b] else none
    | _ => none
  | .zip => match tgE, it with
    | .Tuple .., .Call (.Name x _) [a, b] [] _ => if blt M sc x "zip" then some [a, b] else none
    | _, _ => none
  | .zipn => match it with
    | .Call (.Name x _) [a, b] [] _ => if isNm tgE && blt M sc x "zip" then some [a, b] else none
    | _ => none
  | .enum => match tgE, it with
    | .Tuple .., .Call (.Name x _) [a] [] _ => if blt M sc x "enumerate" then some [a] else none
    | _, _ => none
def notSet : Expr → Bool
  | .Set .. => false
  | _ => true
def locB (wsc : Option Scope) (sc : Scope) (x : Str) : Bool := sc.names.lookup x == some .local || (sc.names.lookup x == some .cell && (match wsc with | none => true | some s => s.names.lookup x == some .cell))
mutual
def chkT (M : Mo) (wsc : Option Scope) (sc : Scope) : Tg → Expr → Bool
  | .nm i, e => match e with
    | .Name x _ => M.N[i]? == some x && locB wsc sc x && !(M.cs == some i)
    | _ => false
  | .tup ts, e => match e with
    | .Tuple es _ _ => chkTs M wsc sc ts es
    | _ => false
termination_by structural t => t
def chkTs (M : Mo) (wsc : Option Scope) (sc : Scope) : List Tg → List Expr → Bool
  | [], es => es.isEmpty
  | t :: ts, es => match es with
    | e :: es => notStar e && chkT M wsc sc t e && chkTs M wsc sc ts es
    | _ => false
termination_by structural t => t
end
def blkB (N : List Str) (sc scope : Scope) (own : List Nat) : Bool :=
  scope.kind == .function && scope.names.all (fun y => scope.names.lookup y.1 == some y.2) && own.all (fun i => decide (i < N.length)) &&
  scope.names.all (fun y => !(y.2 == .free) || sc.names.lookup y.1 == some .cell || sc.names.lookup y.1 == some .free) &&
  scope.names.all fun y => !(y.2 == .local || y.2 == .cell) || own.any (fun i => N[i]? == some y.1) || !N.contains y.1
/-- may be asked for its truth -/
def okT : E → Bool
  | .ife .. => false
  | .neg _ => false
  | .not a => okT a
  | .and a b => okT a && okT b
  | .or a b => okT a && okT b
  | _ => true
def fnOf (M : Mo) (x : Str) : Option Fn := M.fns.find? fun f => decide (f.name = x)
def ownP (N : List Str) (own : List Nat) : List (Str × Nat) := own.map fun i => ((N[i]?).getD "", i)
def isBase : Expr → Bool
  | .Name .. | .Subscript .. => true
  | _ => false
mutual
def chkE (M : Mo) (wsc : Option Scope) (sc : Scope) : E → Expr → Bool
  | .var i, e => match e with
    | .Name x _ => M.N[i]? == some x && visB sc x && okName x
    | _ => false
  | .cel k, e => match e with
    | .Subscript (.Name x _) (.Constant (.int j) _ _) _ => (match M.cs with | some i => M.N[i]? == some x | none => false) && visB sc x && okName x && j == k
    | _ => false
  | .con c, e => match e with
    | .Constant k _ _ => conB c k
    | _ => false
  | .gint x i, e => match e with
    | .Name y _ => x == y && glB sc x && okName x && M.gis.contains (x, i)
    | _ => false
  | .fn x, e => match e with
    | .Name y _ => x == y && glB sc x && okName x && (fnOf M x).isSome
    | _ => false
  | .tup es, e => match e with
    | .Tuple xs _ _ => decide (es.length ≤ 1000) && chkEs M wsc sc es xs
    | _ => false
  | .lst d es, e => match e with
    | .List xs _ => d == 0 && decide (es.length ≤ 1000) && chkEs M wsc sc es xs
    | _ => false
  | .dct0 _, e => match e with
    | .Dict [] [] _ => true
    | _ => false
  | .dct1 k a, e => match e with
    | .Dict [some x] [y] _ => chkE M wsc sc k x && chkE M wsc sc a y
    | _ => false
  | .get2 a k d, e => match e with
    | .Call (.Attribute o m apos) [x, y] [] cpos => m == "get" && isBase o && apos.endLine == cpos.line && notStar x && notStar y && chkE M wsc sc a o && chkE M wsc sc k x && chkE M wsc sc d y
    | _ => false
  | .op o a b, e => match e with
    | .BinOp l p r _ => p == opN o && chkE M wsc sc a l && chkE M wsc sc b r
    | _ => false
  | .neg a, e => match e with
    | .UnaryOp .USub l _ => chkE M wsc sc a l
    | _ => false
  | .cmp o a b, e => match e with
    | .Compare l [p] [r] _ => p == cmN o && !behindInMarks p r && chkE M wsc sc a l && chkE M wsc sc b r
    | _ => false
  | .is ng s a, e => match e with
    | .Compare l [p] [.Constant k _ _] _ => p == (if ng then .IsNot else .Is) && sgB s k && chkE M wsc sc a l
    | _ => false
  | .chain o1 o2 a b c, e => match e with
    | .Compare l [p, q] [r, s] _ => p == cmN o1 && q == cmN o2 && !lastMarks [p, q] [r, s] && chkE M wsc sc a l && chkE M wsc sc b r && chkE M wsc sc c s
    | _ => false
  | .and a b, e => match e with
    | .BoolOp .And [x, y] _ => chkE M wsc sc a x && chkE M wsc sc b y
    | .BoolOp .And (x :: y :: z :: rest) pos => chkE M wsc sc a x && chkE M wsc sc b (.BoolOp .And (y :: z :: rest) pos)
    | _ => false
  | .or a b, e => match e with
    | .BoolOp .Or [x, y] _ => chkE M wsc sc a x && chkE M wsc sc b y
    | .BoolOp .Or (x :: y :: z :: rest) pos => chkE M wsc sc a x && chkE M wsc sc b (.BoolOp .Or (y :: z :: rest) pos)
    | _ => false
  | .not a, e => match e with
    | .UnaryOp .Not l _ => chkE M wsc sc a l
    | _ => false
  | .ife t a b, e => match e with
    | .IfExp x y z _ => okT t && chkE M wsc sc t x && chkE M wsc sc a y && chkE M wsc sc b z
    | _ => false
  | .call f as, e => match e with
    | .Call (.Name x _) (y :: ys) [] _ => x == f && glB sc x && okName x && (match fnOf M x with | some fn => !fn.cellPar && as.length == fn.np && (fn.retd == 1 || fn.retd == 0) && (!M.fr.contains f || fn.retd == 1) | none => false) && (y :: ys).all notStar && chkEs M wsc sc as (y :: ys)
    | _ => false
  | .callc f as, e => match e with
    | .Call (.Name x _) (.Name y _ :: ys) [] _ => x == f && glB sc x && okName x && (match fnOf M x with | some fn => fn.cellPar && as.length + 1 == fn.np && fn.retd == 0 | none => false) && ys.all notStar &&
        (match M.cs with | some i => M.N[i]? == some y | none => false) && visB sc y && okName y && chkEs M wsc sc as ys
    | _ => false
  | .b1 f a, e => match e with
    | .Call (.Name x _) [y] [] _ => (match b1N f with | some z => blt M sc x z | none => false) && notStar y && chkE M wsc sc a y
    | _ => false
  | .b2 f a b, e => match e with
    | .Call (.Name x _) [y, z] [] _ => blt M sc x (b2N f) && notStar y && notStar z && chkE M wsc sc a y && chkE M wsc sc b z
    | _ => false
  | .isi t a, e => match e with
    | .Call (.Name x _) [y, .Name z _] [] _ => blt M sc x "isinstance" && blt M sc z (tyS t) && notStar y && chkE M wsc sc a y
    | _ => false
  | .ix a b, e => match e with
    | .Subscript x y _ => notSlice y && chkE M wsc sc a x && chkE M wsc sc b y
    | _ => false
  | .sl a lw up es, e => match e with
    | .Subscript x (.Slice l u none _) _ => lw == l.isSome && up == u.isSome && chkE M wsc sc a x && chkEs M wsc sc es (l.toList ++ u.toList)
    | _ => false
  | .rev a es, e => match e with
    | .Subscript x (.Slice l none (some (.UnaryOp .USub (.Constant (.int 1) _ _) _)) _) _ => chkE M wsc sc a x && chkEs M wsc sc es l.toList
    | _ => false
  | .comp own tg k srcs conds d elt, e => match e with
    | .ListComp y [⟨tgE, it, ifs, 0⟩] scope _ => blkB M.N sc scope own && notSet it && chkT M (some scope) (relS scope sc) tg tgE && tg.ids.all (fun i => own.contains i) && (match M.cs with | some i => !own.contains i | none => true) &&
        (match iterArgs M sc tgE it k with | some xs => xs.all notStar && chkEs M wsc sc srcs xs | none => false) && (match conds with | [] => true | [c] => okT c | _ => false) && chkEs M (some scope) (relS scope sc) conds ifs &&
        (d == 0 || fd M.fr elt == d) && chkE M (some scope) (relS scope sc) elt y
    | _ => false
termination_by structural e => e
def chkEs (M : Mo) (wsc : Option Scope) (sc : Scope) : List E → List Expr → Bool
  | [], xs => xs.isEmpty
  | e :: es, xs => match xs with
    | x :: xs => notStar x && chkE M wsc sc e x && chkEs M wsc sc es xs
    | _ => false
termination_by structural es => es
end
end PVL
end

section
set_option Elab.async false
set_option linter.all false
set_option maxRecDepth 100000
set_option maxHeartbeats 4000000
/-! PVL17: the check of expressions is sound. -/
namespace PVL
open PySem L2
/-- where checked code stands -/
structure Ctm (P : Prog) (n : Nat) (M : Mo) (F : Frame) (wsc : Option Scope) (sc : Scope) (W : WX) (X : Cx) : Prop where
  hN : X.N = M.N
  nd : M.N.Nodup
  hsc : X.env.scope = sc
  calm : X.calm = true
  room : Room n X.A
  tk : Takes X W
  cs : F.cs = M.cs
  fn : ∀ x, (match wsc with | none => True | some s => s.names.lookup x = some .cell) → X.fn x = true
  gis : ∀ p ∈ M.gis, ∃ t, X.mg p.1 = some (.int p.2 t)
  free : ∀ x ∈ M.free, X.mg x = none
  hP : M.fns = P.fns
  hfr : M.fr = P.fr
  fns : ∀ fn ∈ P.fns, ∃ f fd, FnOk X.prog X.w X.K X.mg X.base (L2.CX X.prog X.w) n f fd (fn.N.take fn.np) (spOf X.K X.mg P n fn) ∧ X.mg fn.name = some (.ref f) ∧ PySem.W.keepIn X.K (.ref f) = true ∧ Binds X.K fd (fn.N.take fn.np) []
def isBO : Expr → Bool
  | .BoolOp .. => true
  | _ => false
section
variable {P : Prog} {n : Nat} {M : Mo} {F : Frame} {wsc : Option Scope} {sc : Scope} {W : WX} {X : Cx}
theorem Ctm.blk (C : Ctm P n M F wsc sc W X) {s : Shared} {H : Hp} {scope : Scope} {cl : List (Str × Addr)} {c : Addr} {fp : List Addr} : Ctm P n M F (some scope) (relS scope sc) W0 (X.blk s H scope (compEnvC scope cl c X.env) fp) where
  hN := C.hN
  nd := C.nd
  hsc := by rw [← C.hsc] <;> rfl
  calm := C.calm
  room := C.room
  tk := tk0
  cs := C.cs
  fn := fun x h => by
    show (scope.names.lookup x == some .cell) = true
    rw [show scope.names.lookup x = some .cell from h] <;> rfl
  gis := C.gis
  free := C.free
  hP := C.hP
  hfr := C.hfr
  fns := C.fns
theorem ok_names {x : Str} (h : okName x = true) : (x == ("__debug__" : Str)) = false ∧ (x == ("__classdict__" : Str)) = false ∧ x ≠ "__name__" := by
  unfold okName at h
  simp only [Bool.and_eq_true, Bool.not_eq_true'] at h
  exact ⟨h.1.1, h.1.2, fun e => by have := h.2; rw [e] at this; exact absurd this (by decide)⟩
theorem vis_of (C : Ctm P n M F wsc sc W X) {x : Str} (h : visB sc x = true) : Vis X.env.scope x := by
  rw [C.hsc]
  unfold visB at h
  unfold Vis
  split at h
  · exact .inl (by assumption)
  · exact .inr (.inl (by assumption))
  · exact .inr (.inr (by assumption))
  · cases h
theorem gl_of (C : Ctm P n M F wsc sc W X) {x : Str} (h : glB sc x = true) : Gl X x := by
  show X.env.scope.names.lookup x = _
  rw [C.hsc]
  exact eq_of_beq h
theorem slot_of (C : Ctm P n M F wsc sc W X) {x : Str} {i : Nat} (h : (M.N[i]? == some x) = true) : X.N[i]? = some x := by
  rw [C.hN]
  exact eq_of_beq h
theorem blt_of (C : Ctm P n M F wsc sc W X) {x y : Str} (h : blt M sc x y = true) : x = y ∧ Gl X x ∧ X.mg x = none ∧ (x == ("__debug__" : Str)) = false ∧ x ≠ "__name__" := by
  unfold blt at h
  simp only [Bool.and_eq_true] at h
  obtain ⟨⟨⟨h1, h2⟩, h3⟩, h4⟩ := h
  exact ⟨eq_of_beq h1, gl_of C h2, C.free x (List.contains_iff_mem.mp h3), (ok_names h4).1, (ok_names h4).2.2⟩
theorem fnOf_some (C : Ctm P n M F wsc sc W X) {x : Str} {fn : Fn} (h : fnOf M x = some fn) : fn ∈ P.fns ∧ fn.name = x ∧ P.fn fn.name = some fn := by
  unfold fnOf at h
  rw [C.hP] at h
  have hn : fn.name = x := by simpa using List.find?_some h
  refine ⟨List.mem_of_find?_eq_some h, hn, ?_⟩
  unfold Prog.fn
  rw [hn]
  exact h
theorem con_rule {c : PV} {k : Const} (h : conB c k = true) {j : Nat} {pos : Pos} : ∃ v, PE X (.Constant k j pos) (tC v) ∧ ∀ H, Rep X.K X.mg H c v := by
  cases c <;> cases k <;> first | (cases h; done) | skip
  · exact ⟨_, pe_non, fun _ => rfl⟩
  · cases eq_of_beq h; exact ⟨_, pe_bl, fun _ => rfl⟩
  · cases eq_of_beq h; exact ⟨_, pe_int, fun _ => rfl⟩
  · cases eq_of_beq h; exact ⟨_, pe_str, fun _ => rfl⟩
theorem cm_rule (hr : Room n X.A) (o : Cm) : CmR X (cmN o) o := by
  cases o
  · exact cm_lt hr
  · exact cm_le
  · exact cm_gt
  · exact cm_ge
  · exact cm_eq hr
  · exact cm_ne hr
  · exact cm_in hr
  · exact cm_notin hr
theorem sg_rule {s : Sing} {k : Const} (h : sgB s k = true) {j : Nat} {pos : Pos} : PE X (.Constant k j pos) (tC (singV s)) := by
  cases s <;> cases k <;> first | (cases h; done) | skip
  · exact pe_non
  · rename_i b; cases b <;> first | (cases h; done) | (show PE X _ (tC (.bl true)); exact pe_bl)
  · rename_i b; cases b <;> first | (cases h; done) | (show PE X _ (tC (.bl false)); exact pe_bl)
theorem is_rule (ng : Bool) (s : Sing) : ∃ r, OpR X (compareOp (if ng then .IsNot else .Is)) r ∧ ∀ v H (Q : VK), Q (.bl (if ng then !decide (v = singV s) else decide (v = singV s))) H → r v (singV s) H Q := by
  cases ng <;> cases s
  · exact ⟨_, op_isN, fun v H Q q => ⟨rfl, q⟩⟩
  · exact ⟨_, op_isB, fun v H Q q => ⟨true, rfl, q⟩⟩
  · exact ⟨_, op_isB, fun v H Q q => ⟨false, rfl, q⟩⟩
  · exact ⟨_, op_notN, fun v H Q q => ⟨rfl, q⟩⟩
  · exact ⟨_, op_isnotB, fun v H Q q => ⟨true, rfl, q⟩⟩
  · exact ⟨_, op_isnotB, fun v H Q q => ⟨false, rfl, q⟩⟩
theorem b1_rule (hc : X.calm = true) (hu : X.A.units + 64 < cLine) {f : B1} {z : Str} (h : b1N f = some z) : ∃ fv, B1R X f fv ∧ ((∃ id, fv = .builtin id) ∨ ∃ T, fv = .type T) ∧ bootBuiltins z = some fv := by
  cases f <;> cases h
  · exact ⟨_, b1_len, .inl ⟨_, rfl⟩, by decide +kernel⟩
  · exact ⟨_, b1_abs, .inl ⟨_, rfl⟩, by decide +kernel⟩
  · exact ⟨_, b1_all hc, .inl ⟨_, rfl⟩, by decide +kernel⟩
  · exact ⟨_, b1_any hc, .inl ⟨_, rfl⟩, by decide +kernel⟩
  · exact ⟨_, b1_min hc hu, .inl ⟨_, rfl⟩, by decide +kernel⟩
  · exact ⟨_, b1_max hc hu, .inl ⟨_, rfl⟩, by decide +kernel⟩
  · exact ⟨_, b1_sum hc, .inl ⟨_, rfl⟩, by decide +kernel⟩
  · exact ⟨_, b1_sorted hc, .inl ⟨_, rfl⟩, by decide +kernel⟩
  · exact ⟨_, b1_list, .inr ⟨_, rfl⟩, by decide +kernel⟩
  · exact ⟨_, b1_tuple, .inr ⟨_, rfl⟩, by decide +kernel⟩
  · exact ⟨_, b1_int, .inr ⟨_, rfl⟩, by decide +kernel⟩
  · exact ⟨_, b1_str, .inr ⟨_, rfl⟩, by decide +kernel⟩
/-! ### targets -/
theorem assign_plain {env : PySem.Env} {e : Expr} {es : List Expr} (h : notStar e = true) : assignEach (e :: es) env = (false, assign e env) :: assignEach es env := by
  cases e <;> first | (cases h; done) | rfl
theorem loc_of (C : Ctm P n M F wsc sc W X) {x : Str} (h : locB wsc sc x = true) : Loc X.env.scope x ∧ (X.fn x = true ∨ X.env.scope.names.lookup x = some .local) := by
  unfold locB at h
  rw [Bool.or_eq_true] at h
  rcases h with h | h
  · have e := eq_of_beq h
    rw [← C.hsc] at e
    exact ⟨.inl e, .inr e⟩
  · rw [Bool.and_eq_true] at h
    have e := eq_of_beq h.1
    rw [← C.hsc] at e
    refine ⟨.inr e, .inl (C.fn x ?_)⟩
    cases wsc with
    | none => trivial
    | some s => exact eq_of_beq h.2
mutual
theorem chkT_ok : ∀ (t : Tg) {wsc : Option Scope} {sc : Scope} {W : WX} {X : Cx} {e : Expr}, Ctm P n M F wsc sc W X → chkT M wsc sc t e = true → PG X e (gT X.K t) ∧ ∀ k, F.cs = some k → k ∉ t.ids
  | .nm i, wsc, sc, W, X, e, C, h => by
    unfold chkT at h
    split at h
    · simp only [Bool.and_eq_true] at h
      obtain ⟨⟨h1, h2⟩, h3⟩ := h
      obtain ⟨l1, l2⟩ := loc_of C h2
      unfold gT
      refine ⟨pg_name (by rw [C.hN]; exact C.nd) (slot_of C h1) l1 l2, fun k hk z => ?_⟩
      unfold Tg.ids at z
      rw [C.cs] at hk
      rw [hk] at h3
      simp at z
      subst z
      simp at h3
    · cases h
  | .tup ts, wsc, sc, W, X, e, C, h => by
    unfold chkT at h
    split at h
    · rename_i es _ _
      obtain ⟨h1, h2, h3, h4⟩ := chkTs_ok ts C h
      unfold gT
      refine ⟨⟨fun pins s σ H v u Q I r hw => hw.elim (fun q => (pg_tup C.calm h1 h3 h4).run pins s σ H v u Q I r q) fun q => (pg_lst C.calm h1 h3 h4).run pins s σ H v u Q I r q⟩, fun k hk z => ?_⟩
      unfold Tg.ids at z
      exact h2 k hk z
    · cases h
termination_by structural t => t
theorem chkTs_ok : ∀ (ts : List Tg) {wsc : Option Scope} {sc : Scope} {W : WX} {X : Cx} {es : List Expr}, Ctm P n M F wsc sc W X → chkTs M wsc sc ts es = true → PGs X es (gTs X.K ts) ∧ (∀ k, F.cs = some k → k ∉ Tg.idsL ts) ∧ (assignEach es X.env).length = ts.length ∧ (assignEach es X.env).findIdx? (·.1) = none
  | [], wsc, sc, W, X, es, C, h => by
    unfold chkTs at h
    cases es with
    | cons => cases h
    | nil =>
      unfold gTs
      exact ⟨pgs_nil, fun k hk z => by unfold Tg.idsL at z; simp at z, rfl, rfl⟩
  | t :: ts, wsc, sc, W, X, es, C, h => by
    unfold chkTs at h
    cases es with
    | nil => cases h
    | cons e es =>
      simp only [Bool.and_eq_true] at h
      obtain ⟨⟨h0, h1⟩, h2⟩ := h
      obtain ⟨g1, g2⟩ := chkT_ok t C h1
      obtain ⟨g3, g4, g5, g6⟩ := chkTs_ok ts C h2
      unfold gTs
      refine ⟨pgs_cons g1 g3 (by rw [assign_plain h0] <;> rfl), fun k hk z => ?_, ?_, ?_⟩
      · unfold Tg.idsL at z
        rcases List.mem_append.mp z with z | z
        · exact g2 k hk z
        · exact g4 k hk z
      · rw [assign_plain h0, List.length_cons, g5, List.length_cons]
      · rw [assign_plain h0, List.findIdx?_cons, g6] <;> rfl
termination_by structural t => t
end
theorem ownP_map (N : List Str) (own : List Nat) : (ownP N own).map (·.2) = own := by
  unfold ownP
  rw [List.map_map]
  exact List.map_id own
theorem blk_of (C : Ctm P n M F wsc sc W X) {scope : Scope} {own : List Nat} (h : blkB M.N sc scope own = true) : BlkOk X.N X.env.scope scope (ownP M.N own) := by
  unfold blkB at h
  simp only [Bool.and_eq_true] at h
  obtain ⟨⟨⟨⟨h1, h2⟩, h3⟩, h4⟩, h5⟩ := h
  refine ⟨eq_of_beq h1, fun y hy => eq_of_beq (List.all_eq_true.mp h2 y hy), fun p hp => ?_, fun y hy e => ?_, fun y hy e => ?_⟩
  · unfold ownP at hp
    obtain ⟨i, hi, rfl⟩ := List.mem_map.mp hp
    have hl : i < M.N.length := of_decide_eq_true (List.all_eq_true.mp h3 i hi)
    rw [C.hN]
    simp [List.getElem?_eq_getElem hl]
  · have q := List.all_eq_true.mp h4 y hy
    rw [e] at q
    rw [C.hsc]
    simp only [beq_self_eq_true, Bool.not_true, Bool.false_or, Bool.or_eq_true] at q
    rcases q with q | q
    · exact .inl (eq_of_beq q)
    · exact .inr (eq_of_beq q)
  · have q := List.all_eq_true.mp h5 y hy
    rw [Bool.or_eq_true, Bool.or_eq_true] at q
    rcases q with (q | q) | q
    · rcases e with e | e <;> rw [e] at q <;> simp at q
    · left
      obtain ⟨i, hi, e1⟩ := List.any_eq_true.mp q
      have e2 := eq_of_beq e1
      unfold ownP
      rw [List.map_map]
      exact List.mem_map.mpr ⟨i, hi, by show (M.N[i]?).getD "" = y.1; rw [e2] <;> rfl⟩
    · right
      rw [C.hN]
      intro z
      rw [List.contains_iff_mem.mpr z] at q
      cases q
theorem set_of {e : Expr} {env : PySem.Env} (h : notSet e = true) : ∀ x, foldedSetIterable e env x = pure x := by
  intro x
  cases e <;> first | (cases h; done) | rfl
theorem iter_of (C : Ctm P n M F wsc sc W X) {tgE it : Expr} {k : ItK} {xs : List Expr} {srcs : List E} {m : Nat} (hm : m ≤ 1) (h : iterArgs M sc tgE it k = some xs) (hns : xs.all notStar = true) (hl : xs.length = srcs.length) (hPA : PA X xs (tAs X.K X.mg F W (callF P n) m srcs)) (hPE : ∀ (x : Expr) (a : E), xs = [x] → srcs = [a] → PE X x (tM X.K X.mg F W (callF P n) a)) :
    PI X tgE it (tI X.K X.mg F W (callF P n) m k srcs) := by
  cases k
  case seq =>
    dsimp only [iterArgs] at h
    split at h
    · cases h
      match srcs, hl with
      | [a], _ => exact i_seq hm (hPE it a rfl rfl)
    · cases h
  case rng1 =>
    dsimp only [iterArgs] at h
    split at h
    · split at h
      · rename_i hb
        cases h
        obtain ⟨e1, e2, e3, e4, e5⟩ := blt_of C hb
        subst e1
        match srcs, hl with
        | [a], _ => exact i_rng1 e2 e3 (by simpa using hns) hPA
      · cases h
    · cases h
  case rng2 =>
    dsimp only [iterArgs] at h
    split at h
    · split at h
      · rename_i hb
        cases h
        obtain ⟨e1, e2, e3, e4, e5⟩ := blt_of C hb
        subst e1
        match srcs, hl with
        | [a, b], _ =>
          simp only [List.all_cons, List.all_nil, Bool.and_true, Bool.and_eq_true] at hns
          exact i_rng2 e2 e3 hns.1 hns.2 hPA
      · cases h
    · cases h
  case zip =>
    dsimp only [iterArgs] at h
    split at h
    · split at h
      · rename_i hb
        cases h
        obtain ⟨e1, e2, e3, e4, e5⟩ := blt_of C hb
        subst e1
        match srcs, hl with
        | [a, b], _ =>
          simp only [List.all_cons, List.all_nil, Bool.and_true, Bool.and_eq_true] at hns
          exact i_zip hm e2 e3 hns.1 hns.2 hPA
      · cases h
    · cases h
  case zipn =>
    dsimp only [iterArgs] at h
    split at h
    · split at h
      · rename_i hb
        rw [Bool.and_eq_true] at hb
        cases h
        obtain ⟨e1, e2, e3, e4, e5⟩ := blt_of C hb.2
        subst e1
        match srcs, hl with
        | [a, b], _ =>
          simp only [List.all_cons, List.all_nil, Bool.and_true, Bool.and_eq_true] at hns
          exact i_zipn hm hb.1 e2 e3 hns.1 hns.2 hPA
      · cases h
    · cases h
  case enum =>
    dsimp only [iterArgs] at h
    split at h
    · split at h
      · rename_i hb
        cases h
        obtain ⟨e1, e2, e3, e4, e5⟩ := blt_of C hb
        subst e1
        match srcs, hl with
        | [a], _ => exact i_enum hm e2 e3 (by simpa using hns) hPA
      · cases h
    · cases h
/-! ### expressions -/
/-- what is told of an expression -/
def Told (P : Prog) (n : Nat) (M : Mo) (F : Frame) (W : WX) (X : Cx) (e : E) (ea : Expr) : Prop :=
  PE X ea (tM X.K X.mg F W (callF P n) e) ∧ (okT e = true → PT X ea (tT X.K X.mg F W (callF P n) e) ∧ (isBO ea = true → PW X ea (tT X.K X.mg F W (callF P n) e))) ∧ PE X ea (tV X.K X.mg F W (callF P n) (fd M.fr e) e)
theorem Told.of {e : E} {ea : Expr} (h : PE X ea (tM X.K X.mg F W (callF P n) e)) (hp : plainT ea = true) (hf : fd M.fr e = 0) : Told P n M F W X e ea := by
  refine ⟨h, fun _ => ⟨t_plain hp h, fun z => ?_⟩, by rw [hf]; exact v_tM h⟩
  cases ea <;> first | (cases z; done) | cases hp
theorem Told.ofF {e : E} {ea : Expr} (h : PE X ea (tM X.K X.mg F W (callF P n) e)) (hp : plainT ea = true) {d : Nat} (hF : PE X ea (tF X.K X.mg F W (callF P n) d e)) (hf : fd M.fr e = d) : Told P n M F W X e ea := by
  refine ⟨h, fun _ => ⟨t_plain hp h, fun z => ?_⟩, by rw [hf]; exact v_tF hF⟩
  cases ea <;> first | (cases z; done) | cases hp
theorem Told.ofT {e : E} {ea : Expr} (h : PE X ea (tM X.K X.mg F W (callF P n) e)) (ht : okT e = true → PT X ea (tT X.K X.mg F W (callF P n) e)) (hb : isBO ea = false) (hf : fd M.fr e = 0) : Told P n M F W X e ea :=
  ⟨h, fun o => ⟨ht o, fun z => by rw [hb] at z; cases z⟩, by rw [hf]; exact v_tM h⟩
end
end PVL
end

section
set_option Elab.async false
set_option linter.all false
set_option maxRecDepth 100000
set_option maxHeartbeats 4000000
/-! PVL18: the check of expressions is sound (2). -/
namespace PVL
open PySem L2
section
variable {P : Prog} {n : Nat} {M : Mo} {F : Frame}
theorem op_told {W : WX} {X : Cx} {o : Op2} {a b : E} {l r : Expr} {pos : Pos} (ha : PE X l (tM X.K X.mg F W (callF P n) a)) (hb : PE X r (tM X.K X.mg F W (callF P n) b)) : Told P n M F W X (.op o a b) (.BinOp l (opN o) r pos) := by
  cases o
  · exact Told.ofF (s_add ha hb) rfl (f_add ha hb) rfl
  · exact Told.of (s_sub ha hb) rfl rfl
  · exact Told.ofF (s_mul ha hb) rfl (f_mul ha hb) rfl
  · exact Told.of (s_fdiv ha hb) rfl rfl
  · exact Told.of (s_mod ha hb) rfl rfl
  · exact Told.of (s_pow ha hb) rfl rfl
theorem b1_fd {f : B1} {a : E} : fd M.fr (.b1 f a) = 1 ∨ fd M.fr (.b1 f a) = 0 := by
  cases f <;> first | exact .inl rfl | exact .inr rfl
theorem down_v {W : WX} {X : Cx} {ea : Expr} {e : E} {d : Nat} (h : PE X ea (tV X.K X.mg F W (callF P n) d e)) : PE X ea (tV X.K X.mg F W (callF P n) 0 e) := PE.imp h fun σ H Q ⟨env, c, Hf, O, g, h⟩ => ⟨env, c, Hf, O, g, by
  cases q : ev (callF P n) e env c with
  | stuck => rw [q] at h; exact h
  | exc x c1 => rw [q] at h; exact h
  | ok x c1 =>
    rw [q] at h
    exact fun v H' Hf' s k f => fresh_rep (fun v H' Hf' s k r => h v H' Hf' s k (Fresh.zero r)) s k f⟩
theorem down_v' {K : PySem.W.Frag} {mg : Str → Option Value} {W : WX} {call : CallF} {e : E} {d : Nat} {σ : St} {H : Hp} {Q : VK} (h : tV K mg F W call 0 e σ H Q) : tV K mg F W call d e σ H Q := by
  obtain ⟨env, c, Hf, O, g, h⟩ := h
  refine ⟨env, c, Hf, O, g, ?_⟩
  cases q : ev call e env c with
  | stuck => rw [q] at h; exact h
  | exc x c1 => rw [q] at h; exact h
  | ok x c1 =>
    rw [q] at h
    exact fun v H' Hf' s k f => fresh_rep (fun v H' Hf' s k r => h v H' Hf' s k (Fresh.zero r)) s k f
theorem tvf_comp {K : PySem.W.Frag} {mg : Str → Option Value} {W : WX} {call : CallF} {own : List Nat} {tg : Tg} {k : ItK} {srcs conds : List E} {dd d : Nat} {elt : E} {σ : St} {H : Hp} {Q : VK} (h : tV K mg F W call d (.comp own tg k srcs conds dd elt) σ H Q) : tF K mg F W call d (.comp own tg k srcs conds dd elt) σ H Q := by
  obtain ⟨env, c, Hf, O, g, h⟩ := h
  refine ⟨env, c, Hf, O, g, ?_⟩
  unfold ev at h
  cases q : em call (.comp own tg k srcs conds dd elt) env c with
  | stuck => rw [q] at h; exact h
  | exc x c1 => rw [q] at h; exact h
  | ok p c1 =>
    obtain ⟨m, x⟩ := p
    rw [q, lo_ok] at h
    split at h
    · exact h
    · exact h.elim
theorem comp_zero {call : CallF} {own : List Nat} {tg : Tg} {k : ItK} {srcs conds : List E} {dd m : Nat} {elt : E} {env : Env} {c x c' : PV} (h : em call (.comp own tg k srcs conds dd elt) env c = .ok (m, x) c') : m = 0 := by
  unfold em at h
  cases q : evs call 1 srcs env c with
  | stuck => rw [q] at h; cases h
  | exc x c1 => rw [q] at h; cases h
  | ok ss c1 =>
    rw [q] at h
    simp only [bind_ok] at h
    split at h
    · cases h
    · split at h
      · cases h; rfl
      · cases h
theorem tail_and {W : WX} {X : Cx} {a b : E} {x y : Expr} {rest : List Expr} {pos : Pos} (ha : PT X x (tT X.K X.mg F W (callF P n) a)) (hb : PW X (.BoolOp .And (y :: rest) pos) (tT X.K X.mg F W (callF P n) b)) : PW X (.BoolOp .And (x :: y :: rest) pos) (tT X.K X.mg F W (callF P n) (.and a b)) :=
  ⟨fun whole pins s σ H Q I h => (pw_and ha hb).run whole pins s σ H Q I (and_tst h)⟩
theorem tail_or {W : WX} {X : Cx} {a b : E} {x y : Expr} {rest : List Expr} {pos : Pos} (ha : PT X x (tT X.K X.mg F W (callF P n) a)) (hb : PW X (.BoolOp .Or (y :: rest) pos) (tT X.K X.mg F W (callF P n) b)) : PW X (.BoolOp .Or (x :: y :: rest) pos) (tT X.K X.mg F W (callF P n) (.or a b)) :=
  ⟨fun whole pins s σ H Q I h => (pw_or ha hb).run whole pins s σ H Q I (or_tst h)⟩
set_option maxHeartbeats 8000000 in
mutual
theorem chkE_ok : ∀ (e : E) {wsc : Option Scope} {sc : Scope} {W : WX} {X : Cx} {ea : Expr}, Ctm P n M F wsc sc W X → chkE M wsc sc e ea = true → Told P n M F W X e ea
  | .var i, wsc, sc, W, X, ea, C, h => by
    unfold chkE at h
    split at h
    · simp only [Bool.and_eq_true] at h
      obtain ⟨⟨h1, h2⟩, h3⟩ := h
      exact Told.of (s_var (P := P) (n := n) (N := M.N) (sc := sc) ⟨C.hN, C.nd, C.hsc, C.calm, C.room, C.tk⟩ (eq_of_beq h1) (by rw [← C.hsc]; exact vis_of C h2) (ok_names h3).1 (ok_names h3).2.1) rfl rfl
    · cases h
  | .cel k, wsc, sc, W, X, ea, C, h => by
    unfold chkE at h
    split at h
    · simp only [Bool.and_eq_true] at h
      obtain ⟨⟨⟨h1, h2⟩, h3⟩, h4⟩ := h
      cases eq_of_beq h4
      cases hc : M.cs with
      | none => rw [hc] at h1; cases h1
      | some i =>
        rw [hc] at h1
        exact Told.of (s_cel (t := tC (.int k)) (by rw [C.cs]; exact hc) (slot_of C h1) (vis_of C h2) (ok_names h3).1 (ok_names h3).2.1 rfl pe_int) rfl rfl
    · cases h
  | .con c, wsc, sc, W, X, ea, C, h => by
    unfold chkE at h
    split at h
    · obtain ⟨v, h1, h2⟩ := con_rule (X := X) h
      exact Told.of (s_con h1 h2) rfl rfl
    · cases h
  | .gint x i, wsc, sc, W, X, ea, C, h => by
    unfold chkE at h
    split at h
    · simp only [Bool.and_eq_true] at h
      obtain ⟨⟨⟨h1, h2⟩, h3⟩, h4⟩ := h
      cases eq_of_beq h1
      exact Told.of (s_gint (gl_of C h2) (C.gis _ (List.contains_iff_mem.mp h4)) (ok_names h3).1) rfl rfl
    · cases h
  | .fn x, wsc, sc, W, X, ea, C, h => by
    unfold chkE at h
    split at h
    · simp only [Bool.and_eq_true] at h
      obtain ⟨⟨⟨h1, h2⟩, h3⟩, h4⟩ := h
      cases eq_of_beq h1
      cases hf : fnOf M x with
      | none => rw [hf] at h4; cases h4
      | some fn =>
        obtain ⟨q1, q2, q3⟩ := fnOf_some C hf
        obtain ⟨f, fd', g1, g2, g3, g4⟩ := C.fns fn q1
        rw [q2] at g2
        exact Told.of (s_fn (gl_of C h2) g2 (ok_names h3).1) rfl rfl
    · cases h
  | .tup es, wsc, sc, W, X, ea, C, h => by
    unfold chkE at h
    split at h
    · simp only [Bool.and_eq_true] at h
      exact Told.of (s_tup (of_decide_eq_true h.1) ((chkEs_ok es C h.2).1 0)) rfl rfl
    · cases h
  | .lst d es, wsc, sc, W, X, ea, C, h => by
    unfold chkE at h
    split at h
    · simp only [Bool.and_eq_true] at h
      cases eq_of_beq h.1.1
      have q := (chkEs_ok es C h.2).1 0
      exact Told.ofF (s_lst (of_decide_eq_true h.1.2) q) rfl (f_lst (of_decide_eq_true h.1.2) q) rfl
    · cases h
  | .dct0 t, wsc, sc, W, X, ea, C, h => by
    unfold chkE at h
    split at h
    · exact Told.ofF s_dct0 rfl f_dct0 rfl
    · cases h
  | .dct1 k a, wsc, sc, W, X, ea, C, h => by
    unfold chkE at h
    split at h
    · rw [Bool.and_eq_true] at h
      have q1 := (chkE_ok k C h.1).1
      have q2 := (chkE_ok a C h.2).1
      exact Told.ofF (s_dct1 q1 q2) rfl (f_dct1 q1 q2) rfl
    · cases h
  | .get2 a k d, wsc, sc, W, X, ea, C, h => by
    unfold chkE at h
    split at h
    · rename_i o m apos x y cpos
      simp only [Bool.and_eq_true] at h
      obtain ⟨⟨⟨⟨⟨⟨⟨h1, h2⟩, h3⟩, h4⟩, h5⟩, h6⟩, h7⟩, h8⟩ := h
      cases eq_of_beq h1
      exact Told.of (s_get2 C.room (chkE_ok a C h6).1 (chkE_ok k C h7).1 (chkE_ok d C h8).1
        ⟨by cases o <;> first | (cases h2; done) | rfl, by rw [star_cons h4, star_cons h5] <;> rfl, h3, by rw [star_cons h4, star_cons h5] <;> rfl⟩) rfl rfl
    · cases h
  | .op o a b, wsc, sc, W, X, ea, C, h => by
    unfold chkE at h
    split at h
    · simp only [Bool.and_eq_true] at h
      cases eq_of_beq h.1.1
      exact op_told (chkE_ok a C h.1.2).1 (chkE_ok b C h.2).1
    · cases h
  | .neg a, wsc, sc, W, X, ea, C, h => by
    unfold chkE at h
    split at h
    · exact Told.ofT (s_neg (chkE_ok a C h).1) (fun o => by cases o) rfl rfl
    · cases h
  | .cmp o a b, wsc, sc, W, X, ea, C, h => by
    unfold chkE at h
    split at h
    · simp only [Bool.and_eq_true, Bool.not_eq_true'] at h
      obtain ⟨⟨⟨h1, h2⟩, h3⟩, h4⟩ := h
      cases eq_of_beq h1
      have qa := (chkE_ok a C h3).1
      have qb := (chkE_ok b C h4).1
      exact Told.ofT (s_cmp (cm_rule C.room o) h2 qa qb) (fun _ => t_cmp (cm_rule C.room o) h2 qa qb) rfl rfl
    · cases h
  | .is ng s a, wsc, sc, W, X, ea, C, h => by
    unfold chkE at h
    split at h
    · simp only [Bool.and_eq_true] at h
      obtain ⟨⟨h1, h2⟩, h3⟩ := h
      cases eq_of_beq h1
      have qa := (chkE_ok a C h3).1
      obtain ⟨r, r1, r2⟩ := is_rule (X := X) ng s
      exact Told.ofT (s_is r1 r2 (sg_rule h2) rfl qa) (fun _ => t_is r1 r2 (sg_rule h2) rfl qa) rfl rfl
    · cases h
  | .chain o1 o2 a b c, wsc, sc, W, X, ea, C, h => by
    unfold chkE at h
    split at h
    · simp only [Bool.and_eq_true, Bool.not_eq_true'] at h
      obtain ⟨⟨⟨⟨⟨h1, h2⟩, h3⟩, h4⟩, h5⟩, h6⟩ := h
      cases eq_of_beq h1
      cases eq_of_beq h2
      have qa := (chkE_ok a C h4).1
      have qb := (chkE_ok b C h5).1
      have qc := (chkE_ok c C h6).1
      exact Told.ofT (s_chain (cm_rule C.room o1) (cm_rule C.room o2) h3 qa qb qc) (fun _ => t_chain (cm_rule C.room o1) (cm_rule C.room o2) h3 qa qb qc) rfl rfl
    · cases h
  | .and a b, wsc, sc, W, X, ea, C, h => by
    unfold chkE at h
    split at h
    · rename_i x y pos
      simp only [Bool.and_eq_true] at h
      have qa := chkE_ok a C h.1
      have qb := chkE_ok b C h.2
      have hM := s_and (pos := pos) qa.1 (pe_one qb.1)
      refine ⟨hM, fun o => ?_, v_tM hM⟩
      have o' : (okT a && okT b) = true := o
      rw [Bool.and_eq_true] at o'
      have w := tail_and (pos := pos) (qa.2.1 o'.1).1 (pw_and1 (qb.2.1 o'.2).1)
      exact ⟨w.pt, fun _ => w⟩
    · rename_i x y z rest pos
      simp only [Bool.and_eq_true] at h
      have qa := chkE_ok a C h.1
      have qb := chkE_ok b C h.2
      have hM := s_and (pos := pos) qa.1 qb.1
      refine ⟨hM, fun o => ?_, v_tM hM⟩
      have o' : (okT a && okT b) = true := o
      rw [Bool.and_eq_true] at o'
      have w := tail_and (pos := pos) (qa.2.1 o'.1).1 ((qb.2.1 o'.2).2 rfl)
      exact ⟨w.pt, fun _ => w⟩
    · cases h
  | .or a b, wsc, sc, W, X, ea, C, h => by
    unfold chkE at h
    split at h
    · rename_i x y pos
      simp only [Bool.and_eq_true] at h
      have qa := chkE_ok a C h.1
      have qb := chkE_ok b C h.2
      have hM := s_or (pos := pos) qa.1 (pe_one qb.1)
      refine ⟨hM, fun o => ?_, v_tM hM⟩
      have o' : (okT a && okT b) = true := o
      rw [Bool.and_eq_true] at o'
      have w := tail_or (pos := pos) (qa.2.1 o'.1).1 (pw_or1 (qb.2.1 o'.2).1)
      exact ⟨w.pt, fun _ => w⟩
    · rename_i x y z rest pos
      simp only [Bool.and_eq_true] at h
      have qa := chkE_ok a C h.1
      have qb := chkE_ok b C h.2
      have hM := s_or (pos := pos) qa.1 qb.1
      refine ⟨hM, fun o => ?_, v_tM hM⟩
      have o' : (okT a && okT b) = true := o
      rw [Bool.and_eq_true] at o'
      have w := tail_or (pos := pos) (qa.2.1 o'.1).1 ((qb.2.1 o'.2).2 rfl)
      exact ⟨w.pt, fun _ => w⟩
    · cases h
  | .not a, wsc, sc, W, X, ea, C, h => by
    unfold chkE at h
    split at h
    · have qa := chkE_ok a C h
      exact Told.ofT (s_not qa.1) (fun o => t_not (qa.2.1 o).1) rfl rfl
    · cases h
  | .ife t a b, wsc, sc, W, X, ea, C, h => by
    unfold chkE at h
    split at h
    · simp only [Bool.and_eq_true] at h
      obtain ⟨⟨⟨h1, h2⟩, h3⟩, h4⟩ := h
      exact Told.ofT (s_ife ((chkE_ok t C h2).2.1 h1).1 (chkE_ok a C h3).1 (chkE_ok b C h4).1) (fun o => by cases o) rfl rfl
    · cases h
  | .call f as, wsc, sc, W, X, ea, C, h => by
    unfold chkE at h
    split at h
    · rename_i x p y ys pos
      simp only [Bool.and_eq_true] at h
      obtain ⟨⟨⟨⟨⟨h1, h2⟩, h3⟩, h4⟩, h5⟩, h6⟩ := h
      cases eq_of_beq h1
      cases hf : fnOf M f with
      | none => rw [hf] at h4; cases h4
      | some fn =>
        rw [hf] at h4
        simp only [Bool.and_eq_true, Bool.not_eq_true', Bool.or_eq_true] at h4
        obtain ⟨⟨⟨h7, h8⟩, h9⟩, h10⟩ := h4
        obtain ⟨q1, q2, q3⟩ := fnOf_some C hf
        obtain ⟨fa, fd', g1, g2, g3, g4⟩ := C.fns fn q1
        rw [q2] at g2
        have hF := f_call (pos := pos) (p := p) g1 q2 h7 C.room C.tk g2 g3 g4 (gl_of C h2) (ok_names h3).1 h5 (eq_of_beq h8) ((chkEs_ok as C h6).1 0)
        have hM := s_call hF
        refine ⟨hM, fun _ => ⟨t_plain rfl hM, fun z => by cases z⟩, ?_⟩
        by_cases hc : M.fr.contains f = true
        · have e : fd M.fr (.call f as) = 1 := by show (if M.fr.contains f = true then 1 else 0) = 1; rw [if_pos hc]
          rw [e]
          rcases h10 with z | z
          · rw [hc] at z; cases z
          · rw [eq_of_beq z] at hF
            exact v_tF hF
        · have e : fd M.fr (.call f as) = 0 := by show (if M.fr.contains f = true then 1 else 0) = 0; rw [if_neg hc]
          rw [e]
          exact v_tM hM
    · cases h
  | .callc f as, wsc, sc, W, X, ea, C, h => by
    unfold chkE at h
    split at h
    · simp only [Bool.and_eq_true] at h
      obtain ⟨⟨⟨⟨⟨⟨⟨⟨h1, h2⟩, h3⟩, h4⟩, h5⟩, h6⟩, h7⟩, h8⟩, h9⟩ := h
      cases eq_of_beq h1
      cases hf : fnOf M f with
      | none => rw [hf] at h4; cases h4
      | some fn =>
        rw [hf] at h4
        simp only [Bool.and_eq_true] at h4
        obtain ⟨⟨h10, h11⟩, h12⟩ := h4
        obtain ⟨q1, q2, q3⟩ := fnOf_some C hf
        obtain ⟨fa, fd', g1, g2, g3, g4⟩ := C.fns fn q1
        rw [q2] at g2
        cases hc : M.cs with
        | none => rw [hc] at h6; cases h6
        | some i =>
          rw [hc] at h6
          exact Told.of (s_callc g1 q2 q3 h10 (eq_of_beq h12) C.room C.tk g2 g3 g4 (gl_of C h2) (ok_names h3).1 h5 (eq_of_beq h11) (by rw [C.cs]; exact hc) (slot_of C h6) (vis_of C h7) (ok_names h8).1 (ok_names h8).2.1 ((chkEs_ok as C h9).1 0)) rfl rfl
    · cases h
  | .b1 f a, wsc, sc, W, X, ea, C, h => by
    unfold chkE at h
    split at h
    · rename_i x p y pos
      simp only [Bool.and_eq_true] at h
      obtain ⟨⟨h1, h2⟩, h3⟩ := h
      cases hb : b1N f with
      | none => rw [hb] at h1; cases h1
      | some z =>
        rw [hb] at h1
        obtain ⟨e1, e2, e3, e4, e5⟩ := blt_of C h1
        subst e1
        obtain ⟨fv, r1, r2, r3⟩ := b1_rule (X := X) C.calm C.room.units hb
        have hF := f_b1 (pos := pos) (p := p) r1 r2 r3 e2 e3 e5 e4 h2 (chkE_ok a C h3).1
        have hM := of_fresh hF fun _ _ _ _ _ e => hi_zero e
        refine ⟨hM, fun _ => ⟨t_plain rfl hM, fun z => by cases z⟩, ?_⟩
        rcases b1_fd (M := M) (f := f) (a := a) with e | e
        · rw [e]; exact v_tF hF
        · rw [e]; exact v_tM hM
    · cases h
  | .b2 f a b, wsc, sc, W, X, ea, C, h => by
    unfold chkE at h
    split at h
    · simp only [Bool.and_eq_true] at h
      obtain ⟨⟨⟨⟨h1, h2⟩, h3⟩, h4⟩, h5⟩ := h
      obtain ⟨e1, e2, e3, e4, e5⟩ := blt_of C h1
      subst e1
      have qa := (chkE_ok a C h4).1
      have qb := (chkE_ok b C h5).1
      cases f with
      | min => exact Told.of (s_b2 (id := "") (f := .min) (call_min2 C.calm) (fun x y z e => by cases x <;> cases y <;> first | (cases e; done) | (cases e; exact ⟨_, _, rfl, rfl, rfl⟩)) (by decide +kernel) e2 e3 e5 e4 h2 h3 qa qb) rfl rfl
      | max => exact Told.of (s_b2 (id := "") (f := .max) (call_max2 C.calm) (fun x y z e => by cases x <;> cases y <;> first | (cases e; done) | (cases e; exact ⟨_, _, rfl, rfl, rfl⟩)) (by decide +kernel) e2 e3 e5 e4 h2 h3 qa qb) rfl rfl
    · cases h
  | .isi t a, wsc, sc, W, X, ea, C, h => by
    unfold chkE at h
    split at h
    · simp only [Bool.and_eq_true] at h
      obtain ⟨⟨⟨h1, h2⟩, h3⟩, h4⟩ := h
      obtain ⟨e1, e2, e3, e4, e5⟩ := blt_of C h1
      obtain ⟨f1, f2, f3, f4, f5⟩ := blt_of C h2
      subst e1
      have hb : bootBuiltins (tyS t) = some (.type (tyN t)) := by cases t <;> decide +kernel
      rw [← f1] at hb
      exact Told.of (s_isi (pe_bltn f2 f3 hb rfl f5 f4) e2 e3 h3 rfl (chkE_ok a C h4).1) rfl rfl
    · cases h
  | .ix a b, wsc, sc, W, X, ea, C, h => by
    unfold chkE at h
    split at h
    · simp only [Bool.and_eq_true] at h
      obtain ⟨⟨h1, h2⟩, h3⟩ := h
      exact Told.of (s_ix C.room h1 (chkE_ok a C h2).1 (chkE_ok b C h3).1) rfl rfl
    · cases h
  | .sl a lw up es, wsc, sc, W, X, ea, C, h => by
    unfold chkE at h
    split at h
    · rename_i x l u p2 p1
      simp only [Bool.and_eq_true] at h
      obtain ⟨⟨⟨h1, h2⟩, h3⟩, h4⟩ := h
      have hl := eq_of_beq h1
      have hu := eq_of_beq h2
      subst hl hu
      have qs := chkEs_ok es C h4
      have key : match (generalizing := false) l.isSome, u.isSome, es with
          | false, false, [] => l = none ∧ u = none
          | true, false, [i] => (∃ e, l = some e ∧ PE X e (tM X.K X.mg F W (callF P n) i)) ∧ u = none
          | false, true, [i] => (∃ e, u = some e ∧ PE X e (tM X.K X.mg F W (callF P n) i)) ∧ l = none
          | true, true, [i, j] => (∃ e, l = some e ∧ PE X e (tM X.K X.mg F W (callF P n) i)) ∧ ∃ e, u = some e ∧ PE X e (tM X.K X.mg F W (callF P n) j)
          | _, _, _ => False := by
        cases l with
        | none =>
          cases u with
          | none =>
            match es, qs with
            | [], _ => exact ⟨rfl, rfl⟩
            | _ :: _, q => exact absurd q.2.1 (by simp)
          | some u =>
            match es, qs with
            | [], q => exact absurd q.2.1 (by simp)
            | [i], q => exact ⟨⟨u, rfl, q.2.2.1 0 _ _ rfl rfl⟩, rfl⟩
            | _ :: _ :: _, q => exact absurd q.2.1 (by simp)
        | some l =>
          cases u with
          | none =>
            match es, qs with
            | [], q => exact absurd q.2.1 (by simp)
            | [i], q => exact ⟨⟨l, rfl, q.2.2.1 0 _ _ rfl rfl⟩, rfl⟩
            | _ :: _ :: _, q => exact absurd q.2.1 (by simp)
          | some u =>
            match es, qs with
            | [], q => exact absurd q.2.1 (by simp)
            | [i], q => exact absurd q.2.1 (by simp)
            | [i, j], q => exact ⟨⟨l, rfl, q.2.2.1 0 _ _ rfl rfl⟩, u, rfl, q.2.2.1 1 _ _ rfl rfl⟩
            | _ :: _ :: _ :: _, q => exact absurd q.2.1 (by simp)
      have hF := f_sl (pos := p1) (p2 := p2) key (chkE_ok a C h3).1
      exact Told.ofF (s_sl hF) rfl hF rfl
    · cases h
  | .rev a es, wsc, sc, W, X, ea, C, h => by
    unfold chkE at h
    split at h
    · rename_i x l k p1 p2 p3 pos
      simp only [Bool.and_eq_true] at h
      obtain ⟨h1, h2⟩ := h
      have qa := (chkE_ok a C h1).1
      have qs := chkEs_ok es C h2
      cases l with
      | none =>
        match es, qs with
        | [], _ =>
          have hF := f_rev0 (pos := pos) (p1 := p1) (p2 := p2) (p3 := p3) (k := k) qa
          exact Told.ofF (of_fresh hF fun _ _ _ _ _ e => hi_zero e) rfl hF rfl
        | _ :: _, q => exact absurd q.2.1 (by simp)
      | some l =>
        match es, qs with
        | [], q => exact absurd q.2.1 (by simp)
        | [i], q =>
          have hF := f_rev1 (pos := pos) (p1 := p1) (p2 := p2) (p3 := p3) (k := k) qa (q.2.2.1 0 _ _ rfl rfl)
          exact Told.ofF (of_fresh hF fun _ _ _ _ _ e => hi_zero e) rfl hF rfl
        | _ :: _ :: _, q => exact absurd q.2.1 (by simp)
    · cases h
  | .comp own tg k srcs conds d elt, wsc, sc, W, X, ea, C, h => by
    unfold chkE at h
    split at h
    · rename_i y tgE it ifs scope pos
      simp only [Bool.and_eq_true] at h
      obtain ⟨⟨⟨⟨⟨⟨⟨⟨⟨h1, h2⟩, h3⟩, h4⟩, h5⟩, h6⟩, h7⟩, h8⟩, h9⟩, h10⟩ := h
      cases hi : iterArgs M sc tgE it k with
      | none => rw [hi] at h6; cases h6
      | some xs =>
        rw [hi] at h6
        simp only [Bool.and_eq_true] at h6
        have qs := chkEs_ok srcs C h6.2
        have hPI := iter_of (W := W) C (Nat.le_refl 1) hi h6.1 qs.2.1 (qs.1 1) fun x a e1 e2 => by subst e1 e2; exact qs.2.2.1 0 _ _ rfl rfl
        have hd : ∀ (s : Shared) (H : Hp) (c : Addr) (cl : List (Str × Addr)) (fp : List Addr), PE (X.blk s H scope (compEnvC scope cl c X.env) fp) y (tV X.K X.mg F W0 (callF P n) d elt) := fun s H c cl fp => by
          have q := chkE_ok elt (C.blk (s := s) (H := H) (scope := scope) (cl := cl) (c := c) (fp := fp)) h10
          rw [Bool.or_eq_true] at h9
          rcases h9 with z | z
          · rw [eq_of_beq z]; exact v_tM q.1
          · rw [← eq_of_beq z]; exact q.2.2
        have hcond : ∀ (s : Shared) (H : Hp) (c : Addr) (cl : List (Str × Addr)) (fp : List Addr), PTs (X.blk s H scope (compEnvC scope cl c X.env) fp) ifs (tB X.K X.mg F W0 fun env c => evc (callF P n) conds env c) := fun s H c cl fp => by
          have q := chkEs_ok conds (C.blk (s := s) (H := H) (scope := scope) (cl := cl) (c := c) (fp := fp)) h8
          match conds, ifs, h7, q with
          | [], [], _, _ => exact ⟨fun pins s σ H Q I ⟨env, c, Hf, O, g, hw⟩ => pts_nil.run pins s σ H Q I (hw true H Hf (Step.refl g.sub) g.cell rfl)⟩
          | [e], [x], h7, q => exact pts_one ((q.2.2.2 0 _ _ rfl rfl) h7)
          | [], _ :: _, _, q => exact absurd q.2.1 (by simp)
          | [_], [], _, q => exact absurd q.2.1 (by simp)
          | [_], _ :: _ :: _, _, q => exact absurd q.2.1 (by simp)
          | _ :: _ :: _, _, h7, _ => cases h7
        have hT : ∀ (s : Shared) (H : Hp) (c : Addr) (cl : List (Str × Addr)) (fp : List Addr), PG (X.blk s H scope (compEnvC scope cl c X.env) fp) tgE (gT X.K tg) := fun s H c cl fp => (chkT_ok tg (C.blk (s := s) (H := H) (scope := scope) (cl := cl) (c := c) (fp := fp)) h3).1
        have hF := f_comp (own := ownP M.N own) (k := k) (d := d) (pos := pos) C.calm (by rw [C.hN]; exact C.nd) hPI (blk_of C h1) hT hcond hd
          (fun i z => by rw [ownP_map]; exact List.contains_iff_mem.mp (List.all_eq_true.mp h4 i z))
          (fun i z => by rw [ownP_map]; rw [C.cs] at z; intro w; have h5' : (!own.contains i) = true := (by rw [z] at h5; exact h5); rw [List.contains_iff_mem.mpr w] at h5'; cases h5') (set_of h2)
        rw [ownP_map] at hF
        exact Told.ofF (of_fresh hF fun _ _ _ _ _ e => comp_zero e) rfl hF rfl
    · cases h
termination_by structural e => e
theorem chkEs_ok : ∀ (es : List E) {wsc : Option Scope} {sc : Scope} {W : WX} {X : Cx} {xs : List Expr}, Ctm P n M F wsc sc W X → chkEs M wsc sc es xs = true →
    (∀ m, PA X xs (tAs X.K X.mg F W (callF P n) m es)) ∧ xs.length = es.length ∧ (∀ (i : Nat) (x : Expr) (e : E), xs[i]? = some x → es[i]? = some e → PE X x (tM X.K X.mg F W (callF P n) e)) ∧
    (∀ (i : Nat) (x : Expr) (e : E), xs[i]? = some x → es[i]? = some e → okT e = true → PT X x (tT X.K X.mg F W (callF P n) e))
  | [], wsc, sc, W, X, xs, C, h => by
    unfold chkEs at h
    cases xs with
    | cons => cases h
    | nil => exact ⟨fun m => a_nil, rfl, fun i x e z => by simp at z, fun i x e z => by simp at z⟩
  | e :: es, wsc, sc, W, X, xs, C, h => by
    unfold chkEs at h
    cases xs with
    | nil => cases h
    | cons x xs =>
      simp only [Bool.and_eq_true] at h
      obtain ⟨⟨h1, h2⟩, h3⟩ := h
      have q1 := chkE_ok e C h2
      obtain ⟨q2, q3, q4, q5⟩ := chkEs_ok es C h3
      refine ⟨fun m => a_cons h1 q1.1 (q2 m), by rw [List.length_cons, List.length_cons, q3], fun i y e' z1 z2 => ?_, fun i y e' z1 z2 o => ?_⟩
      · cases i with
        | zero => cases z1; cases z2; exact q1.1
        | succ i => exact q4 i y e' z1 z2
      · cases i with
        | zero => cases z1; cases z2; exact (q1.2.1 o).1
        | succ i => exact q5 i y e' z1 z2 o
termination_by structural es => es
end
end
end PVL
end

section
set_option Elab.async false
set_option linter.all false
set_option maxRecDepth 100000
set_option maxHeartbeats 4000000
/-! PVL19: the check of statements. -/
namespace PVL
open PySem L2
def isStar : Expr → Bool
  | .Starred .. => true
  | _ => false
def swNames (sc : Scope) (ts : List Expr) : List Str := ts.filterMap fun
    | .Name id pos => if sc.names.lookup id == some .local && pos.line == (ts.head?.map (·.pos.line)).getD 0 then some id else none
    | _ => none
def swF (sc : Scope) (ts vs : List Expr) : Option (Option (List Str)) :=
  if (!(ts.length == 2 || ts.length == 3) || vs.length != ts.length) = true then some none
  else if (vs.any isStar) = true then some none
  else if ((swNames sc ts).length != ts.length || (swNames sc ts).eraseDups.length != (swNames sc ts).length) = true then some none
  else if vs.all (foldedForSure 8) = true then some none
  else if vs.all (constantsAlone 8) = true then none
  else some (some (swNames sc ts))
theorem sw_of {env : PySem.Env} {ts vs : List Expr} {k k2 : Nat} {p p2 : Pos} {r : Option (List Str)} (hk : env.scope.kind = .function) (h : swF env.scope ts vs = some r) : swappedStores [.Tuple ts k p] (.Tuple vs k2 p2) env = pure r := by
  have hb : (env.blockKind != .function) = false := by unfold Env.blockKind; rw [hk]; rfl
  have e1 : (ts.filterMap fun
    | .Name id pos => if (env.kindOf id == some NameKind.local && pos.line == (ts.head?.map (·.pos.line)).getD 0) = true then some id else none
    | _ => none) = swNames env.scope ts := rfl
  unfold swappedStores
  unfold swF at h
  simp only [hb, Bool.or_false]
  by_cases h1 : (!(ts.length == 2 || ts.length == 3) || vs.length != ts.length) = true
  · rw [if_pos h1] at h ⊢
    cases h; rfl
  · rw [if_neg h1] at h ⊢
    by_cases h2 : (vs.any isStar) = true
    · rw [if_pos h2] at h
      cases h
      show (if (vs.any isStar) = true then _ else _) = _
      rw [if_pos h2] <;> rfl
    · rw [if_neg h2] at h
      show (if (vs.any isStar) = true then _ else _) = _
      rw [if_neg h2]
      by_cases h3 : ((swNames env.scope ts).length != ts.length || (swNames env.scope ts).eraseDups.length != (swNames env.scope ts).length) = true
      · rw [if_pos h3] at h
        cases h
        show (if ((swNames env.scope ts).length != ts.length || (swNames env.scope ts).eraseDups.length != (swNames env.scope ts).length) = true then _ else _) = _
        rw [if_pos h3] <;> rfl
      · rw [if_neg h3] at h
        show (if ((swNames env.scope ts).length != ts.length || (swNames env.scope ts).eraseDups.length != (swNames env.scope ts).length) = true then _ else _) = _
        rw [if_neg h3]
        by_cases h4 : vs.all (foldedForSure 8) = true
        · rw [if_pos h4] at h
          cases h
          show (if vs.all (foldedForSure 8) = true then _ else _) = _
          rw [if_pos h4] <;> rfl
        · rw [if_neg h4] at h
          show (if vs.all (foldedForSure 8) = true then _ else _) = _
          rw [if_neg h4]
          by_cases h5 : vs.all (constantsAlone 8) = true
          · rw [if_pos h5] at h; cases h
          · rw [if_neg h5] at h
            cases h
            show (if vs.all (constantsAlone 8) = true then _ else _) = _
            rw [if_neg h5] <;> rfl
def notTup : Expr → Bool
  | .Tuple .. => false
  | _ => true
theorem sw_nt {env : PySem.Env} {ts : List Expr} {k : Nat} {p : Pos} {e : Expr} (h : notTup e = true) : swappedStores [.Tuple ts k p] e env = pure none := by
  cases e <;> first | (cases h; done) | rfl
def notComp : Expr → Bool
  | .ListComp .. | .SetComp .. | .DictComp .. => false
  | _ => true
theorem sw_nc {env : PySem.Env} {e : Expr} {t : Option Expr} {l : Nat} (h : notComp e = true) : swapsWith e t l env = pure false := by
  cases e <;> first | (cases h; done) | rfl
def notName : Expr → Bool
  | .Name .. => false
  | _ => true
theorem sw_nn {env : PySem.Env} {e t : Expr} {l : Nat} (h : notName t = true) : swapsWith e (some t) l env = pure false := by
  cases e <;> cases t <;> first | (cases h; done) | rfl
/-- does the comprehension's store swap -/
def swB (sc scope : Scope) (y : Str) (py pos : Pos) : Bool := sc.names.lookup y == some .local && py.line == pos.line && !(scope.names.any fun (n, k) => n == y && (k == .local || k == .cell))
theorem sw_comp {env : PySem.Env} {elt : Expr} {gs : List Comprehension} {scope : Scope} {pos py : Pos} {y : Str} {l : Nat} (hk : env.scope.kind = .function) : swapsWith (.ListComp elt gs scope pos) (some (.Name y py)) l env = pure (swB env.scope scope y py pos) := by
  have hb : (env.blockKind == .function) = true := by unfold Env.blockKind; rw [hk]; rfl
  unfold swapsWith swB
  simp only [hb, Expr.pos, Bool.true_and]
  rfl
def chkCt (M : Mo) (sc : Scope) (x : Nat) : List E → Expr → Bool
  | [], e => match e with
    | .Name y _ => M.N[x]? == some y && visB sc y && okName y
    | _ => false
  | [b], e => match e with
    | .Subscript (.Name y _) i _ => M.N[x]? == some y && visB sc y && okName y && notSlice i && chkE M none sc b i
    | _ => false
  | _, _ => false
mutual
def chkS (M : Mo) (cp : Bool) (retd : Nat) (sc : Scope) : S → Stmt → Bool
  | .set i own e, st => match st with
    | .Assign [.Name y _] ea _ => M.N[i]? == some y && locB none sc y && !(M.cs == some i) && chkE M none sc e ea
    | _ => false
  | .setc i e, st => match st with
    | .Assign [.Name y _] ea _ => M.N[i]? == some y && locB none sc y && M.cs == some i && !cp && chkE M none sc e ea && fd M.fr e == 1 && notComp ea
    | _ => false
  | .unp t e, st => match st with
    | .Assign [.Tuple es k p] ea _ => chkT M none sc t (.Tuple es k p) && chkE M none sc e ea && (match ea with | .Tuple vs _ _ => swF sc es vs == some none | _ => true)
    | _ => false
  | .par is es, st => match st with
    | .Assign [.Tuple [.Name x px, .Name y py] _ _] (.Tuple [a, b] _ _) _ => (match is with | [i, j] => M.N[i]? == some x && M.N[j]? == some y && i != j && !(M.cs == some i) && !(M.cs == some j) | _ => false) && sc.names.lookup x == some .local && sc.names.lookup y == some .local &&
        notStar a && notStar b && (swF sc [.Name x px, .Name y py] [a, b] == some (some [x, y])) && chkEs M none sc es [a, b]
    | .Assign [.Tuple [.Name x px, .Name y py, .Name z pz] _ _] (.Tuple [a, b, c] _ _) _ => (match is with | [i, j, l] => M.N[i]? == some x && M.N[j]? == some y && M.N[l]? == some z && i != j && i != l && j != l && !(M.cs == some i) && !(M.cs == some j) && !(M.cs == some l) | _ => false) &&
        sc.names.lookup x == some .local && sc.names.lookup y == some .local && sc.names.lookup z == some .local && notStar a && notStar b && notStar c && (swF sc [.Name x px, .Name y py, .Name z pz] [a, b, c] == some (some [x, y, z])) && chkEs M none sc es [a, b, c]
    | _ => false
  | .put x ps k e, st => match st with
    | .Assign [.Subscript o i _] ea _ => notSlice i && chkCt M sc x ps o && chkE M none sc k i && chkE M none sc e ea
    | _ => false
  | .put2 x ps k y qs l e, st => match st with
    | .Assign [.Subscript o i _, .Subscript o2 i2 _] ea _ => notSlice i && notSlice i2 && chkCt M sc x ps o && chkE M none sc k i && chkCt M sc y qs o2 && chkE M none sc l i2 && chkE M none sc e ea
    | _ => false
  | .tput x ps k y qs l e, st => match st with
    | .Assign [.Tuple [.Subscript o i p, .Subscript o2 i2 p2] kk pp] ea _ => notSlice i && notSlice i2 && chkCt M sc x ps o && chkE M none sc k i && chkCt M sc y qs o2 && chkE M none sc l i2 && chkE M none sc e ea &&
        (match ea with | .Tuple vs _ _ => swF sc [.Subscript o i p, .Subscript o2 i2 p2] vs == some none | _ => true)
    | _ => false
  | .cput k e, st => match st with
    | .Assign [.Subscript (.Name y _) (.Constant (.int j) _ _) _] ea _ => (match M.cs with | some i => M.N[i]? == some y | none => false) && visB sc y && okName y && j == k && chkE M none sc e ea
    | _ => false
  | .app x ps e, st => match st with
    | .Expr (.Call (.Attribute o m apos) [ea] [] cpos) _ => m == "append" && apos.endLine == cpos.line && notStar ea && chkCt M sc x ps o && chkE M none sc e ea
    | _ => false
  | .aug x o e, st => match st with
    | .AugAssign (.Name y _) p ea _ => p == opN o && (o == .add || o == .sub) && M.N[x]? == some y && locB none sc y && !(M.cs == some x) && chkE M none sc e ea
    | _ => false
  | .ext x e, st => match st with
    | .AugAssign (.Name y _) .Add ea _ => M.N[x]? == some y && locB none sc y && chkE M none sc e ea
    | _ => false
  | .ife c a b, st => match st with
    | .If ec as bs _ => okT c && chkE M none sc c ec && chkB M cp retd sc a as && chkB M cp retd sc b bs
    | _ => false
  | .for_ tg k srcs body, st => match st with
    | .For tgE it sts [] _ => notSet it && chkT M none sc tg tgE && (match iterArgs M sc tgE it k with | some xs => xs.all notStar && chkEs M none sc srcs xs | none => false) && chkB M cp retd sc body sts
    | _ => false
  | .whl n c body, st => match st with
    | .While ec sts [] _ => okT c && chkE M none sc c ec && chkB M cp retd sc body sts
    | _ => false
  | .ret e, st => match st with
    | .Return (some ea) _ => chkE M none sc e ea && (retd == 0 || fd M.fr e == retd)
    | _ => false
  | .raise, _ => true
  | .expr e, st => match st with
    | .Expr ea _ => notComp ea && chkE M none sc e ea
    | _ => false
  | .frz _, _ => false
  | .pass, st => match st with
    | .Pass _ => true
    | .Expr (.Constant (.str _) _ _) _ => true
    | _ => false
termination_by structural s => s
def chkB (M : Mo) (cp : Bool) (retd : Nat) (sc : Scope) : List S → List Stmt → Bool
  | [], sts => sts.isEmpty
  | s :: ss, sts => match s with
    | .frz _ => chkB M cp retd sc ss sts
    | s => match sts with
      | st :: sts => chkS M cp retd sc s st && chkB M cp retd sc ss sts
      | _ => false
termination_by structural ss => ss
end
end PVL
end

section
set_option Elab.async false
set_option linter.all false
set_option maxRecDepth 100000
set_option maxHeartbeats 4000000
/-! PVL20: the check of statements is sound. -/
namespace PVL
open PySem L2
section
variable {P : Prog} {n : Nat} {M : Mo} {F : Frame} {cp : Bool} {retd : Nat} {sc : Scope} {W : WX} {X : Cx}
/-- a def's body -/
structure Cts (P : Prog) (n : Nat) (M : Mo) (F : Frame) (cp : Bool) (sc : Scope) (W : WX) (X : Cx) : Prop extends Ctm P n M F none sc W X where
  kind : sc.kind = .function
  owns : PassesOwn (model X.prog X.w) X.A X.env X.xe
  ca : cp = false → F.ca = none
theorem nd_of (C : Cts P n M F cp sc W X) : X.N.Nodup := by rw [C.hN]; exact C.nd
theorem kind_of (C : Cts P n M F cp sc W X) : X.env.scope.kind = .function := by rw [C.hsc]; exact C.kind
theorem cs_ne (C : Cts P n M F cp sc W X) {i : Nat} (h : (!(M.cs == some i)) = true) : F.cs ≠ some i := fun e => by
  rw [C.cs] at e
  rw [e] at h
  simp at h
/-- what a comprehension's check holds -/
theorem comp_set (C : Cts P n M F cp sc W X) {own : List Nat} {tg : Tg} {k : ItK} {srcs conds : List E} {d : Nat} {elt : E} {y : Expr} {gs : List Comprehension} {scope : Scope} {pos : Pos} (h : chkE M none sc (.comp own tg k srcs conds d elt) (.ListComp y gs scope pos) = true)
    {i : Nat} {x : Str} {px spos : Pos} (hx : X.N[i]? = some x) (hw : swB sc scope x px pos = true) {dd : Nat} (hdd : dd = d + 1 ∨ dd = 0) :
    PS X (.Assign [.Name x px] (.ListComp y gs scope pos) spos) (tAsg (tV X.K X.mg F W (callF P n) dd (.comp own tg k srcs conds d elt)) (gName i)) := by
  have hsw : swapsWith (.ListComp y gs scope pos) (some (.Name x px)) spos.line X.env = pure true := by
    rw [sw_comp (kind_of C), C.hsc, hw]
  unfold swB at hw
  simp only [Bool.and_eq_true] at hw
  have hxl : X.env.scope.names.lookup x = some .local := by rw [C.hsc]; exact eq_of_beq hw.1.1
  unfold chkE at h
  split at h
  · rename_i y' tgE it ifs scope' pos' heq
    cases heq
    simp only [Bool.and_eq_true] at h
    obtain ⟨⟨⟨⟨⟨⟨⟨⟨⟨h1, h2⟩, h3⟩, h4⟩, h5⟩, h6⟩, h7⟩, h8⟩, h9⟩, h10⟩ := h
    cases hi : iterArgs M sc tgE it k with
    | none => rw [hi] at h6; cases h6
    | some xs =>
      rw [hi] at h6
      simp only [Bool.and_eq_true] at h6
      have C0 := C.toCtm
      have qs := chkEs_ok srcs C0 h6.2
      have hPI := iter_of (W := W) C0 (Nat.le_refl 1) hi h6.1 qs.2.1 (qs.1 1) fun x a e1 e2 => by subst e1 e2; exact qs.2.2.1 0 _ _ rfl rfl
      have hd : ∀ (s : Shared) (H : Hp) (c : Addr) (cl : List (Str × Addr)) (fp : List Addr), PE (X.blk s H scope (compEnvC scope cl c X.env) fp) y (tV X.K X.mg F W0 (callF P n) d elt) := fun s H c cl fp => by
        have q := chkE_ok elt (C0.blk (s := s) (H := H) (scope := scope) (cl := cl) (c := c) (fp := fp)) h10
        rw [Bool.or_eq_true] at h9
        rcases h9 with z | z
        · rw [eq_of_beq z]; exact v_tM q.1
        · rw [← eq_of_beq z]; exact q.2.2
      have hcond : ∀ (s : Shared) (H : Hp) (c : Addr) (cl : List (Str × Addr)) (fp : List Addr), PTs (X.blk s H scope (compEnvC scope cl c X.env) fp) ifs (tB X.K X.mg F W0 fun env c => evc (callF P n) conds env c) := fun s H c cl fp => by
        have q := chkEs_ok conds (C0.blk (s := s) (H := H) (scope := scope) (cl := cl) (c := c) (fp := fp)) h8
        match conds, ifs, h7, q with
        | [], [], _, _ => exact ⟨fun pins s σ H Q I ⟨env, c, Hf, O, g, hw⟩ => pts_nil.run pins s σ H Q I (hw true H Hf (Step.refl g.sub) g.cell rfl)⟩
        | [e], [x], h7, q => exact pts_one ((q.2.2.2 0 _ _ rfl rfl) h7)
        | [], _ :: _, _, q => exact absurd q.2.1 (by simp)
        | [_], [], _, q => exact absurd q.2.1 (by simp)
        | [_], _ :: _ :: _, _, q => exact absurd q.2.1 (by simp)
        | _ :: _ :: _, _, h7, _ => cases h7
      have hT : ∀ (s : Shared) (H : Hp) (c : Addr) (cl : List (Str × Addr)) (fp : List Addr), PG (X.blk s H scope (compEnvC scope cl c X.env) fp) tgE (gT X.K tg) := fun s H c cl fp => (chkT_ok tg (C0.blk (s := s) (H := H) (scope := scope) (cl := cl) (c := c) (fp := fp)) h3).1
      refine PS.imp (ps_setLc (own := ownP M.N own) C.calm (nd_of C) hx hxl hsw hPI (blk_of C0 h1) hT hcond hd (set_of h2)) fun D σ H q => ?_
      have q' : tV X.K X.mg F W (callF P n) dd (.comp own tg k srcs conds d elt) σ H (fun x H1 => gName i x σ H1 D.nx) := q
      have q2 : tV X.K X.mg F W (callF P n) (d + 1) (.comp own tg k srcs conds d elt) σ H (fun x H1 => gName i x σ H1 D.nx) := by
        rcases hdd with z | z
        · rw [← z]; exact q'
        · subst z; exact down_v' q'
      have q3 := tvf_comp q2
      have e0 := ownP_map M.N own
      refine comp_imp (own := ownP M.N own) (d := d) (fun i z => by rw [e0]; exact List.contains_iff_mem.mp (List.all_eq_true.mp h4 i z))
        (fun i z => by rw [e0]; rw [C.cs] at z; intro w; have h5' : (!own.contains i) = true := (by rw [z] at h5; exact h5); rw [List.contains_iff_mem.mpr w] at h5'; cases h5') σ H _ (by rw [e0]; exact q3)
  · cases h
theorem isComp_of {e : Expr} (h : notComp e = false) {wsc : Option Scope} {a : E} (hc : chkE M wsc sc a e = true) : ∃ own tg k srcs conds d elt y gs scope pos, a = .comp own tg k srcs conds d elt ∧ e = .ListComp y gs scope pos := by
  cases e <;> first | (cases h; done) | skip
  case ListComp y gs scope pos =>
    cases a <;> first | exact ⟨_, _, _, _, _, _, _, _, _, _, _, rfl, rfl⟩ | (unfold chkE at hc; simp only [] at hc; done) | skip
    all_goals (unfold chkE at hc; first | (cases hc; done) | (simp at hc; done))
  case SetComp =>
    cases a <;> (unfold chkE at hc; first | (cases hc; done) | (simp at hc; done))
  case DictComp =>
    cases a <;> (unfold chkE at hc; first | (cases hc; done) | (simp at hc; done))
/-- name = e -/
theorem set_ps (C : Cts P n M F cp sc W X) {a : E} {ea : Expr} {i : Nat} {x : Str} {px spos : Pos} {own : Bool} (hx : (M.N[i]? == some x) = true) (hl : locB none sc x = true) (h : chkE M none sc a ea = true) :
    PS X (.Assign [.Name x px] ea spos) (tAsg (tV X.K X.mg F W (callF P n) (if own then fd M.fr a else 0) a) (gName i)) := by
  obtain ⟨l1, l2⟩ := loc_of C.toCtm hl
  have q := chkE_ok a C.toCtm h
  have hv : PE X ea (tV X.K X.mg F W (callF P n) (if own then fd M.fr a else 0) a) := by
    cases own with
    | true => exact q.2.2
    | false => exact v_tM q.1
  cases hn : notComp ea with
  | true => exact ps_set (nd_of C) (slot_of C.toCtm hx) l1 hv (sw_nc hn) l2
  | false =>
    obtain ⟨ow, tg, k, srcs, conds, d, elt, y, gs, scope, pos, rfl, rfl⟩ := isComp_of hn h
    cases hw : swB sc scope x px pos with
    | true => exact comp_set C h (slot_of C.toCtm hx) hw (by cases own; exact .inr rfl; exact .inl rfl)
    | false => exact ps_set (nd_of C) (slot_of C.toCtm hx) l1 hv (by rw [sw_comp (kind_of C), C.hsc, hw]) l2
theorem ct_of (C : Cts P n M F cp sc W X) {x : Nat} {ps : List E} {o : Expr} (h : chkCt M sc x ps o = true) : PE X o (tCt X.K X.mg F W (callF P n) x ps) := by
  match ps, h with
  | [], h =>
    dsimp only [chkCt] at h
    split at h
    · simp only [Bool.and_eq_true] at h
      exact ct_nil (slot_of C.toCtm h.1.1) (vis_of C.toCtm h.1.2) (ok_names h.2).1 (ok_names h.2).2.1
    · cases h
  | [b], h =>
    dsimp only [chkCt] at h
    split at h
    · simp only [Bool.and_eq_true] at h
      obtain ⟨⟨⟨⟨h1, h2⟩, h3⟩, h4⟩, h5⟩ := h
      exact ct_one C.room h4 (slot_of C.toCtm h1) (vis_of C.toCtm h2) (ok_names h3).1 (ok_names h3).2.1 (chkE_ok b C.toCtm h5).1
    · cases h
  | _ :: _ :: _, h => cases h
theorem set2_of (C : Cts P n M F cp sc W X) : PSet X tSet2 := by
  intro pins s σ H o i v ov iv u Q I ro ri rv h
  rcases h with h | h
  · exact set_list pins s σ H o i v ov iv u Q I ro ri rv h
  · exact set_dict (hu_of C.room) pins s σ H o i v ov iv u Q I ro ri rv h
theorem sw_sole {env : PySem.Env} {e t : Expr} {l : Nat} (h : notName t = true) : swapsWithSole [t] e l env = pure false := sw_nn h
theorem sub_asg {env : PySem.Env} {o i : Expr} {pos : Pos} (h : notSlice i = true) : ∀ v, assign (.Subscript o i pos) env v = (do
      let ov ← holding [v] (eval o env)
      let iv ← holding [v, ov] (eval i env)
      standAt pos
      holding [v, ov, iv] (setItem ov iv v)
      release [v, ov, iv] []) := by
  intro v
  cases i <;> first | (cases h; done) | rfl
theorem v0_of (C : Cts P n M F cp sc W X) {a : E} {ea : Expr} (h : chkE M none sc a ea = true) : PE X ea (tV X.K X.mg F W (callF P n) 0 a) := v_tM (chkE_ok a C.toCtm h).1
theorem base_of {o : Expr} {env : PySem.Env} {x : Nat} {ps : List E} (h : chkCt M sc x ps o = true) : attributeBase o "append" env (eval o env) = eval o env := by
  match ps, h with
  | [], h =>
    dsimp only [chkCt] at h
    cases o <;> first | (cases h; done) | rfl
  | [b], h =>
    dsimp only [chkCt] at h
    cases o <;> first | (cases h; done) | rfl
  | _ :: _ :: _, h => cases h
set_option maxHeartbeats 8000000 in
mutual
theorem chkS_ok : ∀ (s : S) {st : Stmt}, Cts P n M F cp sc W X → chkS M cp retd sc s st = true → PS X st (tS X.K X.mg F W retd (callF P n) P.fr s)
  | .set i own e, st, C, h => by
    unfold chkS at h
    split at h
    · simp only [Bool.and_eq_true] at h
      obtain ⟨⟨⟨h1, h2⟩, h3⟩, h4⟩ := h
      exact r_set (by rw [← C.hfr]; exact set_ps C h1 h2 h4) (cs_ne C h3)
    · cases h
  | .setc i e, st, C, h => by
    unfold chkS at h
    split at h
    · rename_i y py ea pos
      simp only [Bool.and_eq_true, Bool.not_eq_true'] at h
      obtain ⟨⟨⟨⟨⟨⟨h1, h2⟩, h3⟩, h4⟩, h5⟩, h6⟩, h7⟩ := h
      have q := set_ps (own := true) (px := py) (spos := pos) C h1 h2 h5
      rw [if_pos rfl, eq_of_beq h6] at q
      exact r_setc q (by rw [C.cs]; exact eq_of_beq h3) (C.ca h4)
    · cases h
  | .unp t e, st, C, h => by
    unfold chkS at h
    split at h
    · rename_i es k p ea pos
      simp only [Bool.and_eq_true] at h
      obtain ⟨⟨h1, h2⟩, h3⟩ := h
      obtain ⟨g1, g2⟩ := chkT_ok t C.toCtm h1
      refine r_unp (ps_asg (v0_of C h2) g1 (sw_sole rfl) ?_ rfl) g2
      cases hn : notTup ea with
      | true => exact sw_nt hn
      | false =>
        cases ea <;> first | (cases hn; done) | skip
        exact sw_of (kind_of C) (by rw [C.hsc]; exact eq_of_beq h3)
    · cases h
  | .par is es, st, C, h => by
    unfold chkS at h
    split at h
    · rename_i x px y py k p a b k2 p2 pos
      simp only [Bool.and_eq_true] at h
      obtain ⟨⟨⟨⟨⟨⟨h1, h2⟩, h3⟩, h4⟩, h5⟩, h6⟩, h7⟩ := h
      match is, h1 with
      | [i, j], h1 =>
        simp only [Bool.and_eq_true] at h1
        obtain ⟨⟨⟨⟨g1, g2⟩, g3⟩, g4⟩, g5⟩ := h1
        have q := (chkEs_ok es C.toCtm h7).1 0
        exact r_par2 (cs_ne C g4) (cs_ne C g5) (ps_par C.calm (nd_of C) (slot_of C.toCtm g1) (slot_of C.toCtm g2) (by simpa using g3) (by rw [C.hsc]; exact eq_of_beq h2) (by rw [C.hsc]; exact eq_of_beq h3) q (sw_of (kind_of C) (by rw [C.hsc]; exact eq_of_beq h6)) (sw_sole rfl))
    · rename_i x px y py z pz k p a b c k2 p2 pos
      simp only [Bool.and_eq_true] at h
      obtain ⟨⟨⟨⟨⟨⟨⟨⟨h1, h2⟩, h3⟩, h4⟩, h5⟩, h5b⟩, h5c⟩, h6⟩, h7⟩ := h
      match is, h1 with
      | [i, j, l], h1 =>
        simp only [Bool.and_eq_true] at h1
        obtain ⟨⟨⟨⟨⟨⟨⟨⟨g1, g2⟩, g3⟩, g4⟩, g5⟩, g6⟩, g7⟩, g8⟩, g9⟩ := h1
        have q := (chkEs_ok es C.toCtm h7).1 0
        exact r_par3 (cs_ne C g7) (cs_ne C g8) (cs_ne C g9) (ps_par3 C.calm (nd_of C) (slot_of C.toCtm g1) (slot_of C.toCtm g2) (slot_of C.toCtm g3) (by simpa using g4) (by simpa using g5) (by simpa using g6) (by rw [C.hsc]; exact eq_of_beq h2) (by rw [C.hsc]; exact eq_of_beq h3) (by rw [C.hsc]; exact eq_of_beq h4) q (sw_of (kind_of C) (by rw [C.hsc]; exact eq_of_beq h6)) (sw_sole rfl))
    · cases h
  | .put x ps k e, st, C, h => by
    unfold chkS at h
    split at h
    · simp only [Bool.and_eq_true] at h
      obtain ⟨⟨⟨h0, h1⟩, h2⟩, h3⟩ := h
      exact r_put (ps_asg (v0_of C h3) (pg_sub (ct_of C h1) (chkE_ok k C.toCtm h2).1 (set2_of C) (sub_asg h0)) (sw_sole rfl) rfl rfl)
    · cases h
  | .put2 x ps k y qs l e, st, C, h => by
    unfold chkS at h
    split at h
    · simp only [Bool.and_eq_true] at h
      obtain ⟨⟨⟨⟨⟨⟨h0, h0'⟩, h1⟩, h2⟩, h3⟩, h4⟩, h5⟩ := h
      exact r_put2 (ps_asg2 (v0_of C h5) (pg_sub (ct_of C h1) (chkE_ok k C.toCtm h2).1 (set2_of C) (sub_asg h0)) (pg_sub (ct_of C h3) (chkE_ok l C.toCtm h4).1 (set2_of C) (sub_asg h0')) rfl rfl)
    · cases h
  | .tput x ps k y qs l e, st, C, h => by
    unfold chkS at h
    split at h
    · rename_i o i p o2 i2 p2 kk pp ea pos
      simp only [Bool.and_eq_true] at h
      obtain ⟨⟨⟨⟨⟨⟨⟨h0, h0'⟩, h1⟩, h2⟩, h3⟩, h4⟩, h5⟩, h6⟩ := h
      refine r_tput (ps_asg (v0_of C h5) (pg_tup C.calm (pgs_cons (pg_sub (ct_of C h1) (chkE_ok k C.toCtm h2).1 (set2_of C) (sub_asg h0)) (pgs_cons (pg_sub (ct_of C h3) (chkE_ok l C.toCtm h4).1 (set2_of C) (sub_asg h0')) pgs_nil))) (sw_sole rfl) ?_ rfl)
      cases hn : notTup ea with
      | true => exact sw_nt hn
      | false =>
        cases ea <;> first | (cases hn; done) | skip
        exact sw_of (kind_of C) (by rw [C.hsc]; exact eq_of_beq h6)
    · cases h
  | .cput k e, st, C, h => by
    unfold chkS at h
    split at h
    · simp only [Bool.and_eq_true] at h
      obtain ⟨⟨⟨⟨h1, h2⟩, h3⟩, h4⟩, h5⟩ := h
      cases eq_of_beq h4
      cases hc : M.cs with
      | none => rw [hc] at h1; cases h1
      | some i =>
        rw [hc] at h1
        exact r_cput (i := i) (by rw [C.cs]; exact hc) (ps_asg (v0_of C h5) (pg_sub (pe_var (slot_of C.toCtm h1) (vis_of C.toCtm h2) (ok_names h3).1 (ok_names h3).2.1) pe_int (set2_of C)) (sw_sole rfl) rfl rfl)
    · cases h
  | .app x ps e, st, C, h => by
    unfold chkS at h
    split at h
    · simp only [Bool.and_eq_true] at h
      obtain ⟨⟨⟨⟨h1, h2⟩, h3⟩, h4⟩, h5⟩ := h
      cases eq_of_beq h1
      exact r_app (ps_expr (pe_bm PySem.F.plainAttrs_list PySem.F.slot_list_append PySem.F.type_list_append mt_append (ct_of C h4) (pa_cons (chkE_ok e C.toCtm h5).1 pa_nil (star_cons h3)) (base_of h4) (by rw [star_cons h3] <;> rfl) h2 (star_cons h3) rfl) rfl)
    · cases h
  | .aug x o e, st, C, h => by
    unfold chkS at h
    split at h
    · simp only [Bool.and_eq_true] at h
      obtain ⟨⟨⟨⟨⟨h1, h2⟩, h3⟩, h4⟩, h5⟩, h6⟩ := h
      cases eq_of_beq h1
      obtain ⟨l1, l2⟩ := loc_of C.toCtm h4
      have q := (chkE_ok e C.toCtm h6).1
      cases o <;> first | (cases h2; done) | skip
      · exact r_augAdd (cs_ne C h5) (ps_aug (nd_of C) (slot_of C.toCtm h3) l1 q iop_addF l2)
      · exact r_augI (Cd := fun _ _ => True) (f := fun i j => i - j) (cs_ne C h5) (fun x y z e _ => by cases x <;> cases y <;> first | (cases e; done) | (cases e; exact ⟨_, _, rfl, rfl, trivial, rfl⟩)) (ps_aug (nd_of C) (slot_of C.toCtm h3) l1 q (fun pins s σ H x y v u Q I r1 r2 z => iop_sub pins s σ H x y v u Q I r1 r2 (by obtain ⟨i, j, a, b, _, c⟩ := z; exact ⟨i, j, a, b, c⟩)) l2)
    · cases h
  | .ext x e, st, C, h => by
    unfold chkS at h
    split at h
    · simp only [Bool.and_eq_true] at h
      obtain ⟨⟨h1, h2⟩, h3⟩ := h
      obtain ⟨l1, l2⟩ := loc_of C.toCtm h2
      exact r_ext (ps_aug (nd_of C) (slot_of C.toCtm h1) l1 (chkE_ok e C.toCtm h3).1 iop_ext l2)
    · cases h
  | .ife c a b, st, C, h => by
    unfold chkS at h
    split at h
    · simp only [Bool.and_eq_true] at h
      obtain ⟨⟨⟨h1, h2⟩, h3⟩, h4⟩ := h
      exact r_if ((chkE_ok c C.toCtm h2).2.1 h1).1 (chkB_ok a C h3) (chkB_ok b C h4)
    · cases h
  | .for_ tg k srcs body, st, C, h => by
    unfold chkS at h
    split at h
    · rename_i tgE it sts pos
      simp only [Bool.and_eq_true] at h
      obtain ⟨⟨⟨h1, h2⟩, h3⟩, h4⟩ := h
      cases hi : iterArgs M sc tgE it k with
      | none => rw [hi] at h3; cases h3
      | some xs =>
        rw [hi] at h3
        simp only [Bool.and_eq_true] at h3
        have qs := chkEs_ok srcs C.toCtm h3.2
        have hPI := iter_of (W := W) C.toCtm (Nat.zero_le 1) hi h3.1 qs.2.1 (qs.1 0) fun x a e1 e2 => by subst e1 e2; exact qs.2.2.1 0 _ _ rfl rfl
        obtain ⟨g1, g2⟩ := chkT_ok tg C.toCtm h2
        exact r_for C.owns C.calm hPI g1 (chkB_ok body C h4) g2 (set_of h1)
    · cases h
  | .whl m c body, st, C, h => by
    unfold chkS at h
    split at h
    · simp only [Bool.and_eq_true] at h
      obtain ⟨⟨h1, h2⟩, h3⟩ := h
      exact r_whl C.owns ((chkE_ok c C.toCtm h2).2.1 h1).1 (chkB_ok body C h3)
    · cases h
  | .ret e, st, C, h => by
    unfold chkS at h
    split at h
    · simp only [Bool.and_eq_true, Bool.or_eq_true] at h
      obtain ⟨h1, h2⟩ := h
      have q := chkE_ok e C.toCtm h1
      rcases h2 with z | z
      · rw [eq_of_beq z]; exact r_ret (v_tM q.1)
      · rw [← eq_of_beq z]; exact r_ret q.2.2
    · cases h
  | .raise, st, C, h => r_raise
  | .expr e, st, C, h => by
    unfold chkS at h
    split at h
    · simp only [Bool.and_eq_true] at h
      exact r_expr (v0_of C h.2) (sw_nc h.1)
    · cases h
  | .frz i, st, C, h => by
    unfold chkS at h
    cases h
  | .pass, st, C, h => by
    unfold chkS at h
    split at h
    · exact r_pass
    · exact r_doc
    · cases h
termination_by structural s => s
theorem chkB_ok : ∀ (ss : List S) {sts : List Stmt}, Cts P n M F cp sc W X → chkB M cp retd sc ss sts = true → PSs X sts (tBk X.K X.mg F W retd (callF P n) P.fr ss)
  | [], sts, C, h => by
    unfold chkB at h
    cases sts with
    | nil => exact r_nil
    | cons => cases h
  | s :: ss, sts, C, h => by
    unfold chkB at h
    by_cases hf : ∃ i, s = .frz i
    · obtain ⟨i, rfl⟩ := hf
      exact r_frz (chkB_ok ss C h)
    · cases sts with
      | nil => cases s <;> first | (cases h; done) | exact absurd ⟨_, rfl⟩ hf
      | cons st sts =>
        have h' : (chkS M cp retd sc s st && chkB M cp retd sc ss sts) = true := by
          cases s <;> first | exact h | exact absurd ⟨_, rfl⟩ hf
        rw [Bool.and_eq_true] at h'
        exact r_cons (chkS_ok s C h'.1) (chkB_ok ss C h'.2)
termination_by structural ss => ss
end
end
end PVL
end

section
set_option Elab.async false
set_option linter.all false
set_option maxRecDepth 100000
set_option maxHeartbeats 4000000
/-! PVL21: defs keep their promises. -/
namespace PVL
open PySem L2
def scB (N : List Str) (np : Nat) (sc : Scope) : Bool :=
  sc.kind == .function && !sc.isCoroutine && !sc.isGenerator && decide N.Nodup && decide (np ≤ N.length) && (N.take np).all (fun x => sc.names.lookup x == some .local || sc.names.lookup x == some .cell) && sc.names.all fun y => !(y.2 == .free)
theorem sc_of {N : List Str} {np : Nat} {sc : Scope} (h : scB N np sc = true) : FnScope N (N.take np) sc ∧ np ≤ N.length := by
  unfold scB at h
  simp only [Bool.and_eq_true, Bool.not_eq_true', decide_eq_true_eq] at h
  obtain ⟨⟨⟨⟨⟨⟨h1, h2⟩, h3⟩, h4⟩, h5⟩, h6⟩, h7⟩ := h
  refine ⟨⟨eq_of_beq h1, h2, h3, h4, by rw [List.length_take, Nat.min_eq_left h5], fun x hx => ?_, fun y hy e => ?_⟩, h5⟩
  · have q := List.all_eq_true.mp h6 x hx
    rw [Bool.or_eq_true] at q
    rcases q with q | q
    · exact .inl (eq_of_beq q)
    · exact .inr (eq_of_beq q)
  · have q := List.all_eq_true.mp h7 y hy
    rw [e] at q
    cases q
/-- what is checked of a def -/
def chkD (P : Prog) (gis : List (Str × Int)) (free : List Str) (fn : Fn) (scope : Scope) (body : List Stmt) : Bool :=
  scB fn.N fn.np scope && chkB ⟨fn.N, fn.cell, P.fns, gis, free, P.fr⟩ fn.cellPar fn.retd scope fn.body body && (!fn.cellPar || fn.cell == some 0)
theorem get_start {N : List Str} {vs : List V} {i : Nat} {v : V} (h : vs[i]? = some v) : (L2.start N vs)[i]? = some (some v) := by
  unfold L2.start
  have hl : i < (vs.map some).length := by rw [List.length_map]; exact (List.getElem?_eq_some_iff.mp h).1
  rw [List.getElem?_append_left hl, List.getElem?_map, h] <;> rfl
section
variable {Pr : Program} {w : World} {K : PySem.W.Frag} {mg : Str → Option Value} {base : Heap} {P : Prog} {gis : List (Str × Int)} {free : List Str} {n : Nat}
/-- a frame's beginning -/
theorem begin_good {fn : Fn} {args : List PV} {c : PV} {H Hf : Hp} {ca : Option Addr} {rest vs : List V} (sub : Ex Hf H) (r : RepL K mg Hf args rest) (lv : vs.length = fn.np) (hnp : fn.np ≤ fn.N.length) (hc0 : fn.cellPar = true → fn.cell = some 0)
    (hc : (fn.cellPar = false ∧ ca = none ∧ vs = rest ∧ c = .non) ∨ (fn.cellPar = true ∧ ∃ a, ca = some a ∧ vs = .ref a :: rest ∧ CellAt K mg H Hf a c)) :
    ∃ O, Good K mg ⟨H, Hf, ca, fn.cell⟩ (fn.start args) c (L2.start fn.N vs) H Hf O := by
  have lr := r.length
  have hlen : (L2.start fn.N vs).length = fn.N.length := by
    unfold L2.start
    rw [List.length_append, List.length_map, List.length_replicate]
    omega
  rcases hc with ⟨h1, rfl, rfl, rfl⟩ | ⟨h1, a, rfl, rfl, hfa, xs, us, rfl, hz, ha, ru⟩
  · have es : fn.start args = args.map (fun v => some ⟨0, v⟩) ++ List.replicate (fn.N.length - fn.np) none := by unfold Fn.start; rw [h1]; simp
    refine ⟨fun _ => none, ⟨?_, fun i s e => ?_, .inl rfl, sub, (fun a t e => by cases e), fun a o e _ => e, Ex.refl _, fun a o e => .inl e, (fun a t e => by cases e), (fun a e => by cases e), (fun a e => by cases e), (fun a o e => by cases e)⟩⟩
    · rw [hlen, es, List.length_append, List.length_map, List.length_replicate]
      omega
    · rw [es] at e
      by_cases hi : i < args.length
      · rw [List.getElem?_append_left (by rw [List.length_map]; exact hi), List.getElem?_map, List.getElem?_eq_getElem hi] at e
        cases e
        obtain ⟨v, e1, e2⟩ := r.get (List.getElem?_eq_getElem hi)
        exact ⟨v, get_start e1, e2⟩
      · rw [List.getElem?_append_right (by rw [List.length_map]; omega), List.getElem?_replicate] at e
        split at e <;> cases e
  · have es : fn.start args = none :: (args.map (fun v => some ⟨0, v⟩) ++ List.replicate (fn.N.length - fn.np) none) := by unfold Fn.start; rw [h1]; simp
    rw [List.length_cons] at lv
    have la : lab (fun b => if b = a then some ((none : Option Nat), ([] : List Nat)) else none) none a = some [] := by apply lab_mk; simp
    refine ⟨fun b => if b = a then some (none, []) else none, ⟨?_, fun i s e => ?_, ?_, sub, fun b t e => ?_, fun b o e _ => e, Ex.refl _, fun b o e => .inl e, fun b t e => ?_, fun b e => ?_, fun b e => ?_, fun b o e h => ?_⟩⟩
    · rw [hlen, es, List.length_cons, List.length_append, List.length_map, List.length_replicate]
      omega
    · rw [es] at e
      cases i with
      | zero => cases e
      | succ i =>
        rw [List.getElem?_cons_succ] at e
        by_cases hi : i < args.length
        · rw [List.getElem?_append_left (by rw [List.length_map]; exact hi), List.getElem?_map, List.getElem?_eq_getElem hi] at e
          cases e
          obtain ⟨v, e1, e2⟩ := r.get (List.getElem?_eq_getElem hi)
          exact ⟨v, get_start (by simpa using e1), e2⟩
        · rw [List.getElem?_append_right (by rw [List.length_map]; omega), List.getElem?_replicate] at e
          split at e <;> cases e
    · exact .inr ⟨0, .ref a, hc0 h1, get_start rfl, hz, a, us, rfl, la, ha, ru.length, fun i x u e1 e2 => by
        obtain ⟨u', g1, g2⟩ := ru.get e1
        rw [e2] at g1
        cases g1
        exact g2⟩
    · by_cases q : b = a
      · subst q; exact ⟨hfa, _, ha, rfl⟩
      · simp [q] at e
    · by_cases q : b = a
      · subst q
        simp at e
        subst e
        exact .inr ⟨rfl, rfl⟩
      · simp [q] at e
    · cases e
      exact ⟨[], by simp⟩
    · cases e
      exact ⟨0, hc0 h1, get_start rfl⟩
    · cases e
      have h' := ha.symm.trans h
      cases h'
      rfl
/-- one def, one level up -/
theorem def_ok {fn : Fn} {qual : Str} {params : Arguments} {body : List Stmt} {scope : Scope} {x : Str} {f : Addr} {fd : FuncData} (FD : FunD K x qual params body scope [] [] f fd) (hP : P.fn fn.name = some fn) (h : chkD P gis free fn scope body = true)
    (hgis : ∀ p ∈ gis, ∃ t, mg p.1 = some (.int p.2 t)) (hfree : ∀ x ∈ free, mg x = none)
    (hfns : ∀ fn ∈ P.fns, ∃ f fd, FnOk Pr w K mg base (L2.CX Pr w) n f fd (fn.N.take fn.np) (spOf K mg P n fn) ∧ mg fn.name = some (.ref f) ∧ PySem.W.keepIn K (.ref f) = true ∧ Binds K fd (fn.N.take fn.np) []) :
    FnOk Pr w K mg base (L2.CX Pr w) (n + 1) f fd (fn.N.take fn.np) (spOf K mg P (n + 1) fn) := by
  unfold chkD at h
  simp only [Bool.and_eq_true, Bool.or_eq_true] at h
  obtain ⟨⟨h1, h2⟩, h3⟩ := h
  obtain ⟨S, hnp⟩ := sc_of h1
  have hc0 : fn.cellPar = true → fn.cell = some 0 := fun z => by
    rcases h3 with q | q
    · rw [z] at q; cases q
    · exact eq_of_beq q
  refine FD.ok S (fun vs H Q E z => ?_) (fun cdv A outer s H vs Q E hr z => ?_)
  · obtain ⟨args, c, Hf, ca, rest, _, _, lv, _⟩ := z
    rw [List.length_take, Nat.min_eq_left hnp]
    exact lv
  · obtain ⟨args, c, Hf, ca, rest, sub, r, lv, hc, hres⟩ := z
    obtain ⟨O, g⟩ := begin_good (K := K) (mg := mg) sub r lv hnp hc0 hc
    refine ⟨tBk K mg ⟨H, Hf, ca, fn.cell⟩ (fun cls d _ H' => E cls d H') fn.retd (callF P n) P.fr fn.body, ?_, fn.start args, c, Hf, O, g, ?_⟩
    · refine chkB_ok (X := cxOf (L2.CX Pr w) Pr w K mg base fn.N qual scope f cdv A outer s H E) (M := ⟨fn.N, fn.cell, P.fns, gis, free, P.fr⟩) (sc := scope) fn.body ?_ h2
      have hca : fn.cellPar = false → ca = none := fun z => by
        rcases hc with ⟨_, q, _⟩ | ⟨q, _⟩
        · exact q
        · rw [z] at q; cases q
      exact { hN := rfl, nd := S.nd, hsc := rfl, calm := rfl, room := hr, tk := takes_of rfl rfl rfl rfl, cs := rfl, fn := fun _ _ => rfl, gis := hgis, free := hfree, hP := rfl, hfr := rfl, fns := hfns, kind := S.kind, owns := passes_of rfl, ca := hca }
    · have e : callF P (n + 1) fn.name args c = fn.run P.fr (callF P n) args c := by
        show (match P.fn fn.name with
          | none => Res.stuck
          | some f => f.run P.fr (callF P n) args c) = _
        rw [hP]
      rw [e] at hres
      unfold Fn.run at hres
      by_cases hcond : args.length + (if fn.cellPar = true then 1 else 0) = fn.np ∧ (if fn.cellPar = true then isLst c else isNon c) = true
      case neg => rw [if_neg hcond] at hres; exact hres.elim
      rw [if_pos hcond] at hres
      have cell : ∀ {c' : PV} {H' Hf' : Hp}, ¬ (fn.cellPar && !isLst c') = true → Leave K mg ⟨H, Hf, ca, fn.cell⟩ c' H' Hf' → ∀ a, ca = some a → CellAt K mg H' Hf' a c' := fun {c' H' Hf'} hq l a ea => by
        refine l.2 a ea ?_
        have hcp : fn.cellPar = true := by
          rcases hc with ⟨_, q, _⟩ | ⟨q, _⟩
          · rw [q] at ea; cases ea
          · exact q
        rw [hcp] at hq
        simpa using hq
      cases q : evB (callF P n) P.fr fn.body (fn.start args) c with
      | stuck => rw [q] at hres; exact hres.elim
      | nx env c' =>
        rw [q] at hres
        by_cases hq : (fn.cellPar && !isLst c') = true
        · simp only [hq, if_true] at hres
        · simp only [if_neg hq] at hres
          intro σ H' Hf' O' ex g'
          exact hres .non H' Hf' g'.leave.1 (cell hq g'.leave) ⟨fun _ => none, (fun _ _ e => by cases e), Own.flat (x := .non) (show Rep K mg Hf' .non .non from rfl) (by simp)⟩
      | ret v c' =>
        rw [q] at hres
        by_cases hq : (fn.cellPar && !isLst c') = true
        · simp only [hq, if_true] at hres
        · simp only [if_neg hq] at hres
          exact fun u H' Hf' l fr => hres u H' Hf' l.1 (cell hq l) fr
      | exc x c' =>
        rw [q] at hres
        by_cases hq : (fn.cellPar && !isLst c') = true
        · simp only [hq, if_true] at hres
        · simp only [if_neg hq] at hres
          exact fun cls d σ H' Hf' l er => hres cls d H' Hf' l.1 (cell hq l) er
/-- all defs, at every level -/
theorem prog_ok (hP : ∀ fn ∈ P.fns, P.fn fn.name = some fn)
    (hd : ∀ fn ∈ P.fns, ∃ (x qual : Str) (params : Arguments) (body : List Stmt) (scope : Scope) (f : Addr) (fd : FuncData), FunD K x qual params body scope [] [] f fd ∧ chkD P gis free fn scope body = true ∧ mg fn.name = some (.ref f) ∧ Binds K fd (fn.N.take fn.np) [])
    (hgis : ∀ p ∈ gis, ∃ t, mg p.1 = some (.int p.2 t)) (hfree : ∀ x ∈ free, mg x = none) :
    ∀ n, ∀ fn ∈ P.fns, ∃ f fd, FnOk Pr w K mg base (L2.CX Pr w) n f fd (fn.N.take fn.np) (spOf K mg P n fn) ∧ mg fn.name = some (.ref f) ∧ PySem.W.keepIn K (.ref f) = true ∧ Binds K fd (fn.N.take fn.np) []
  | 0, fn, hfn => by
    obtain ⟨x, qual, params, body, scope, f, fd, FD, h1, h2, h3⟩ := hd fn hfn
    have no : ∀ {vs H Q E}, ¬ spOf K mg P 0 fn vs H Q E := fun {vs H Q E} ⟨_, _, _, _, _, _, _, _, _, z⟩ => z
    exact ⟨f, fd, ⟨fun vs H Q E z => (no z).elim, fun A outer s H args us vs Q E _ _ _ _ z => (no z).elim⟩, h2, FD.kp, h3⟩
  | n + 1, fn, hfn => by
    obtain ⟨x, qual, params, body, scope, f, fd, FD, h1, h2, h3⟩ := hd fn hfn
    exact ⟨f, fd, def_ok FD (hP fn hfn) h1 hgis hfree (prog_ok hP hd hgis hfree n), h2, FD.kp, h3⟩
end
end PVL
end

section
set_option Elab.async false
set_option linter.all false
set_option maxRecDepth 100000
set_option maxHeartbeats 4000000
/-! PVL22: plain parameters; a law's ending. -/
namespace PVL
open PySem L2
def plainA (p : Arguments) (ps : List Str) : Bool := p.posonlyargs.isEmpty && p.args.map (·.arg) == ps && p.vararg.isNone && p.kwonlyargs.isEmpty && p.kwarg.isNone
theorem zip_look : ∀ {ps : List Str} {us : List Value} {n : Str}, us.length = ps.length → n ∈ ps → ((ps.zip us).lookup n).isSome = true
  | [], _, _, _, h => by cases h
  | p :: ps, [], _, h, _ => by cases h
  | p :: ps, u :: us, n, hl, h => by
    rw [List.zip_cons_cons, List.lookup_cons]
    cases q : n == p with
    | true => rfl
    | false =>
      rcases List.mem_cons.mp h with e | h
      · subst e; simp at q
      · exact zip_look (by simpa using hl) h
theorem zip_same : ∀ {ps qs : List Str} {us ws : List Value}, ps.Nodup → us.length = ps.length → (∀ n ∈ ps, n ∉ qs) → ws.length = qs.length → (ps.filterMap fun n => ((qs.zip ws ++ ps.zip us).lookup n).map (n, ·)) = ps.zip us
  | [], _, _, _, _, _, _, _ => rfl
  | p :: ps, qs, [], _, _, h, _, _ => by cases h
  | p :: ps, qs, u :: us, ws, nd, hl, hq, hw => by
    rw [List.nodup_cons] at nd
    have e0 : (qs.zip ws ++ (p :: ps).zip (u :: us)).lookup p = some u := by
      rw [List.lookup_append]
      have : (qs.zip ws).lookup p = none := by
        rw [List.lookup_eq_none_iff]
        intro x hx
        have := List.of_mem_zip hx
        have hp := hq p (List.mem_cons_self ..)
        simp only [bne_iff_ne, ne_eq]
        intro e
        have e' : p = x.1 := by simpa using e
        exact hp (e' ▸ this.1)
      rw [this, List.zip_cons_cons, List.lookup_cons]
      simp
    rw [List.filterMap_cons, e0]
    simp only [Option.map_some]
    have ih := zip_same (ps := ps) (qs := qs ++ [p]) (us := us) (ws := ws ++ [u]) nd.2 (by simpa using hl) (fun n hn => by
      rw [List.mem_append]
      rintro (z | z)
      · exact hq n (List.mem_cons_of_mem _ hn) z
      · have : n = p := by simpa using z
        subst this
        exact nd.1 hn) (by simp [hw])
    rw [List.zip_append hw.symm] at ih
    rw [List.append_assoc] at ih
    rw [List.zip_cons_cons]
    exact congrArg _ ih
theorem plain_binds {p : Arguments} {ps : List Str} (h : plainA p ps = true) (nd : ps.Nodup) {x qual : Str} {body : List Stmt} {scope : Scope} (kV doc pm : Value) (an : Option Addr) (cdv ct : Value) (us : List Value) (hl : us.length = ps.length) :
    bindArgs (PySem.W.fnOf x qual p body scope .none kV doc pm an cdv ct) ⟨us, []⟩ = pure (ps.zip us) := by
  obtain ⟨po, as, va, ko, kd, ka, df⟩ := p
  unfold plainA at h
  simp only [Bool.and_eq_true, List.isEmpty_iff, Option.isNone_iff_eq_none] at h
  obtain ⟨⟨⟨⟨rfl, h2⟩, rfl⟩, rfl⟩, rfl⟩ := h
  have e2 := eq_of_beq h2
  subst e2
  have hz := zip_same (ps := as.map (·.arg)) (qs := []) (us := us) (ws := []) nd hl (fun _ _ => by simp) rfl
  have hm : (as.map (·.arg)).filter (fun n => (((as.map (·.arg)).zip us).lookup n).isNone) = [] := by
    rw [List.filter_eq_nil_iff]
    intro n hn
    have := zip_look hl hn
    simp only [Option.isNone_iff_eq_none]
    intro e
    rw [e] at this
    cases this
  have hs : seqItems? (.none : Value) = pure none := rfl
  unfold bindArgs
  simp only [PySem.W.fnOf, List.nil_append, List.map_nil, List.append_nil, List.forIn_nil, pure_bind, hs]
  simp only [Option.getD_none, hl, Nat.lt_irrefl]
  simp only [decide_false, Bool.false_and, Bool.false_eq_true, if_false, List.drop_nil, List.length_nil, Nat.sub_zero, List.take_length, List.drop_length, hm, List.isEmpty_nil, Bool.not_true, List.zip_nil_right, List.forIn_nil, pure_bind]
  simp only [List.zip_nil_left, List.nil_append] at hz
  rw [hz]

/-- the facts asked of a head -/
def fas (P : Prog) (gis : List (Str × Int)) (free : List Str) : List He.Fa := P.fns.map (fun f => He.Fa.glo f.name) ++ (gis.map (fun p => He.Fa.int p.1 p.2) ++ free.map fun x => He.Fa.free x)
/-- every def of the text against its form -/
def okD (P : Prog) (gis : List (Str × Int)) (free : List Str) : List Fn → List He.DefD → Bool
  | [], ds => ds.isEmpty
  | fn :: fs, ds => match ds with
    | d :: ds => d.at_ == (fn.name, none) && d.dfl.isEmpty && d.kwd.isEmpty && plainA d.params (fn.N.take fn.np) && chkD P gis free fn d.scope d.body && okD P gis free fs ds
    | _ => false
theorem okD_at {P : Prog} {gis : List (Str × Int)} {free : List Str} : ∀ {fs : List Fn} {ds : List He.DefD}, okD P gis free fs ds = true → ∀ fn ∈ fs, ∃ (i : Nat) (d : He.DefD), ds[i]? = some d ∧ d.at_ = (fn.name, none) ∧ d.dfl = [] ∧ d.kwd = [] ∧ plainA d.params (fn.N.take fn.np) = true ∧ chkD P gis free fn d.scope d.body = true
  | [], _, _, _, h => by cases h
  | f :: fs, ds, h, fn, hfn => by
    unfold okD at h
    cases ds with
    | nil => cases h
    | cons d ds =>
      simp only [Bool.and_eq_true, List.isEmpty_iff] at h
      obtain ⟨⟨⟨⟨⟨h1, h2⟩, h3⟩, h4⟩, h5⟩, h6⟩ := h
      rcases List.mem_cons.mp hfn with e | e
      · subst e
        exact ⟨0, d, rfl, eq_of_beq h1, h2, h3, h4, h5⟩
      · obtain ⟨i, d', g1, g2⟩ := okD_at h6 fn e
        exact ⟨i + 1, d', by simpa using g1, g2⟩
theorem fn_of_names {P : Prog} (nd : (P.fns.map (·.name)).Nodup) : ∀ fn ∈ P.fns, P.fn fn.name = some fn := by
  have key : ∀ (fs : List Fn), (fs.map (·.name)).Nodup → ∀ fn ∈ fs, (fs.find? fun f => decide (f.name = fn.name)) = some fn := by
    intro fs
    induction fs with
    | nil => intro _ fn h; cases h
    | cons f fs ih =>
      intro nd fn h
      rw [List.map_cons, List.nodup_cons] at nd
      rw [List.find?_cons]
      rcases List.mem_cons.mp h with e | e
      · subst e; simp
      · have : f.name ≠ fn.name := fun z => nd.1 (by rw [z]; exact List.mem_map.mpr ⟨fn, e, rfl⟩)
        simp only [this, decide_false]
        exact ih nd.2 fn e
  exact key P.fns nd
section
variable {Pr : Program} {w : World} {K : PySem.W.Frag} {mg : Str → Option Value} {base h : Heap} {P : Prog} {gis : List (Str × Int)} {free : List Str} {n : Nat} {ds : List He.DefD} {more : List He.Fa}
theorem FnOk.never {k : Nat} {f : Addr} {fd : FuncData} {ps : List Str} {sp : Sp} (F : FnOk Pr w K mg base (L2.CX Pr w) k f fd ps sp) : FnOk Pr w K mg base L2.CX0 k f fd ps (fun vs H Q _ => sp vs H Q L2.E0) where
  len := fun vs H Q E z => F.len vs H Q L2.E0 z
  run := fun A outer s H args us vs Q E hr he hb hv z => codeAny_mono (F.run A outer s H args us vs Q L2.E0 hr he hb hv z) fun r s' q => by
    cases r with
    | ok x => cases x <;> exact q
    | error e =>
      obtain ⟨_, _, _, _, _, _, _, _, _, _, _, _, q⟩ := q
      exact q.elim
theorem defs_of (X : K.In h) (G : h.Ns mainGlobals mg) (c : He.SaysD (fas P gis free ++ more) ds K) (ok : okD P gis free P.fns ds = true) :
    (∀ fn ∈ P.fns, ∃ (x qual : Str) (params : Arguments) (body : List Stmt) (scope : Scope) (f : Addr) (fd : FuncData), FunD K x qual params body scope [] [] f fd ∧ chkD P gis free fn scope body = true ∧ mg fn.name = some (.ref f) ∧ Binds K fd (fn.N.take fn.np) [] ∧
      ∀ (s : Shared) (us : List Value), us.length = (fn.N.take fn.np).length → BindsTo s fd ⟨us, []⟩ ((fn.N.take fn.np).zip us)) ∧ (∀ p ∈ gis, ∃ t, mg p.1 = some (.int p.2 t)) ∧ ∀ x ∈ free, mg x = none := by
  have fact : ∀ f ∈ fas P gis free, f.ok K = true := fun f hf => by
    obtain ⟨i, hi⟩ := List.mem_iff_getElem?.mp (List.mem_append_left more hf)
    exact c.fact i hi
  refine ⟨fun fn hfn => ?_, fun p hp => ?_, fun x hx => ?_⟩
  · obtain ⟨i, d, hd, h1, h2, h3, h4, h5⟩ := okD_at ok fn hfn
    obtain ⟨fd, FD⟩ := c.def_ i hd
    have e1 : d.dvs K = [] := by unfold He.DefD.dvs; rw [h2]; rfl
    have e2 : d.kws K = [] := by unfold He.DefD.kws; rw [h3]; rfl
    rw [e1, e2, h1] at FD
    have nd : (fn.N.take fn.np).Nodup := by
      unfold chkD at h5
      simp only [Bool.and_eq_true] at h5
      exact (sc_of h5.1.1).1.nd.sublist (List.take_sublist _ _)
    have g := He.glo_ok X G (fact (.glo fn.name) (by unfold fas; exact List.mem_append_left _ (List.mem_map.mpr ⟨fn, hfn, rfl⟩)))
    exact ⟨d.name, d.qual, d.params, d.body, d.scope, _, fd, FD, h5, g, FD.bindsN (fun kV doc pm an cdv ct us hl => plain_binds h4 nd kV doc pm an cdv ct us hl), fun s us hl => FD.bindsA (fun kV doc pm an cdv ct us hl => plain_binds h4 nd kV doc pm an cdv ct us hl) s us hl⟩
  · exact He.int_ok X G (fact (.int p.1 p.2) (by unfold fas; exact List.mem_append_right _ (List.mem_append_left _ (List.mem_map.mpr ⟨p, hp, rfl⟩))))
  · exact He.free_ok X G (fact (.free x) (by unfold fas; exact List.mem_append_right _ (List.mem_append_right _ (List.mem_map.mpr ⟨x, hx, rfl⟩))))
/-- the promise of a law: true at every script -/
theorem law_sp {fn : Fn} {ns : List Int} {H : Hp} {a : Addr} {E : XK} {c' : PV} (hr : callF P n fn.name [.scr (ns.map PV.int)] .non = .ok (.bl true) c') (hnp : fn.np = 1) (hcp : fn.cellPar = false) (hl : ns.length ≤ 63) (S : SqL K H a (ns.map V.int)) :
    spOf K mg P n fn [.ref a] H (fun v _ => v = .bl true) E := by
  have ri : ∀ (ns : List Int), RepL K mg H (ns.map PV.int) (ns.map V.int) := fun ns => by
    induction ns with
    | nil => rfl
    | cons i ns ih => exact ⟨_, _, rfl, rfl, ih⟩
  refine ⟨[.scr (ns.map .int)], .non, H, none, [.ref a], Ex.refl _, ⟨_, [], rfl, ⟨by rw [List.length_map]; unfold SZ; omega, a, _, rfl, S, ri ns⟩, rfl⟩, hnp.symm, .inl ⟨hcp, rfl, rfl, rfl⟩, ?_⟩
  rw [hr]
  intro v H' Hf' _ _ ⟨L, _, o⟩
  cases hd : fn.retd with
  | zero => rw [hd] at o; exact o
  | succ d => rw [hd] at o; exact o
/-- a law's def over the layer -/
theorem law_F (nd : (P.fns.map (·.name)).Nodup) (ok : okD P gis free P.fns ds = true) {lf : Fn} (hlf : lf ∈ P.fns) (hnp : lf.np = 1) (hcp : lf.cellPar = false) (hN : lf.N.take 1 = [("script" : Str)]) (plain : ∀ ns : List Int, ns.length ≤ 63 → ∃ c', callF P (n + 1) lf.name [.scr (ns.map PV.int)] .non = .ok (.bl true) c')
    {fa : Addr} (X : K.In h) (G : h.Ns mainGlobals mg) (c : He.SaysD (fas P gis free ++ more) ds K) (hmg : mg lf.name = some (.ref fa)) :
    ∃ (fd : FuncData) (sp : Sp), (∀ (s : Shared) (u : Value), BindsTo s fd ⟨[u], []⟩ [(("script" : Str), u)]) ∧ (∀ (H : Hp) (a : Addr) (ns : List Int), ns.length ≤ 63 → Only H → SqL K H a (ns.map V.int) → sp [.ref a] H (fun v _ => v = .bl true) fun _ _ _ => False) ∧
      ∀ base : Heap, K.In base → base.Ns mainGlobals mg → FnOk Pr w K mg base L2.CX0 (n + 1) fa fd [("script" : Str)] sp := by
  obtain ⟨hd, hg, hf⟩ := defs_of X G c ok
  obtain ⟨x, qual, params, body, scope, f, fd, FD, h1, h2, h3, h4⟩ := hd lf hlf
  rw [hmg] at h2
  cases h2
  have hP := fn_of_names nd
  have e : lf.N.take lf.np = [("script" : Str)] := by rw [hnp]; exact hN
  refine ⟨fd, fun vs H Q _ => spOf K mg P (n + 1) lf vs H Q L2.E0, fun s u => ?_, fun H a ns hl _ S => ?_, fun base _ _ => ?_⟩
  · have q := h4 s [u] (by rw [e] <;> rfl)
    rw [e] at q
    exact q
  · obtain ⟨c', hc'⟩ := plain ns hl
    exact law_sp hc' hnp hcp hl S
  · have q := def_ok (Pr := Pr) (w := w) (base := base) (n := n) FD (hP lf hlf) h1 hg hf (prog_ok hP (fun fn hfn => by
      obtain ⟨x, qual, params, body, scope, f, fd, g1, g2, g3, g4, _⟩ := hd fn hfn
      exact ⟨x, qual, params, body, scope, f, fd, g1, g2, g3, g4⟩) hg hf n)
    rw [e] at q
    exact FnOk.never q
end
end PVL
end

section
set_option Elab.async false
set_option linter.all false
set_option maxRecDepth 100000
set_option maxHeartbeats 4000000
/-! PVM1: reading the evaluator in plain Lean. -/
namespace PVL
open PySem (Str)
theorem callF_at {P : Prog} {x : Str} {f : Fn} (h : P.fn x = some f) (n : Nat) (args : List PV) (c : PV) : callF P (n + 1) x args c = f.run P.fr (callF P n) args c := by
  show (match P.fn x with
    | none => Res.stuck
    | some f => f.run P.fr (callF P n) args c) = _
  rw [h]
/-- the cell: two ints -/
def cup (a b : Int) : PV := .lst [.int a, .int b]
def IsCup (c : PV) : Prop := ∃ a b, c = cup a b
def f__law_roll (p q m r k t : Int) : Fn := ⟨"_law_roll", ["cup", "many", "found", "deep"], 2, true, (some 0), 0, [
    .ife (.cmp .gt (.cel 0) (.con (.int 0))) [.set 2 false (.op .mod (.b1 .int (.cel 0)) (.var 1)), .cput 0 (.op .fdiv (.cel 0) (.var 1)), .ret (.var 2)] [],
    .cput 1 (.op .mod (.b1 .int (.op .add (.op .mul (.cel 1) (.con (.int p))) (.con (.int q)))) (.con (.int m))),
    .set 3 false (.op .mod (.b1 .int (.op .mul (.cel 1) (.op .add (.cel 1) (.con (.int r))))) (.con (.int k))),
    .ret (.op .mod (.b1 .int (.op .fdiv (.var 3) (.con (.int t)))) (.var 1))]⟩
/-- the draw of a law, whatever its numbers -/
def RollAt (P : Prog) : Prop := ∃ p q m r k t : Int, (small p && decide (0 < m) && small m && decide (0 < k) && decide (0 < t) && decide (t < 1073741824)) = true ∧ P.fn "_law_roll" = some (f__law_roll p q m r k t)
theorem small_of {i : Int} (h : -18446744073709551616 < i) (h2 : i < 18446744073709551616) : small i = true := by
  unfold small B64
  rw [Bool.and_eq_true, decide_eq_true_eq, decide_eq_true_eq]
  exact ⟨h, h2⟩
theorem roll_ok {P : Prog} (h : RollAt P) (n : Nat) {m : Int} (h1 : 0 < m) (h2 : m < 1073741824) (a b : Int) : ∃ r a' b', callF P (n + 1) "_law_roll" [.int m] (cup a b) = .ok (.int r) (cup a' b') ∧ 0 ≤ r ∧ r < m := by
  obtain ⟨p, q, mm, r, k, t, hc, h⟩ := h
  simp only [Bool.and_eq_true, decide_eq_true_eq] at hc
  obtain ⟨⟨⟨⟨⟨s1, m0⟩, m1⟩, k0⟩, t0⟩, t1⟩ := hc
  rw [callF_at h]
  by_cases ha : 0 < a
  · refine ⟨a % m, a / m, b, ?_, Int.emod_nonneg _ (by omega), Int.emod_lt_of_pos _ h1⟩
    simp [Fn.run, f__law_roll, Fn.start, evB, evS, ev, em, lo, hi, celAt, cup, atI, ixN, cmp, tst, truth, Res.of, Res.bind, Res.out, Out.bind, PVL.b1, op2, putV, int?, isLst, ha, h1, h2]
  · obtain ⟨x, hx⟩ : ∃ x, x = (b * p + q) % mm := ⟨_, rfl⟩
    have x0 : 0 ≤ x := by rw [hx]; exact Int.emod_nonneg _ (by omega)
    have x1 : x < mm := by rw [hx]; exact Int.emod_lt_of_pos _ m0
    have m2 : mm < 18446744073709551616 := by
      unfold small B64 at m1
      rw [Bool.and_eq_true, decide_eq_true_eq, decide_eq_true_eq] at m1
      exact m1.2
    have s2 : small x = true := small_of (by omega) (by omega)
    refine ⟨x * (x + r) % k / t % m, a, x, ?_, Int.emod_nonneg _ (by omega), Int.emod_lt_of_pos _ h1⟩
    simp [Fn.run, f__law_roll, Fn.start, evB, evS, ev, em, lo, hi, celAt, cup, atI, ixN, cmp, tst, truth, Res.of, Res.bind, Res.out, Out.bind, PVL.b1, op2, putV, int?, isLst, ha, h1, h2, s1, s2, m0, k0, t0, t1, ← hx]
theorem abs_eq (i : Int) : (if i < 0 then -i else i) = i.natAbs := by omega
def f__law_cup (d p q m e : Int) : Fn := ⟨"_law_cup", ["script", "cell"], 1, false, none, 1, [
    .set 1 false (.b1 .abs (.ix (.op .add (.b1 .list (.var 0)) (.lst 0 [.con (.int 0)])) (.con (.int 0)))),
    .ret (.lst 0 [.ife (.cmp .ge (.var 1) (.op .pow (.con (.int 10)) (.con (.int 18)))) (.op .fdiv (.var 1) (.con (.int d))) (.con (.int 0)), .op .add (.op .mod (.b1 .int (.op .add (.op .mul (.var 1) (.con (.int p))) (.con (.int q)))) (.con (.int m))) (.con (.int e))])]⟩
/-- the cell of a law, whatever its numbers -/
def CupAt (P : Prog) : Prop := ∃ d p q m e : Int, (decide (0 < d) && decide (d < 1073741824) && small p && decide (0 < m)) = true ∧ P.fn "_law_cup" = some (f__law_cup d p q m e)
theorem cup_ok {P : Prog} (h : CupAt P) (n : Nat) (ns : List Int) (hl : ns.length ≤ 63) : ∃ a b, callF P (n + 1) "_law_cup" [.scr (ns.map PV.int)] .non = .ok (cup a b) .non := by
  obtain ⟨d, p, q, m, g, hc, h⟩ := h
  simp only [Bool.and_eq_true, decide_eq_true_eq] at hc
  obtain ⟨⟨⟨d0, d1⟩, s1⟩, m0⟩ := hc
  rw [callF_at h]
  have hz : ns.length + 1 ≤ SZ := by unfold SZ; omega
  have key : ∀ (i : Int) (r : List PV), (∃ j, ns.map PV.int ++ [PV.int 0] = j) → ns.map PV.int ++ [PV.int 0] = .int i :: r → ∃ a b, (f__law_cup d p q m g).run P.fr (callF P n) [.scr (ns.map PV.int)] .non = .ok (cup a b) .non := by
    intro i r _ e
    obtain ⟨k, hk⟩ : ∃ k, k = (if i < 0 then -i else i) := ⟨_, rfl⟩
    by_cases hc : (1000000000000000000 : Int) ≤ k
    · refine ⟨k / d, (k * p + q) % m + g, ?_⟩
      simp [Fn.run, f__law_cup, Fn.start, evB, evS, ev, em, evs, lo, hi, cup, atI, ixN, cmp, tst, truth, Res.of, Res.bind, Res.out, Out.bind, PVL.b1, op2, int?, isLst, isNon, item, seq?, downD, hz, e, s1, hc, d0, d1, m0, ← hk]
    · refine ⟨0, (k * p + q) % m + g, ?_⟩
      simp [Fn.run, f__law_cup, Fn.start, evB, evS, ev, em, evs, lo, hi, cup, atI, ixN, cmp, tst, truth, Res.of, Res.bind, Res.out, Out.bind, PVL.b1, op2, int?, isLst, isNon, item, seq?, downD, hz, e, s1, hc, d0, d1, m0, ← hk]
  cases ns with
  | nil => exact key 0 [] ⟨_, rfl⟩ rfl
  | cons i ns => exact key i _ ⟨_, rfl⟩ rfl
end PVL
end

section
set_option Elab.async false
set_option linter.all false
set_option maxRecDepth 100000
set_option maxHeartbeats 4000000
/-! PVM2: comprehensions and loops in plain Lean; figures. -/
namespace PVL
open PySem (Str)
/-- a comprehension without the cell -/
theorem compL_pure {own : List Nat} {tg : Tg} {env : Env} {cond : Env → PV → Res Bool} {elt : Env → PV → Res PV} {c : PV} (p : PV → Bool) (g : PV → PV) : ∀ (xs : List PV), (∀ x ∈ xs, ∃ e1, tg.put x (wipe env own) = some e1 ∧ cond e1 c = .ok (p x) c ∧ (p x = true → elt e1 c = .ok (g x) c)) →
    compL own tg env cond elt xs c = .ok ((xs.filter p).map g) c
  | [], _ => rfl
  | x :: xs, h => by
    obtain ⟨e1, h1, h2, h3⟩ := h x List.mem_cons_self
    have ih := compL_pure p g xs fun y hy => h y (List.mem_cons_of_mem _ hy)
    unfold compL
    rw [h1]
    simp only []
    rw [h2]
    cases hp : p x with
    | true =>
      simp only []
      rw [h3 hp]
      simp only []
      rw [ih]
      simp [List.filter_cons, hp]
    | false =>
      simp only []
      rw [ih]
      simp [List.filter_cons, hp]
inductive All2 {α β : Type} (R : α → β → Prop) : List α → List β → Prop
  | nil : All2 R [] []
  | cons {x y xs ys} : R x y → All2 R xs ys → All2 R (x :: xs) (y :: ys)
theorem All2.length {α β : Type} {R : α → β → Prop} {xs : List α} {ys : List β} (h : All2 R xs ys) : xs.length = ys.length := by
  induction h with
  | nil => rfl
  | cons _ _ ih => rw [List.length_cons, List.length_cons, ih]
theorem All2.right {α β : Type} {R : α → β → Prop} {S : β → Prop} {xs : List α} {ys : List β} (h : All2 R xs ys) (hs : ∀ x y, x ∈ xs → R x y → S y) : ∀ y ∈ ys, S y := by
  induction h with
  | nil => intro y hy; cases hy
  | cons r _ ih =>
    intro y hy
    rcases List.mem_cons.mp hy with e | e
    · subst e; exact hs _ _ List.mem_cons_self r
    · exact ih (fun x y hx => hs x y (List.mem_cons_of_mem _ hx)) y e
/-- a comprehension whose elements are drawn; I: what stays true of the cell -/
theorem compL_draw {own : List Nat} {tg : Tg} {env : Env} {cond : Env → PV → Res Bool} {elt : Env → PV → Res PV} {I : PV → Prop} {R : PV → PV → Prop} : ∀ (xs : List PV) (c : PV), (∀ x ∈ xs, ∀ c, I c → ∃ e1 y c2, tg.put x (wipe env own) = some e1 ∧ cond e1 c = .ok true c ∧ elt e1 c = .ok y c2 ∧ I c2 ∧ R x y) → I c →
    ∃ ys c', compL own tg env cond elt xs c = .ok ys c' ∧ I c' ∧ All2 R xs ys
  | [], c, _, hc => ⟨[], c, rfl, hc, .nil⟩
  | x :: xs, c, h, hc => by
    obtain ⟨e1, y, c2, h1, h2, h3, h4, h5⟩ := h x List.mem_cons_self c hc
    obtain ⟨ys, c', i1, i2, i3⟩ := compL_draw xs c2 (fun y hy => h y (List.mem_cons_of_mem _ hy)) h4
    refine ⟨y :: ys, c', ?_, i2, .cons h5 i3⟩
    unfold compL
    rw [h1]
    simp only []
    rw [h2]
    simp only []
    rw [h3]
    simp only []
    rw [i1]
/-- a loop that goes to its end -/
theorem forL_inv {tg : Tg} {f : Env → PV → Out} {I : Nat → Env → PV → Prop} : ∀ (xs : List PV) (k : Nat) (env : Env) (c : PV), (∀ i x env c, xs[i]? = some x → I (k + i) env c → ∃ env1 env2 c2, tg.put x env = some env1 ∧ f env1 c = .nx env2 c2 ∧ I (k + i + 1) env2 c2) → I k env c →
    ∃ env' c', forL tg f xs env c = .nx env' c' ∧ I (k + xs.length) env' c'
  | [], k, env, c, _, h0 => ⟨env, c, rfl, h0⟩
  | x :: xs, k, env, c, h, h0 => by
    obtain ⟨env1, env2, c2, h1, h2, h3⟩ := h 0 x env c rfl h0
    obtain ⟨env', c', i1, i2⟩ := forL_inv (I := I) xs (k + 1) env2 c2 (fun i y e d hy hI => by
      have := h (i + 1) y e d (by simpa using hy) (by rw [show k + (i + 1) = k + 1 + i by omega]; exact hI)
      rw [show k + (i + 1) + 1 = k + 1 + i + 1 by omega] at this
      exact this) h3
    refine ⟨env', c', ?_, by rw [List.length_cons, show k + (xs.length + 1) = k + 1 + xs.length by omega]; exact i2⟩
    unfold forL
    rw [h1]
    simp only []
    rw [h2, obind_nx, i1]
theorem rng_get {lo : Int} {n i : Nat} {x : PV} (h : (rng lo n)[i]? = some x) : i < n ∧ x = .int (lo + i) := by
  unfold rng at h
  rw [List.getElem?_map] at h
  cases q : (List.range n)[i]? with
  | none => rw [q] at h; cases h
  | some j =>
    rw [q] at h
    obtain ⟨hl, e⟩ := List.getElem?_eq_some_iff.mp q
    simp at e hl
    subst e
    simp at h
    exact ⟨hl, h.symm⟩
theorem rng_mem {lo : Int} {n : Nat} {x : PV} (h : x ∈ rng lo n) : ∃ i : Nat, i < n ∧ x = .int (lo + i) := by
  obtain ⟨i, hi⟩ := List.mem_iff_getElem?.mp h
  obtain ⟨h1, h2⟩ := rng_get hi
  exact ⟨i, h1, h2⟩
section
variable {call : CallF} {own : List Nat} {tg : Tg} {k : ItK} {srcs conds : List E} {d : Nat} {elt a : E} {env : Env} {c c' : PV} {ss xs : List PV}
theorem comp_pure (p : PV → Bool) (g : PV → PV) (hs : evs call 1 srcs env c = .ok ss c) (hi : items k ss = some xs)
    (h : ∀ x ∈ xs, ∃ e1, tg.put x (wipe env own) = some e1 ∧ evc call conds e1 c = .ok (p x) c ∧ (p x = true → ev call elt e1 c = .ok (g x) c)) : em call (.comp own tg k srcs conds d elt) env c = .ok (0, .lst ((xs.filter p).map g)) c := by
  have hc := compL_pure (own := own) (tg := tg) (env := env) (cond := fun env c => evc call conds env c) (elt := fun env c => lo 0 (em call elt env c)) (c := c) p g xs h
  show ((evs call 1 srcs env c).bind fun ss c => match items k ss with
      | none => .stuck
      | some xs => (match compL own tg env (fun env c => evc call conds env c) (fun env c => lo 0 (em call elt env c)) xs c with
        | .ok ys c => .ok (0, PV.lst ys) c
        | _ => .stuck)) = _
  rw [hs]
  simp only [bind_ok]
  rw [hi]
  simp only []
  rw [hc]
theorem comp_map (g : PV → PV) (hs : evs call 1 srcs env c = .ok ss c) (hi : items k ss = some xs)
    (h : ∀ x ∈ xs, ∃ e1, tg.put x (wipe env own) = some e1 ∧ ev call elt e1 c = .ok (g x) c) : em call (.comp own tg k srcs [] d elt) env c = .ok (0, .lst (xs.map g)) c := by
  have q := comp_pure (call := call) (own := own) (tg := tg) (k := k) (srcs := srcs) (conds := []) (d := d) (elt := elt) (env := env) (c := c) (fun _ => true) g hs hi fun x hx => by
    obtain ⟨e1, h1, h2⟩ := h x hx
    exact ⟨e1, h1, rfl, fun _ => h2⟩
  rw [q]
  congr 2
  have : xs.filter (fun _ => true) = xs := List.filter_eq_self.mpr fun _ _ => rfl
  rw [this]
theorem comp_draw {I : PV → Prop} {R : PV → PV → Prop} (hs : evs call 1 srcs env c = .ok ss c') (hi : items k ss = some xs) (h0 : I c')
    (h : ∀ x ∈ xs, ∀ c, I c → ∃ e1 y c2, tg.put x (wipe env own) = some e1 ∧ ev call elt e1 c = .ok y c2 ∧ I c2 ∧ R x y) : ∃ ys c2, em call (.comp own tg k srcs [] d elt) env c = .ok (0, .lst ys) c2 ∧ I c2 ∧ All2 R xs ys := by
  obtain ⟨ys, c2, h1, h2, h3⟩ := compL_draw (own := own) (tg := tg) (env := env) (cond := fun env c => evc call [] env c) (elt := fun env c => lo 0 (em call elt env c)) (I := I) (R := R) xs c' (fun x hx c hc => by
    obtain ⟨e1, y, c2, g1, g2, g3, g4⟩ := h x hx c hc
    exact ⟨e1, y, c2, g1, rfl, g2, g3, g4⟩) h0
  refine ⟨ys, c2, ?_, h2, h3⟩
  show ((evs call 1 srcs env c).bind fun ss c => match items k ss with
      | none => .stuck
      | some xs => (match compL own tg env (fun env c => evc call [] env c) (fun env c => lo 0 (em call elt env c)) xs c with
        | .ok ys c => .ok (0, PV.lst ys) c
        | _ => .stuck)) = _
  rw [hs]
  simp only [bind_ok]
  rw [hi]
  simp only []
  rw [h1]
theorem em_b1 {f : B1} {x y : PV} {n : Nat} (h : em call a env c = .ok (n, x) c') (hn : n ≤ 1) (hb : PVL.b1 f x = some y) : em call (.b1 f a) env c = .ok (0, y) c' := by
  show hi ((lo 1 (em call a env c)).bind fun x c => .of (PVL.b1 f x) c) = _
  rw [h, lo_ok, if_pos hn, bind_ok, hb] <;> rfl
theorem ev_of {x : PV} (h : em call a env c = .ok (0, x) c') : ev call a env c = .ok x c' := by
  unfold ev
  rw [h] <;> rfl
end
/-! ### shapes -/
/-- no def, no script -/
def isD : PV → Bool
  | .fn _ => false
  | .scr _ => false
  | _ => true
def whole (v : PV) (a b : Int) : Bool := match v with
  | .int i => decide (a ≤ i) && decide (i ≤ b)
  | _ => false
def f_is_whole : Fn := ⟨"is_whole", ["value", "least", "most"], 3, false, none, 0, [
    .ret (.and (.isi .int (.var 0)) (.and (.not (.isi .bool (.var 0))) (.chain .le .le (.var 1) (.var 0) (.var 2))))]⟩
theorem whole_ok {P : Prog} (h : P.fn "is_whole" = some f_is_whole) (n : Nat) (v : PV) (a b : Int) (hv : isD v = true) : callF P (n + 1) "is_whole" [v, .int a, .int b] .non = .ok (.bl (whole v a b)) .non := by
  rw [callF_at h]
  cases v <;> first | (cases hv; done) | skip
  case int i =>
    by_cases h1 : a ≤ i
    · by_cases h2 : i ≤ b <;> simp [Fn.run, f_is_whole, Fn.start, evB, evS, ev, em, lo, hi, cmp, tst, truth, Res.of, Res.bind, Res.out, Out.bind, PVL.isi, isNon, whole, h1, h2]
    · simp [Fn.run, f_is_whole, Fn.start, evB, evS, ev, em, lo, hi, cmp, tst, truth, Res.of, Res.bind, Res.out, Out.bind, PVL.isi, isNon, whole, h1]
  all_goals simp [Fn.run, f_is_whole, Fn.start, evB, evS, ev, em, lo, hi, cmp, tst, truth, Res.of, Res.bind, Res.out, Out.bind, PVL.isi, isNon, whole]
def tupOf (v : PV) (a b : Int) : Bool := match v with
  | .tup xs => decide (a ≤ xs.length) && decide ((xs.length : Int) ≤ b)
  | _ => false
def f_is_tuple_of : Fn := ⟨"is_tuple_of", ["value", "least", "most"], 3, false, none, 0, [
    .ret (.and (.isi .tuple (.var 0)) (.chain .le .le (.var 1) (.b1 .len (.var 0)) (.var 2)))]⟩
theorem tupOf_ok {P : Prog} (h : P.fn "is_tuple_of" = some f_is_tuple_of) (n : Nat) (v : PV) (a b : Int) (hv : isD v = true) : callF P (n + 1) "is_tuple_of" [v, .int a, .int b] .non = .ok (.bl (tupOf v a b)) .non := by
  rw [callF_at h]
  cases v <;> first | (cases hv; done) | skip
  case tup xs =>
    by_cases h1 : a ≤ xs.length
    · by_cases h2 : (xs.length : Int) ≤ b <;> simp [Fn.run, f_is_tuple_of, Fn.start, evB, evS, ev, em, lo, hi, cmp, tst, truth, Res.of, Res.bind, Res.out, Out.bind, PVL.isi, PVL.b1, isNon, tupOf, h1, h2]
    · simp [Fn.run, f_is_tuple_of, Fn.start, evB, evS, ev, em, lo, hi, cmp, tst, truth, Res.of, Res.bind, Res.out, Out.bind, PVL.isi, PVL.b1, isNon, tupOf, h1]
  all_goals simp [Fn.run, f_is_tuple_of, Fn.start, evB, evS, ev, em, lo, hi, cmp, tst, truth, Res.of, Res.bind, Res.out, Out.bind, PVL.isi, PVL.b1, isNon, tupOf]
end PVL
end

section
set_option Elab.async false
set_option linter.all false
set_option maxRecDepth 100000
set_option maxHeartbeats 4000000
/-! PVM3: what a figure is. -/
namespace PVL
open PySem (Str)
mutual
/-- no defs, no script, at any depth -/
def okV : PV → Bool
  | .fn _ => false
  | .scr _ => false
  | .tup xs => okVs xs
  | .lst xs => okVs xs
  | .dct _ kvs => false
  | _ => true
termination_by structural x => x
def okVs : List PV → Bool
  | [] => true
  | x :: xs => okV x && okVs xs
termination_by structural x => x
end
theorem okV_isD {v : PV} (h : okV v = true) : isD v = true := by
  cases v <;> first | rfl | (unfold okV at h; cases h)
theorem okVs_mem : ∀ {xs : List PV} {x : PV}, okVs xs = true → x ∈ xs → okV x = true
  | y :: xs, x, h, hx => by
    unfold okVs at h
    rw [Bool.and_eq_true] at h
    rcases List.mem_cons.mp hx with e | e
    · subst e; exact h.1
    · exact okVs_mem h.2 e
theorem okVs_all : ∀ {xs : List PV}, (∀ x ∈ xs, okV x = true) → okVs xs = true
  | [], _ => by unfold okVs; rfl
  | x :: xs, h => by
    unfold okVs
    rw [h x List.mem_cons_self, okVs_all fun y hy => h y (List.mem_cons_of_mem _ hy)] <;> rfl
def ltV (x y : PV) : Bool := match x, y with
  | .int a, .int b => decide (a < b)
  | _, _ => false
def fitsLimb (j : Int) (v : PV) : Bool := match v with
  | .tup [x, y, z] => whole x 0 (j - 1) && whole y 0 (j - 1) && ltV x y && whole z 1 9
  | _ => false
def f_fits_limb : Fn := ⟨"fits_limb", ["joints", "value"], 2, false, none, 0, [
    .ife (.or (.not (.call "is_tuple_of" [.var 1, .con (.int 3), .con (.int 3)])) (.or (.not (.call "is_whole" [.ix (.var 1) (.con (.int 0)), .con (.int 0), .op .sub (.var 0) (.con (.int 1))])) (.not (.call "is_whole" [.ix (.var 1) (.con (.int 1)), .con (.int 0), .op .sub (.var 0) (.con (.int 1))])))) [.ret (.con (.bl false))] [],
    .ret (.and (.cmp .lt (.ix (.var 1) (.con (.int 0))) (.ix (.var 1) (.con (.int 1)))) (.call "is_whole" [.ix (.var 1) (.con (.int 2)), .con (.int 1), .gint "LENGTH" 9]))]⟩
theorem whole_int {v : PV} {a b : Int} (h : whole v a b = true) : ∃ i, v = .int i ∧ a ≤ i ∧ i ≤ b := by
  cases v <;> first | (cases h; done) | skip
  rename_i i
  unfold whole at h
  simp at h
  exact ⟨i, rfl, h.1, h.2⟩
theorem limb_ok {P : Prog} (h : P.fn "fits_limb" = some f_fits_limb) (hw : P.fn "is_whole" = some f_is_whole) (ht : P.fn "is_tuple_of" = some f_is_tuple_of) (n : Nat) (j : Int) (v : PV) (hv : okV v = true) :
    callF P (n + 2) "fits_limb" [.int j, v] .non = .ok (.bl (fitsLimb j v)) .non := by
  rw [callF_at h]
  have t1 := tupOf_ok ht n v 3 3 (okV_isD hv)
  by_cases h3 : tupOf v 3 3 = true
  · obtain ⟨x, y, z, rfl⟩ : ∃ x y z, v = .tup [x, y, z] := by
      cases v <;> first | (cases h3; done) | skip
      rename_i xs
      unfold tupOf at h3
      simp at h3
      match xs, h3 with
      | [x, y, z], _ => exact ⟨x, y, z, rfl⟩
      | [], h => simp at h
      | [_], h => simp at h
      | [_, _], h => simp at h
      | _ :: _ :: _ :: _ :: _, h => simp at h; omega
    have hx : okV x = true := by unfold okV at hv; exact okVs_mem hv (by simp)
    have hy : okV y = true := by unfold okV at hv; exact okVs_mem hv (by simp)
    have hz : okV z = true := by unfold okV at hv; exact okVs_mem hv (by simp)
    have wx := whole_ok hw n x 0 (j - 1) (okV_isD hx)
    have wy := whole_ok hw n y 0 (j - 1) (okV_isD hy)
    have wz := whole_ok hw n z 1 9 (okV_isD hz)
    cases b1 : whole x 0 (j - 1) with
    | false => simp [Fn.run, f_fits_limb, Fn.start, evB, evS, ev, em, evs, lo, hi, cmp, tst, truth, Res.of, Res.bind, Res.out, Out.bind, item, atI, ixN, op2, downD, isNon, fitsLimb, t1, h3, wx, b1]
    | true =>
      cases b2 : whole y 0 (j - 1) with
      | false => simp [Fn.run, f_fits_limb, Fn.start, evB, evS, ev, em, evs, lo, hi, cmp, tst, truth, Res.of, Res.bind, Res.out, Out.bind, item, atI, ixN, op2, downD, isNon, fitsLimb, t1, h3, wx, b1, wy, b2]
      | true =>
        obtain ⟨a, rfl, _⟩ := whole_int b1
        obtain ⟨b, rfl, _⟩ := whole_int b2
        by_cases hab : a < b
        · simp [Fn.run, f_fits_limb, Fn.start, evB, evS, ev, em, evs, lo, hi, cmp, tst, truth, Res.of, Res.bind, Res.out, Out.bind, item, atI, ixN, op2, downD, isNon, fitsLimb, t1, h3, wx, b1, wy, b2, wz, ltV, hab]
        · simp [Fn.run, f_fits_limb, Fn.start, evB, evS, ev, em, evs, lo, hi, cmp, tst, truth, Res.of, Res.bind, Res.out, Out.bind, item, atI, ixN, op2, downD, isNon, fitsLimb, t1, h3, wx, b1, wy, b2, wz, ltV, hab]
  · have h3' : tupOf v 3 3 = false := by simpa using h3
    have e : fitsLimb j v = false := by
      unfold fitsLimb
      split
      · exact absurd rfl h3
      · rfl
    simp [Fn.run, f_fits_limb, Fn.start, evB, evS, ev, em, evs, lo, hi, cmp, tst, truth, Res.of, Res.bind, Res.out, Out.bind, isNon, t1, h3', e]
end PVL
end

section
set_option Elab.async false
set_option linter.all false
set_option maxRecDepth 100000
set_option maxHeartbeats 8000000
/-! PVM4: fits_figure. -/
namespace PVL
open PySem (Str)
theorem all_bools (p : PV → Bool) : ∀ xs : List PV, PVL.b1 .all (.lst (xs.map fun x => .bl (p x))) = some (.bl (xs.all p)) := by
  intro xs
  have : ∀ xs : List PV, bools? (xs.map fun x => .bl (p x)) = some (xs.map p) := fun xs => by
    induction xs with
    | nil => rfl
    | cons x xs ih => rw [List.map_cons]; unfold bools?; rw [ih] <;> rfl
  show (bools? (xs.map fun x => .bl (p x))).map (fun bs => PV.bl (bs.all id)) = _
  rw [this, Option.map_some, List.all_map] <;> rfl
theorem cut_tail (xs : List PV) : cutV xs (some 1) none = xs.drop 1 := by
  cases xs with
  | nil => rfl
  | cons x xs =>
    unfold cutV sIx
    simp
def lt2 (x y : PV) : Bool := match x, y with
  | .tup (.int a :: .int b :: _), .tup (.int c :: .int d :: _) => lexLt [a, b] [c, d]
  | _, _ => false
def ascP (ls : List PV) : Bool := (ls.zip (ls.drop 1)).all fun p => lt2 p.1 p.2
def fitsTies (j : Int) (v : PV) : Bool := tupOf v 1 6 && (match v with | .tup ts => ts.all fun t => whole t 0 (j - 1) | _ => false)
def fitsLimbs (j : Int) (v : PV) : Bool := tupOf v 0 12 && (match v with | .tup ls => ls.all (fitsLimb j) && ascP ls | _ => false)
def fitsFigure (v : PV) : Bool := match v with
  | .tup [.int j, ls, ts, fl] => whole (.int j) 1 8 && whole fl 1 30 && fitsLimbs j ls && fitsTies j ts
  | _ => false
def f_fits_figure : Fn := ⟨"fits_figure", ["value", "joints", "limbs", "ties", "floor", "limb", "one", "other", "joint"], 1, false, none, 0, [
    .ife (.or (.not (.call "is_tuple_of" [.var 0, .con (.int 4), .con (.int 4)])) (.or (.not (.call "is_whole" [.ix (.var 0) (.con (.int 0)), .con (.int 1), .gint "JOINTS" 8])) (.not (.call "is_whole" [.ix (.var 0) (.con (.int 3)), .con (.int 1), .gint "FLOOR" 30])))) [.ret (.con (.bl false))] [],
    .unp (.tup [.nm 1, .nm 2, .nm 3, .nm 4]) (.var 0),
    .ife (.or (.not (.call "is_tuple_of" [.var 2, .con (.int 0), .gint "LIMBS" 12])) (.not (.b1 .all (.comp [5] (.nm 5) .seq [.var 2] [] 0 (.call "fits_limb" [.var 1, .var 5]))))) [.ret (.con (.bl false))] [],
    .ife (.not (.b1 .all (.comp [6, 7] (.tup [.nm 6, .nm 7]) .zip [.var 2, .sl (.var 2) true false [.con (.int 1)]] [] 0 (.cmp .lt (.sl (.var 6) false true [.con (.int 2)]) (.sl (.var 7) false true [.con (.int 2)]))))) [.ret (.con (.bl false))] [],
    .ret (.and (.call "is_tuple_of" [.var 3, .con (.int 1), .gint "STRINGS" 6]) (.b1 .all (.comp [8] (.nm 8) .seq [.var 3] [] 0 (.call "is_whole" [.var 8, .con (.int 0), .op .sub (.var 1) (.con (.int 1))]))))]⟩
section
variable {P : Prog} (hl : P.fn "fits_limb" = some f_fits_limb) (hw : P.fn "is_whole" = some f_is_whole) (ht : P.fn "is_tuple_of" = some f_is_tuple_of)
include hl hw ht in
theorem all_limbs (n : Nat) {a0 a3 a4 : Option Slot} {j : Int} {ls : List PV} (hv : okVs ls = true) :
    em (callF P (n + 2)) (.b1 .all (.comp [5] (.nm 5) .seq [.var 2] [] 0 (.call "fits_limb" [.var 1, .var 5]))) [a0, some ⟨0, .int j⟩, some ⟨0, .tup ls⟩, a3, a4, none, none, none, none] .non = .ok (0, .bl (ls.all (fitsLimb j))) .non := by
  refine em_b1 (comp_map (ss := [.tup ls]) (xs := ls) (fun x => .bl (fitsLimb j x)) rfl rfl fun x hx => ⟨_, rfl, ?_⟩) (Nat.zero_le _) (all_bools _ ls)
  simp [ev, em, evs, lo, hi, wipe, Res.bind, limb_ok hl hw ht n j x (okVs_mem hv hx)]
theorem limb_shape {j : Int} {x : PV} (h : fitsLimb j x = true) : ∃ a b c, x = .tup [.int a, .int b, .int c] ∧ 0 ≤ a ∧ a < b ∧ b ≤ j - 1 ∧ 1 ≤ c ∧ c ≤ 9 := by
  unfold fitsLimb at h
  split at h
  · simp only [Bool.and_eq_true] at h
    obtain ⟨a, rfl, ha⟩ := whole_int h.1.1.1
    obtain ⟨b, rfl, hb⟩ := whole_int h.1.1.2
    obtain ⟨c, rfl, hc⟩ := whole_int h.2
    have hab : a < b := of_decide_eq_true h.1.2
    exact ⟨a, b, c, rfl, ha.1, hab, hb.2, hc.1, hc.2⟩
  · cases h
theorem asc_limbs (n : Nat) {a0 a1 a3 a4 : Option Slot} {j : Int} {ls : List PV} (hv : ls.all (fitsLimb j) = true) :
    em (callF P n) (.b1 .all (.comp [6, 7] (.tup [.nm 6, .nm 7]) .zip [.var 2, .sl (.var 2) true false [.con (.int 1)]] [] 0 (.cmp .lt (.sl (.var 6) false true [.con (.int 2)]) (.sl (.var 7) false true [.con (.int 2)])))) [a0, a1, some ⟨0, .tup ls⟩, a3, a4, none, none, none, none] .non = .ok (0, .bl (ascP ls)) .non := by
  have hb : PVL.b1 .all (.lst (((ls.zip (ls.drop 1)).map fun p => PV.tup [p.1, p.2]).map fun x => match x with | .tup [x, y] => .bl (lt2 x y) | _ => .non)) = some (.bl (ascP ls)) := by
    rw [List.map_map]
    have : ∀ ps : List (PV × PV), bools? (ps.map ((fun x => match x with | PV.tup [x, y] => PV.bl (lt2 x y) | _ => PV.non) ∘ fun p => PV.tup [p.1, p.2])) = some (ps.map fun p => lt2 p.1 p.2) := fun ps => by
      induction ps with
      | nil => rfl
      | cons x xs ih => rw [List.map_cons]; show (bools? (List.map _ xs)).map (lt2 x.1 x.2 :: ·) = _; rw [ih] <;> rfl
    show (bools? _).map (fun bs => PV.bl (bs.all id)) = _
    rw [this, Option.map_some, List.all_map] <;> rfl
  refine em_b1 (comp_map (ss := [.tup ls, .tup (ls.drop 1)]) (xs := (ls.zip (ls.drop 1)).map fun p => .tup [p.1, p.2]) (fun x => match x with | .tup [x, y] => .bl (lt2 x y) | _ => .non) ?_ rfl fun x hx => ?_) (Nat.zero_le _) hb
  · simp [em, evs, evi, lo, hi, slice, int?, Res.of, Res.bind, ← cut_tail ls]
  · obtain ⟨⟨x1, x2⟩, hp, rfl⟩ := List.mem_map.mp hx
    have m1 : x1 ∈ ls := (List.of_mem_zip hp).1
    have m2 : x2 ∈ ls := List.mem_of_mem_drop (List.of_mem_zip hp).2
    obtain ⟨a, b, c, rfl, _⟩ := limb_shape (List.all_eq_true.mp hv x1 m1)
    obtain ⟨a', b', c', rfl, _⟩ := limb_shape (List.all_eq_true.mp hv x2 m2)
    refine ⟨_, rfl, ?_⟩
    simp [ev, em, evs, evi, lo, hi, wipe, Res.bind, Res.of, int?, slice, cutV, sIx, cmp, ints?, lt2]
include hw in
theorem all_ties (n : Nat) {a0 a2 a4 : Option Slot} {j : Int} {ts : List PV} (hv : okVs ts = true) :
    em (callF P (n + 1)) (.b1 .all (.comp [8] (.nm 8) .seq [.var 3] [] 0 (.call "is_whole" [.var 8, .con (.int 0), .op .sub (.var 1) (.con (.int 1))]))) [a0, some ⟨0, .int j⟩, a2, some ⟨0, .tup ts⟩, a4, none, none, none, none] .non = .ok (0, .bl (ts.all fun t => whole t 0 (j - 1))) .non := by
  refine em_b1 (comp_map (ss := [.tup ts]) (xs := ts) (fun x => .bl (whole x 0 (j - 1))) rfl rfl fun x hx => ⟨_, rfl, ?_⟩) (Nat.zero_le _) (all_bools _ ts)
  simp [ev, em, evs, lo, hi, wipe, Res.bind, Res.of, op2, whole_ok hw n x 0 (j - 1) (okV_isD (okVs_mem hv hx))]
end
end PVL
end

section
set_option Elab.async false
set_option linter.all false
set_option maxRecDepth 100000
set_option maxHeartbeats 8000000
/-! PVM5: fits_figure computes fitsFigure. -/
namespace PVL
open PySem (Str)
theorem tup4 {v : PV} (h : tupOf v 4 4 = true) : ∃ a b c d, v = .tup [a, b, c, d] := by
  cases v <;> first | (cases h; done) | skip
  rename_i xs
  unfold tupOf at h
  simp at h
  match xs, h with
  | [a, b, c, d], _ => exact ⟨a, b, c, d, rfl⟩
  | [], h => simp at h
  | [_], h => simp at h
  | [_, _], h => simp at h
  | [_, _, _], h => simp at h
  | _ :: _ :: _ :: _ :: _ :: _, h => simp at h; omega
theorem tup_of {v : PV} {a b : Int} (h : tupOf v a b = true) : ∃ xs, v = .tup xs := by
  cases v <;> first | (cases h; done) | exact ⟨_, rfl⟩
section
variable {P : Prog} (hf : P.fn "fits_figure" = some f_fits_figure) (hl : P.fn "fits_limb" = some f_fits_limb) (hw : P.fn "is_whole" = some f_is_whole) (ht : P.fn "is_tuple_of" = some f_is_tuple_of)
include hf hl hw ht in
theorem figure_ok (n : Nat) (v : PV) (hv : okV v = true) : callF P (n + 3) "fits_figure" [v] .non = .ok (.bl (fitsFigure v)) .non := by
  rw [callF_at hf]
  have t1 := tupOf_ok ht (n + 1) v 4 4 (okV_isD hv)
  by_cases h4 : tupOf v 4 4 = true
  case neg =>
    have h4' : tupOf v 4 4 = false := by simpa using h4
    have e : fitsFigure v = false := by
      unfold fitsFigure
      split
      · exact absurd rfl h4
      · rfl
    simp [Fn.run, f_fits_figure, Fn.start, evB, evS, ev, em, evs, lo, hi, tst, truth, Res.of, Res.bind, Res.out, Out.bind, isNon, t1, h4', e]
  obtain ⟨j, ls, ts, fl, rfl⟩ := tup4 h4
  have hm : ∀ x ∈ [j, ls, ts, fl], okV x = true := fun x hx => okVs_mem (by unfold okV at hv; exact hv) hx
  have hj := hm j (by simp)
  have hls := hm ls (by simp)
  have hts := hm ts (by simp)
  have hfl := hm fl (by simp)
  have wj := whole_ok hw (n + 1) j 1 8 (okV_isD hj)
  have wf := whole_ok hw (n + 1) fl 1 30 (okV_isD hfl)
  cases b1 : whole j 1 8 with
  | false =>
    have e : fitsFigure (.tup [j, ls, ts, fl]) = false := by
      cases j <;> first | rfl | (show (whole _ 1 8 && _ && _ && _) = false; rw [b1] <;> rfl)
    simp [Fn.run, f_fits_figure, Fn.start, evB, evS, ev, em, evs, lo, hi, tst, truth, Res.of, Res.bind, Res.out, Out.bind, isNon, item, atI, ixN, downD, t1, h4, wj, b1, e]
  | true =>
  obtain ⟨j0, rfl, j1, j2⟩ := whole_int b1
  have ef : fitsFigure (.tup [.int j0, ls, ts, fl]) = (whole fl 1 30 && fitsLimbs j0 ls && fitsTies j0 ts) := by
    show (whole (.int j0) 1 8 && whole fl 1 30 && fitsLimbs j0 ls && fitsTies j0 ts) = _
    rw [b1, Bool.true_and]
  rw [ef]
  cases b2 : whole fl 1 30 with
  | false => simp [Fn.run, f_fits_figure, Fn.start, evB, evS, ev, em, evs, lo, hi, tst, truth, Res.of, Res.bind, Res.out, Out.bind, isNon, item, atI, ixN, downD, t1, h4, wj, b1, wf, b2]
  | true =>
  have t2 := tupOf_ok ht (n + 1) ls 0 12 (okV_isD hls)
  cases b3 : tupOf ls 0 12 with
  | false =>
    have e : fitsLimbs j0 ls = false := by unfold fitsLimbs; rw [b3] <;> rfl
    simp [Fn.run, f_fits_figure, Fn.start, evB, evS, ev, em, evs, lo, hi, tst, truth, Res.of, Res.bind, Res.out, Out.bind, isNon, item, atI, ixN, downD, Tg.put, Tg.puts, t1, h4, wj, b1, wf, b2, t2, b3, e]
  | true =>
  obtain ⟨xs, rfl⟩ := tup_of b3
  have hxs : okVs xs = true := by unfold okV at hls; exact hls
  have el : fitsLimbs j0 (.tup xs) = (xs.all (fitsLimb j0) && ascP xs) := by
    show (tupOf (.tup xs) 0 12 && (xs.all (fitsLimb j0) && ascP xs)) = _
    rw [b3, Bool.true_and]
  rw [el]
  have a1 := all_limbs hl hw ht n (a0 := some ⟨0, .tup [.int j0, .tup xs, ts, fl]⟩) (a3 := some ⟨0, ts⟩) (a4 := some ⟨0, fl⟩) (j := j0) hxs
  cases b4 : xs.all (fitsLimb j0) with
  | false =>
    rw [b4] at a1
    simp [Fn.run, f_fits_figure, Fn.start, evB, evS, ev, em.eq_5, em.eq_6, em, evs, lo, hi, tst, truth, Res.of, Res.bind, Res.out, Out.bind, isNon, item, atI, ixN, downD, Tg.put, Tg.puts, t1, h4, wj, b1, wf, b2, t2, b3, ↓a1]
  | true =>
  rw [b4] at a1
  have a2 := asc_limbs (P := P) (n + 2) (a0 := some ⟨0, .tup [.int j0, .tup xs, ts, fl]⟩) (a1 := some ⟨0, .int j0⟩) (a3 := some ⟨0, ts⟩) (a4 := some ⟨0, fl⟩) b4
  cases b5 : ascP xs with
  | false =>
    rw [b5] at a2
    simp [Fn.run, f_fits_figure, Fn.start, evB, evS, ev, em, evs, lo, hi, tst, truth, Res.of, Res.bind, Res.out, Out.bind, isNon, item, atI, ixN, downD, Tg.put, Tg.puts, t1, h4, wj, b1, wf, b2, t2, b3, ↓a1, ↓a2]
  | true =>
  rw [b5] at a2
  have t3 := tupOf_ok ht (n + 1) ts 1 6 (okV_isD hts)
  cases b6 : tupOf ts 1 6 with
  | false =>
    have e : fitsTies j0 ts = false := by unfold fitsTies; rw [b6] <;> rfl
    simp [Fn.run, f_fits_figure, Fn.start, evB, evS, ev, em, evs, lo, hi, tst, truth, Res.of, Res.bind, Res.out, Out.bind, isNon, item, atI, ixN, downD, Tg.put, Tg.puts, t1, h4, wj, b1, wf, b2, t2, b3, t3, b6, e, ↓a1, ↓a2]
  | true =>
  obtain ⟨ys, rfl⟩ := tup_of b6
  have a3 := all_ties hw (n + 1) (a0 := some ⟨0, .tup [.int j0, .tup xs, .tup ys, fl]⟩) (a2 := some ⟨0, .tup xs⟩) (a4 := some ⟨0, fl⟩) (j := j0) (ts := ys) (by unfold okV at hts; exact hts)
  have e : fitsTies j0 (.tup ys) = ys.all fun t => whole t 0 (j0 - 1) := by
    show (tupOf (.tup ys) 1 6 && _) = _
    rw [b6, Bool.true_and]
  rw [e]
  simp [Fn.run, f_fits_figure, Fn.start, evB, evS, ev, em, evs, lo, hi, tst, truth, Res.of, Res.bind, Res.out, Out.bind, isNon, item, atI, ixN, downD, Tg.put, Tg.puts, t1, h4, wj, b1, wf, b2, t2, b3, t3, b6, ↓a1, ↓a2, ↓a3]
end
end PVL
end

section
set_option Elab.async false
set_option linter.all false
set_option maxRecDepth 100000
set_option maxHeartbeats 8000000
/-! PVM6: settings; draws. -/
namespace PVL
open PySem (Str)
def f_need_figure : Fn := ⟨"need_figure", ["figure"], 1, false, none, 0, [
    .ife (.not (.call "fits_figure" [.var 0])) [.raise] []]⟩
def f_fits_joint : Fn := ⟨"fits_joint", ["figure", "value"], 2, false, none, 0, [
    .ret (.call "is_whole" [.var 1, .con (.int 0), .op .sub (.ix (.var 0) (.con (.int 0))) (.con (.int 1))])]⟩
def f_need_joint : Fn := ⟨"need_joint", ["figure", "joint"], 2, false, none, 0, [
    .ife (.not (.call "fits_joint" [.var 0, .var 1])) [.raise] []]⟩
def f_fits_setting : Fn := ⟨"fits_setting", ["figure", "value", "many", "one"], 2, false, none, 0, [
    .set 2 false (.b1 .len (.ix (.var 0) (.con (.int 2)))),
    .ret (.and (.call "is_tuple_of" [.var 1, .var 2, .var 2]) (.b1 .all (.comp [3] (.nm 3) .seq [.var 1] [] 0 (.call "is_whole" [.var 3, .con (.int 0), .ix (.var 0) (.con (.int 3))]))))]⟩
def f_is_figure : Fn := ⟨"is_figure", ["value"], 1, false, none, 0, [
    .ret (.call "fits_figure" [.var 0])]⟩
def f_is_setting : Fn := ⟨"is_setting", ["figure", "value"], 2, false, none, 0, [
    .expr (.call "need_figure" [.var 0]),
    .ret (.call "fits_setting" [.var 0, .var 1])]⟩
def f__law_some : Fn := ⟨"_law_some", ["cup", "things"], 2, true, (some 0), 0, [
    .ret (.ix (.var 1) (.callc "_law_roll" [.b1 .len (.var 1)]))]⟩
/-- the defs of figures that a text holds -/
structure FigD (P : Prog) : Prop where
  fig : P.fn "fits_figure" = some f_fits_figure
  limb : P.fn "fits_limb" = some f_fits_limb
  whole : P.fn "is_whole" = some f_is_whole
  tup : P.fn "is_tuple_of" = some f_is_tuple_of
section
variable {P : Prog} (D : FigD P)
include D in
theorem is_figure_ok (h : P.fn "is_figure" = some f_is_figure) (n : Nat) (v : PV) (hv : okV v = true) : callF P (n + 4) "is_figure" [v] .non = .ok (.bl (fitsFigure v)) .non := by
  rw [callF_at h]
  have q := figure_ok D.fig D.limb D.whole D.tup n v hv
  simp [Fn.run, f_is_figure, Fn.start, evB, evS, ev, em, evs, lo, hi, Res.bind, Res.out, Out.bind, isNon, q]
include D in
theorem need_figure_ok (h : P.fn "need_figure" = some f_need_figure) (n : Nat) (v : PV) (hv : okV v = true) (hf : fitsFigure v = true) : callF P (n + 4) "need_figure" [v] .non = .ok .non .non := by
  rw [callF_at h]
  have q := figure_ok D.fig D.limb D.whole D.tup n v hv
  rw [hf] at q
  simp [Fn.run, f_need_figure, Fn.start, evB, evS, ev, em, evs, lo, hi, tst, truth, Res.of, Res.bind, Res.out, Out.bind, isNon, q]
/-- a figure's parts -/
theorem fig_parts {v : PV} (h : fitsFigure v = true) : ∃ j ls ts fl, v = .tup [.int j, .tup ls, .tup ts, .int fl] ∧ 1 ≤ j ∧ j ≤ 8 ∧ 1 ≤ fl ∧ fl ≤ 30 ∧ ls.length ≤ 12 ∧ ls.all (fitsLimb j) = true ∧ ascP ls = true ∧ 1 ≤ ts.length ∧ ts.length ≤ 6 ∧ ∀ t ∈ ts, ∃ i, t = .int i ∧ 0 ≤ i ∧ i ≤ j - 1 := by
  unfold fitsFigure at h
  split at h
  · rename_i j ls ts fl
    simp only [Bool.and_eq_true] at h
    obtain ⟨⟨⟨h1, h2⟩, h3⟩, h4⟩ := h
    obtain ⟨f, rfl, f1, f2⟩ := whole_int h2
    unfold whole at h1
    simp at h1
    unfold fitsLimbs at h3
    rw [Bool.and_eq_true] at h3
    obtain ⟨xs, rfl⟩ := tup_of h3.1
    unfold fitsTies at h4
    rw [Bool.and_eq_true] at h4
    obtain ⟨ys, rfl⟩ := tup_of h4.1
    have h31 := h3.1
    have h41 := h4.1
    unfold tupOf at h31 h41
    simp at h31 h41
    have h32 : (xs.all (fitsLimb j) && ascP xs) = true := h3.2
    rw [Bool.and_eq_true] at h32
    exact ⟨j, xs, ys, f, rfl, h1.1, h1.2, f1, f2, by omega, h32.1, h32.2, by omega, by omega, fun t ht => whole_int (List.all_eq_true.mp h4.2 t ht)⟩
  · cases h
def fitsSetting (many : Nat) (fl : Int) (v : PV) : Bool := tupOf v many many && (match v with | .tup xs => xs.all fun x => whole x 0 fl | _ => false)
theorem fits_setting_ok (h : P.fn "fits_setting" = some f_fits_setting) (hw : P.fn "is_whole" = some f_is_whole) (ht : P.fn "is_tuple_of" = some f_is_tuple_of) (n : Nat) (a b : PV) (ts : List PV) (fl : Int) (v : PV) (hv : okV v = true) :
    callF P (n + 2) "fits_setting" [.tup [a, b, .tup ts, .int fl], v] .non = .ok (.bl (fitsSetting ts.length fl v)) .non := by
  rw [callF_at h]
  have t1 := tupOf_ok ht n v ts.length ts.length (okV_isD hv)
  cases b1 : tupOf v ts.length ts.length with
  | false =>
    have e : fitsSetting ts.length fl v = false := by unfold fitsSetting; rw [b1] <;> rfl
    simp [Fn.run, f_fits_setting, Fn.start, evB, evS, ev, em, evs, lo, hi, Res.of, tst, truth, Res.bind, Res.out, Out.bind, isNon, item, atI, ixN, downD, PVL.b1, t1, b1, e]
  | true =>
    obtain ⟨xs, rfl⟩ := tup_of b1
    have e : fitsSetting ts.length fl (.tup xs) = xs.all fun x => whole x 0 fl := by
      show (tupOf (.tup xs) _ _ && _) = _
      rw [b1, Bool.true_and]
    have hxs : okVs xs = true := by unfold okV at hv; exact hv
    have a1 : em (callF P (n + 1)) (.b1 .all (.comp [3] (.nm 3) .seq [.var 1] [] 0 (.call "is_whole" [.var 3, .con (.int 0), .ix (.var 0) (.con (.int 3))]))) [some ⟨0, .tup [a, b, .tup ts, .int fl]⟩, some ⟨0, .tup xs⟩, some ⟨0, .int ts.length⟩, none] .non = .ok (0, .bl (xs.all fun x => whole x 0 fl)) .non := by
      refine em_b1 (comp_map (ss := [.tup xs]) (xs := xs) (fun x => .bl (whole x 0 fl)) rfl rfl fun x hx => ⟨_, rfl, ?_⟩) (Nat.zero_le _) (all_bools _ xs)
      simp [ev, em, evs, lo, hi, wipe, Res.bind, Res.of, item, atI, ixN, downD, whole_ok hw n x 0 fl (okV_isD (okVs_mem hxs hx))]
    rw [e]
    simp [Fn.run, f_fits_setting, Fn.start, evB, evS, ev, em, evs, lo, hi, Res.of, tst, truth, Res.bind, Res.out, Out.bind, isNon, item, atI, ixN, downD, PVL.b1, t1, b1, ↓a1]
/-- a thing drawn -/
theorem some_ok (h : P.fn "_law_some" = some f__law_some) (hr : RollAt P) (n : Nat) (xs : List PV) (h1 : xs ≠ []) (h2 : xs.length ≤ 1000) (a b : Int) :
    ∃ x a' b', callF P (n + 2) "_law_some" [.lst xs] (cup a b) = .ok x (cup a' b') ∧ x ∈ xs := by
  have hl : 0 < xs.length := List.length_pos_iff.mpr h1
  obtain ⟨r, a', b', e, r0, r1⟩ := roll_ok hr n (m := xs.length) (by omega) (by omega) a b
  have hi' : r.toNat < xs.length := by omega
  refine ⟨xs[r.toNat], a', b', ?_, List.getElem_mem _⟩
  rw [callF_at h]
  have e1 : isLst (cup a b) = true := rfl
  have e2 : isLst (cup a' b') = true := rfl
  have e3 : ixN xs.length r = some r.toNat := by unfold ixN; rw [if_pos r0, if_pos (by omega)]
  simp [Fn.run, f__law_some, Fn.start, evB, evS, ev, em, evs, lo, hi, Res.of, Res.bind, Res.out, Out.bind, item, atI, downD, PVL.b1, e, e1, e2, e3, hi']
end
end PVL
end

section
set_option Elab.async false
set_option linter.all false
set_option maxRecDepth 100000
set_option maxHeartbeats 8000000
/-! PVM7: drawn figures. -/
namespace PVL
open PySem (Str)
section
variable {P : Prog} {n : Nat} {env : Env} {e : E} {a b a1 b1 : Int}
theorem evs_one {call : CallF} {k : Nat} {x c c' : PV} {d : Nat} (h : em call e env c = .ok (d, x) c') (hd : d ≤ k) : evs call k [e] env c = .ok [x] c' := by
  show (lo k (em call e env c)).bind (fun x c => (Res.ok [] c).bind fun xs c => .ok (x :: xs) c) = _
  rw [h, lo_ok, if_pos hd] <;> rfl
theorem em_callc {call : CallF} {f : Str} {as : List E} {xs : List PV} {x c' c2 : PV} (h : evs call 0 as env (cup a b) = .ok xs c') (hc : call f xs c' = .ok x c2) : em call (.callc f as) env (cup a b) = .ok (0, x) c2 := by
  show (if isLst (cup a b) then hi ((evs call 0 as env (cup a b)).bind fun xs c => call f xs c) else .stuck) = _
  rw [if_pos (show isLst (cup a b) = true from rfl), h, bind_ok, hc] <;> rfl
theorem em_roll (hr : RollAt P) {m : Int} (he : em (callF P (n + 1)) e env (cup a b) = .ok (0, .int m) (cup a1 b1)) (h1 : 0 < m) (h2 : m < 1073741824) :
    ∃ r a' b', em (callF P (n + 1)) (.callc "_law_roll" [e]) env (cup a b) = .ok (0, .int r) (cup a' b') ∧ 0 ≤ r ∧ r < m := by
  obtain ⟨r, a', b', q, r0, r1⟩ := roll_ok hr n h1 h2 a1 b1
  exact ⟨r, a', b', em_callc (evs_one he (Nat.le_refl _)) q, r0, r1⟩
theorem em_some (hs : P.fn "_law_some" = some f__law_some) (hr : RollAt P) {xs : List PV} (he : em (callF P (n + 2)) e env (cup a b) = .ok (0, .lst xs) (cup a1 b1)) (h1 : xs ≠ []) (h2 : xs.length ≤ 1000) :
    ∃ x a' b', em (callF P (n + 2)) (.callc "_law_some" [e]) env (cup a b) = .ok (0, x) (cup a' b') ∧ x ∈ xs := by
  obtain ⟨x, a', b', q, hx⟩ := some_ok hs hr n xs h1 h2 a1 b1
  exact ⟨x, a', b', em_callc (evs_one he (Nat.le_refl _)) q, hx⟩
end
/-- the limbs known so far -/
def KI (J : Int) (kvs : List (DKey × PV)) : Prop := (∀ kv ∈ kvs, ∃ a b w : Int, kv = (.tup [.inl a, .inl b], .int w) ∧ 0 ≤ a ∧ a < b ∧ b ≤ J - 1 ∧ 1 ≤ w ∧ w ≤ 9) ∧ (kvs.map (·.1)).Nodup
theorem ki_nil (J : Int) : KI J [] := ⟨fun _ h => (by cases h), List.nodup_nil⟩
theorem ki_put {J : Int} {kvs : List (DKey × PV)} (h : KI J kvs) {a b w : Int} (h1 : 0 ≤ a) (h2 : a < b) (h3 : b ≤ J - 1) (h4 : 1 ≤ w) (h5 : w ≤ 9) : KI J (dput kvs (.tup [.inl a, .inl b]) (.int w)) := by
  unfold dput
  by_cases hc : (kvs.any fun kv => decide (kv.1 = DKey.tup [.inl a, .inl b])) = true
  · rw [if_pos hc]
    refine ⟨fun kv hkv => ?_, ?_⟩
    · obtain ⟨kv0, hm, rfl⟩ := List.mem_map.mp hkv
      by_cases e : kv0.1 = DKey.tup [.inl a, .inl b]
      · rw [if_pos e]; exact ⟨a, b, w, rfl, h1, h2, h3, h4, h5⟩
      · rw [if_neg e]; exact h.1 kv0 hm
    · have : (kvs.map fun kv => if kv.1 = DKey.tup [.inl a, .inl b] then (DKey.tup [.inl a, .inl b], PV.int w) else kv).map (·.1) = kvs.map (·.1) := by
        rw [List.map_map]
        refine List.map_congr_left fun kv _ => ?_
        show (if kv.1 = DKey.tup [.inl a, .inl b] then (DKey.tup [.inl a, .inl b], PV.int w) else kv).1 = kv.1
        split
        · rename_i e; exact e.symm
        · rfl
      rw [this]
      exact h.2
  · rw [if_neg hc]
    refine ⟨fun kv hkv => ?_, ?_⟩
    · rcases List.mem_append.mp hkv with e | e
      · exact h.1 kv e
      · have : kv = (DKey.tup [.inl a, .inl b], PV.int w) := by simpa using e
        exact ⟨a, b, w, this, h1, h2, h3, h4, h5⟩
    · rw [List.map_append, List.nodup_append]
      refine ⟨h.2, by simp, fun x hx y hy e => ?_⟩
      have hy' : y = DKey.tup [.inl a, .inl b] := by simpa using hy
      subst e
      obtain ⟨kv, hm, e2⟩ := List.mem_map.mp hx
      exact hc (List.any_eq_true.mpr ⟨kv, hm, by rw [e2, hy']; simp⟩)
theorem dput_len' {kvs : List (DKey × PV)} {q : DKey} {x : PV} : (dput kvs q x).length ≤ kvs.length + 1 := by
  unfold dput
  split
  · rw [List.length_map]; omega
  · rw [List.length_append, List.length_singleton]; omega
def f__law_figure : Fn := ⟨"_law_figure", ["cup", "most", "strings", "joints", "known", "joint", "turn", "one", "other", "limbs", "ties", "pair"], 3, true, (some 0), 0, [
    .set 3 false (.op .add (.con (.int 1)) (.callc "_law_roll" [.var 1])),
    .set 4 true (.dct0 true),
    .for_ (.nm 5) .rng2 [.con (.int 1), .var 3] [.ife (.cmp .gt (.callc "_law_roll" [.con (.int 7)]) (.con (.int 0))) [.put 4 [] (.tup [.callc "_law_roll" [.var 5], .var 5]) (.op .add (.con (.int 1)) (.callc "_law_roll" [.callc "_law_some" [.lst 0 [.con (.int 3), .con (.int 9)]]]))] []],
    .for_ (.nm 6) .rng1 [.ife (.cmp .gt (.var 3) (.con (.int 2))) (.callc "_law_roll" [.con (.int 4)]) (.con (.int 0))] [.par [7, 8] [.callc "_law_roll" [.var 3], .callc "_law_roll" [.var 3]], .ife (.and (.cmp .lt (.var 7) (.var 8)) (.cmp .lt (.b1 .len (.var 4)) (.con (.int 12)))) [.put 4 [] (.tup [.var 7, .var 8]) (.op .add (.con (.int 1)) (.callc "_law_roll" [.con (.int 9)]))] []],
    .set 9 false (.b1 .tuple (.comp [11] (.nm 11) .seq [.b1 .sorted (.var 4)] [] 0 (.op .add (.var 11) (.tup [.ix (.var 4) (.var 11)])))),
    .set 10 false (.b1 .tuple (.comp [6] (.nm 6) .rng1 [.op .add (.con (.int 1)) (.callc "_law_roll" [.var 2])] [] 0 (.callc "_law_roll" [.var 3]))),
    .ret (.tup [.var 3, .var 9, .var 10, .callc "_law_some" [.lst 0 [.con (.int 1), .con (.int 4), .con (.int 9), .con (.int 15), .con (.int 22), .con (.int 30)]]])]⟩
section
variable {P : Prog} (hs : P.fn "_law_some" = some f__law_some) (hr : RollAt P) {fr : List Str}
/-- the frame of a drawn figure within its loops -/
def FE (most strings : PV) (J : Int) (kvs : List (DKey × PV)) (env : Env) : Prop := ∃ s5 s6 s7 s8, env = [none, some ⟨0, most⟩, some ⟨0, strings⟩, some ⟨0, .int J⟩, some ⟨1, .dct true kvs⟩, s5, s6, s7, s8, none, none, none]
include hs hr in
theorem fig_loop1 (n : Nat) {most strings : PV} {J : Int} (h1 : 1 ≤ J) (h8 : J ≤ 8) (env : Env) (a b : Int) (hE : FE most strings J [] env) :
    ∃ env' a' b' kvs, forL (.nm 5) (fun env c => evB (callF P (n + 2)) fr [.ife (.cmp .gt (.callc "_law_roll" [.con (.int 7)]) (.con (.int 0))) [.put 4 [] (.tup [.callc "_law_roll" [.var 5], .var 5]) (.op .add (.con (.int 1)) (.callc "_law_roll" [.callc "_law_some" [.lst 0 [.con (.int 3), .con (.int 9)]]]))] []] env c) (rng 1 (J - 1).toNat) env (cup a b) = .nx env' (cup a' b') ∧ FE most strings J kvs env' ∧ KI J kvs ∧ kvs.length ≤ (J - 1).toNat := by
  have step : ∀ (i : Nat) (x : PV) (env : Env) (c : PV), (rng 1 (J - 1).toNat)[i]? = some x → (∃ a b kvs, c = cup a b ∧ FE most strings J kvs env ∧ KI J kvs ∧ kvs.length ≤ 0 + i) →
      ∃ env1 env2 c2, (Tg.nm 5).put x env = some env1 ∧ evB (callF P (n + 2)) fr [.ife (.cmp .gt (.callc "_law_roll" [.con (.int 7)]) (.con (.int 0))) [.put 4 [] (.tup [.callc "_law_roll" [.var 5], .var 5]) (.op .add (.con (.int 1)) (.callc "_law_roll" [.callc "_law_some" [.lst 0 [.con (.int 3), .con (.int 9)]]]))] []] env1 c = .nx env2 c2 ∧ ∃ a b kvs, c2 = cup a b ∧ FE most strings J kvs env2 ∧ KI J kvs ∧ kvs.length ≤ 0 + i + 1 := by
    intro i x env c hx hI
    obtain ⟨a, b, kvs, rfl, ⟨s5, s6, s7, s8, rfl⟩, hK, hl⟩ := hI
    obtain ⟨hi', rfl⟩ := rng_get hx
    obtain ⟨env1, he1⟩ : ∃ env1, env1 = [none, some ⟨0, most⟩, some ⟨0, strings⟩, some ⟨0, .int J⟩, some ⟨1, .dct true kvs⟩, some ⟨0, .int (1 + (i : Int))⟩, s6, s7, s8, none, none, none] := ⟨_, rfl⟩
    obtain ⟨r7, a1, b1, q1, r0, r1⟩ := em_roll hr (n := n + 1) (env := env1) (e := .con (.int 7)) (a := a) (b := b) (a1 := a) (b1 := b) (m := 7) rfl (by omega) (by omega)
    by_cases hc : 0 < r7
    · obtain ⟨x, a2, b2, q2, hx2⟩ := em_some hs hr (n := n) (env := env1) (e := .lst 0 [.con (.int 3), .con (.int 9)]) (a := a1) (b := b1) (a1 := a1) (b1 := b1) (xs := [.int 3, .int 9]) rfl (by simp) (by simp)
      obtain ⟨m, rfl, m1, m2⟩ : ∃ m : Int, x = .int m ∧ 1 ≤ m ∧ m ≤ 9 := by
        rcases List.mem_cons.mp hx2 with e | e
        · exact ⟨3, e, by omega, by omega⟩
        · exact ⟨9, by simpa using e, by omega, by omega⟩
      obtain ⟨w, a3, b3, q3, w0, w1⟩ := em_roll hr (n := n + 1) q2 (by omega) (by omega)
      obtain ⟨o, a4, b4, q4, o0, o1⟩ := em_roll hr (n := n + 1) (env := env1) (e := .var 5) (a := a3) (b := b3) (a1 := a3) (b1 := b3) (m := 1 + i) (by rw [he1] <;> rfl) (by omega) (by omega)
      refine ⟨_, [none, some ⟨0, most⟩, some ⟨0, strings⟩, some ⟨0, .int J⟩, some ⟨1, .dct true (dput kvs (.tup [.inl o, .inl (1 + i)]) (.int (1 + w)))⟩, some ⟨0, .int (1 + (i : Int))⟩, s6, s7, s8, none, none, none], cup a4 b4, rfl, ?_, a4, b4, _, rfl, ⟨_, _, _, _, rfl⟩, ki_put hK o0 o1 (by omega) (by omega) (by omega), by have := dput_len' (kvs := kvs) (q := .tup [.inl o, .inl (1 + i)]) (x := .int (1 + w)); omega⟩
      show evB (callF P (n + 2)) fr _ [none, some ⟨0, most⟩, some ⟨0, strings⟩, some ⟨0, .int J⟩, some ⟨1, .dct true kvs⟩, some ⟨0, .int (1 + (i : Int))⟩, s6, s7, s8, none, none, none] (cup a b) = _
      rw [he1] at q1 q3 q4
      have hz : kvs.length < SZ := by unfold SZ; omega
      simp [evB, evS, ev, em, evs, lo, hi, cmp, tst, truth, Res.of, Res.bind, Res.out, Out.bind, op2, okR, okP, validP, modS, modP, putV, keyIn, keyOf?, keyOf?.keys?, isTupKey, hz, hc, ↓q1, ↓q3, ↓q4]
    · refine ⟨_, [none, some ⟨0, most⟩, some ⟨0, strings⟩, some ⟨0, .int J⟩, some ⟨1, .dct true kvs⟩, some ⟨0, .int (1 + (i : Int))⟩, s6, s7, s8, none, none, none], cup a1 b1, rfl, ?_, a1, b1, kvs, rfl, ⟨_, _, _, _, rfl⟩, hK, by omega⟩
      show evB (callF P (n + 2)) fr _ [none, some ⟨0, most⟩, some ⟨0, strings⟩, some ⟨0, .int J⟩, some ⟨1, .dct true kvs⟩, some ⟨0, .int (1 + (i : Int))⟩, s6, s7, s8, none, none, none] (cup a b) = _
      rw [he1] at q1
      simp [evB, evS, ev, em, lo, hi, cmp, tst, truth, Res.of, Res.bind, Res.out, Out.bind, hc, ↓q1]
  obtain ⟨env', c', e, a', b', kvs, rfl, hE', hK, hl⟩ := forL_inv (tg := .nm 5) (f := fun env c => evB (callF P (n + 2)) fr [.ife (.cmp .gt (.callc "_law_roll" [.con (.int 7)]) (.con (.int 0))) [.put 4 [] (.tup [.callc "_law_roll" [.var 5], .var 5]) (.op .add (.con (.int 1)) (.callc "_law_roll" [.callc "_law_some" [.lst 0 [.con (.int 3), .con (.int 9)]]]))] []] env c)
    (I := fun k env c => ∃ a b kvs, c = cup a b ∧ FE most strings J kvs env ∧ KI J kvs ∧ kvs.length ≤ k) (rng 1 (J - 1).toNat) 0 env (cup a b) step ⟨a, b, [], rfl, hE, ki_nil J, Nat.le_refl _⟩
  exact ⟨env', a', b', kvs, e, hE', hK, by rw [rng, List.length_map, List.length_range] at hl; omega⟩
end
end PVL
end

section
set_option Elab.async false
set_option linter.all false
set_option maxRecDepth 100000
set_option maxHeartbeats 8000000
/-! PVM8: drawn figures (2). -/
namespace PVL
open PySem (Str)
section
variable {P : Prog} (hs : P.fn "_law_some" = some f__law_some) (hr : RollAt P) {fr : List Str}
abbrev body2 : List S := [.par [7, 8] [.callc "_law_roll" [.var 3], .callc "_law_roll" [.var 3]], .ife (.and (.cmp .lt (.var 7) (.var 8)) (.cmp .lt (.b1 .len (.var 4)) (.con (.int 12)))) [.put 4 [] (.tup [.var 7, .var 8]) (.op .add (.con (.int 1)) (.callc "_law_roll" [.con (.int 9)]))] []]
include hr in
theorem fig_loop2 (n : Nat) {most strings : PV} {J : Int} (h1 : 1 ≤ J) (h8 : J ≤ 8) (k : Nat) (env : Env) (kvs : List (DKey × PV)) (a b : Int) (hE : FE most strings J kvs env) (hK : KI J kvs) (hl : kvs.length ≤ 12) :
    ∃ env' a' b' kvs, forL (.nm 6) (fun env c => evB (callF P (n + 2)) fr body2 env c) (rng 0 k) env (cup a b) = .nx env' (cup a' b') ∧ FE most strings J kvs env' ∧ KI J kvs ∧ kvs.length ≤ 12 := by
  have step : ∀ (i : Nat) (x : PV) (env : Env) (c : PV), (rng 0 k)[i]? = some x → (∃ a b kvs, c = cup a b ∧ FE most strings J kvs env ∧ KI J kvs ∧ kvs.length ≤ 12) →
      ∃ env1 env2 c2, (Tg.nm 6).put x env = some env1 ∧ evB (callF P (n + 2)) fr body2 env1 c = .nx env2 c2 ∧ ∃ a b kvs, c2 = cup a b ∧ FE most strings J kvs env2 ∧ KI J kvs ∧ kvs.length ≤ 12 := by
    intro i x env c hx hI
    obtain ⟨a, b, kvs, rfl, ⟨s5, s6, s7, s8, rfl⟩, hK, hl⟩ := hI
    obtain ⟨env1, he1⟩ : ∃ env1, env1 = [none, some ⟨0, most⟩, some ⟨0, strings⟩, some ⟨0, .int J⟩, some ⟨1, .dct true kvs⟩, s5, some ⟨0, x⟩, s7, s8, none, none, none] := ⟨_, rfl⟩
    obtain ⟨o, a1, b1, q1, o0, o1⟩ := em_roll hr (n := n + 1) (env := env1) (e := .var 3) (a := a) (b := b) (a1 := a) (b1 := b) (m := J) (by rw [he1] <;> rfl) (by omega) (by omega)
    obtain ⟨t, a2, b2, q2, t0, t1⟩ := em_roll hr (n := n + 1) (env := env1) (e := .var 3) (a := a1) (b := b1) (a1 := a1) (b1 := b1) (m := J) (by rw [he1] <;> rfl) (by omega) (by omega)
    obtain ⟨env2, he2⟩ : ∃ env2, env2 = [none, some ⟨0, most⟩, some ⟨0, strings⟩, some ⟨0, .int J⟩, some ⟨1, .dct true kvs⟩, s5, some ⟨0, x⟩, some ⟨0, .int o⟩, some ⟨0, .int t⟩, none, none, none] := ⟨_, rfl⟩
    rw [he1] at q1 q2
    by_cases hc : o < t
    · by_cases hc2 : kvs.length < 12
      · obtain ⟨w, a3, b3, q3, w0, w1⟩ := em_roll hr (n := n + 1) (env := env2) (e := .con (.int 9)) (a := a2) (b := b2) (a1 := a2) (b1 := b2) (m := 9) rfl (by omega) (by omega)
        rw [he2] at q3
        refine ⟨_, [none, some ⟨0, most⟩, some ⟨0, strings⟩, some ⟨0, .int J⟩, some ⟨1, .dct true (dput kvs (.tup [.inl o, .inl t]) (.int (1 + w)))⟩, s5, some ⟨0, x⟩, some ⟨0, .int o⟩, some ⟨0, .int t⟩, none, none, none], cup a3 b3, rfl, ?_, a3, b3, _, rfl, ⟨_, _, _, _, rfl⟩, ki_put hK o0 hc (by omega) (by omega) (by omega), by have := dput_len' (kvs := kvs) (q := .tup [.inl o, .inl t]) (x := .int (1 + w)); omega⟩
        show evB (callF P (n + 2)) fr _ [none, some ⟨0, most⟩, some ⟨0, strings⟩, some ⟨0, .int J⟩, some ⟨1, .dct true kvs⟩, s5, some ⟨0, x⟩, s7, s8, none, none, none] (cup a b) = _
        have hz : kvs.length < SZ := by unfold SZ; omega
        have hc3 : (kvs.length : Int) < 12 := by omega
        simp [evB, evS, ev, em, evs, lo, hi, cmp, tst, truth, Res.of, Res.bind, Res.out, Out.bind, op2, okR, okP, validP, modS, modP, putV, keyIn, keyOf?, keyOf?.keys?, isTupKey, setAll, PVL.b1, hz, hc, hc3, ↓q1, ↓q2, ↓q3]
      · refine ⟨_, [none, some ⟨0, most⟩, some ⟨0, strings⟩, some ⟨0, .int J⟩, some ⟨1, .dct true kvs⟩, s5, some ⟨0, x⟩, some ⟨0, .int o⟩, some ⟨0, .int t⟩, none, none, none], cup a2 b2, rfl, ?_, a2, b2, kvs, rfl, ⟨_, _, _, _, rfl⟩, hK, hl⟩
        show evB (callF P (n + 2)) fr _ [none, some ⟨0, most⟩, some ⟨0, strings⟩, some ⟨0, .int J⟩, some ⟨1, .dct true kvs⟩, s5, some ⟨0, x⟩, s7, s8, none, none, none] (cup a b) = _
        have hc3 : ¬ (kvs.length : Int) < 12 := by omega
        simp [evB, evS, ev, em, evs, lo, hi, cmp, tst, truth, Res.of, Res.bind, Res.out, Out.bind, setAll, PVL.b1, hc, hc3, ↓q1, ↓q2]
    · refine ⟨_, [none, some ⟨0, most⟩, some ⟨0, strings⟩, some ⟨0, .int J⟩, some ⟨1, .dct true kvs⟩, s5, some ⟨0, x⟩, some ⟨0, .int o⟩, some ⟨0, .int t⟩, none, none, none], cup a2 b2, rfl, ?_, a2, b2, kvs, rfl, ⟨_, _, _, _, rfl⟩, hK, hl⟩
      show evB (callF P (n + 2)) fr _ [none, some ⟨0, most⟩, some ⟨0, strings⟩, some ⟨0, .int J⟩, some ⟨1, .dct true kvs⟩, s5, some ⟨0, x⟩, s7, s8, none, none, none] (cup a b) = _
      simp [evB, evS, ev, em, evs, lo, hi, cmp, tst, truth, Res.of, Res.bind, Res.out, Out.bind, setAll, hc, ↓q1, ↓q2]
  obtain ⟨env', c', e, a', b', kvs, rfl, hE', hK, hl⟩ := forL_inv (tg := .nm 6) (f := fun env c => evB (callF P (n + 2)) fr body2 env c)
    (I := fun _ env c => ∃ a b kvs, c = cup a b ∧ FE most strings J kvs env ∧ KI J kvs ∧ kvs.length ≤ 12) (rng 0 k) 0 env (cup a b) step ⟨a, b, kvs, rfl, hE, hK, hl⟩
  exact ⟨env', a', b', kvs, e, hE', hK, hl⟩
end
def pk (p : Int × Int) : DKey := .tup [.inl p.1, .inl p.2]
theorem ki_prs {J : Int} : ∀ {kvs : List (DKey × PV)}, (∀ kv ∈ kvs, ∃ a b w : Int, kv = (.tup [.inl a, .inl b], .int w) ∧ 0 ≤ a ∧ a < b ∧ b ≤ J - 1 ∧ 1 ≤ w ∧ w ≤ 9) → ∃ ps, dprs? kvs = some ps ∧ kvs.map (·.1) = ps.map pk
  | [], _ => ⟨[], rfl, rfl⟩
  | kv :: kvs, h => by
    obtain ⟨a, b, w, rfl, _⟩ := h kv List.mem_cons_self
    obtain ⟨ps, h1, h2⟩ := ki_prs (kvs := kvs) fun kv hk => h kv (List.mem_cons_of_mem _ hk)
    refine ⟨(a, b) :: ps, by unfold dprs?; rw [h1] <;> rfl, by rw [List.map_cons, List.map_cons, h2] <;> rfl⟩
theorem ki_get {J : Int} {kvs : List (DKey × PV)} (h : KI J kvs) {k : DKey} (hk : k ∈ kvs.map (·.1)) : ∃ a b w : Int, k = .tup [.inl a, .inl b] ∧ dget kvs k = some (.int w) ∧ 0 ≤ a ∧ a < b ∧ b ≤ J - 1 ∧ 1 ≤ w ∧ w ≤ 9 := by
  obtain ⟨kv, hm, rfl⟩ := List.mem_map.mp hk
  unfold dget
  cases e : kvs.find? fun x => decide (x.1 = kv.1) with
  | none =>
    have := List.find?_eq_none.mp e kv hm
    simp at this
  | some kv' =>
    have h1 := List.mem_of_find?_eq_some e
    have h2 : kv'.1 = kv.1 := by simpa using List.find?_some e
    obtain ⟨a, b, w, rfl, r⟩ := h.1 kv' h1
    exact ⟨a, b, w, h2.symm, rfl, r⟩
theorem pk_inj : ∀ a b : Int × Int, pk a = pk b → a = b := fun a b h => by
  unfold pk at h
  injection h with h
  injection h with h1 h2
  injection h2 with h2 _
  injection h1 with h1
  injection h2 with h2
  exact Prod.ext h1 h2
theorem adj {α : Type} {R : α → α → Prop} : ∀ {l : List α}, l.Pairwise R → ∀ p ∈ l.zip (l.drop 1), R p.1 p.2
  | [], _, p, h => by simp at h
  | [x], _, p, h => by simp at h
  | x :: y :: l, hp, p, h => by
    rw [List.pairwise_cons] at hp
    have h' : p ∈ (x, y) :: ((y :: l).zip l) := h
    rcases List.mem_cons.mp h' with e | e
    · rw [e]; exact hp.1 y List.mem_cons_self
    · exact adj hp.2 p e
/-- the limbs of the keys, in order -/
def limbOf (kvs : List (DKey × PV)) (p : Int × Int) : PV := .tup [.int p.1, .int p.2, (dget kvs (pk p)).getD .non]
theorem limbs_fit {J : Int} {kvs : List (DKey × PV)} (h : KI J kvs) {ps : List (Int × Int)} (hp : kvs.map (·.1) = ps.map pk) (hl : kvs.length ≤ 12) : fitsLimbs J (.tup ((sortP ps).map (limbOf kvs))) = true := by
  have hn : ps.Nodup := by
    have := h.2
    rw [hp] at this
    exact (List.pairwise_map.mp this).imp fun {a b} h e => h (by rw [e])
  have hlen : ps.length = kvs.length := by have := congrArg List.length hp; rw [List.length_map, List.length_map] at this; omega
  have hmem : ∀ p ∈ sortP ps, ∃ w : Int, limbOf kvs p = .tup [.int p.1, .int p.2, .int w] ∧ 0 ≤ p.1 ∧ p.1 < p.2 ∧ p.2 ≤ J - 1 ∧ 1 ≤ w ∧ w ≤ 9 := fun p hm => by
    have hm2 : p ∈ ps := (perm_sortP ps).mem_iff.mp hm
    obtain ⟨a, b, w, e1, e2, r⟩ := ki_get h (k := pk p) (by rw [hp]; exact List.mem_map.mpr ⟨p, hm2, rfl⟩)
    have : p = (a, b) := pk_inj _ _ e1
    subst this
    exact ⟨w, by unfold limbOf; rw [e2] <;> rfl, r⟩
  unfold fitsLimbs
  rw [Bool.and_eq_true]
  constructor
  · show (decide ((0 : Int) ≤ ((sortP ps).map (limbOf kvs)).length) && decide ((((sortP ps).map (limbOf kvs)).length : Int) ≤ 12)) = true
    rw [List.length_map, (perm_sortP ps).length_eq, hlen]
    simp
    omega
  · rw [Bool.and_eq_true]
    constructor
    · rw [List.all_eq_true]
      intro x hx
      obtain ⟨p, hm, rfl⟩ := List.mem_map.mp hx
      obtain ⟨w, e, r1, r2, r3, r4, r5⟩ := hmem p hm
      rw [e]
      unfold fitsLimb whole ltV
      simp
      omega
    · unfold ascP
      rw [List.all_eq_true]
      intro q hq
      rw [← List.map_drop, List.zip_map] at hq
      obtain ⟨⟨p1, p2⟩, hz, rfl⟩ := List.mem_map.mp hq
      have hpw : (sortP ps).Pairwise (fun p q => leP p q = true ∧ p ≠ q) := (pw_sortP ps).and ((perm_sortP ps).nodup_iff.mpr hn)
      obtain ⟨g1, g2⟩ := adj hpw (p1, p2) hz
      obtain ⟨w1, e1, _⟩ := hmem p1 (List.of_mem_zip hz).1
      obtain ⟨w2, e2, _⟩ := hmem p2 (List.mem_of_mem_drop (List.of_mem_zip hz).2)
      show lt2 (limbOf kvs p1) (limbOf kvs p2) = true
      rw [e1, e2]
      have g3 := leP_iff.mp g1
      show lexLt [p1.1, p1.2] [p2.1, p2.2] = true
      unfold lexLt
      by_cases ea : p1.1 = p2.1
      · rw [if_pos ea]
        unfold lexLt
        have eb : ¬ p1.2 = p2.2 := fun eb => g2 (Prod.ext ea eb)
        have g3' : p1.1 < p2.1 ∨ (p1.1 = p2.1 ∧ p1.2 ≤ p2.2) := g3
        rw [if_neg eb, decide_eq_true_eq]
        omega
      · rw [if_neg ea, decide_eq_true_eq]
        have g3' : p1.1 < p2.1 ∨ (p1.1 = p2.1 ∧ p1.2 ≤ p2.2) := g3
        omega
end PVL
end

section
set_option Elab.async false
set_option linter.all false
set_option maxRecDepth 100000
set_option maxHeartbeats 8000000
/-! PVM9: drawn figures (3). -/
namespace PVL
open PySem (Str)
section
variable {call : CallF} {fr : List Str} {env : Env} {c c' : PV} {e : E} {s : S} {ss : List S} {i : Nat} {x : PV}
theorem evB_cons : evB call fr (s :: ss) env c = (evS call fr s env c).bind fun env c => evB call fr ss env c := rfl
theorem st_set (h : em call e env c = .ok (0, x) c') : evS call fr (.set i false e) env c = .nx (env.set i (some ⟨0, x⟩)) c' := by
  show (ev call e env c).out _ = _
  rw [ev_of h] <;> rfl
theorem st_for {tg : Tg} {k : ItK} {srcs : List E} {body : List S} {vs xs : List PV} (h : evs call 0 srcs env c = .ok vs c') (hi : items k vs = some xs) : evS call fr (.for_ tg k srcs body) env c = forL tg (fun env c => evB call fr body env c) xs env c' := by
  show (evs call 0 srcs env c).out (fun ss c => match items k ss with
      | none => .stuck
      | some xs => forL tg (fun env c => evB call fr body env c) xs env c) = _
  rw [h, out_ok, hi]
theorem st_ret (h : em call e env c = .ok (0, x) c') : evS call fr (.ret e) env c = .ret x c' := by
  show (ev call e env c).out _ = _
  rw [ev_of h] <;> rfl
end
theorem items1 {j : Int} (h1 : -1000 ≤ j) (h2 : j ≤ 100000) : items .rng1 [.int j] = some (rng 0 j.toNat) := by
  show (if decide (-B62 ≤ j) && decide (j ≤ SZ) then some (rng 0 j.toNat) else none) = _
  rw [if_pos (by unfold B62 SZ; simp; omega)]
theorem items2 {i j : Int} (h1 : -1000 ≤ i) (h2 : i ≤ 100000) (h3 : -1000 ≤ j) (h4 : j ≤ 100000) : items .rng2 [.int i, .int j] = some (rng i (j - i).toNat) := by
  show (if decide (-B62 ≤ i) && decide (i < B62) && decide (-B62 ≤ j) && decide (j < B62) && decide (j - i ≤ SZ) then some (rng i (j - i).toNat) else none) = _
  rw [if_pos (by unfold B62 SZ; simp; omega)]
theorem okV_limbs {j : Int} {ls : List PV} (h : ls.all (fitsLimb j) = true) : okVs ls = true := okVs_all fun x hx => by
  obtain ⟨a, b, c, rfl, _⟩ := limb_shape (List.all_eq_true.mp h x hx)
  rfl
theorem okV_fig {v : PV} (h : fitsFigure v = true) : okV v = true := by
  obtain ⟨j, ls, ts, fl, rfl, _, _, _, _, _, h1, _, _, _, h2⟩ := fig_parts h
  have e1 := okV_limbs h1
  have e2 : okVs ts = true := okVs_all fun t ht => by
    obtain ⟨i, rfl, _⟩ := h2 t ht
    rfl
  simp [okV, okVs, e1, e2]
section
variable {P : Prog} (hf : P.fn "_law_figure" = some f__law_figure) (hs : P.fn "_law_some" = some f__law_some) (hr : RollAt P)
include hf hs hr in
theorem law_figure_ok (n : Nat) {most strings : Int} (m1 : 1 ≤ most) (m2 : most ≤ 8) (k1 : 1 ≤ strings) (k2 : strings ≤ 6) (a b : Int) :
    ∃ v a' b', callF P (n + 3) "_law_figure" [.int most, .int strings] (cup a b) = .ok v (cup a' b') ∧ fitsFigure v = true ∧ ∃ j r, v = .tup (.int j :: r) ∧ j ≤ most := by
  rw [callF_at hf]
  -- joints
  obtain ⟨env0, he0⟩ : ∃ env0 : Env, env0 = [none, some ⟨0, .int most⟩, some ⟨0, .int strings⟩, none, none, none, none, none, none, none, none, none] := ⟨_, rfl⟩
  obtain ⟨r, a1, b1, q1, r0, r1⟩ := em_roll hr (n := n + 1) (env := env0) (e := .var 1) (a := a) (b := b) (a1 := a) (b1 := b) (m := most) (by rw [he0] <;> rfl) (by omega) (by omega)
  obtain ⟨J, hJ⟩ : ∃ J, J = 1 + r := ⟨_, rfl⟩
  have J1 : 1 ≤ J := by omega
  have J8 : J ≤ 8 := by omega
  have s1 : evS (callF P (n + 2)) P.fr (.set 3 false (.op .add (.con (.int 1)) (.callc "_law_roll" [.var 1]))) env0 (cup a b) = .nx (env0.set 3 (some ⟨0, .int J⟩)) (cup a1 b1) := by
    refine st_set ?_
    rw [hJ]
    simp [em, lo, hi, Res.bind, Res.of, op2, ↓q1]
  have s2 : evS (callF P (n + 2)) P.fr (.set 4 true (.dct0 true)) (env0.set 3 (some ⟨0, .int J⟩)) (cup a1 b1) = .nx [none, some ⟨0, .int most⟩, some ⟨0, .int strings⟩, some ⟨0, .int J⟩, some ⟨1, .dct true []⟩, none, none, none, none, none, none, none] (cup a1 b1) := by
    rw [he0] <;> rfl
  obtain ⟨env3, a3, b3, kvs3, q3, hE3, hK3, hl3⟩ := fig_loop1 hs hr (fr := P.fr) n (most := .int most) (strings := .int strings) J1 J8 [none, some ⟨0, .int most⟩, some ⟨0, .int strings⟩, some ⟨0, .int J⟩, some ⟨1, .dct true []⟩, none, none, none, none, none, none, none] a1 b1 ⟨_, _, _, _, rfl⟩
  have s3 : evS (callF P (n + 2)) P.fr (.for_ (.nm 5) .rng2 [.con (.int 1), .var 3] [.ife (.cmp .gt (.callc "_law_roll" [.con (.int 7)]) (.con (.int 0))) [.put 4 [] (.tup [.callc "_law_roll" [.var 5], .var 5]) (.op .add (.con (.int 1)) (.callc "_law_roll" [.callc "_law_some" [.lst 0 [.con (.int 3), .con (.int 9)]]]))] []]) [none, some ⟨0, .int most⟩, some ⟨0, .int strings⟩, some ⟨0, .int J⟩, some ⟨1, .dct true []⟩, none, none, none, none, none, none, none] (cup a1 b1) = .nx env3 (cup a3 b3) := by
    rw [st_for (vs := [.int 1, .int J]) (xs := rng 1 (J - 1).toNat) rfl (items2 (by omega) (by omega) (by omega) (by omega))]
    exact q3
  -- the second loop
  obtain ⟨k, a4, b4, q4⟩ : ∃ (k : Nat) (a4 b4 : Int), evs (callF P (n + 2)) 0 [.ife (.cmp .gt (.var 3) (.con (.int 2))) (.callc "_law_roll" [.con (.int 4)]) (.con (.int 0))] env3 (cup a3 b3) = .ok [.int k] (cup a4 b4) ∧ k ≤ 4 := by
    obtain ⟨s5, s6, s7, s8, rfl⟩ := hE3
    obtain ⟨t, a4, b4, q, t0, t1⟩ := em_roll hr (n := n + 1) (env := [none, some ⟨0, .int most⟩, some ⟨0, .int strings⟩, some ⟨0, .int J⟩, some ⟨1, .dct true kvs3⟩, s5, s6, s7, s8, none, none, none]) (e := .con (.int 4)) (a := a3) (b := b3) (a1 := a3) (b1 := b3) (m := 4) rfl (by omega) (by omega)
    by_cases hj : 2 < J
    · refine ⟨t.toNat, a4, b4, ?_, by omega⟩
      have et : ((t.toNat : Nat) : Int) = t := by omega
      rw [et]
      refine evs_one (d := 0) ?_ (Nat.le_refl _)
      simp [em, lo, hi, tst, truth, cmp, Res.bind, Res.of, hj, ↓q]
    · refine ⟨0, a3, b3, ?_, by omega⟩
      refine evs_one (d := 0) ?_ (Nat.le_refl _)
      simp [em, lo, hi, tst, truth, cmp, Res.bind, Res.of, hj]
  obtain ⟨env5, a5, b5, kvs, q5, ⟨s5, s6, s7, s8, rfl⟩, hK, hl⟩ := fig_loop2 hr (fr := P.fr) n (most := .int most) (strings := .int strings) J1 J8 k env3 kvs3 a4 b4 hE3 hK3 (by omega)
  have s4 : evS (callF P (n + 2)) P.fr (.for_ (.nm 6) .rng1 [.ife (.cmp .gt (.var 3) (.con (.int 2))) (.callc "_law_roll" [.con (.int 4)]) (.con (.int 0))] body2) env3 (cup a3 b3) = .nx [none, some ⟨0, .int most⟩, some ⟨0, .int strings⟩, some ⟨0, .int J⟩, some ⟨1, .dct true kvs⟩, s5, s6, s7, s8, none, none, none] (cup a5 b5) := by
    rw [st_for (xs := rng 0 k) q4.1 (items1 (by omega) (by have := q4.2; omega))]
    exact q5
  -- the limbs
  obtain ⟨ps, p1, p2⟩ := ki_prs hK.1
  have hfit := limbs_fit hK p2 hl
  have hget : ∀ p ∈ sortP ps, ∃ w : Int, dget kvs (pk p) = some (.int w) := fun p hm => by
    obtain ⟨_, _, w, _, e, _⟩ := ki_get hK (k := pk p) (by rw [p2]; exact List.mem_map.mpr ⟨p, (perm_sortP ps).mem_iff.mp hm, rfl⟩)
    exact ⟨w, e⟩
  obtain ⟨env6, he6⟩ : ∃ env6 : Env, env6 = [none, some ⟨0, .int most⟩, some ⟨0, .int strings⟩, some ⟨0, .int J⟩, some ⟨1, .dct true kvs⟩, s5, s6, s7, s8, none, none, none] := ⟨_, rfl⟩
  have q6 : em (callF P (n + 2)) (.b1 .tuple (.comp [11] (.nm 11) .seq [.b1 .sorted (.var 4)] [] 0 (.op .add (.var 11) (.tup [.ix (.var 4) (.var 11)])))) env6 (cup a5 b5) = .ok (0, .tup ((sortP ps).map (limbOf kvs))) (cup a5 b5) := by
    have hsrc : evs (callF P (n + 2)) 1 [.b1 .sorted (.var 4)] env6 (cup a5 b5) = .ok [.lst ((sortP ps).map prV)] (cup a5 b5) := by
      refine evs_one (d := 0) (em_b1 (x := .dct true kvs) (n := 1) (by rw [he6] <;> rfl) (Nat.le_refl _) ?_) (Nat.zero_le _)
      show (dprs? kvs).map _ = _
      rw [p1] <;> rfl
    have hm : ((sortP ps).map prV).map (fun x => match x with | .tup [.int p, .int q] => limbOf kvs (p, q) | _ => .non) = (sortP ps).map (limbOf kvs) := by
      rw [List.map_map] <;> rfl
    refine em_b1 (comp_map (xs := (sortP ps).map prV) (fun x => match x with | .tup [.int p, .int q] => limbOf kvs (p, q) | _ => .non) hsrc rfl fun x hx => ?_) (Nat.zero_le _) ?_
    · obtain ⟨p, hp, rfl⟩ := List.mem_map.mp hx
      obtain ⟨w, hw⟩ := hget p hp
      refine ⟨_, rfl, ?_⟩
      rw [he6]
      have hw' : dget kvs (.tup [.inl p.1, .inl p.2]) = some (.int w) := hw
      simp [ev, em, evs, lo, hi, wipe, Res.bind, Res.of, op2, item, keyIn, keyOf?, keyOf?.keys?, isTupKey, downD, prV, limbOf, pk, SZ, hw']
    · rw [hm] <;> rfl
  have s5' : evS (callF P (n + 2)) P.fr (.set 9 false (.b1 .tuple (.comp [11] (.nm 11) .seq [.b1 .sorted (.var 4)] [] 0 (.op .add (.var 11) (.tup [.ix (.var 4) (.var 11)]))))) env6 (cup a5 b5) = .nx (env6.set 9 (some ⟨0, .tup ((sortP ps).map (limbOf kvs))⟩)) (cup a5 b5) := st_set q6
  -- the ties
  obtain ⟨env7, he7⟩ : ∃ env7 : Env, env7 = env6.set 9 (some ⟨0, .tup ((sortP ps).map (limbOf kvs))⟩) := ⟨_, rfl⟩
  obtain ⟨t, a6, b6, q7, t0, t1⟩ := em_roll hr (n := n + 1) (env := env7) (e := .var 2) (a := a5) (b := b5) (a1 := a5) (b1 := b5) (m := strings) (by rw [he7, he6] <;> rfl) (by omega) (by omega)
  have hsrc2 : evs (callF P (n + 2)) 1 [.op .add (.con (.int 1)) (.callc "_law_roll" [.var 2])] env7 (cup a5 b5) = .ok [.int (1 + t)] (cup a6 b6) := by
    refine evs_one (d := 0) ?_ (Nat.zero_le _)
    simp [em, lo, hi, Res.bind, Res.of, op2, ↓q7]
  obtain ⟨ts, c7, q8, ⟨a7, b7, rfl⟩, hts⟩ := comp_draw (call := callF P (n + 2)) (own := [6]) (tg := .nm 6) (k := .rng1) (d := 0) (elt := .callc "_law_roll" [.var 3]) (I := IsCup) (R := fun _ y => ∃ i : Int, y = .int i ∧ 0 ≤ i ∧ i ≤ J - 1) hsrc2 (items1 (by omega) (by omega)) ⟨a6, b6, rfl⟩ (fun x hx c hc => by
    obtain ⟨a, b, rfl⟩ := hc
    obtain ⟨o, a', b', q, o0, o1⟩ := em_roll hr (n := n + 1) (env := (wipe env7 [6]).set 6 (some ⟨0, x⟩)) (e := .var 3) (a := a) (b := b) (a1 := a) (b1 := b) (m := J) (by rw [he7, he6] <;> rfl) (by omega) (by omega)
    exact ⟨_, .int o, cup a' b', rfl, ev_of q, ⟨a', b', rfl⟩, o, rfl, o0, by omega⟩)
  have hlt : ts.length = (1 + t).toNat := by
    have := hts.length
    rw [rng, List.length_map, List.length_range] at this
    omega
  have s6' : evS (callF P (n + 2)) P.fr (.set 10 false (.b1 .tuple (.comp [6] (.nm 6) .rng1 [.op .add (.con (.int 1)) (.callc "_law_roll" [.var 2])] [] 0 (.callc "_law_roll" [.var 3])))) env7 (cup a5 b5) = .nx (env7.set 10 (some ⟨0, .tup ts⟩)) (cup a7 b7) := st_set (em_b1 q8 (Nat.zero_le _) rfl)
  -- the whole
  obtain ⟨env8, he8⟩ : ∃ env8 : Env, env8 = env7.set 10 (some ⟨0, .tup ts⟩) := ⟨_, rfl⟩
  obtain ⟨x, a8, b8, q9, hx⟩ := em_some hs hr (n := n) (env := env8) (e := .lst 0 [.con (.int 1), .con (.int 4), .con (.int 9), .con (.int 15), .con (.int 22), .con (.int 30)]) (a := a7) (b := b7) (a1 := a7) (b1 := b7) (xs := [.int 1, .int 4, .int 9, .int 15, .int 22, .int 30]) rfl (by simp) (by simp)
  obtain ⟨fl, rfl, f1, f2⟩ : ∃ fl : Int, x = .int fl ∧ 1 ≤ fl ∧ fl ≤ 30 := by
    simp only [List.mem_cons, List.not_mem_nil, or_false] at hx
    rcases hx with e | e | e | e | e | e <;> exact ⟨_, e, by omega, by omega⟩
  refine ⟨.tup [.int J, .tup ((sortP ps).map (limbOf kvs)), .tup ts, .int fl], a8, b8, ?_, ?_, J, _, rfl, by omega⟩
  · have s7' : evS (callF P (n + 2)) P.fr (.ret (.tup [.var 3, .var 9, .var 10, .callc "_law_some" [.lst 0 [.con (.int 1), .con (.int 4), .con (.int 9), .con (.int 15), .con (.int 22), .con (.int 30)]]])) env8 (cup a7 b7) = .ret (.tup [.int J, .tup ((sortP ps).map (limbOf kvs)), .tup ts, .int fl]) (cup a8 b8) := by
      refine st_ret ?_
      have g3 : env8[3]? = some (some ⟨0, .int J⟩) := by rw [he8, he7, he6] <;> rfl
      have g9 : env8[9]? = some (some ⟨0, .tup ((sortP ps).map (limbOf kvs))⟩) := by rw [he8, he7, he6] <;> rfl
      have g10 : env8[10]? = some (some ⟨0, .tup ts⟩) := by rw [he8, he7, he6] <;> rfl
      simp [em, evs, lo, Res.bind, g3, g9, g10, ↓q9]
    have st : f__law_figure.start [.int most, .int strings] = env0 := by rw [he0] <;> rfl
    unfold Fn.run
    rw [if_pos ⟨rfl, rfl⟩, st]
    show (match evB (callF P (n + 2)) P.fr (_ :: _ :: _ :: _ :: _ :: _ :: _ :: []) env0 (cup a b) with
      | .nx _ c => _
      | .ret v c => _
      | .exc e c => _
      | .stuck => _) = _
    rw [evB_cons, s1, obind_nx, evB_cons, s2, obind_nx, evB_cons, s3, obind_nx, evB_cons, s4, obind_nx, ← he6, evB_cons, s5', obind_nx, ← he7, evB_cons, s6', obind_nx, ← he8, evB_cons, s7', obind_ret]
    rfl
  · show (whole (.int J) 1 8 && whole (.int fl) 1 30 && fitsLimbs J _ && fitsTies J (.tup ts)) = true
    rw [hfit]
    have e1 : whole (.int J) 1 8 = true := by unfold whole; simp; omega
    have e2 : whole (.int fl) 1 30 = true := by unfold whole; simp; omega
    have e3 : fitsTies J (.tup ts) = true := by
      show (decide ((1 : Int) ≤ ts.length) && decide ((ts.length : Int) ≤ 6) && ts.all fun t => whole t 0 (J - 1)) = true
      rw [Bool.and_eq_true, Bool.and_eq_true, decide_eq_true_eq, decide_eq_true_eq, List.all_eq_true]
      refine ⟨⟨by omega, by omega⟩, fun y hy => ?_⟩
      obtain ⟨i, rfl, i0, i1⟩ := hts.right (S := fun y => ∃ i : Int, y = .int i ∧ 0 ≤ i ∧ i ≤ J - 1) (fun _ y _ h => h) y hy
      unfold whole
      simp
      omega
    rw [e1, e2, e3] <;> rfl
end
end PVL
end

section
set_option Elab.async false
set_option linter.all false
set_option maxRecDepth 100000
set_option maxHeartbeats 8000000
/-! PVM10: _law_same; settings drawn. -/
namespace PVL
open PySem (Str)
def f__law_same : Fn := ⟨"_law_same", ["told", "due", "at"], 2, false, none, 0, [
    .ife (.isi .tuple (.var 1)) [.ife (.or (.not (.isi .tuple (.var 0))) (.cmp .ne (.b1 .len (.var 0)) (.b1 .len (.var 1)))) [.ret (.con (.bl false))] [], .ret (.b1 .all (.comp [2] (.nm 2) .rng1 [.b1 .len (.var 1)] [] 0 (.call "_law_same" [.ix (.var 0) (.var 2), .ix (.var 1) (.var 2)])))] [],
    .ife (.is false .non (.var 1)) [.ret (.is false .non (.var 0))] [],
    .ife (.isi .bool (.var 1)) [.ret (.ife (.var 1) (.is false .tt (.var 0)) (.is false .ff (.var 0)))] [],
    .ife (.isi .int (.var 1)) [.ret (.and (.isi .int (.var 0)) (.and (.not (.isi .bool (.var 0))) (.cmp .eq (.b1 .int (.var 0)) (.var 1))))] [],
    .ret (.and (.isi .str (.var 0)) (.cmp .eq (.b1 .str (.var 0)) (.var 1)))]⟩
/-- None, truths, ints; tuples of such, so deep -/
def plainV : Nat → PV → Prop
  | _, .non => True
  | _, .bl _ => True
  | _, .int _ => True
  | n + 1, .tup xs => xs.length ≤ 1000 ∧ ∀ x ∈ xs, plainV n x
  | _, _ => False
theorem same_ok {P : Prog} (h : P.fn "_law_same" = some f__law_same) : ∀ (d n : Nat) (v : PV), plainV d v → callF P (n + d + 1) "_law_same" [v, v] .non = .ok (.bl true) .non := by
  intro d
  induction d with
  | zero =>
    intro n v hv
    rw [callF_at h]
    cases v <;> first | (cases hv; done) | skip
    · simp [Fn.run, f__law_same, Fn.start, evB, evS, ev, em, lo, hi, tst, truth, Res.of, Res.bind, Res.out, Out.bind, isNon, PVL.isi, isS]
    · rename_i b
      cases b <;> simp [Fn.run, f__law_same, Fn.start, evB, evS, ev, em, lo, hi, tst, truth, Res.of, Res.bind, Res.out, Out.bind, isNon, PVL.isi, isS]
    · simp [Fn.run, f__law_same, Fn.start, evB, evS, ev, em, lo, hi, tst, truth, Res.of, Res.bind, Res.out, Out.bind, isNon, PVL.isi, isS, PVL.b1, cmp, isData, eqv]
  | succ d ih =>
    intro n v hv
    rw [show n + (d + 1) + 1 = (n + d + 1) + 1 by omega, callF_at h]
    cases v <;> first | (cases hv; done) | skip
    · simp [Fn.run, f__law_same, Fn.start, evB, evS, ev, em, lo, hi, tst, truth, Res.of, Res.bind, Res.out, Out.bind, isNon, PVL.isi, isS]
    · rename_i b
      cases b <;> simp [Fn.run, f__law_same, Fn.start, evB, evS, ev, em, lo, hi, tst, truth, Res.of, Res.bind, Res.out, Out.bind, isNon, PVL.isi, isS]
    · simp [Fn.run, f__law_same, Fn.start, evB, evS, ev, em, lo, hi, tst, truth, Res.of, Res.bind, Res.out, Out.bind, isNon, PVL.isi, isS, PVL.b1, cmp, isData, eqv]
    · rename_i xs
      obtain ⟨hl, hx⟩ := hv
      have a1 : em (callF P (n + d + 1)) (.b1 .all (.comp [2] (.nm 2) .rng1 [.b1 .len (.var 1)] [] 0 (.call "_law_same" [.ix (.var 0) (.var 2), .ix (.var 1) (.var 2)]))) [some ⟨0, .tup xs⟩, some ⟨0, .tup xs⟩, none] .non = .ok (0, .bl true) .non := by
        refine em_b1 (comp_map (ss := [.int xs.length]) (xs := rng 0 xs.length) (fun _ => .bl true) rfl (by rw [items1 (by omega) (by omega)]; simp) fun x hx' => ?_) (Nat.zero_le _) ?_
        · obtain ⟨i, hi', rfl⟩ := rng_mem hx'
          refine ⟨_, rfl, ?_⟩
          have q := ih n xs[i] (hx _ (List.getElem_mem _))
          have e1 : ixN xs.length (i : Int) = some i := by unfold ixN; rw [if_pos (by omega), if_pos (by omega)]; simp
          simp [ev, em, evs, lo, hi, wipe, Res.bind, Res.of, item, atI, downD, e1, hi', q]
        · rw [all_bools (fun _ => true)]
          simp
      simp [Fn.run, f__law_same, Fn.start, evB, evS, ev, em, evs, lo, hi, tst, truth, Res.of, Res.bind, Res.out, Out.bind, isNon, PVL.isi, PVL.b1, cmp, isData, eqv, ↓a1]
end PVL
end

section
set_option Elab.async false
set_option linter.all false
set_option maxRecDepth 100000
set_option maxHeartbeats 8000000
/-! PVM11: settings drawn; limbs at a joint. -/
namespace PVL
open PySem (Str)
def f__law_setting : Fn := ⟨"_law_setting", ["cup", "figure", "floor", "tie"], 2, true, (some 0), 0, [
    .set 2 false (.ix (.var 1) (.con (.int 3))),
    .ret (.b1 .tuple (.comp [3] (.nm 3) .seq [.ix (.var 1) (.con (.int 2))] [] 0 (.callc "_law_some" [.lst 0 [.var 2, .con (.int 0), .callc "_law_roll" [.op .add (.var 2) (.con (.int 1))], .callc "_law_roll" [.op .add (.var 2) (.con (.int 1))], .callc "_law_roll" [.op .add (.var 2) (.con (.int 1))]]])))]⟩
section
variable {P : Prog} (hS : P.fn "_law_setting" = some f__law_setting) (hs : P.fn "_law_some" = some f__law_some) (hr : RollAt P)
include hS hs hr in
theorem law_setting_ok (n : Nat) (j ls : PV) (ts : List PV) (fl : Int) (f1 : 1 ≤ fl) (f2 : fl ≤ 30) (hl : ts.length ≤ 6) (a b : Int) :
    ∃ xs a' b', callF P (n + 3) "_law_setting" [.tup [j, ls, .tup ts, .int fl]] (cup a b) = .ok (.tup xs) (cup a' b') ∧ xs.length = ts.length ∧ ∀ x ∈ xs, ∃ i : Int, x = .int i ∧ 0 ≤ i ∧ i ≤ fl := by
  rw [callF_at hS]
  obtain ⟨env0, he0⟩ : ∃ env0 : Env, env0 = [none, some ⟨0, .tup [j, ls, .tup ts, .int fl]⟩, some ⟨0, .int fl⟩, none] := ⟨_, rfl⟩
  have hsrc : evs (callF P (n + 2)) 1 [.ix (.var 1) (.con (.int 2))] env0 (cup a b) = .ok [.tup ts] (cup a b) := by
    rw [he0] <;> rfl
  obtain ⟨xs, c', q, ⟨a', b', rfl⟩, hx⟩ := comp_draw (call := callF P (n + 2)) (own := [3]) (tg := .nm 3) (k := .seq) (d := 0) (elt := .callc "_law_some" [.lst 0 [.var 2, .con (.int 0), .callc "_law_roll" [.op .add (.var 2) (.con (.int 1))], .callc "_law_roll" [.op .add (.var 2) (.con (.int 1))], .callc "_law_roll" [.op .add (.var 2) (.con (.int 1))]]])
    (I := IsCup) (R := fun _ y => ∃ i : Int, y = .int i ∧ 0 ≤ i ∧ i ≤ fl) hsrc rfl ⟨a, b, rfl⟩ (fun x hx c hc => by
    obtain ⟨a, b, rfl⟩ := hc
    obtain ⟨env1, he1⟩ : ∃ env1, env1 = (wipe env0 [3]).set 3 (some ⟨0, x⟩) := ⟨_, rfl⟩
    have hv : env1[2]? = some (some ⟨0, .int fl⟩) := by rw [he1, he0] <;> rfl
    have e1 : ∀ a b, em (callF P (n + 2)) (.op .add (.var 2) (.con (.int 1))) env1 (cup a b) = .ok (0, .int (fl + 1)) (cup a b) := fun a b => by
      simp [em, lo, hi, Res.bind, Res.of, op2, hv]
    obtain ⟨r1, a1, b1, q1, r10, r11⟩ := em_roll hr (n := n + 1) (e1 a b) (by omega) (by omega)
    obtain ⟨r2, a2, b2, q2, r20, r21⟩ := em_roll hr (n := n + 1) (e1 a1 b1) (by omega) (by omega)
    obtain ⟨r3, a3, b3, q3, r30, r31⟩ := em_roll hr (n := n + 1) (e1 a2 b2) (by omega) (by omega)
    have el : em (callF P (n + 2)) (.lst 0 [.var 2, .con (.int 0), .callc "_law_roll" [.op .add (.var 2) (.con (.int 1))], .callc "_law_roll" [.op .add (.var 2) (.con (.int 1))], .callc "_law_roll" [.op .add (.var 2) (.con (.int 1))]]) env1 (cup a b) = .ok (0, .lst [.int fl, .int 0, .int r1, .int r2, .int r3]) (cup a3 b3) := by
      simp [em, evs, lo, Res.bind, hv, ↓q1, ↓q2, ↓q3]
    obtain ⟨y, a4, b4, q4, hy⟩ := em_some hs hr (n := n) el (by simp) (by simp)
    refine ⟨env1, y, cup a4 b4, by rw [he1] <;> rfl, ev_of q4, ⟨a4, b4, rfl⟩, ?_⟩
    simp only [List.mem_cons, List.not_mem_nil, or_false] at hy
    rcases hy with e | e | e | e | e <;> exact ⟨_, e, by omega, by omega⟩)
  refine ⟨xs, a', b', ?_, hx.length.symm, hx.right (fun _ y _ h => h)⟩
  have s1 : evS (callF P (n + 2)) P.fr (.set 2 false (.ix (.var 1) (.con (.int 3)))) [none, some ⟨0, .tup [j, ls, .tup ts, .int fl]⟩, none, none] (cup a b) = .nx env0 (cup a b) := by rw [he0] <;> rfl
  have s2 := st_ret (fr := P.fr) (em_b1 (f := .tuple) q (Nat.zero_le _) rfl)
  unfold Fn.run
  rw [if_pos ⟨rfl, rfl⟩]
  show (match evB (callF P (n + 2)) P.fr (_ :: _ :: []) [none, some ⟨0, .tup [j, ls, .tup ts, .int fl]⟩, none, none] (cup a b) with
    | .nx _ c => _
    | .ret v c => _
    | .exc e c => _
    | .stuck => _) = _
  rw [evB_cons, s1, obind_nx, evB_cons, s2, obind_ret]
  rfl
end
/-! ### beside -/
def f_beside : Fn := ⟨"beside", ["figure", "joint", "found", "one", "other", "length"], 2, false, none, 0, [
    .set 2 false (.comp [3, 4, 5] (.tup [.nm 3, .nm 4, .nm 5]) .seq [.ix (.var 0) (.con (.int 1))] [.cmp .eq (.var 3) (.var 1)] 0 (.tup [.var 4, .var 5])),
    .ret (.b1 .sorted (.op .add (.var 2) (.comp [3, 4, 5] (.tup [.nm 3, .nm 4, .nm 5]) .seq [.ix (.var 0) (.con (.int 1))] [.cmp .eq (.var 4) (.var 1)] 0 (.tup [.var 3, .var 5]))))]⟩
def f__law_beside : Fn := ⟨"_law_beside", ["figure", "joint", "found", "one", "other", "length"], 2, false, none, 0, [
    .set 2 false (.lst 0 []),
    .for_ (.tup [.nm 3, .nm 4, .nm 5]) .seq [.ix (.var 0) (.con (.int 1))] [.set 2 false (.op .add (.var 2) (.ife (.cmp .eq (.var 3) (.var 1)) (.lst 0 [.tup [.var 4, .var 5]]) (.ife (.cmp .eq (.var 4) (.var 1)) (.lst 0 [.tup [.var 3, .var 5]]) (.lst 0 []))))],
    .ret (.b1 .sorted (.var 2))]⟩
/-- limbs in ints -/
abbrev L3 := Int × Int × Int
def l3V (l : L3) : PV := .tup [.int l.1, .int l.2.1, .int l.2.2]
def upL (i : Int) (l : L3) : List (Int × Int) := if l.1 = i then [(l.2.1, l.2.2)] else []
def dnL (i : Int) (l : L3) : List (Int × Int) := if l.2.1 = i then [(l.1, l.2.2)] else []
def besideL (i : Int) (ls : List L3) : List (Int × Int) := sortP (ls.flatMap (upL i) ++ ls.flatMap (dnL i))
theorem prs_map : ∀ ps : List (Int × Int), prs? (ps.map prV) = some ps
  | [] => rfl
  | p :: ps => by
    rw [List.map_cons]
    show (prs? (ps.map prV)).map ((p.1, p.2) :: ·) = _
    rw [prs_map ps] <;> rfl
theorem ints_prs (ps : List (Int × Int)) (h : ps ≠ []) : ints? (ps.map prV) = none := by
  cases ps with
  | nil => exact absurd rfl h
  | cons p ps => rfl
theorem sorted_prs (ps : List (Int × Int)) : PVL.b1 .sorted (.lst (ps.map prV)) = some (.lst ((sortP ps).map prV)) := by
  cases ps with
  | nil => rfl
  | cons p ps =>
    show (match ints? ((p :: ps).map prV) with
      | some ns => some (PV.lst ((sortI ns).map .int))
      | none => (prs? ((p :: ps).map prV)).map fun ps => .lst ((sortP ps).map prV)) = _
    rw [ints_prs _ (by simp), prs_map] <;> rfl
end PVL
end

section
set_option Elab.async false
set_option linter.all false
set_option maxRecDepth 100000
set_option maxHeartbeats 8000000
/-! PVM12: beside. -/
namespace PVL
open PySem (Str)
theorem sortP_congr {l m : List (Int × Int)} (h : l.Perm m) : sortP l = sortP m :=
  List.Perm.eq_of_pairwise (fun a b _ _ h1 h2 => by
    have h1 := leP_iff.mp h1
    have h2 := leP_iff.mp h2
    exact Prod.ext (by omega) (by omega)) (pw_sortP l) (pw_sortP m) ((perm_sortP l).trans (h.trans (perm_sortP m).symm))
theorem filter_up (i : Int) : ∀ ls : List L3, ((ls.map l3V).filter (fun x => match x with | .tup [.int a, _, _] => decide (a = i) | _ => false)).map (fun x => match x with | .tup [_, .int b, .int c] => prV (b, c) | _ => .non) = (ls.flatMap (upL i)).map prV
  | [] => rfl
  | l :: ls => by
    have ih := filter_up i ls
    rw [List.map_cons, List.flatMap_cons, List.map_append, ← ih, List.filter_cons]
    unfold upL
    by_cases h : l.1 = i
    · simp [l3V, h]
    · simp [l3V, h]
theorem filter_dn (i : Int) : ∀ ls : List L3, ((ls.map l3V).filter (fun x => match x with | .tup [_, .int b, _] => decide (b = i) | _ => false)).map (fun x => match x with | .tup [.int a, _, .int c] => prV (a, c) | _ => .non) = (ls.flatMap (dnL i)).map prV
  | [] => rfl
  | l :: ls => by
    have ih := filter_dn i ls
    rw [List.map_cons, List.flatMap_cons, List.map_append, ← ih, List.filter_cons]
    unfold dnL
    by_cases h : l.2.1 = i
    · simp [l3V, h]
    · simp [l3V, h]
theorem flat_len {f : L3 → List (Int × Int)} (hf : ∀ l, (f l).length ≤ 1) : ∀ ls : List L3, (ls.flatMap f).length ≤ ls.length
  | [] => Nat.le_refl _
  | l :: ls => by
    have := flat_len hf ls
    have := hf l
    rw [List.flatMap_cons, List.length_append, List.length_cons]
    omega
theorem up_len (i : Int) (l : L3) : (upL i l).length ≤ 1 := by unfold upL; split <;> simp
theorem dn_len (i : Int) (l : L3) : (dnL i l).length ≤ 1 := by unfold dnL; split <;> simp
theorem beside_ok {P : Prog} (h : P.fn "beside" = some f_beside) (n : Nat) (J ts fl : PV) (ls : List L3) (i : Int) (hl : ls.length ≤ 1000) :
    callF P (n + 1) "beside" [.tup [J, .tup (ls.map l3V), ts, fl], .int i] .non = .ok (.lst ((besideL i ls).map prV)) .non := by
  rw [callF_at h]
  obtain ⟨env0, he0⟩ : ∃ env0 : Env, env0 = [some ⟨0, .tup [J, .tup (ls.map l3V), ts, fl]⟩, some ⟨0, .int i⟩, none, none, none, none] := ⟨_, rfl⟩
  have q1 : em (callF P n) (.comp [3, 4, 5] (.tup [.nm 3, .nm 4, .nm 5]) .seq [.ix (.var 0) (.con (.int 1))] [.cmp .eq (.var 3) (.var 1)] 0 (.tup [.var 4, .var 5])) env0 .non = .ok (0, .lst ((ls.flatMap (upL i)).map prV)) .non := by
    rw [← filter_up]
    refine comp_pure (ss := [.tup (ls.map l3V)]) (xs := ls.map l3V) (fun x => match x with | .tup [.int a, _, _] => decide (a = i) | _ => false) (fun x => match x with | .tup [_, .int b, .int c] => prV (b, c) | _ => .non) (by rw [he0] <;> rfl) rfl fun x hx => ?_
    obtain ⟨l, _, rfl⟩ := List.mem_map.mp hx
    refine ⟨_, rfl, ?_, fun _ => ?_⟩
    · rw [he0]
      simp [evc, em, lo, hi, wipe, tst, truth, Res.bind, Res.of, cmp, isData, eqv, l3V]
      rfl
    · rw [he0]
      simp [ev, em, evs, lo, hi, wipe, Res.bind, l3V, prV]
  obtain ⟨env1, he1⟩ : ∃ env1 : Env, env1 = env0.set 2 (some ⟨0, .lst ((ls.flatMap (upL i)).map prV)⟩) := ⟨_, rfl⟩
  have q2 : em (callF P n) (.comp [3, 4, 5] (.tup [.nm 3, .nm 4, .nm 5]) .seq [.ix (.var 0) (.con (.int 1))] [.cmp .eq (.var 4) (.var 1)] 0 (.tup [.var 3, .var 5])) env1 .non = .ok (0, .lst ((ls.flatMap (dnL i)).map prV)) .non := by
    rw [← filter_dn]
    refine comp_pure (ss := [.tup (ls.map l3V)]) (xs := ls.map l3V) (fun x => match x with | .tup [_, .int b, _] => decide (b = i) | _ => false) (fun x => match x with | .tup [.int a, _, .int c] => prV (a, c) | _ => .non) (by rw [he1, he0] <;> rfl) rfl fun x hx => ?_
    obtain ⟨l, _, rfl⟩ := List.mem_map.mp hx
    refine ⟨_, rfl, ?_, fun _ => ?_⟩
    · rw [he1, he0]
      simp [evc, em, lo, hi, wipe, tst, truth, Res.bind, Res.of, cmp, isData, eqv, l3V]
      rfl
    · rw [he1, he0]
      simp [ev, em, evs, lo, hi, wipe, Res.bind, l3V, prV]
  have hv : env1[2]? = some (some ⟨0, .lst ((ls.flatMap (upL i)).map prV)⟩) := by rw [he1, he0] <;> rfl
  have hz : ((ls.flatMap (upL i)).map prV).length + ((ls.flatMap (dnL i)).map prV).length ≤ SZ := by
    rw [List.length_map, List.length_map]
    have := flat_len (up_len i) ls
    have := flat_len (dn_len i) ls
    unfold SZ
    omega
  have q3 : em (callF P n) (.op .add (.var 2) (.comp [3, 4, 5] (.tup [.nm 3, .nm 4, .nm 5]) .seq [.ix (.var 0) (.con (.int 1))] [.cmp .eq (.var 4) (.var 1)] 0 (.tup [.var 3, .var 5]))) env1 .non = .ok (0, .lst ((ls.flatMap (upL i) ++ ls.flatMap (dnL i)).map prV)) .non := by
    show hi ((lo 1 (em (callF P n) (.var 2) env1 .non)).bind fun x c => (lo 1 (em (callF P n) _ env1 c)).bind fun y c => .of (op2 .add x y) c) = _
    have e : em (callF P n) (.var 2) env1 .non = .ok (0, .lst ((ls.flatMap (upL i)).map prV)) .non := by
      show (match env1[2]? with | some (some s) => Res.ok (s.d, s.v) .non | _ => .stuck) = _
      rw [hv]
    rw [e, lo_ok, if_pos (Nat.zero_le _), bind_ok, q2, lo_ok, if_pos (Nat.zero_le _), bind_ok]
    show hi (.of (if _ ≤ SZ then some (PV.lst (_ ++ _)) else none) _) = _
    rw [if_pos hz, List.map_append] <;> rfl
  have s1 := st_set (fr := P.fr) (i := 2) q1
  have s2 := st_ret (fr := P.fr) (em_b1 (f := .sorted) q3 (Nat.zero_le _) (sorted_prs _))
  unfold Fn.run
  rw [if_pos ⟨rfl, rfl⟩]
  show (match evB (callF P n) P.fr (_ :: _ :: []) [some ⟨0, .tup [J, .tup (ls.map l3V), ts, fl]⟩, some ⟨0, .int i⟩, none, none, none, none] .non with
    | .nx _ c => _
    | .ret v c => _
    | .exc e c => _
    | .stuck => _) = _
  rw [← he0, evB_cons, s1, obind_nx, ← he1, evB_cons, s2, obind_ret]
  rfl
end PVL
end

section
set_option Elab.async false
set_option linter.all false
set_option maxRecDepth 100000
set_option maxHeartbeats 8000000
/-! PVM13: _law_beside is beside. -/
namespace PVL
open PySem (Str)
def mixL (i : Int) (l : L3) : List (Int × Int) := if l.1 = i then [(l.2.1, l.2.2)] else if l.2.1 = i then [(l.1, l.2.2)] else []
theorem mix_perm (i : Int) : ∀ {ls : List L3}, (∀ l ∈ ls, l.1 < l.2.1) → (ls.flatMap (mixL i)).Perm (ls.flatMap (upL i) ++ ls.flatMap (dnL i))
  | [], _ => .refl _
  | l :: ls, h => by
    have ih := mix_perm i (ls := ls) fun x hx => h x (List.mem_cons_of_mem _ hx)
    have hl := h l List.mem_cons_self
    rw [List.flatMap_cons, List.flatMap_cons, List.flatMap_cons]
    unfold mixL upL dnL
    by_cases e : l.1 = i
    · have e2 : ¬ l.2.1 = i := by omega
      rw [if_pos e, if_pos e, if_neg e2]
      exact ih.cons _
    · rw [if_neg e, if_neg e]
      by_cases e2 : l.2.1 = i
      · rw [if_pos e2]
        refine (ih.cons _).trans ?_
        exact (List.perm_middle (l₁ := ls.flatMap (upL i))).symm
      · rw [if_neg e2]
        exact ih
theorem mix_len (i : Int) (l : L3) : (mixL i l).length ≤ 1 := by unfold mixL; split <;> (try split) <;> simp
theorem law_beside_ok {P : Prog} (h : P.fn "_law_beside" = some f__law_beside) (n : Nat) (J ts fl : PV) (ls : List L3) (i : Int) (hl : ls.length ≤ 1000) (hlt : ∀ l ∈ ls, l.1 < l.2.1) :
    callF P (n + 1) "_law_beside" [.tup [J, .tup (ls.map l3V), ts, fl], .int i] .non = .ok (.lst ((besideL i ls).map prV)) .non := by
  rw [callF_at h]
  have step : ∀ (k : Nat) (x : PV) (env : Env) (c : PV), (ls.map l3V)[k]? = some x → (c = .non ∧ ∃ s3 s4 s5, env = [some ⟨0, .tup [J, .tup (ls.map l3V), ts, fl]⟩, some ⟨0, .int i⟩, some ⟨0, .lst (((ls.take (0 + k)).flatMap (mixL i)).map prV)⟩, s3, s4, s5]) →
      ∃ env1 env2 c2, (Tg.tup [.nm 3, .nm 4, .nm 5]).put x env = some env1 ∧ evB (callF P n) P.fr [.set 2 false (.op .add (.var 2) (.ife (.cmp .eq (.var 3) (.var 1)) (.lst 0 [.tup [.var 4, .var 5]]) (.ife (.cmp .eq (.var 4) (.var 1)) (.lst 0 [.tup [.var 3, .var 5]]) (.lst 0 []))))] env1 c = .nx env2 c2 ∧
        (c2 = .non ∧ ∃ s3 s4 s5, env2 = [some ⟨0, .tup [J, .tup (ls.map l3V), ts, fl]⟩, some ⟨0, .int i⟩, some ⟨0, .lst (((ls.take (0 + k + 1)).flatMap (mixL i)).map prV)⟩, s3, s4, s5]) := by
    rintro k x env c hx ⟨rfl, s3, s4, s5, rfl⟩
    rw [List.getElem?_map] at hx
    cases hk : ls[k]? with
    | none => rw [hk] at hx; cases hx
    | some l =>
    rw [hk] at hx
    cases hx
    have hkl : k < ls.length := (List.getElem?_eq_some_iff.mp hk).1
    have et : ls.take (0 + k + 1) = ls.take (0 + k) ++ [l] := by
      rw [Nat.zero_add, List.take_succ_eq_append_getElem hkl]
      have := (List.getElem?_eq_some_iff.mp hk).2
      rw [this]
    have hz : (((ls.take (0 + k)).flatMap (mixL i)).map prV).length + 1 ≤ SZ := by
      rw [List.length_map]
      have h1 := flat_len (mix_len i) (ls.take (0 + k))
      have h2 : (ls.take (0 + k)).length ≤ ls.length := by rw [List.length_take]; omega
      unfold SZ
      omega
    have hz0 : (((ls.take (0 + k)).flatMap (mixL i)).map prV).length ≤ SZ := by omega
    obtain ⟨fs, hfs⟩ : ∃ fs, fs = ((ls.take (0 + k)).flatMap (mixL i)).map prV := ⟨_, rfl⟩
    refine ⟨_, [some ⟨0, .tup [J, .tup (ls.map l3V), ts, fl]⟩, some ⟨0, .int i⟩, some ⟨0, .lst (((ls.take (0 + k + 1)).flatMap (mixL i)).map prV)⟩, some ⟨0, .int l.1⟩, some ⟨0, .int l.2.1⟩, some ⟨0, .int l.2.2⟩], .non, rfl, ?_, rfl, _, _, _, rfl⟩
    rw [et, List.flatMap_append, List.map_append, ← hfs]
    rw [← hfs] at hz hz0
    unfold l3V mixL
    by_cases e : l.1 = i
    · simp [evB, evS, ev, em, evs, lo, hi, tst, truth, Res.bind, Res.of, Res.out, Out.bind, cmp, isData, eqv, op2, e, hz, prV]
    · by_cases e2 : l.2.1 = i
      · simp [evB, evS, ev, em, evs, lo, hi, tst, truth, Res.bind, Res.of, Res.out, Out.bind, cmp, isData, eqv, op2, e, e2, hz, prV]
      · simp [evB, evS, ev, em, evs, lo, hi, tst, truth, Res.bind, Res.of, Res.out, Out.bind, cmp, isData, eqv, op2, e, e2, hz0, prV]
  obtain ⟨env', c', q, rfl, s3, s4, s5, rfl⟩ := forL_inv (tg := .tup [.nm 3, .nm 4, .nm 5]) (f := fun env c => evB (callF P n) P.fr [.set 2 false (.op .add (.var 2) (.ife (.cmp .eq (.var 3) (.var 1)) (.lst 0 [.tup [.var 4, .var 5]]) (.ife (.cmp .eq (.var 4) (.var 1)) (.lst 0 [.tup [.var 3, .var 5]]) (.lst 0 []))))] env c)
    (I := fun k env c => c = .non ∧ ∃ s3 s4 s5, env = [some ⟨0, .tup [J, .tup (ls.map l3V), ts, fl]⟩, some ⟨0, .int i⟩, some ⟨0, .lst (((ls.take k).flatMap (mixL i)).map prV)⟩, s3, s4, s5]) (ls.map l3V) 0 [some ⟨0, .tup [J, .tup (ls.map l3V), ts, fl]⟩, some ⟨0, .int i⟩, some ⟨0, .lst []⟩, none, none, none] .non step ⟨rfl, _, _, _, rfl⟩
  rw [Nat.zero_add, List.length_map, List.take_length] at q
  have s2 : evS (callF P n) P.fr (.for_ (.tup [.nm 3, .nm 4, .nm 5]) .seq [.ix (.var 0) (.con (.int 1))] [.set 2 false (.op .add (.var 2) (.ife (.cmp .eq (.var 3) (.var 1)) (.lst 0 [.tup [.var 4, .var 5]]) (.ife (.cmp .eq (.var 4) (.var 1)) (.lst 0 [.tup [.var 3, .var 5]]) (.lst 0 []))))]) [some ⟨0, .tup [J, .tup (ls.map l3V), ts, fl]⟩, some ⟨0, .int i⟩, some ⟨0, .lst []⟩, none, none, none] .non = _ := (st_for (vs := [.tup (ls.map l3V)]) (xs := ls.map l3V) rfl rfl).trans q
  have s3' := st_ret (call := callF P n) (fr := P.fr) (env := [some ⟨0, .tup [J, .tup (ls.map l3V), ts, fl]⟩, some ⟨0, .int i⟩, some ⟨0, .lst ((ls.flatMap (mixL i)).map prV)⟩, s3, s4, s5]) (em_b1 (f := .sorted) (a := .var 2) (c := .non) (c' := .non) (n := 0) rfl (Nat.zero_le _) (sorted_prs (ls.flatMap (mixL i))))
  have ep : sortP (ls.flatMap (mixL i)) = besideL i ls := sortP_congr (mix_perm i hlt)
  rw [ep] at s3'
  unfold Fn.run
  rw [if_pos ⟨rfl, rfl⟩]
  show (match evB (callF P n) P.fr (.set 2 false (.lst 0 []) :: _ :: _ :: []) [some ⟨0, .tup [J, .tup (ls.map l3V), ts, fl]⟩, some ⟨0, .int i⟩, none, none, none, none] .non with
    | .nx _ c => _
    | .ret v c => _
    | .exc e c => _
    | .stuck => _) = _
  rw [evB_cons]
  show (match (Out.nx [some ⟨0, .tup [J, .tup (ls.map l3V), ts, fl]⟩, some ⟨0, .int i⟩, some ⟨0, .lst []⟩, none, none, none] .non).bind (fun env c => evB (callF P n) P.fr (_ :: _ :: []) env c) with
    | .nx _ c => _
    | .ret v c => _
    | .exc e c => _
    | .stuck => _) = _
  rw [obind_nx, evB_cons, s2, obind_nx, evB_cons, s3', obind_ret]
  rfl
end PVL
end

section
set_option Elab.async false
set_option linter.all false
set_option maxRecDepth 100000
set_option maxHeartbeats 8000000
/-! PVM14: limbs_at, is_setting; settings right. -/
namespace PVL
open PySem (Str)
def f_limbs_at : Fn := ⟨"limbs_at", ["figure", "joint"], 2, false, none, 0, [
    .expr (.call "need_figure" [.var 0]),
    .expr (.call "need_joint" [.var 0, .var 1]),
    .ret (.b1 .tuple (.call "beside" [.var 0, .var 1]))]⟩
theorem limbs_l3 {j : Int} {xs : List PV} (h : xs.all (fitsLimb j) = true) : ∃ ls : List L3, xs = ls.map l3V ∧ ∀ l ∈ ls, l.1 < l.2.1 := by
  induction xs with
  | nil => exact ⟨[], rfl, fun _ h => by cases h⟩
  | cons x xs ih =>
    rw [List.all_cons, Bool.and_eq_true] at h
    obtain ⟨ls, rfl, h2⟩ := ih h.2
    obtain ⟨a, b, c, rfl, _, hab, _⟩ := limb_shape h.1
    refine ⟨(a, b, c) :: ls, rfl, fun l hl => ?_⟩
    rcases List.mem_cons.mp hl with e | e
    · rw [e]; exact hab
    · exact h2 l e
section
variable {P : Prog} (D : FigD P)
include D in
theorem limbs_at_ok (h : P.fn "limbs_at" = some f_limbs_at) (hn : P.fn "need_figure" = some f_need_figure) (hj : P.fn "need_joint" = some f_need_joint) (hfj : P.fn "fits_joint" = some f_fits_joint) (hb : P.fn "beside" = some f_beside) (n : Nat) (J fl : Int) (ts : PV) (ls : List L3) (i : Int)
    (hf : fitsFigure (.tup [.int J, .tup (ls.map l3V), ts, .int fl]) = true) (i0 : 0 ≤ i) (i1 : i < J) (hl : ls.length ≤ 12) :
    callF P (n + 5) "limbs_at" [.tup [.int J, .tup (ls.map l3V), ts, .int fl], .int i] .non = .ok (.tup ((besideL i ls).map prV)) .non := by
  rw [callF_at h]
  have q1 := need_figure_ok D hn n _ (okV_fig hf) hf
  have w : whole (.int i) 0 (J - 1) = true := by unfold whole; simp; omega
  have q2 : callF P (n + 3) "fits_joint" [.tup [.int J, .tup (ls.map l3V), ts, .int fl], .int i] .non = .ok (.bl true) .non := by
    rw [callF_at hfj]
    have q := whole_ok D.whole (n + 1) (.int i) 0 (J - 1) rfl
    rw [w] at q
    simp [Fn.run, f_fits_joint, Fn.start, evB, evS, ev, em, evs, lo, hi, Res.bind, Res.of, Res.out, Out.bind, isNon, item, atI, ixN, downD, op2, q]
  have q3 : callF P (n + 4) "need_joint" [.tup [.int J, .tup (ls.map l3V), ts, .int fl], .int i] .non = .ok .non .non := by
    rw [callF_at hj]
    simp [Fn.run, f_need_joint, Fn.start, evB, evS, ev, em, evs, lo, hi, tst, truth, Res.bind, Res.of, Res.out, Out.bind, isNon, q2]
  have q4 := beside_ok hb (n + 3) (.int J) ts (.int fl) ls i (by omega)
  simp [Fn.run, f_limbs_at, Fn.start, evB, evS, ev, em, evs, lo, hi, Res.bind, Res.of, Res.out, Out.bind, isNon, PVL.b1, seq?, q1, q3, q4]
include D in
theorem is_setting_ok (h : P.fn "is_setting" = some f_is_setting) (hn : P.fn "need_figure" = some f_need_figure) (hs : P.fn "fits_setting" = some f_fits_setting) (n : Nat) (a b : PV) (ts : List PV) (fl : Int) (v : PV)
    (hf : fitsFigure (.tup [a, b, .tup ts, .int fl]) = true) (hv : okV v = true) : callF P (n + 5) "is_setting" [.tup [a, b, .tup ts, .int fl], v] .non = .ok (.bl (fitsSetting ts.length fl v)) .non := by
  rw [callF_at h]
  have q1 := need_figure_ok D hn n _ (okV_fig hf) hf
  have q2 := fits_setting_ok hs D.whole D.tup (n + 2) a b ts fl v hv
  simp [Fn.run, f_is_setting, Fn.start, evB, evS, ev, em, evs, lo, hi, Res.bind, Res.of, Res.out, Out.bind, isNon, q1, q2]
end
end PVL
end

section
set_option Elab.async false
set_option linter.all false
set_option maxRecDepth 100000
set_option maxHeartbeats 8000000
/-! PVM15: _law_settings_right. -/
namespace PVL
open PySem (Str)
def f__law_settings_right : Fn := ⟨"_law_settings_right", ["cup", "figure", "setting", "floor", "at", "many", "odds", "one", "odd"], 2, true, (some 0), 0, [
    .unp (.tup [.nm 2, .nm 3]) (.tup [.callc "_law_setting" [.var 1], .ix (.var 1) (.con (.int 3))]),
    .unp (.tup [.nm 4, .nm 5]) (.tup [.callc "_law_roll" [.b1 .len (.var 2)], .b1 .len (.var 2)]),
    .set 6 false (.lst 0 [.con .non, .tup [], .b1 .list (.var 2), .sl (.var 2) true false [.con (.int 1)], .op .add (.var 2) (.tup [.con (.int 0)]), .con (.int 7), .con (.str "setting"), .op .mul (.tup [.op .add (.var 3) (.con (.int 1))]) (.var 5), .op .mul (.tup [.neg (.con (.int 1))]) (.var 5), .op .mul (.tup [.con (.bl true)]) (.var 5), .op .mul (.tup [.con (.str "0")]) (.var 5), .op .mul (.tup [.con .non]) (.var 5)]),
    .set 6 false (.op .add (.var 6) (.comp [7] (.nm 7) .seq [.tup [.op .add (.var 3) (.con (.int 1)), .neg (.con (.int 1)), .con (.bl false), .con .non, .tup [.con (.int 0)], .op .pow (.con (.int 10)) (.con (.int 30))]] [] 0 (.op .add (.op .add (.sl (.var 2) false true [.var 4]) (.tup [.var 7])) (.sl (.var 2) true false [.op .add (.var 4) (.con (.int 1))])))),
    .ret (.and (.is false .tt (.call "is_setting" [.var 1, .var 2])) (.and (.cmp .eq (.comp [8] (.nm 8) .seq [.var 6] [.is true .ff (.call "is_setting" [.var 1, .var 8])] 0 (.var 8)) (.lst 0 [])) (.is false .tt (.call "is_setting" [.var 1, .op .mul (.tup [.var 3]) (.var 5)]))))]⟩
def rep (k : Nat) (v : PV) : PV := .tup (List.replicate k v)
theorem mul_rep {k : Nat} (h1 : 1 ≤ k) (h2 : k ≤ 1000) (v : PV) : op2 .mul (.tup [v]) (.int k) = some (rep k v) := by
  have e : (List.replicate k [v]).flatten = List.replicate k v := by
    induction k with
    | zero => rfl
    | succ k ih =>
      rw [List.replicate_succ, List.flatten_cons, List.replicate_succ]
      by_cases hk : k = 0
      · subst hk; rfl
      · rw [ih (by omega) (by omega)] <;> rfl
  show (if !([v].isEmpty) && decide ([v].length ≤ 1000) && decide ((1 : Int) ≤ (k : Int)) && decide ((k : Int) ≤ 1000) then some (PV.tup (List.replicate (k : Int).toNat [v]).flatten) else none) = _
  rw [if_pos (by simp; omega), Int.toNat_natCast, e] <;> rfl
def oddsA (xs : List PV) (k : Nat) (fl : Int) : List PV := [.non, .tup [], .lst xs, .tup (xs.drop 1), .tup (xs ++ [.int 0]), .int 7, .str "setting", rep k (.int (fl + 1)), rep k (.int (-1)), rep k (.bl true), rep k (.str "0"), rep k .non]
def onesB (fl : Int) : List PV := [.int (fl + 1), .int (-1), .bl false, .non, .tup [.int 0], .int (10 ^ 30)]
def putAt (xs : List PV) (t : Nat) (v : PV) : PV := .tup (xs.take t ++ [v] ++ xs.drop (t + 1))
theorem fs_no {k : Nat} {fl : Int} {ys : List PV} {y : PV} (hy : y ∈ ys) (h : whole y 0 fl = false) : fitsSetting k fl (.tup ys) = false := by
  unfold fitsSetting
  have : (ys.all fun x => whole x 0 fl) = false := by
    rw [List.all_eq_false]
    exact ⟨y, hy, by rw [h]; simp⟩
  show (tupOf _ _ _ && (ys.all fun x => whole x 0 fl)) = false
  rw [this, Bool.and_false]
theorem fs_len {k : Nat} {fl : Int} {ys : List PV} (h : ys.length ≠ k) : fitsSetting k fl (.tup ys) = false := by
  unfold fitsSetting
  have : tupOf (.tup ys) k k = false := by
    show (decide ((k : Int) ≤ ys.length) && decide ((ys.length : Int) ≤ k)) = false
    simp
    omega
  rw [this, Bool.false_and]
theorem fs_rep {k : Nat} {fl : Int} {v : PV} (h1 : 1 ≤ k) (h : whole v 0 fl = false) : fitsSetting k fl (rep k v) = false := fs_no (y := v) (by rw [List.mem_replicate]; exact ⟨by omega, rfl⟩) h
theorem fs_yes {k : Nat} {fl : Int} {ys : List PV} (h : ys.length = k) (hy : ∀ y ∈ ys, whole y 0 fl = true) : fitsSetting k fl (.tup ys) = true := by
  unfold fitsSetting
  have : tupOf (.tup ys) k k = true := by
    show (decide ((k : Int) ≤ ys.length) && decide ((ys.length : Int) ≤ k)) = true
    simp
    omega
  rw [this, Bool.true_and]
  exact List.all_eq_true.mpr hy
theorem odds_no {xs : List PV} {k : Nat} {fl : Int} (hx : xs.length = k) (h1 : 1 ≤ k) (f1 : 1 ≤ fl) (f2 : fl ≤ 30) {t : Nat} (ht : t < k) : ∀ o ∈ oddsA xs k fl ++ (onesB fl).map (putAt xs t), fitsSetting k fl o = false := by
  intro o ho
  have w1 : whole (.int (fl + 1)) 0 fl = false := by unfold whole; simp; omega
  have w2 : whole (.int (-1)) 0 fl = false := by unfold whole; simp
  rcases List.mem_append.mp ho with h | h
  · unfold oddsA at h
    simp only [List.mem_cons, List.not_mem_nil, or_false] at h
    rcases h with e | e | e | e | e | e | e | e | e | e | e | e <;> subst e
    · rfl
    · exact fs_len (by simp; omega)
    · rfl
    · exact fs_len (by rw [List.length_drop]; omega)
    · exact fs_len (by rw [List.length_append, List.length_singleton]; omega)
    · rfl
    · rfl
    · exact fs_rep h1 w1
    · exact fs_rep h1 w2
    · exact fs_rep h1 rfl
    · exact fs_rep h1 rfl
    · exact fs_rep h1 rfl
  · obtain ⟨v, hv, rfl⟩ := List.mem_map.mp h
    refine fs_no (y := v) (by simp) ?_
    unfold onesB at hv
    simp only [List.mem_cons, List.not_mem_nil, or_false] at hv
    rcases hv with e | e | e | e | e | e <;> subst e
    · exact w1
    · exact w2
    · rfl
    · rfl
    · rfl
    · unfold whole; simp; omega
theorem odds_ok {xs : List PV} {k : Nat} {fl : Int} {t : Nat} (hx : ∀ x ∈ xs, okV x = true) : ∀ o ∈ oddsA xs k fl ++ (onesB fl).map (putAt xs t), okV o = true := by
  intro o ho
  have tup : ∀ ys : List PV, (∀ y ∈ ys, okV y = true) → okV (.tup ys) = true := fun ys h => by unfold okV; exact okVs_all h
  have hr : ∀ v, okV v = true → okV (rep k v) = true := fun v h => tup _ fun y hy => by rw [(List.mem_replicate.mp hy).2]; exact h
  rcases List.mem_append.mp ho with h | h
  · unfold oddsA at h
    simp only [List.mem_cons, List.not_mem_nil, or_false] at h
    rcases h with e | e | e | e | e | e | e | e | e | e | e | e <;> subst e
    · rfl
    · rfl
    · unfold okV; exact okVs_all hx
    · exact tup _ fun y hy => hx y (List.mem_of_mem_drop hy)
    · exact tup _ fun y hy => by
        rcases List.mem_append.mp hy with e | e
        · exact hx y e
        · have : y = .int 0 := by simpa using e
          rw [this] <;> rfl
    · rfl
    · rfl
    · exact hr _ rfl
    · exact hr _ rfl
    · exact hr _ rfl
    · exact hr _ rfl
    · exact hr _ rfl
  · obtain ⟨v, hv, rfl⟩ := List.mem_map.mp h
    refine tup _ fun y hy => ?_
    rcases List.mem_append.mp hy with e | e
    · rcases List.mem_append.mp e with e | e
      · exact hx y (List.mem_of_mem_take e)
      · have : y = v := by simpa using e
        subst this
        unfold onesB at hv
        simp only [List.mem_cons, List.not_mem_nil, or_false] at hv
        rcases hv with e | e | e | e | e | e <;> (rw [e]; rfl)
    · exact hx y (List.mem_of_mem_drop e)
theorem filter_nil {p : PV → Bool} {xs : List PV} (h : ∀ x ∈ xs, p x = false) : xs.filter p = [] := by
  rw [List.filter_eq_nil_iff]
  intro x hx
  rw [h x hx]
  simp
theorem sl_up {xs : List PV} {t : Nat} (h : t ≤ xs.length) : cutV xs none (some (t : Int)) = xs.take t := by
  unfold cutV sIx
  have e1 : ¬ ((t : Int) < 0) := by omega
  simp only [e1, if_false, Int.toNat_natCast, Nat.min_eq_left h, Nat.sub_zero, List.drop_zero]
theorem sl_down {xs : List PV} {t : Nat} (h : t + 1 ≤ xs.length) : cutV xs (some ((t : Int) + 1)) none = xs.drop (t + 1) := by
  unfold cutV sIx
  have e1 : ¬ ((t : Int) + 1 < 0) := by omega
  have e2 : ((t : Int) + 1).toNat = t + 1 := by omega
  simp only [e1, if_false, e2, Nat.min_eq_left h]
  exact List.take_of_length_le (by rw [List.length_drop]; omega)
section
variable {P : Prog} (D : FigD P) (hSR : P.fn "_law_settings_right" = some f__law_settings_right) (hS : P.fn "_law_setting" = some f__law_setting) (hs : P.fn "_law_some" = some f__law_some) (hr : RollAt P)
  (hi : P.fn "is_setting" = some f_is_setting) (hn : P.fn "need_figure" = some f_need_figure) (hfs : P.fn "fits_setting" = some f_fits_setting)
include D hSR hS hs hr hi hn hfs in
theorem settings_right_ok (n : Nat) (v : PV) (hf : fitsFigure v = true) (a b : Int) : ∃ a' b', callF P (n + 6) "_law_settings_right" [v] (cup a b) = .ok (.bl true) (cup a' b') := by
  obtain ⟨j, ls, ts, fl, rfl, _, _, f1, f2, _, _, _, t1, t2, _⟩ := fig_parts hf
  rw [callF_at hSR]
  obtain ⟨xs, a1, b1, q1, hx, hxi⟩ := law_setting_ok hS hs hr (n + 2) (.int j) (.tup ls) ts fl f1 f2 t2 a b
  have hxo : ∀ x ∈ xs, okV x = true := fun x h => by
    obtain ⟨i, rfl, _⟩ := hxi x h
    rfl
  obtain ⟨env1, he1⟩ : ∃ env1 : Env, env1 = [none, some ⟨0, .tup [.int j, .tup ls, .tup ts, .int fl]⟩, some ⟨0, .tup xs⟩, some ⟨0, .int fl⟩, none, none, none, none, none] := ⟨_, rfl⟩
  have s1 : evS (callF P (n + 5)) P.fr (.unp (.tup [.nm 2, .nm 3]) (.tup [.callc "_law_setting" [.var 1], .ix (.var 1) (.con (.int 3))])) [none, some ⟨0, .tup [.int j, .tup ls, .tup ts, .int fl]⟩, none, none, none, none, none, none, none] (cup a b) = .nx env1 (cup a1 b1) := by
    have q : em (callF P (n + 5)) (.callc "_law_setting" [.var 1]) [none, some ⟨0, .tup [.int j, .tup ls, .tup ts, .int fl]⟩, none, none, none, none, none, none, none] (cup a b) = .ok (0, .tup xs) (cup a1 b1) := em_callc (evs_one (d := 0) rfl (Nat.le_refl _)) q1
    rw [he1]
    simp [evS, ev, em, evs, lo, PVL.hi, Res.bind, Res.of, Res.out, item, atI, ixN, downD, Tg.put, Tg.puts, ↓q]
  obtain ⟨r, a2, b2, q2, r0, r1⟩ := em_roll hr (n := n + 4) (env := env1) (e := .b1 .len (.var 2)) (a := a1) (b := b1) (a1 := a1) (b1 := b1) (m := xs.length) (by rw [he1] <;> rfl) (by omega) (by omega)
  obtain ⟨t, rfl⟩ : ∃ t : Nat, r = t := ⟨r.toNat, by omega⟩
  obtain ⟨env2, he2⟩ : ∃ env2 : Env, env2 = [none, some ⟨0, .tup [.int j, .tup ls, .tup ts, .int fl]⟩, some ⟨0, .tup xs⟩, some ⟨0, .int fl⟩, some ⟨0, .int t⟩, some ⟨0, .int xs.length⟩, none, none, none] := ⟨_, rfl⟩
  have s2 : evS (callF P (n + 5)) P.fr (.unp (.tup [.nm 4, .nm 5]) (.tup [.callc "_law_roll" [.b1 .len (.var 2)], .b1 .len (.var 2)])) env1 (cup a1 b1) = .nx env2 (cup a2 b2) := by
    rw [he1] at q2 ⊢
    rw [he2]
    simp [evS, ev, em, evs, lo, PVL.hi, Res.bind, Res.of, Res.out, PVL.b1, Tg.put, Tg.puts, ↓q2]
  have hz : xs.length + 1 ≤ SZ := by unfold SZ; omega
  have m : ∀ v, op2 .mul (.tup [v]) (.int xs.length) = some (rep xs.length v) := mul_rep (by omega) (by omega)
  obtain ⟨env3, he3⟩ : ∃ env3 : Env, env3 = env2.set 6 (some ⟨0, .lst (oddsA xs xs.length fl)⟩) := ⟨_, rfl⟩
  have s3 : evS (callF P (n + 5)) P.fr (.set 6 false (.lst 0 [.con .non, .tup [], .b1 .list (.var 2), .sl (.var 2) true false [.con (.int 1)], .op .add (.var 2) (.tup [.con (.int 0)]), .con (.int 7), .con (.str "setting"), .op .mul (.tup [.op .add (.var 3) (.con (.int 1))]) (.var 5), .op .mul (.tup [.neg (.con (.int 1))]) (.var 5), .op .mul (.tup [.con (.bl true)]) (.var 5), .op .mul (.tup [.con (.str "0")]) (.var 5), .op .mul (.tup [.con .non]) (.var 5)])) env2 (cup a2 b2) = .nx env3 (cup a2 b2) := by
    have ea : ∀ i j : Int, op2 .add (.int i) (.int j) = some (.int (i + j)) := fun _ _ => rfl
    have et : op2 .add (.tup xs) (.tup [.int 0]) = some (.tup (xs ++ [.int 0])) := by
      show (if _ ≤ SZ then _ else none) = _
      rw [if_pos (show xs.length + [PV.int 0].length ≤ SZ from hz)]
    rw [he3, he2]
    simp [evS, ev, em, evs, evi, lo, PVL.hi, Res.bind, Res.of, Res.out, PVL.b1, seq?, slice, int?, cut_tail, oddsA, m, ea, et]
  obtain ⟨env4, he4⟩ : ∃ env4 : Env, env4 = env3.set 6 (some ⟨0, .lst (oddsA xs xs.length fl ++ (onesB fl).map (putAt xs t))⟩) := ⟨_, rfl⟩
  have s4 : evS (callF P (n + 5)) P.fr (.set 6 false (.op .add (.var 6) (.comp [7] (.nm 7) .seq [.tup [.op .add (.var 3) (.con (.int 1)), .neg (.con (.int 1)), .con (.bl false), .con .non, .tup [.con (.int 0)], .op .pow (.con (.int 10)) (.con (.int 30))]] [] 0 (.op .add (.op .add (.sl (.var 2) false true [.var 4]) (.tup [.var 7])) (.sl (.var 2) true false [.op .add (.var 4) (.con (.int 1))]))))) env3 (cup a2 b2) = .nx env4 (cup a2 b2) := by
    have qc : em (callF P (n + 5)) (.comp [7] (.nm 7) .seq [.tup [.op .add (.var 3) (.con (.int 1)), .neg (.con (.int 1)), .con (.bl false), .con .non, .tup [.con (.int 0)], .op .pow (.con (.int 10)) (.con (.int 30))]] [] 0 (.op .add (.op .add (.sl (.var 2) false true [.var 4]) (.tup [.var 7])) (.sl (.var 2) true false [.op .add (.var 4) (.con (.int 1))]))) env3 (cup a2 b2) = .ok (0, .lst ((onesB fl).map (putAt xs t))) (cup a2 b2) := by
      refine comp_map (ss := [.tup (onesB fl)]) (xs := onesB fl) (putAt xs t) ?_ rfl fun x hx' => ⟨_, rfl, ?_⟩
      · rw [he3, he2]
        simp [em, evs, lo, PVL.hi, Res.bind, Res.of, op2, int?, onesB]
      · have z1 : (xs.take t).length + 1 ≤ SZ := by rw [List.length_take]; unfold SZ; omega
        have z2 : (xs.take t ++ [x]).length + (xs.drop (t + 1)).length ≤ SZ := by rw [List.length_append, List.length_take, List.length_drop, List.length_singleton]; unfold SZ; omega
        have c1 : op2 .add (.tup (xs.take t)) (.tup [x]) = some (.tup (xs.take t ++ [x])) := by
          show (if _ ≤ SZ then _ else none) = _
          rw [if_pos (show (xs.take t).length + [x].length ≤ SZ from z1)]
        have c2 : op2 .add (.tup (xs.take t ++ [x])) (.tup (xs.drop (t + 1))) = some (.tup (xs.take t ++ [x] ++ xs.drop (t + 1))) := by
          show (if _ ≤ SZ then _ else none) = _
          rw [if_pos z2]
        have c3 : ∀ i j : Int, op2 .add (.int i) (.int j) = some (.int (i + j)) := fun _ _ => rfl
        have g1 := sl_up (xs := xs) (t := t) (by omega)
        have g2 := sl_down (xs := xs) (t := t) (by omega)
        rw [he3, he2]
        simp only [ev, em, evs, evi, lo, PVL.hi, wipe, Res.bind, Res.of, int?, slice, List.getElem?_set_self, List.set_cons_succ, List.set_cons_zero, List.getElem?_cons_succ, List.getElem?_cons_zero, Nat.zero_le, if_true, c3, g1, g2, c1, c2, putAt]
    have hz2 : (oddsA xs xs.length fl).length + ((onesB fl).map (putAt xs t)).length ≤ SZ := by show 12 + 6 ≤ SZ; unfold SZ; omega
    refine (st_set (x := .lst (oddsA xs xs.length fl ++ (onesB fl).map (putAt xs t))) (c' := cup a2 b2) ?_).trans (by rw [he4])
    show PVL.hi ((lo 1 (em (callF P (n + 5)) (.var 6) env3 (cup a2 b2))).bind fun x c => (lo 1 (em (callF P (n + 5)) _ env3 c)).bind fun y c => .of (op2 .add x y) c) = _
    have e : em (callF P (n + 5)) (.var 6) env3 (cup a2 b2) = .ok (0, .lst (oddsA xs xs.length fl)) (cup a2 b2) := by rw [he3, he2] <;> rfl
    rw [e, lo_ok, if_pos (Nat.zero_le _), bind_ok, qc, lo_ok, if_pos (Nat.zero_le _), bind_ok]
    have e2 : op2 .add (.lst (oddsA xs xs.length fl)) (.lst ((onesB fl).map (putAt xs t))) = some (.lst (oddsA xs xs.length fl ++ (onesB fl).map (putAt xs t))) := by
      show (if (oddsA xs xs.length fl).length + ((onesB fl).map (putAt xs t)).length ≤ SZ then some (PV.lst (oddsA xs xs.length fl ++ (onesB fl).map (putAt xs t))) else none) = _
      rw [if_pos hz2]
    rw [e2] <;> rfl
  have hxl : xs.length = ts.length := hx
  have fy : fitsSetting ts.length fl (.tup xs) = true := fs_yes hx fun y hy => by
    obtain ⟨i, rfl, i0, i1⟩ := hxi y hy
    unfold whole
    simp
    omega
  have fr' : fitsSetting ts.length fl (rep xs.length (.int fl)) = true := fs_yes (by rw [List.length_replicate]; exact hx) fun y hy => by
    rw [(List.mem_replicate.mp hy).2]
    unfold whole
    simp
    omega
  have g1 : env4[1]? = some (some ⟨0, .tup [.int j, .tup ls, .tup ts, .int fl]⟩) := by rw [he4, he3, he2] <;> rfl
  have g2 : env4[2]? = some (some ⟨0, .tup xs⟩) := by rw [he4, he3, he2] <;> rfl
  have g3 : env4[3]? = some (some ⟨0, .int fl⟩) := by rw [he4, he3, he2] <;> rfl
  have g5 : env4[5]? = some (some ⟨0, .int xs.length⟩) := by rw [he4, he3, he2] <;> rfl
  have g6 : env4[6]? = some (some ⟨0, .lst (oddsA xs xs.length fl ++ (onesB fl).map (putAt xs t))⟩) := by rw [he4, he3, he2] <;> rfl
  have k1 := is_setting_ok D hi hn hfs n (.int j) (.tup ls) ts fl (.tup xs) hf (by unfold okV; exact okVs_all hxo)
  have k2 := is_setting_ok D hi hn hfs n (.int j) (.tup ls) ts fl (rep xs.length (.int fl)) hf (by unfold rep okV; exact okVs_all fun y hy => by rw [(List.mem_replicate.mp hy).2] <;> rfl)
  rw [fy] at k1
  rw [fr'] at k2
  have qc : em (callF P (n + 5)) (.comp [8] (.nm 8) .seq [.var 6] [.is true .ff (.call "is_setting" [.var 1, .var 8])] 0 (.var 8)) env4 (cup a2 b2) = .ok (0, .lst []) (cup a2 b2) := by
    have q := comp_pure (call := callF P (n + 5)) (own := [8]) (tg := .nm 8) (k := .seq) (srcs := [.var 6]) (conds := [.is true .ff (.call "is_setting" [.var 1, .var 8])]) (d := 0) (elt := .var 8) (env := env4) (c := cup a2 b2) (ss := [.lst (oddsA xs xs.length fl ++ (onesB fl).map (putAt xs t))]) (xs := oddsA xs xs.length fl ++ (onesB fl).map (putAt xs t))
      (fun o => fitsSetting ts.length fl o) (fun x => x) (evs_one (d := 0) (by
        show (match env4[6]? with | some (some s) => Res.ok (s.d, s.v) (cup a2 b2) | _ => .stuck) = _
        rw [g6]) (Nat.zero_le _)) rfl (fun x hx' => by
        have kx := is_setting_ok D hi hn hfs n (.int j) (.tup ls) ts fl x hf (odds_ok hxo x hx')
        refine ⟨_, rfl, ?_, fun _ => ?_⟩
        · rw [he4, he3, he2]
          cases hb : fitsSetting ts.length fl x <;> simp [evc, em, evs, lo, PVL.hi, wipe, tst, truth, Res.bind, Res.of, isS, kx, hb]
        · rw [he4, he3, he2] <;> rfl)
    rw [q, filter_nil (fun x hx' => by rw [← hx]; exact odds_no rfl (by omega) f1 f2 (by omega) x hx')] <;> rfl
  have s5 : evS (callF P (n + 5)) P.fr (.ret (.and (.is false .tt (.call "is_setting" [.var 1, .var 2])) (.and (.cmp .eq (.comp [8] (.nm 8) .seq [.var 6] [.is true .ff (.call "is_setting" [.var 1, .var 8])] 0 (.var 8)) (.lst 0 [])) (.is false .tt (.call "is_setting" [.var 1, .op .mul (.tup [.var 3]) (.var 5)]))))) env4 (cup a2 b2) = .ret (.bl true) (cup a2 b2) := by
    refine st_ret ?_
    have m' := m (.int fl)
    simp [em, evs, lo, PVL.hi, truth, Res.bind, Res.of, isS, cmp, isData, isDataL, eqv, eqvL, g1, g2, g3, g5, k1, k2, m', ↓qc]
  refine ⟨a2, b2, ?_⟩
  unfold Fn.run
  rw [if_pos ⟨rfl, rfl⟩]
  show (match evB (callF P (n + 5)) P.fr (_ :: _ :: _ :: _ :: _ :: []) [none, some ⟨0, .tup [.int j, .tup ls, .tup ts, .int fl]⟩, none, none, none, none, none, none, none] (cup a b) with
    | .nx _ c => _
    | .ret v c => _
    | .exc e c => _
    | .stuck => _) = _
  rw [evB_cons, s1, obind_nx, evB_cons, s2, obind_nx, evB_cons, s3, obind_nx, evB_cons, s4, obind_nx, evB_cons, s5, obind_ret]
  rfl
end
end PVL
end

section
set_option Elab.async false
set_option linter.all false
set_option maxRecDepth 100000
set_option maxHeartbeats 8000000
/-! PVM16: _law_bad_figures. -/
namespace PVL
open PySem (Str)
def badA (j l t f : PV) : List PV := [.non, .tup [], .lst [j, l, t, f], .tup [j, l, t], .tup [j, l, t, f, .int 0], .tup [.int 0, .tup [], .tup [.int 0], f], .tup [.int 9, l, t, f]]
def badB (j : PV) (ls ts : List PV) (f : PV) : List PV := [.tup [.bl true, .tup [], .tup [.int 0], f], .tup [.non, .tup ls, .tup ts, f], .tup [j, .lst ls, .tup ts, f], .tup [j, .tup ls, .lst ts, f], .tup [j, .tup ls, .tup [], f]]
def badC (j l f : PV) : List PV := [.tup [j, l, .tup [.int 0, .int 0, .int 0, .int 0, .int 0, .int 0, .int 0], f], .tup [j, l, .tup [j], f], .tup [j, l, .tup [.int (-1)], f], .tup [j, l, .tup [.bl false], f]]
def badD (j l t f : PV) : List PV := [.tup [j, l, t, .int 0], .tup [j, l, t, .int 31], .tup [j, l, t, .bl true], .tup [j, l, t, .non]] ++ [.tup [j, l, .non, f], .tup [j, .non, t, f]]
def t3 (a b c : Int) : PV := .tup [.int a, .int b, .int c]
def badsL : List PV := [t3 1 0 2, t3 0 0 2, .tup [.int 0, .int 1], .tup [.int 0, .int 1, .int 2, .int 2], t3 0 2 1, t3 0 1 0, t3 0 1 10, .tup [.int 0, .int 1, .bl true], .tup [.bl false, .int 1, .int 2], .tup [.int 0, .bl true, .int 2], .tup [.str "0", .int 1, .int 2], .tup [.int 0, .int 1, .non]] ++ [.lst [.int 0, .int 1, .int 2], .non, t3 (-1) 1 2]
def badF (f b : PV) : PV := .tup [.int 2, .tup [b], .tup [.int 0], f]
def badE (f : PV) : List PV := [.tup [.int 3, .tup [t3 0 1 2, t3 0 1 3], .tup [.int 0], f], .tup [.int 3, .tup [t3 0 2 2, t3 0 1 3], .tup [.int 0], f], .tup [.int 3, .tup [t3 1 2 2, t3 0 1 3], .tup [.int 0], f], .int 7, .str "figure"]
def badAll (j : PV) (ls ts : List PV) (f : PV) : List PV := badA j (.tup ls) (.tup ts) f ++ badB j ls ts f ++ badC j (.tup ls) f ++ badD j (.tup ls) (.tup ts) f ++ badsL.map (badF f) ++ badE f
theorem bad_no {j : Int} {ls ts : List PV} {f : PV} (hj : j ≤ 8) : ∀ o ∈ badAll (.int j) ls ts f, fitsFigure o = false := by
  intro o ho
  have hk : whole (.int j) 0 (j - 1) = false := by unfold whole; simp; omega
  have f9 : fitsFigure (.tup [.int 9, .tup ls, .tup ts, f]) = false := rfl
  have f0 : fitsFigure (.tup [.int 0, .tup [], .tup [.int 0], f]) = false := rfl
  have lm : ∀ l t, fitsLimbs j l = false → fitsFigure (.tup [.int j, l, t, f]) = false := fun l t h => by
    show (whole _ 1 8 && whole f 1 30 && fitsLimbs j l && fitsTies j t) = false
    rw [h, Bool.and_false, Bool.false_and]
  have tm : ∀ l t, fitsTies j t = false → fitsFigure (.tup [.int j, l, t, f]) = false := fun l t h => by
    show (whole _ 1 8 && whole f 1 30 && fitsLimbs j l && fitsTies j t) = false
    rw [h, Bool.and_false]
  have fm : ∀ l t g, whole g 1 30 = false → fitsFigure (.tup [.int j, l, t, g]) = false := fun l t g h => by
    show (whole _ 1 8 && whole g 1 30 && fitsLimbs j l && fitsTies j t) = false
    rw [h, Bool.and_false, Bool.false_and, Bool.false_and]
  have l2 : ∀ b, fitsLimb 2 b = false → fitsFigure (badF f b) = false := fun b h => by
    show (whole _ 1 8 && whole f 1 30 && (tupOf (.tup [b]) 0 12 && ((fitsLimb 2 b && true) && ascP [b])) && fitsTies 2 (.tup [.int 0])) = false
    rw [h]
    simp
  unfold badAll at ho
  simp only [List.mem_append] at ho
  rcases ho with ((((h | h) | h) | h) | h) | h
  · unfold badA at h
    simp only [List.mem_cons, List.not_mem_nil, or_false] at h
    rcases h with e | e | e | e | e | e | e <;> subst e <;> first | rfl | exact f9 | exact f0
  · unfold badB at h
    simp only [List.mem_cons, List.not_mem_nil, or_false] at h
    rcases h with e | e | e | e | e <;> subst e
    · rfl
    · rfl
    · exact lm _ _ rfl
    · exact tm _ _ rfl
    · exact tm _ _ rfl
  · unfold badC at h
    simp only [List.mem_cons, List.not_mem_nil, or_false] at h
    rcases h with e | e | e | e <;> subst e
    · exact tm _ _ rfl
    · refine tm _ _ ?_
      show (tupOf (.tup [.int j]) 1 6 && (whole (.int j) 0 (j - 1) && true)) = false
      rw [hk] <;> rfl
    · refine tm _ _ ?_
      show (tupOf (.tup [.int (-1)]) 1 6 && (whole (.int (-1)) 0 (j - 1) && true)) = false
      have : whole (.int (-1)) 0 (j - 1) = false := by unfold whole; simp
      rw [this] <;> rfl
    · exact tm _ _ rfl
  · unfold badD at h
    simp only [List.mem_append, List.mem_cons, List.not_mem_nil, or_false] at h
    rcases h with (e | e | e | e) | e | e <;> subst e
    · exact fm _ _ _ rfl
    · exact fm _ _ _ rfl
    · exact fm _ _ _ rfl
    · exact fm _ _ _ rfl
    · exact tm _ _ rfl
    · exact lm _ _ rfl
  · obtain ⟨b, hb, rfl⟩ := List.mem_map.mp h
    refine l2 b ?_
    unfold badsL at hb
    simp only [List.mem_append, List.mem_cons, List.not_mem_nil, or_false] at hb
    rcases hb with (e | e | e | e | e | e | e | e | e | e | e | e) | e | e | e <;> subst e <;> rfl
  · unfold badE at h
    simp only [List.mem_cons, List.not_mem_nil, or_false] at h
    have asc : ∀ x y, lt2 x y = false → fitsFigure (.tup [.int 3, .tup [x, y], .tup [.int 0], f]) = false := fun x y h => by
      show (whole _ 1 8 && whole f 1 30 && (tupOf (.tup [x, y]) 0 12 && ([x, y].all (fitsLimb 3) && (lt2 x y && true))) && fitsTies 3 (.tup [.int 0])) = false
      rw [h]
      simp
    rcases h with e | e | e | e | e <;> subst e
    · exact asc _ _ rfl
    · exact asc _ _ rfl
    · exact asc _ _ rfl
    · rfl
    · rfl
theorem bad_ok {j : Int} {ls ts : List PV} {f : Int} (hl : okVs ls = true) (ht : okVs ts = true) : ∀ o ∈ badAll (.int j) ls ts (.int f), okV o = true := by
  have : okVs (badAll (.int j) ls ts (.int f)) = true := by
    simp [badAll, badA, badB, badC, badD, badE, badsL, badF, t3, okVs, okV, hl, ht]
  exact fun o ho => okVs_mem this ho
end PVL
end

section
set_option Elab.async false
set_option linter.all false
set_option maxRecDepth 100000
set_option maxHeartbeats 8000000
/-! PVM17: _law_bad_figures (2). -/
namespace PVL
open PySem (Str)
def f__law_bad_figures : Fn := ⟨"_law_bad_figures", ["cup", "joints", "limbs", "ties", "floor", "found", "bads", "bad", "one"], 1, true, (some 0), 0, [
    .unp (.tup [.nm 1, .nm 2, .nm 3, .nm 4]) (.callc "_law_figure" [.con (.int 6), .con (.int 4)]),
    .set 5 true (.lst 0 [.con .non, .tup [], .lst 0 [.var 1, .var 2, .var 3, .var 4], .tup [.var 1, .var 2, .var 3], .tup [.var 1, .var 2, .var 3, .var 4, .con (.int 0)], .tup [.con (.int 0), .tup [], .tup [.con (.int 0)], .var 4], .tup [.con (.int 9), .var 2, .var 3, .var 4]]),
    .set 5 true (.op .add (.var 5) (.lst 0 [.tup [.con (.bl true), .tup [], .tup [.con (.int 0)], .var 4], .tup [.con .non, .var 2, .var 3, .var 4], .tup [.var 1, .b1 .list (.var 2), .var 3, .var 4], .tup [.var 1, .var 2, .b1 .list (.var 3), .var 4], .tup [.var 1, .var 2, .tup [], .var 4]])),
    .set 5 true (.op .add (.var 5) (.lst 0 [.tup [.var 1, .var 2, .op .mul (.tup [.con (.int 0)]) (.con (.int 7)), .var 4], .tup [.var 1, .var 2, .tup [.var 1], .var 4], .tup [.var 1, .var 2, .tup [.neg (.con (.int 1))], .var 4], .tup [.var 1, .var 2, .tup [.con (.bl false)], .var 4]])),
    .set 5 true (.op .add (.op .add (.var 5) (.comp [8] (.nm 8) .seq [.tup [.con (.int 0), .con (.int 31), .con (.bl true), .con .non]] [] 0 (.tup [.var 1, .var 2, .var 3, .var 8]))) (.lst 0 [.tup [.var 1, .var 2, .con .non, .var 4], .tup [.var 1, .con .non, .var 3, .var 4]])),
    .set 6 false (.lst 0 [.tup [.con (.int 1), .con (.int 0), .con (.int 2)], .tup [.con (.int 0), .con (.int 0), .con (.int 2)], .tup [.con (.int 0), .con (.int 1)], .tup [.con (.int 0), .con (.int 1), .con (.int 2), .con (.int 2)], .tup [.con (.int 0), .con (.int 2), .con (.int 1)], .tup [.con (.int 0), .con (.int 1), .con (.int 0)], .tup [.con (.int 0), .con (.int 1), .con (.int 10)], .tup [.con (.int 0), .con (.int 1), .con (.bl true)], .tup [.con (.bl false), .con (.int 1), .con (.int 2)], .tup [.con (.int 0), .con (.bl true), .con (.int 2)], .tup [.con (.str "0"), .con (.int 1), .con (.int 2)], .tup [.con (.int 0), .con (.int 1), .con .non]]),
    .for_ (.nm 7) .seq [.op .add (.var 6) (.lst 0 [.lst 0 [.con (.int 0), .con (.int 1), .con (.int 2)], .con .non, .tup [.neg (.con (.int 1)), .con (.int 1), .con (.int 2)]])] [.app 5 [] (.tup [.con (.int 2), .tup [.var 7], .tup [.con (.int 0)], .var 4])],
    .ret (.op .add (.var 5) (.lst 0 [.tup [.con (.int 3), .tup [.tup [.con (.int 0), .con (.int 1), .con (.int 2)], .tup [.con (.int 0), .con (.int 1), .con (.int 3)]], .tup [.con (.int 0)], .var 4], .tup [.con (.int 3), .tup [.tup [.con (.int 0), .con (.int 2), .con (.int 2)], .tup [.con (.int 0), .con (.int 1), .con (.int 3)]], .tup [.con (.int 0)], .var 4], .tup [.con (.int 3), .tup [.tup [.con (.int 1), .con (.int 2), .con (.int 2)], .tup [.con (.int 0), .con (.int 1), .con (.int 3)]], .tup [.con (.int 0)], .var 4], .con (.int 7), .con (.str "figure")]))]⟩

theorem st_own {call : CallF} {fr : List Str} {env : Env} {c c' : PV} {e : E} {i : Nat} {x : PV} (h : em call e env c = .ok (0, x) c') : evS call fr (.set i true e) env c = .nx (env.set i (some ⟨fd fr e, x⟩)) c' := by
  show (ev call e env c).out _ = _
  rw [ev_of h] <;> rfl
theorem add_lst {call : CallF} {env : Env} {c : PV} {a b : E} {xs ys : List PV} {d1 d2 : Nat} (ha : em call a env c = .ok (d1, .lst xs) c) (h1 : d1 ≤ 1) (hb : em call b env c = .ok (d2, .lst ys) c) (h2 : d2 ≤ 1) (hz : xs.length + ys.length ≤ 1000) : em call (.op .add a b) env c = .ok (0, .lst (xs ++ ys)) c := by
  show hi ((lo 1 (em call a env c)).bind fun x c => (lo 1 (em call b env c)).bind fun y c => .of (op2 .add x y) c) = _
  rw [ha, lo_ok, if_pos h1, bind_ok, hb, lo_ok, if_pos h2, bind_ok]
  have e2 : op2 .add (.lst xs) (.lst ys) = some (.lst (xs ++ ys)) := by
    show (if xs.length + ys.length ≤ SZ then some (PV.lst (xs ++ ys)) else none) = _
    rw [if_pos (by unfold SZ; omega)]
  rw [e2] <;> rfl
section
variable {P : Prog} (hB : P.fn "_law_bad_figures" = some f__law_bad_figures) (hf : P.fn "_law_figure" = some f__law_figure) (hs : P.fn "_law_some" = some f__law_some) (hr : RollAt P)
include hB hf hs hr in
theorem bad_figures_ok (n : Nat) (a b : Int) : ∃ L a' b', callF P (n + 4) "_law_bad_figures" [] (cup a b) = .ok (.lst L) (cup a' b') ∧ ∀ o ∈ L, fitsFigure o = false ∧ okV o = true := by
  rw [callF_at hB]
  obtain ⟨v, a1, b1, q1, hv, _, _, ev1, hm⟩ := law_figure_ok hf hs hr n (most := 6) (strings := 4) (by omega) (by omega) (by omega) (by omega) a b
  obtain ⟨j, ls, ts, fl, rfl, j1, j2, f1, f2, l1, l2, _, t1, t2, t3'⟩ := fig_parts hv
  have okl := okV_limbs l2
  have okt : okVs ts = true := okVs_all fun t ht => by
    obtain ⟨i, rfl, _⟩ := t3' t ht
    rfl
  obtain ⟨E, hE⟩ : ∃ E : List PV → Option Slot → Option Slot → Env, E = fun L s6 s7 => [none, some ⟨0, .int j⟩, some ⟨0, .tup ls⟩, some ⟨0, .tup ts⟩, some ⟨0, .int fl⟩, some ⟨1, .lst L⟩, s6, s7, none] := ⟨_, rfl⟩
  refine ⟨badAll (.int j) ls ts (.int fl), a1, b1, ?_, fun o ho => ⟨bad_no j2 o ho, bad_ok okl okt o ho⟩⟩
  have s1 : evS (callF P (n + 3)) P.fr (.unp (.tup [.nm 1, .nm 2, .nm 3, .nm 4]) (.callc "_law_figure" [.con (.int 6), .con (.int 4)])) [none, none, none, none, none, none, none, none, none] (cup a b) = .nx [none, some ⟨0, .int j⟩, some ⟨0, .tup ls⟩, some ⟨0, .tup ts⟩, some ⟨0, .int fl⟩, none, none, none, none] (cup a1 b1) := by
    have q : em (callF P (n + 3)) (.callc "_law_figure" [.con (.int 6), .con (.int 4)]) [none, none, none, none, none, none, none, none, none] (cup a b) = .ok (0, .tup [.int j, .tup ls, .tup ts, .int fl]) (cup a1 b1) := em_callc rfl q1
    show (ev _ _ _ _).out _ = _
    rw [ev_of q] <;> rfl
  have s2 : evS (callF P (n + 3)) P.fr (.set 5 true (.lst 0 [.con .non, .tup [], .lst 0 [.var 1, .var 2, .var 3, .var 4], .tup [.var 1, .var 2, .var 3], .tup [.var 1, .var 2, .var 3, .var 4, .con (.int 0)], .tup [.con (.int 0), .tup [], .tup [.con (.int 0)], .var 4], .tup [.con (.int 9), .var 2, .var 3, .var 4]])) [none, some ⟨0, .int j⟩, some ⟨0, .tup ls⟩, some ⟨0, .tup ts⟩, some ⟨0, .int fl⟩, none, none, none, none] (cup a1 b1) = .nx (E (badA (.int j) (.tup ls) (.tup ts) (.int fl)) none none) (cup a1 b1) := by
    rw [hE] <;> rfl
  have s3 : evS (callF P (n + 3)) P.fr (.set 5 true (.op .add (.var 5) (.lst 0 [.tup [.con (.bl true), .tup [], .tup [.con (.int 0)], .var 4], .tup [.con .non, .var 2, .var 3, .var 4], .tup [.var 1, .b1 .list (.var 2), .var 3, .var 4], .tup [.var 1, .var 2, .b1 .list (.var 3), .var 4], .tup [.var 1, .var 2, .tup [], .var 4]]))) (E (badA (.int j) (.tup ls) (.tup ts) (.int fl)) none none) (cup a1 b1) = .nx (E (badA (.int j) (.tup ls) (.tup ts) (.int fl) ++ badB (.int j) ls ts (.int fl)) none none) (cup a1 b1) := by
    rw [hE]
    exact st_own (add_lst (d1 := 1) (d2 := 0) rfl (by omega) (ys := badB (.int j) ls ts (.int fl)) rfl (by omega) (by simp [badA, badB]))
  have s4 : evS (callF P (n + 3)) P.fr (.set 5 true (.op .add (.var 5) (.lst 0 [.tup [.var 1, .var 2, .op .mul (.tup [.con (.int 0)]) (.con (.int 7)), .var 4], .tup [.var 1, .var 2, .tup [.var 1], .var 4], .tup [.var 1, .var 2, .tup [.neg (.con (.int 1))], .var 4], .tup [.var 1, .var 2, .tup [.con (.bl false)], .var 4]]))) (E (badA (.int j) (.tup ls) (.tup ts) (.int fl) ++ badB (.int j) ls ts (.int fl)) none none) (cup a1 b1) = .nx (E (badA (.int j) (.tup ls) (.tup ts) (.int fl) ++ badB (.int j) ls ts (.int fl) ++ badC (.int j) (.tup ls) (.int fl)) none none) (cup a1 b1) := by
    rw [hE]
    exact st_own (add_lst (d1 := 1) (d2 := 0) rfl (by omega) (ys := badC (.int j) (.tup ls) (.int fl)) rfl (by omega) (by simp [badA, badB, badC]))
  have s5 : evS (callF P (n + 3)) P.fr (.set 5 true (.op .add (.op .add (.var 5) (.comp [8] (.nm 8) .seq [.tup [.con (.int 0), .con (.int 31), .con (.bl true), .con .non]] [] 0 (.tup [.var 1, .var 2, .var 3, .var 8]))) (.lst 0 [.tup [.var 1, .var 2, .con .non, .var 4], .tup [.var 1, .con .non, .var 3, .var 4]]))) (E (badA (.int j) (.tup ls) (.tup ts) (.int fl) ++ badB (.int j) ls ts (.int fl) ++ badC (.int j) (.tup ls) (.int fl)) none none) (cup a1 b1) = .nx (E (badA (.int j) (.tup ls) (.tup ts) (.int fl) ++ badB (.int j) ls ts (.int fl) ++ badC (.int j) (.tup ls) (.int fl) ++ badD (.int j) (.tup ls) (.tup ts) (.int fl)) none none) (cup a1 b1) := by
    rw [hE]
    have q := st_own (fr := P.fr) (i := 5) (add_lst (call := callF P (n + 3)) (env := [none, some ⟨0, .int j⟩, some ⟨0, .tup ls⟩, some ⟨0, .tup ts⟩, some ⟨0, .int fl⟩, some ⟨1, .lst (badA (.int j) (.tup ls) (.tup ts) (.int fl) ++ badB (.int j) ls ts (.int fl) ++ badC (.int j) (.tup ls) (.int fl))⟩, none, none, none]) (c := cup a1 b1) (d1 := 0) (d2 := 0)
      (add_lst (a := .var 5) (b := .comp [8] (.nm 8) .seq [.tup [.con (.int 0), .con (.int 31), .con (.bl true), .con .non]] [] 0 (.tup [.var 1, .var 2, .var 3, .var 8])) (d1 := 1) (d2 := 0) rfl (by omega) (ys := [.tup [.int j, .tup ls, .tup ts, .int 0], .tup [.int j, .tup ls, .tup ts, .int 31], .tup [.int j, .tup ls, .tup ts, .bl true], .tup [.int j, .tup ls, .tup ts, .non]]) rfl (by omega) (by simp [badA, badB, badC])) (by omega)
      (b := .lst 0 [.tup [.var 1, .var 2, .con .non, .var 4], .tup [.var 1, .con .non, .var 3, .var 4]]) (ys := [.tup [.int j, .tup ls, .non, .int fl], .tup [.int j, .non, .tup ts, .int fl]]) rfl (by omega) (by simp [badA, badB, badC]))
    rw [List.append_assoc (_ ++ _)] at q
    exact q
  have s6 : evS (callF P (n + 3)) P.fr (.set 6 false (.lst 0 [.tup [.con (.int 1), .con (.int 0), .con (.int 2)], .tup [.con (.int 0), .con (.int 0), .con (.int 2)], .tup [.con (.int 0), .con (.int 1)], .tup [.con (.int 0), .con (.int 1), .con (.int 2), .con (.int 2)], .tup [.con (.int 0), .con (.int 2), .con (.int 1)], .tup [.con (.int 0), .con (.int 1), .con (.int 0)], .tup [.con (.int 0), .con (.int 1), .con (.int 10)], .tup [.con (.int 0), .con (.int 1), .con (.bl true)], .tup [.con (.bl false), .con (.int 1), .con (.int 2)], .tup [.con (.int 0), .con (.bl true), .con (.int 2)], .tup [.con (.str "0"), .con (.int 1), .con (.int 2)], .tup [.con (.int 0), .con (.int 1), .con .non]])) (E (badA (.int j) (.tup ls) (.tup ts) (.int fl) ++ badB (.int j) ls ts (.int fl) ++ badC (.int j) (.tup ls) (.int fl) ++ badD (.int j) (.tup ls) (.tup ts) (.int fl)) none none) (cup a1 b1) = .nx (E (badA (.int j) (.tup ls) (.tup ts) (.int fl) ++ badB (.int j) ls ts (.int fl) ++ badC (.int j) (.tup ls) (.int fl) ++ badD (.int j) (.tup ls) (.tup ts) (.int fl)) (some ⟨0, .lst (badsL.take 12)⟩) none) (cup a1 b1) := by
    rw [hE] <;> rfl
  obtain ⟨B, hB'⟩ : ∃ B, B = badA (.int j) (.tup ls) (.tup ts) (.int fl) ++ badB (.int j) ls ts (.int fl) ++ badC (.int j) (.tup ls) (.int fl) ++ badD (.int j) (.tup ls) (.tup ts) (.int fl) := ⟨_, rfl⟩
  have hBl : B.length = 22 := by rw [hB'] <;> rfl
  have step : ∀ (k : Nat) (x : PV) (env : Env) (c : PV), badsL[k]? = some x → (c = cup a1 b1 ∧ ∃ s7, env = E (B ++ (badsL.take (0 + k)).map (badF (.int fl))) (some ⟨0, .lst (badsL.take 12)⟩) s7) →
      ∃ env1 env2 c2, (Tg.nm 7).put x env = some env1 ∧ evB (callF P (n + 3)) P.fr [.app 5 [] (.tup [.con (.int 2), .tup [.var 7], .tup [.con (.int 0)], .var 4])] env1 c = .nx env2 c2 ∧ (c2 = cup a1 b1 ∧ ∃ s7, env2 = E (B ++ (badsL.take (0 + k + 1)).map (badF (.int fl))) (some ⟨0, .lst (badsL.take 12)⟩) s7) := by
    rintro k x env c hx ⟨rfl, s7, rfl⟩
    have hkl : k < badsL.length := (List.getElem?_eq_some_iff.mp hx).1
    have et : badsL.take (0 + k + 1) = badsL.take (0 + k) ++ [x] := by
      rw [Nat.zero_add, List.take_succ_eq_append_getElem hkl, (List.getElem?_eq_some_iff.mp hx).2]
    have hz : (B ++ (badsL.take (0 + k)).map (badF (.int fl))).length < SZ := by
      rw [List.length_append, hBl, List.length_map, List.length_take]
      have : badsL.length = 15 := rfl
      unfold SZ
      omega
    refine ⟨_, E (B ++ (badsL.take (0 + k + 1)).map (badF (.int fl))) (some ⟨0, .lst (badsL.take 12)⟩) (some ⟨0, x⟩), cup a1 b1, rfl, ?_, rfl, _, rfl⟩
    rw [et, List.map_append, ← List.append_assoc]
    obtain ⟨L, hL⟩ : ∃ L, L = B ++ (badsL.take (0 + k)).map (badF (.int fl)) := ⟨_, rfl⟩
    rw [← hL] at hz ⊢
    rw [hE]
    simp [evB, evS, ev, em, evs, lo, Res.bind, Res.out, Out.bind, okA, okR, okP, validP, modS, modP, lstV, appV, hz, badF]
  obtain ⟨env', c', q7, rfl, s7, rfl⟩ := forL_inv (tg := .nm 7) (f := fun env c => evB (callF P (n + 3)) P.fr [.app 5 [] (.tup [.con (.int 2), .tup [.var 7], .tup [.con (.int 0)], .var 4])] env c)
    (I := fun k env c => c = cup a1 b1 ∧ ∃ s7, env = E (B ++ (badsL.take k).map (badF (.int fl))) (some ⟨0, .lst (badsL.take 12)⟩) s7) badsL 0 (E B (some ⟨0, .lst (badsL.take 12)⟩) none) (cup a1 b1) step ⟨rfl, none, by rw [List.take_zero, List.map_nil, List.append_nil]⟩
  rw [Nat.zero_add, List.take_length] at q7
  have s7' : evS (callF P (n + 3)) P.fr (.for_ (.nm 7) .seq [.op .add (.var 6) (.lst 0 [.lst 0 [.con (.int 0), .con (.int 1), .con (.int 2)], .con .non, .tup [.neg (.con (.int 1)), .con (.int 1), .con (.int 2)]])] [.app 5 [] (.tup [.con (.int 2), .tup [.var 7], .tup [.con (.int 0)], .var 4])]) (E B (some ⟨0, .lst (badsL.take 12)⟩) none) (cup a1 b1) = .nx (E (B ++ badsL.map (badF (.int fl))) (some ⟨0, .lst (badsL.take 12)⟩) s7) (cup a1 b1) := by
    refine (st_for (vs := [.lst badsL]) (xs := badsL) (c' := cup a1 b1) (evs_one (d := 0) (add_lst (d1 := 0) (d2 := 0) (xs := badsL.take 12) (ys := [.lst [.int 0, .int 1, .int 2], .non, t3 (-1) 1 2]) (by rw [hE] <;> rfl) (by omega) (by rw [hE] <;> rfl) (by omega) (by decide)) (Nat.zero_le _)) rfl).trans q7
  have s8 : evS (callF P (n + 3)) P.fr (.ret (.op .add (.var 5) (.lst 0 [.tup [.con (.int 3), .tup [.tup [.con (.int 0), .con (.int 1), .con (.int 2)], .tup [.con (.int 0), .con (.int 1), .con (.int 3)]], .tup [.con (.int 0)], .var 4], .tup [.con (.int 3), .tup [.tup [.con (.int 0), .con (.int 2), .con (.int 2)], .tup [.con (.int 0), .con (.int 1), .con (.int 3)]], .tup [.con (.int 0)], .var 4], .tup [.con (.int 3), .tup [.tup [.con (.int 1), .con (.int 2), .con (.int 2)], .tup [.con (.int 0), .con (.int 1), .con (.int 3)]], .tup [.con (.int 0)], .var 4], .con (.int 7), .con (.str "figure")]))) (E (B ++ badsL.map (badF (.int fl))) (some ⟨0, .lst (badsL.take 12)⟩) s7) (cup a1 b1) = .ret (.lst (badAll (.int j) ls ts (.int fl))) (cup a1 b1) := by
    refine st_ret ?_
    unfold badAll
    rw [← hB']
    exact add_lst (d1 := 1) (d2 := 0) (by rw [hE] <;> rfl) (by omega) (by rw [hE] <;> rfl) (by omega) (by rw [List.length_append, hBl, List.length_map]; show 22 + 15 + 5 ≤ 1000; omega)
  rw [← hB'] at s5 s6
  unfold Fn.run
  rw [if_pos ⟨rfl, rfl⟩]
  show (match evB (callF P (n + 3)) P.fr (_ :: _ :: _ :: _ :: _ :: _ :: _ :: _ :: []) [none, none, none, none, none, none, none, none, none] (cup a b) with
    | .nx _ c => _
    | .ret v c => _
    | .exc e c => _
    | .stuck => _) = _
  rw [evB_cons, s1, obind_nx, evB_cons, s2, obind_nx, evB_cons, s3, obind_nx, evB_cons, s4, obind_nx, evB_cons, s5, obind_nx, evB_cons, s6, obind_nx, evB_cons, s7', obind_nx, evB_cons, s8, obind_ret]
  rfl
end
end PVL
end

section
set_option linter.all false
set_option maxRecDepth 10000
/-! PVN1: depths drawn down along limbs, until nothing changes: the greatest stance. Plain lists of numbers. -/
namespace PVN
abbrev L3 := Int × Int × Int
/-- the entry of a place -/
def gt (d : List Int) (i : Int) : Int := d.getD i.toNat 0
/-- limbs among n joints -/
def Lim (n : Nat) (ls : List L3) : Prop := ∀ l ∈ ls, 0 ≤ l.1 ∧ l.1 < l.2.1 ∧ l.2.1 < n ∧ 1 ≤ l.2.2
def relax (d : List Int) (l : L3) : List Int := (d.set l.1.toNat (min (gt d l.1) (gt d l.2.1 + l.2.2))).set l.2.1.toNat (min (gt d l.2.1) (gt d l.1 + l.2.2))
def round (ls : List L3) (d : List Int) : List Int := ls.foldl relax d
def rounds (ls : List L3) : Nat → List Int → List Int
  | 0, d => d
  | k + 1, d => rounds ls k (round ls d)
theorem rounds_succ (ls : List L3) : ∀ (k : Nat) (d : List Int), rounds ls (k + 1) d = round ls (rounds ls k d)
  | 0, d => rfl
  | k + 1, d => rounds_succ ls k (round ls d)
theorem gt_set {d : List Int} {k : Nat} {v i : Int} (hi : 0 ≤ i) (hk : k < d.length) : gt (d.set k v) i = if i = k then v else gt d i := by
  unfold gt
  rw [List.getD_eq_getElem?_getD, List.getD_eq_getElem?_getD]
  by_cases h : i = k
  · rw [if_pos h]
    have e : i.toNat = k := by omega
    rw [e, List.getElem?_set_self hk]
    rfl
  · rw [if_neg h]
    have e : k ≠ i.toNat := by omega
    rw [List.getElem?_set_ne e]
theorem relax_len (d : List Int) (l : L3) : (relax d l).length = d.length := by unfold relax; rw [List.length_set, List.length_set]
theorem relax_gt {d : List Int} {a b w i : Int} (h0 : 0 ≤ a) (h1 : a < b) (h2 : b < d.length) (hi : 0 ≤ i) : gt (relax d (a, b, w)) i = if i = b then min (gt d b) (gt d a + w) else if i = a then min (gt d a) (gt d b + w) else gt d i := by
  unfold relax
  rw [gt_set hi (by rw [List.length_set]; show b.toNat < _; omega), gt_set hi (by show a.toNat < _; omega)]
  have e1 : ((b.toNat : Nat) : Int) = b := by omega
  have e2 : ((a.toNat : Nat) : Int) = a := by omega
  show (if i = ((b.toNat : Nat) : Int) then _ else if i = ((a.toNat : Nat) : Int) then _ else _) = _
  rw [e1, e2]
theorem round_len (ls : List L3) : ∀ d : List Int, (round ls d).length = d.length := by
  induction ls with
  | nil => intro d; rfl
  | cons l ls ih => intro d; show (round ls (relax d l)).length = _; rw [ih, relax_len]
theorem rounds_len (ls : List L3) : ∀ (k : Nat) (d : List Int), (rounds ls k d).length = d.length
  | 0, d => rfl
  | k + 1, d => by show (rounds ls k (round ls d)).length = _; rw [rounds_len ls k, round_len]
section
variable {n : Nat} {ls : List L3}
theorem Lim.tail {l : L3} (h : Lim n (l :: ls)) : Lim n ls := fun m hm => h m (List.mem_cons_of_mem _ hm)
theorem relax_le {d : List Int} {l : L3} (h : 0 ≤ l.1 ∧ l.1 < l.2.1 ∧ l.2.1 < d.length) {i : Int} (hi : 0 ≤ i) : gt (relax d l) i ≤ gt d i := by
  obtain ⟨a, b, w⟩ := l
  rw [relax_gt h.1 h.2.1 h.2.2 hi]
  simp only at h ⊢
  split
  · rename_i e; subst e; omega
  · split
    · rename_i e; subst e; omega
    · omega
theorem round_le : ∀ {ls : List L3} {d : List Int}, Lim d.length ls → ∀ {i : Int}, 0 ≤ i → gt (round ls d) i ≤ gt d i
  | [], d, h, i, hi => Int.le_refl _
  | l :: ls, d, h, i, hi => by
    have g := h l (List.mem_cons_self ..)
    have e1 := relax_le (d := d) (l := l) ⟨g.1, g.2.1, g.2.2.1⟩ hi
    have e2 := round_le (ls := ls) (d := relax d l) (by rw [relax_len]; exact h.tail) hi
    exact Int.le_trans e2 e1
theorem rounds_le : ∀ {k : Nat} {d : List Int}, Lim d.length ls → ∀ {i : Int}, 0 ≤ i → gt (rounds ls k d) i ≤ gt d i
  | 0, d, h, i, hi => Int.le_refl _
  | k + 1, d, h, i, hi => by
    have e2 := rounds_le (k := k) (d := round ls d) (by rw [round_len]; exact h) hi
    exact Int.le_trans e2 (round_le h hi)
/-- a round draws the ends of each limb together -/
theorem round_edge : ∀ {ls : List L3} {d : List Int}, Lim d.length ls → ∀ {a b w : Int}, (a, b, w) ∈ ls → gt (round ls d) b ≤ gt d a + w ∧ gt (round ls d) a ≤ gt d b + w
  | [], d, h, a, b, w, hm => by cases hm
  | l :: ls, d, h, a, b, w, hm => by
    have g := h l (List.mem_cons_self ..)
    have h' : Lim (relax d l).length ls := by rw [relax_len]; exact h.tail
    rcases List.mem_cons.mp hm with e | hm'
    · subst e
      obtain ⟨g0, g1, g2, g3⟩ := g
      simp only at g0 g1 g2 g3
      have e1 := round_le h' (i := b) (by omega)
      have e2 := round_le h' (i := a) (by omega)
      rw [relax_gt g0 g1 g2 (by omega)] at e1
      rw [relax_gt g0 g1 g2 (by omega)] at e2
      rw [if_pos rfl] at e1
      rw [if_neg (by omega), if_pos rfl] at e2
      constructor
      · show gt (round ls (relax d (a, b, w))) b ≤ _; omega
      · show gt (round ls (relax d (a, b, w))) a ≤ _; omega
    · have e := round_edge (d := relax d l) h' hm'
      have g0 := h.tail _ hm'
      simp only at g0
      have e1 := relax_le (d := d) (l := l) ⟨g.1, g.2.1, g.2.2.1⟩ (i := a) g0.1
      have e2 := relax_le (d := d) (l := l) ⟨g.1, g.2.1, g.2.2.1⟩ (i := b) (by have := g0.1; have := g0.2.1; omega)
      constructor
      · show gt (round ls (relax d l)) b ≤ _; omega
      · show gt (round ls (relax d l)) a ≤ _; omega
/-- depths that the limbs allow -/
def Edges (ls : List L3) (S : Int → Int) : Prop := ∀ l ∈ ls, S l.1 ≤ S l.2.1 + l.2.2 ∧ S l.2.1 ≤ S l.1 + l.2.2
theorem round_low : ∀ {ls : List L3} {d : List Int} {S : Int → Int}, Lim d.length ls → Edges ls S → (∀ i : Int, 0 ≤ i → i < d.length → S i ≤ gt d i) → ∀ i : Int, 0 ≤ i → i < d.length → S i ≤ gt (round ls d) i
  | [], d, S, h, hs, hd, i, hi, hl => hd i hi hl
  | l :: ls, d, S, h, hs, hd, i, hi, hl => by
    have g := h l (List.mem_cons_self ..)
    have gs := hs l (List.mem_cons_self ..)
    refine round_low (ls := ls) (d := relax d l) (by rw [relax_len]; exact h.tail) (fun m hm => hs m (List.mem_cons_of_mem _ hm)) (fun j hj hjl => ?_) i hi (by rw [relax_len]; exact hl)
    rw [relax_len] at hjl
    obtain ⟨a, b, w⟩ := l
    obtain ⟨g0, g1, g2, g3⟩ := g
    simp only at g0 g1 g2 g3 gs
    have e1 := hd a g0 (by omega)
    have e2 := hd b (by omega) g2
    have e3 := hd j hj hjl
    rw [relax_gt g0 g1 g2 hj]
    split
    · rename_i e; subst e; omega
    · split
      · rename_i e; subst e; omega
      · omega
theorem rounds_low {S : Int → Int} (hs : Edges ls S) : ∀ {k : Nat} {d : List Int}, Lim d.length ls → (∀ i : Int, 0 ≤ i → i < d.length → S i ≤ gt d i) → ∀ i : Int, 0 ≤ i → i < d.length → S i ≤ gt (rounds ls k d) i
  | 0, d, h, hd, i, hi, hl => hd i hi hl
  | k + 1, d, h, hd, i, hi, hl => rounds_low hs (k := k) (d := round ls d) (by rw [round_len]; exact h) (fun j hj hjl => round_low h hs hd j hj (by rw [round_len] at hjl; exact hjl)) i hi (by rw [round_len]; exact hl)
/-- what is below its start is drawn there by a limb -/
def Tight (ls : List L3) (d0 d : List Int) : Prop := ∀ v : Int, 0 ≤ v → v < d.length → gt d v = gt d0 v ∨ ∃ u w : Int, 0 ≤ u ∧ u < d.length ∧ 1 ≤ w ∧ ((u, v, w) ∈ ls ∨ (v, u, w) ∈ ls) ∧ gt d u + w ≤ gt d v
theorem relax_tight {d0 d : List Int} {l : L3} (hl : l ∈ ls) (h : Lim d.length ls) (t : Tight ls d0 d) : Tight ls d0 (relax d l) := by
  intro v hv hvl
  rw [relax_len] at hvl
  obtain ⟨a, b, w⟩ := l
  obtain ⟨g0, g1, g2, g3⟩ := h _ hl
  simp only at g0 g1 g2 g3
  have le : ∀ i, 0 ≤ i → gt (relax d (a, b, w)) i ≤ gt d i := fun i hi => relax_le (d := d) (l := (a, b, w)) ⟨g0, g1, g2⟩ hi
  have old : gt (relax d (a, b, w)) v = gt d v → gt (relax d (a, b, w)) v = gt d0 v ∨ ∃ u w' : Int, 0 ≤ u ∧ u < (relax d (a, b, w)).length ∧ 1 ≤ w' ∧ ((u, v, w') ∈ ls ∨ (v, u, w') ∈ ls) ∧ gt (relax d (a, b, w)) u + w' ≤ gt (relax d (a, b, w)) v := by
    intro e
    rcases t v hv hvl with q | ⟨u, w', q1, q2, q3, q4, q5⟩
    · exact .inl (e.trans q)
    · refine .inr ⟨u, w', q1, by rw [relax_len]; exact q2, q3, q4, ?_⟩
      have := le u q1
      omega
  by_cases hb : v = b
  · subst hb
    by_cases hm : gt d v ≤ gt d a + w
    · refine old ?_
      rw [relax_gt g0 g1 g2 hv, if_pos rfl]
      omega
    · refine .inr ⟨a, w, g0, by rw [relax_len]; omega, g3, .inl hl, ?_⟩
      have := le a g0
      rw [relax_gt g0 g1 g2 hv, if_pos rfl]
      omega
  · by_cases ha : v = a
    · subst ha
      by_cases hm : gt d v ≤ gt d b + w
      · refine old ?_
        rw [relax_gt g0 g1 g2 hv, if_neg hb, if_pos rfl]
        omega
      · refine .inr ⟨b, w, by omega, by rw [relax_len]; omega, g3, .inr hl, ?_⟩
        have := le b (by omega)
        rw [relax_gt g0 g1 g2 hv, if_neg hb, if_pos rfl]
        omega
    · refine old ?_
      rw [relax_gt g0 g1 g2 hv, if_neg hb, if_neg ha]
theorem fold_tight {d0 : List Int} : ∀ {ms : List L3} {d : List Int}, (∀ l ∈ ms, l ∈ ls) → Lim d.length ls → Tight ls d0 d → Tight ls d0 (round ms d)
  | [], d, _, _, t => t
  | l :: ms, d, hm, h, t => fold_tight (ms := ms) (d := relax d l) (fun m hx => hm m (List.mem_cons_of_mem _ hx)) (by rw [relax_len]; exact h) (relax_tight (hm l (List.mem_cons_self ..)) h t)
theorem rounds_tight {d0 : List Int} : ∀ {k : Nat} {d : List Int}, Lim d.length ls → Tight ls d0 d → Tight ls d0 (rounds ls k d)
  | 0, d, _, t => t
  | k + 1, d, h, t => rounds_tight (k := k) (d := round ls d) (by rw [round_len]; exact h) (fold_tight (fun _ z => z) h t)
/-- two rows of one length with the same entries -/
theorem gt_ext {d e : List Int} (hl : d.length = e.length) (h : ∀ i : Int, 0 ≤ i → i < d.length → gt d i = gt e i) : d = e := by
  refine List.ext_getElem hl fun i h1 h2 => ?_
  have := h i (by omega) (by omega)
  unfold gt at this
  rw [List.getD_eq_getElem?_getD, List.getD_eq_getElem?_getD] at this
  have e1 : ((i : Nat) : Int).toNat = i := by omega
  rw [e1, List.getElem?_eq_getElem h1, List.getElem?_eq_getElem h2] at this
  exact this
theorem sum_lt : ∀ {d e : List Int}, d.length = e.length → (∀ i (h1 : i < d.length) (h2 : i < e.length), d[i] ≤ e[i]) → d.sum ≤ e.sum ∧ (d ≠ e → d.sum < e.sum)
  | [], [], _, _ => ⟨Int.le_refl _, fun h => absurd rfl h⟩
  | [], _ :: _, hl, _ => by cases hl
  | _ :: _, [], hl, _ => by cases hl
  | x :: d, y :: e, hl, h => by
    have h0 := h 0 (by simp) (by simp)
    simp only [List.getElem_cons_zero] at h0
    have ih := sum_lt (d := d) (e := e) (by simpa using hl) fun i h1 h2 => by
      have := h (i + 1) (by simpa using h1) (by simpa using h2)
      simpa using this
    rw [List.sum_cons, List.sum_cons]
    refine ⟨by have := ih.1; omega, fun hn => ?_⟩
    by_cases e1 : x = y
    · subst e1
      have : d ≠ e := fun z => hn (by rw [z])
      have := ih.2 this
      omega
    · have := ih.1
      omega
theorem sum_nonneg : ∀ {d : List Int}, (∀ x ∈ d, 0 ≤ x) → 0 ≤ d.sum
  | [], _ => Int.le_refl _
  | x :: d, h => by
    rw [List.sum_cons]
    have := sum_nonneg (d := d) fun y hy => h y (List.mem_cons_of_mem _ hy)
    have := h x (List.mem_cons_self ..)
    omega
theorem gt_get {d : List Int} {i : Nat} (h : i < d.length) : gt d i = d[i] := by
  unfold gt
  rw [List.getD_eq_getElem?_getD]
  have e1 : ((i : Nat) : Int).toNat = i := by omega
  rw [e1, List.getElem?_eq_getElem h]
  rfl
/-- the rounds come to rest -/
theorem rest (ls : List L3) : ∀ (m : Nat) (d : List Int), Lim d.length ls → (∀ i : Int, 0 ≤ i → i < d.length → 0 ≤ gt d i) → d.sum.toNat ≤ m → ∃ N, round ls (rounds ls N d) = rounds ls N d := by
  intro m
  induction m with
  | zero =>
    intro d h h0 hm
    refine ⟨0, ?_⟩
    show round ls d = d
    by_cases e : round ls d = d
    · exact e
    · exfalso
      have hr := round_low (S := fun _ => 0) h (fun l hl => by have := (h l hl).2.2.2; simp only; omega) h0
      have q := sum_lt (d := round ls d) (e := d) (round_len ls d) fun i h1 h2 => by
        have := round_le h (i := i) (by omega)
        rw [gt_get h1, gt_get h2] at this
        exact this
      have p := sum_nonneg (d := round ls d) fun x hx => by
        obtain ⟨i, hi, rfl⟩ := List.mem_iff_getElem.mp hx
        rw [← gt_get hi]
        exact hr i (by omega) (by rw [round_len] at hi; omega)
      have := q.2 e
      omega
  | succ m ih =>
    intro d h h0 hm
    by_cases e : round ls d = d
    · exact ⟨0, e⟩
    · have hr := round_low (S := fun _ => 0) h (fun l hl => by have := (h l hl).2.2.2; simp only; omega) h0
      have q := sum_lt (d := round ls d) (e := d) (round_len ls d) fun i h1 h2 => by
        have := round_le h (i := i) (by omega)
        rw [gt_get h1, gt_get h2] at this
        exact this
      have p := sum_nonneg (d := round ls d) fun x hx => by
        obtain ⟨i, hi, rfl⟩ := List.mem_iff_getElem.mp hx
        rw [← gt_get hi]
        exact hr i (by omega) (by rw [round_len] at hi; omega)
      have q2 := q.2 e
      obtain ⟨N, hN⟩ := ih (round ls d) (by rw [round_len]; exact h) (fun i hi hl => hr i hi (by rw [round_len] at hl; exact hl)) (by omega)
      exact ⟨N + 1, hN⟩
theorem countP_lt' {α : Type} {p q : α → Bool} : ∀ {l : List α}, (∀ x ∈ l, p x = true → q x = true) → (∃ x ∈ l, q x = true ∧ p x = false) → l.countP p < l.countP q
  | [], _, ⟨x, hx, _⟩ => by cases hx
  | y :: l, h, ⟨x, hx, hq, hp⟩ => by
    have le : l.countP p ≤ l.countP q := List.countP_mono_left fun x hx hp => h x (List.mem_cons_of_mem _ hx) hp
    rw [List.countP_cons, List.countP_cons]
    rcases List.mem_cons.mp hx with e | hx'
    · subst e
      rw [hq, hp]
      simp
      omega
    · have ih := countP_lt' (p := p) (q := q) (l := l) (fun x hx => h x (List.mem_cons_of_mem _ hx)) ⟨x, hx', hq, hp⟩
      have := h y (List.mem_cons_self ..)
      by_cases e : p y = true
      · rw [e, this e]; simp; omega
      · have e' : p y = false := by simpa using e
        rw [e']
        simp
        split <;> omega
/-- how many entries are less -/
def rk (d : List Int) (v : Int) : Nat := (List.range d.length).countP fun (x : Nat) => decide (gt d x < gt d v)
theorem rk_lt {d : List Int} {u v : Int} (hu : 0 ≤ u) (hul : u < d.length) (h : gt d u < gt d v) : rk d u < rk d v := by
  unfold rk
  refine countP_lt' (fun x _ hx => ?_) ⟨u.toNat, List.mem_range.mpr (by omega), ?_, ?_⟩
  · have := of_decide_eq_true hx
    exact decide_eq_true (by omega)
  · have e : ((u.toNat : Nat) : Int) = u := by omega
    rw [e]
    exact decide_eq_true h
  · have e : ((u.toNat : Nat) : Int) = u := by omega
    rw [e]
    exact decide_eq_false (by omega)
theorem rk_n {d : List Int} {v : Int} (hv : 0 ≤ v) (hvl : v < d.length) : rk d v < d.length := by
  have h := countP_lt' (p := fun (x : Nat) => decide (gt d x < gt d v)) (q := fun _ => true) (l := List.range d.length) (fun _ _ _ => rfl) ⟨v.toNat, List.mem_range.mpr (by omega), rfl, by
    have e : ((v.toNat : Nat) : Int) = v := by omega
    rw [e]
    exact decide_eq_false (by omega)⟩
  have e2 : (List.range d.length).countP (fun _ => true) = d.length := by
    rw [List.countP_true, List.length_range]
  rw [e2] at h
  exact h
/-- as many rounds as joints are enough -/
theorem settle {d : List Int} (h : Lim d.length ls) (h0 : ∀ i : Int, 0 ≤ i → i < d.length → 0 ≤ gt d i) : Edges ls (gt (rounds ls d.length d)) := by
  obtain ⟨N, hN⟩ := rest ls d.sum.toNat d h h0 (Nat.le_refl _)
  have hL : (rounds ls N d).length = d.length := rounds_len ls N d
  have hE : Edges ls (gt (rounds ls N d)) := fun l hl => by
    obtain ⟨a, b, w⟩ := l
    have e := round_edge (ls := ls) (d := rounds ls N d) (by rw [hL]; exact h) hl
    rw [hN] at e
    exact ⟨e.2, e.1⟩
  have hT : Tight ls d (rounds ls N d) := rounds_tight h fun v _ _ => .inl rfl
  have key : ∀ (k : Nat) (v : Int), 0 ≤ v → v < d.length → rk (rounds ls N d) v ≤ k → gt (rounds ls k d) v ≤ gt (rounds ls N d) v := by
    intro k
    induction k with
    | zero =>
      intro v hv hvl hk
      rcases hT v hv (by rw [hL]; exact hvl) with q | ⟨u, w, q1, q2, q3, q4, q5⟩
      · rw [q]; exact Int.le_refl _
      · have := rk_lt (d := rounds ls N d) q1 q2 (v := v) (by omega)
        omega
    | succ k ih =>
      intro v hv hvl hk
      rcases hT v hv (by rw [hL]; exact hvl) with q | ⟨u, w, q1, q2, q3, q4, q5⟩
      · rw [q]; exact rounds_le h hv
      · have r := rk_lt (d := rounds ls N d) q1 q2 (v := v) (by omega)
        rw [hL] at q2
        have e := ih u q1 q2 (by omega)
        rw [rounds_succ]
        have hk2 : Lim (rounds ls k d).length ls := by rw [rounds_len]; exact h
        rcases q4 with q4 | q4
        · have := (round_edge hk2 q4).1
          omega
        · have := (round_edge hk2 q4).2
          omega
  have eq : rounds ls d.length d = rounds ls N d := by
    refine gt_ext (by rw [rounds_len, hL]) fun i hi hil => ?_
    rw [rounds_len] at hil
    have e1 := key d.length i hi hil (by have := rk_n (d := rounds ls N d) hi (by rw [hL]; exact hil); rw [hL] at this; omega)
    have e2 := rounds_low hE (k := d.length) h (fun j hj hjl => rounds_le h hj) i hi hil
    omega
  rw [eq]
  exact hE
end
end PVN
end

section
set_option linter.all false
set_option maxRecDepth 10000
/-! PVN2: the greatest stance, told by what it is; the pose by rounds is it. -/
namespace PVN
/-- a stance: within the floor, the strings (a joint, a length) and the limbs -/
structure Stance (n : Nat) (fl : Int) (ls : List L3) (zs : List (Int × Int)) (S : Int → Int) : Prop where
  floor : ∀ i : Int, 0 ≤ i → i < n → S i ≤ fl
  ties : ∀ z ∈ zs, S z.1 ≤ z.2
  edges : Edges ls S
/-- the greatest one, as a row -/
structure Great (n : Nat) (fl : Int) (ls : List L3) (zs : List (Int × Int)) (d : List Int) : Prop where
  len : d.length = n
  st : Stance n fl ls zs (gt d)
  up : ∀ S : Int → Int, Stance n fl ls zs S → ∀ i : Int, 0 ≤ i → i < n → S i ≤ gt d i
theorem Great.uniq {n : Nat} {fl : Int} {ls : List L3} {zs : List (Int × Int)} {d e : List Int} (h : Great n fl ls zs d) (k : Great n fl ls zs e) : d = e := by
  refine gt_ext (by rw [h.len, k.len]) fun i hi hl => ?_
  rw [h.len] at hl
  have := h.up _ k.st i hi hl
  have := k.up _ h.st i hi hl
  omega
def Ties (n : Nat) (zs : List (Int × Int)) : Prop := ∀ z ∈ zs, 0 ≤ z.1 ∧ z.1 < n ∧ 0 ≤ z.2
theorem Great.nonneg {n : Nat} {fl : Int} {ls : List L3} {zs : List (Int × Int)} {d : List Int} (h : Great n fl ls zs d) (hl : Lim n ls) (hz : Ties n zs) (hf : 0 ≤ fl) : ∀ i : Int, 0 ≤ i → i < n → 0 ≤ gt d i :=
  h.up (fun _ => 0) ⟨fun _ _ _ => hf, fun z hz' => (hz z hz').2.2, fun l hl' => by have := (hl l hl').2.2.2; omega⟩
/-- the start: the floor, drawn up by the strings -/
def start (d : List Int) (zs : List (Int × Int)) : List Int := zs.foldl (fun d z => d.set z.1.toNat (min (gt d z.1) z.2)) d
theorem start_len : ∀ (zs : List (Int × Int)) (d : List Int), (start d zs).length = d.length
  | [], d => rfl
  | z :: zs, d => by show (start (d.set _ _) zs).length = _; rw [start_len zs, List.length_set]
theorem start_le : ∀ {zs : List (Int × Int)} {d : List Int}, Ties d.length zs → ∀ {i : Int}, 0 ≤ i → gt (start d zs) i ≤ gt d i
  | [], d, h, i, hi => Int.le_refl _
  | z :: zs, d, h, i, hi => by
    have g := h z (List.mem_cons_self ..)
    have e := start_le (zs := zs) (d := d.set z.1.toNat (min (gt d z.1) z.2)) (by rw [List.length_set]; exact fun y hy => h y (List.mem_cons_of_mem _ hy)) hi
    refine Int.le_trans e ?_
    rw [gt_set hi (by omega)]
    split
    · rename_i e1
      have e2 : i = z.1 := by omega
      subst e2
      omega
    · omega
theorem start_tie : ∀ {zs : List (Int × Int)} {d : List Int}, Ties d.length zs → ∀ z ∈ zs, gt (start d zs) z.1 ≤ z.2
  | [], d, h, z, hz => by cases hz
  | y :: zs, d, h, z, hz => by
    have h' : Ties (d.set y.1.toNat (min (gt d y.1) y.2)).length zs := by rw [List.length_set]; exact fun y hy => h y (List.mem_cons_of_mem _ hy)
    rcases List.mem_cons.mp hz with e | hz'
    · subst e
      have g := h z (List.mem_cons_self ..)
      have e := start_le h' (i := z.1) g.1
      rw [gt_set g.1 (by omega), if_pos (by omega)] at e
      show gt (start (d.set z.1.toNat (min (gt d z.1) z.2)) zs) z.1 ≤ z.2
      omega
    · exact start_tie h' z hz'
theorem start_low {S : Int → Int} : ∀ {zs : List (Int × Int)} {d : List Int}, Ties d.length zs → (∀ z ∈ zs, S z.1 ≤ z.2) → (∀ i : Int, 0 ≤ i → i < d.length → S i ≤ gt d i) → ∀ i : Int, 0 ≤ i → i < d.length → S i ≤ gt (start d zs) i
  | [], d, h, hs, hd, i, hi, hl => hd i hi hl
  | z :: zs, d, h, hs, hd, i, hi, hl => by
    have g := h z (List.mem_cons_self ..)
    refine start_low (zs := zs) (d := d.set z.1.toNat (min (gt d z.1) z.2)) (by rw [List.length_set]; exact fun y hy => h y (List.mem_cons_of_mem _ hy)) (fun y hy => hs y (List.mem_cons_of_mem _ hy)) (fun j hj hjl => ?_) i hi (by rw [List.length_set]; exact hl)
    rw [List.length_set] at hjl
    rw [gt_set hj (by omega)]
    split
    · rename_i e1
      have e2 : j = z.1 := by omega
      have := hs z (List.mem_cons_self ..)
      have := hd j hj hjl
      subst e2
      omega
    · exact hd j hj hjl
/-- the pose by rounds -/
def poseR (n : Nat) (fl : Int) (ls : List L3) (zs : List (Int × Int)) : List Int := rounds ls n (start (List.replicate n fl) zs)
theorem gt_rep {n : Nat} {v i : Int} (hi : 0 ≤ i) (hl : i < n) : gt (List.replicate n v) i = v := by
  unfold gt
  rw [List.getD_eq_getElem?_getD, List.getElem?_replicate, if_pos (by omega)]
  rfl
theorem poseR_great {n : Nat} {fl : Int} {ls : List L3} {zs : List (Int × Int)} (hl : Lim n ls) (hz : Ties n zs) (hf : 0 ≤ fl) : Great n fl ls zs (poseR n fl ls zs) := by
  have l0 : (List.replicate n fl).length = n := List.length_replicate
  have l1 : (start (List.replicate n fl) zs).length = n := by rw [start_len, l0]
  have hz' : Ties (List.replicate n fl).length zs := by rw [l0]; exact hz
  have hl' : Lim (start (List.replicate n fl) zs).length ls := by rw [l1]; exact hl
  have nn : ∀ i : Int, 0 ≤ i → i < (start (List.replicate n fl) zs).length → 0 ≤ gt (start (List.replicate n fl) zs) i := fun i hi hil => start_low (S := fun _ => 0) hz' (fun z h => (hz z h).2.2) (fun j hj hjl => by rw [l0] at hjl; rw [gt_rep hj hjl]; exact hf) i hi (by rw [l0]; rw [l1] at hil; exact hil)
  have se := settle hl' nn
  rw [l1] at se
  have down : ∀ i : Int, 0 ≤ i → gt (poseR n fl ls zs) i ≤ gt (start (List.replicate n fl) zs) i := fun i hi => rounds_le hl' hi
  refine ⟨by unfold poseR; rw [rounds_len, l1], ⟨fun i hi hil => ?_, fun z h => ?_, se⟩, fun S hS i hi hil => ?_⟩
  · have := start_le hz' (i := i) hi
    rw [gt_rep hi hil] at this
    exact Int.le_trans (down i hi) this
  · exact Int.le_trans (down z.1 (hz z h).1) (start_tie hz' z h)
  · exact rounds_low hS.edges hl' (fun j hj hjl => start_low hz' hS.ties (fun m hm hml => by rw [l0] at hml; rw [gt_rep hm hml]; exact hS.floor m hm hml) j hj (by rw [l0]; rw [l1] at hjl; exact hjl)) i hi (by rw [l1]; exact hil)
/-! ### the table of shortest ways -/
abbrev Tb := Int → Int → Option Int
/-- at most so far -/
def Fl (o : Option Int) (x : Int) : Prop := ∃ z, o = some z ∧ z ≤ x
theorem Fl.mono {o : Option Int} {x y : Int} (h : Fl o x) (e : x ≤ y) : Fl o y := by
  obtain ⟨z, h1, h2⟩ := h
  exact ⟨z, h1, by omega⟩
/-- a way by another joint -/
def viaO (o a b : Option Int) : Option Int := match a, b with
  | some x, some y => (match o with
    | none => some (x + y)
    | some z => some (if z < x + y then z else x + y))
  | _, _ => o
/-- all ways by the joint m too -/
def via (D : Tb) (m : Int) : Tb := fun i j => viaO (D i j) (D i m) (D m j)
theorem viaO_le {o a b : Option Int} {z : Int} (h : o = some z) : Fl (viaO o a b) z := by
  subst h
  unfold viaO
  cases a with
  | none => exact ⟨z, rfl, Int.le_refl _⟩
  | some x =>
    cases b with
    | none => exact ⟨z, rfl, Int.le_refl _⟩
    | some y => exact ⟨_, rfl, by split <;> omega⟩
theorem viaO_by {o : Option Int} {x y : Int} : Fl (viaO o (some x) (some y)) (x + y) := by
  unfold viaO
  cases o with
  | none => exact ⟨_, rfl, Int.le_refl _⟩
  | some z => exact ⟨_, rfl, by split <;> omega⟩
theorem viaO_or {o a b : Option Int} {z : Int} (h : viaO o a b = some z) : o = some z ∨ ∃ x y, a = some x ∧ b = some y ∧ z = x + y := by
  unfold viaO at h
  cases a with
  | none => exact .inl h
  | some x =>
    cases b with
    | none => exact .inl h
    | some y =>
      cases o with
      | none => exact .inr ⟨x, y, rfl, rfl, by simpa using h.symm⟩
      | some w =>
        simp only [Option.some.injEq] at h
        split at h
        · subst h; exact .inl rfl
        · subst h; exact .inr ⟨x, y, rfl, rfl, rfl⟩
/-- nothing at each joint itself, no negative ways -/
structure Ok (n : Nat) (D : Tb) : Prop where
  self : ∀ i : Int, 0 ≤ i → i < n → D i i = some 0
  nn : ∀ i j x : Int, D i j = some x → 0 ≤ x
theorem via_ok {n : Nat} {D : Tb} (h : Ok n D) (m : Int) : Ok n (via D m) := by
  have nn : ∀ i j x, via D m i j = some x → 0 ≤ x := fun i j x e => by
    rcases viaO_or e with q | ⟨a, b, q1, q2, q3⟩
    · exact h.nn _ _ _ q
    · have := h.nn _ _ _ q1
      have := h.nn _ _ _ q2
      omega
  refine ⟨fun i hi hl => ?_, nn⟩
  obtain ⟨z, e1, e2⟩ := viaO_le (o := D i i) (a := D i m) (b := D m i) (h.self i hi hl)
  have := nn i i z e1
  have e3 : z = 0 := by omega
  subst e3
  exact e1
/-- ways by the joints below m are in the table -/
def Tri (D : Tb) (m : Int) : Prop := ∀ i j k x y, 0 ≤ k → k < m → D i k = some x → D k j = some y → Fl (D i j) (x + y)
theorem via_tri {n : Nat} {D : Tb} {m : Int} (h : Ok n D) (t : Tri D m) : Tri (via D m) (m + 1) := by
  intro i j k x y hk hkm h1 h2
  have two : ∀ a b, D i m = some a → D m j = some b → Fl (via D m i j) (a + b) := fun a b e1 e2 => by unfold via; rw [e1, e2]; exact viaO_by
  by_cases hm : k = m
  · subst hm
    have c1 : ∃ a, D i k = some a ∧ a ≤ x := by
      rcases viaO_or h1 with q | ⟨a, b, q1, q2, q3⟩
      · exact ⟨x, q, Int.le_refl _⟩
      · have := h.nn _ _ _ q2
        exact ⟨a, q1, by omega⟩
    have c2 : ∃ b, D k j = some b ∧ b ≤ y := by
      rcases viaO_or h2 with q | ⟨a, b, q1, q2, q3⟩
      · exact ⟨y, q, Int.le_refl _⟩
      · have := h.nn _ _ _ q1
        exact ⟨b, q2, by omega⟩
    obtain ⟨a, a1, a2⟩ := c1
    obtain ⟨b, b1, b2⟩ := c2
    exact (two a b a1 b1).mono (by omega)
  · have hk' : k < m := by omega
    rcases viaO_or h1 with q | ⟨a, b, q1, q2, q3⟩
    · rcases viaO_or h2 with p | ⟨c, d, p1, p2, p3⟩
      · obtain ⟨z, e1, e2⟩ := t i j k x y hk hk' q p
        exact (viaO_le e1).mono e2
      · obtain ⟨z, e1, e2⟩ := t i m k x c hk hk' q p1
        have := two z d e1 p2
        exact this.mono (by omega)
    · rcases viaO_or h2 with p | ⟨c, d, p1, p2, p3⟩
      · obtain ⟨z, e1, e2⟩ := t m j k b y hk hk' q2 p
        have := two a z q1 e1
        exact this.mono (by omega)
      · have := h.nn _ _ _ q2
        have := h.nn _ _ _ p1
        exact (two a d q1 p2).mono (by omega)
/-- what limbs allow keeps below the table -/
def Sound (D : Tb) (S : Int → Int) : Prop := ∀ i j x, D i j = some x → S j ≤ S i + x
theorem via_sound {D : Tb} {S : Int → Int} (h : Sound D S) (m : Int) : Sound (via D m) S := fun i j x e => by
  rcases viaO_or e with q | ⟨a, b, q1, q2, q3⟩
  · exact h i j x q
  · have := h i m a q1
    have := h m j b q2
    omega
def viaN (D : Tb) : Nat → Tb
  | 0 => D
  | m + 1 => via (viaN D m) m
theorem viaN_ok {n : Nat} {D : Tb} (h : Ok n D) : ∀ m, Ok n (viaN D m)
  | 0 => h
  | m + 1 => via_ok (viaN_ok h m) m
theorem viaN_tri {n : Nat} {D : Tb} (h : Ok n D) : ∀ m : Nat, Tri (viaN D m) m
  | 0 => fun i j k x y h1 h2 => by omega
  | m + 1 => by
    have := via_tri (m := m) (viaN_ok h m) (viaN_tri h m)
    exact this
theorem viaN_sound {D : Tb} {S : Int → Int} (h : Sound D S) : ∀ m, Sound (viaN D m) S
  | 0 => h
  | m + 1 => via_sound (viaN_sound h m) m
theorem viaN_le {D : Tb} {i j z : Int} (h : Fl (D i j) z) : ∀ m, Fl (viaN D m i j) z
  | 0 => h
  | m + 1 => by
    obtain ⟨x, e1, e2⟩ := viaN_le h m
    exact (viaO_le e1).mono e2
/-- the table ahead of the rounds -/
def base (ls : List L3) : Tb := ls.foldl (fun D l => fun i j => if (i = l.1 ∧ j = l.2.1) ∨ (i = l.2.1 ∧ j = l.1) then some l.2.2 else D i j) fun i j => if i = j then some 0 else none
/-- limbs at unlike pairs of joints -/
def Once (ls : List L3) : Prop := ls.Pairwise fun l m => ¬ (l.1 = m.1 ∧ l.2.1 = m.2.1)
def baseF (D : Tb) (ls : List L3) : Tb := ls.foldl (fun D l => fun i j => if (i = l.1 ∧ j = l.2.1) ∨ (i = l.2.1 ∧ j = l.1) then some l.2.2 else D i j) D
theorem baseF_at : ∀ {ls : List L3} {n : Nat} {D : Tb}, Lim n ls → ∀ i j, (∃ l ∈ ls, ((i = l.1 ∧ j = l.2.1) ∨ (i = l.2.1 ∧ j = l.1)) ∧ baseF D ls i j = some l.2.2) ∨ ((∀ l ∈ ls, ¬ ((i = l.1 ∧ j = l.2.1) ∨ (i = l.2.1 ∧ j = l.1))) ∧ baseF D ls i j = D i j)
  | [], n, D, h, i, j => .inr ⟨fun _ z => (by cases z), rfl⟩
  | l :: ls, n, D, h, i, j => by
    rcases baseF_at (ls := ls) (D := fun i j => if (i = l.1 ∧ j = l.2.1) ∨ (i = l.2.1 ∧ j = l.1) then some l.2.2 else D i j) (fun m hm => h m (List.mem_cons_of_mem _ hm)) i j with ⟨m, h1, h2, h3⟩ | ⟨h1, h2⟩
    · exact .inl ⟨m, List.mem_cons_of_mem _ h1, h2, h3⟩
    · by_cases e : (i = l.1 ∧ j = l.2.1) ∨ (i = l.2.1 ∧ j = l.1)
      · refine .inl ⟨l, List.mem_cons_self .., e, ?_⟩
        show baseF _ ls i j = _
        rw [h2]
        exact if_pos e
      · refine .inr ⟨fun m hm => ?_, ?_⟩
        · rcases List.mem_cons.mp hm with z | z
          · subst z; exact e
          · exact h1 m z
        · show baseF _ ls i j = _
          rw [h2]
          exact if_neg e
def dist (n : Nat) (ls : List L3) : Tb := viaN (base ls) n
section
variable {n : Nat} {ls : List L3}
theorem base_ok (h : Lim n ls) : Ok n (base ls) := by
  refine ⟨fun i hi hl => ?_, fun i j x e => ?_⟩
  · rcases baseF_at (D := fun i j => if i = j then some 0 else none) h i i with ⟨l, h1, h2, h3⟩ | ⟨h1, h2⟩
    · have := h l h1
      omega
    · show baseF _ ls i i = _
      rw [h2]
      exact if_pos rfl
  · rcases baseF_at (D := fun i j => if i = j then some 0 else none) h i j with ⟨l, h1, h2, h3⟩ | ⟨h1, h2⟩
    · have e' : baseF _ ls i j = some x := e
      rw [h3] at e'
      cases e'
      have := h l h1
      omega
    · have e' : baseF _ ls i j = some x := e
      rw [h2] at e'
      split at e'
      · cases e'; exact Int.le_refl _
      · cases e'
theorem dist_ok (h : Lim n ls) : Ok n (dist n ls) := viaN_ok (base_ok h) n
theorem dist_tri (h : Lim n ls) {i j k x y : Int} (hk : 0 ≤ k) (hl : k < n) (h1 : dist n ls i k = some x) (h2 : dist n ls k j = some y) : Fl (dist n ls i j) (x + y) := viaN_tri (base_ok h) n i j k x y hk hl h1 h2
theorem once_w {n : Nat} : ∀ {ls : List L3}, Lim n ls → Once ls → ∀ l ∈ ls, ∀ m ∈ ls, l.1 = m.1 → l.2.1 = m.2.1 → l = m
  | [], _, _, l, hl, _, _, _, _ => by cases hl
  | k :: ls, h, o, l, hl, m, hm, e1, e2 => by
    unfold Once at o
    rw [List.pairwise_cons] at o
    rcases List.mem_cons.mp hl with z | z
    · rcases List.mem_cons.mp hm with y | y
      · rw [z, y]
      · subst z; exact absurd ⟨e1, e2⟩ (o.1 m y)
    · rcases List.mem_cons.mp hm with y | y
      · subst y; exact absurd ⟨e1.symm, e2.symm⟩ (o.1 l z)
      · exact once_w (fun m hm => h m (List.mem_cons_of_mem _ hm)) o.2 l z m y e1 e2
theorem dist_edge (h : Lim n ls) (o : Once ls) {a b w : Int} (hm : (a, b, w) ∈ ls) : Fl (dist n ls a b) w ∧ Fl (dist n ls b a) w := by
  have g := h _ hm
  have key : base ls a b = some w ∧ base ls b a = some w := by
    constructor
    · rcases baseF_at (D := fun i j => if i = j then some 0 else none) h a b with ⟨l, h1, h2, h3⟩ | ⟨h1, h2⟩
      · have gl := h l h1
        rcases h2 with ⟨e1, e2⟩ | ⟨e1, e2⟩
        · have := once_w h o l h1 _ hm e1.symm e2.symm
          subst this
          exact h3
        · simp only at g; omega
      · exact absurd (.inl ⟨rfl, rfl⟩) (h1 _ hm)
    · rcases baseF_at (D := fun i j => if i = j then some 0 else none) h b a with ⟨l, h1, h2, h3⟩ | ⟨h1, h2⟩
      · have gl := h l h1
        rcases h2 with ⟨e1, e2⟩ | ⟨e1, e2⟩
        · simp only at g; omega
        · have := once_w h o l h1 _ hm e2.symm e1.symm
          subst this
          exact h3
      · exact absurd (.inr ⟨rfl, rfl⟩) (h1 _ hm)
  exact ⟨viaN_le ⟨w, key.1, Int.le_refl _⟩ n, viaN_le ⟨w, key.2, Int.le_refl _⟩ n⟩
theorem dist_sound (h : Lim n ls) {S : Int → Int} (e : Edges ls S) : Sound (dist n ls) S := by
  refine viaN_sound (fun i j x z => ?_) n
  rcases baseF_at (D := fun i j => if i = j then some 0 else none) h i j with ⟨l, h1, h2, h3⟩ | ⟨h1, h2⟩
  · have z' : baseF _ ls i j = some x := z
    rw [h3] at z'
    cases z'
    have := e l h1
    rcases h2 with ⟨e1, e2⟩ | ⟨e1, e2⟩
    · rw [e1, e2]; exact this.2
    · rw [e1, e2]; exact this.1
  · have z' : baseF _ ls i j = some x := z
    rw [h2] at z'
    split at z'
    · rename_i q
      cases z'
      rw [q]; omega
    · cases z'
/-- what strings give a joint, by the table -/
def some_ (D : Tb) (zs : List (Int × Int)) (j : Int) : List Int := zs.filterMap fun z => (D z.1 j).map fun x => z.2 + x
def least (x : Int) (xs : List Int) : Int := xs.foldl (fun a b => if b < a then b else a) x
def minL : List Int → Int
  | [] => 0
  | x :: r => least x r
theorem least_le : ∀ (xs : List Int) (x : Int), least x xs ≤ x ∧ (∀ y ∈ xs, least x xs ≤ y) ∧ (least x xs = x ∨ least x xs ∈ xs)
  | [], x => ⟨Int.le_refl _, fun _ h => (by cases h), .inl rfl⟩
  | b :: xs, x => by
    obtain ⟨h1, h2, h3⟩ := least_le xs (if b < x then b else x)
    have e : least x (b :: xs) = least (if b < x then b else x) xs := rfl
    rw [e]
    have hb : (if b < x then b else x) ≤ b ∧ (if b < x then b else x) ≤ x := by split <;> omega
    refine ⟨by omega, fun y hy => ?_, ?_⟩
    · rcases List.mem_cons.mp hy with q | q
      · subst q; omega
      · exact h2 y q
    · rcases h3 with q | q
      · rw [q]
        by_cases hb : b < x
        · rw [if_pos hb]; exact .inr (List.mem_cons_self ..)
        · rw [if_neg hb]; exact .inl rfl
      · exact .inr (List.mem_cons_of_mem _ q)
theorem minL_spec {xs : List Int} (h : xs ≠ []) : (∀ y ∈ xs, minL xs ≤ y) ∧ minL xs ∈ xs := by
  cases xs with
  | nil => exact absurd rfl h
  | cons x r =>
    obtain ⟨h1, h2, h3⟩ := least_le r x
    refine ⟨fun y hy => ?_, ?_⟩
    · rcases List.mem_cons.mp hy with q | q
      · subst q; exact h1
      · exact h2 y q
    · show least x r ∈ _
      rcases h3 with q | q
      · rw [q]; exact List.mem_cons_self ..
      · exact List.mem_cons_of_mem _ q
/-- the pose by the table -/
def poseT (n : Nat) (fl : Int) (D : Tb) (zs : List (Int × Int)) : List Int := (List.range n).map fun (j : Nat) => minL (some_ D zs j ++ [fl])
theorem gt_map {n : Nat} {f : Nat → Int} {i : Int} (hi : 0 ≤ i) (hl : i < n) : gt ((List.range n).map f) i = f i.toNat := by
  unfold gt
  rw [List.getD_eq_getElem?_getD, List.getElem?_map, List.getElem?_range (by omega)]
  rfl
theorem poseT_great {fl : Int} {zs : List (Int × Int)} (hl : Lim n ls) (ho : Once ls) (hz : Ties n zs) : Great n fl ls zs (poseT n fl (dist n ls) zs) := by
  have at_ : ∀ i : Int, 0 ≤ i → i < n → gt (poseT n fl (dist n ls) zs) i = minL (some_ (dist n ls) zs i ++ [fl]) := fun i hi hil => by
    unfold poseT
    rw [gt_map hi hil]
    have e : ((i.toNat : Nat) : Int) = i := by omega
    rw [e]
  have spec : ∀ i : Int, (∀ y ∈ some_ (dist n ls) zs i ++ [fl], minL (some_ (dist n ls) zs i ++ [fl]) ≤ y) ∧ minL (some_ (dist n ls) zs i ++ [fl]) ∈ some_ (dist n ls) zs i ++ [fl] := fun i => minL_spec (by simp)
  have mem : ∀ {i x : Int} {z : Int × Int}, z ∈ zs → dist n ls z.1 i = some x → z.2 + x ∈ some_ (dist n ls) zs i ++ [fl] := fun {i x z} hz' e => by
    refine List.mem_append_left _ ?_
    unfold some_
    rw [List.mem_filterMap]
    exact ⟨z, hz', by rw [e]; rfl⟩
  have back : ∀ {i y : Int}, y ∈ some_ (dist n ls) zs i ++ [fl] → y = fl ∨ ∃ z ∈ zs, ∃ x, dist n ls z.1 i = some x ∧ y = z.2 + x := fun {i y} h => by
    rcases List.mem_append.mp h with q | q
    · unfold some_ at q
      rw [List.mem_filterMap] at q
      obtain ⟨z, hz', e⟩ := q
      cases e2 : dist n ls z.1 i with
      | none => rw [e2] at e; cases e
      | some x => rw [e2] at e; simp only [Option.map_some, Option.some.injEq] at e; exact .inr ⟨z, hz', x, e2, e.symm⟩
    · exact .inl (by simpa using q)
  have one : ∀ {a b w : Int}, 0 ≤ a → a < n → 0 ≤ b → b < n → Fl (dist n ls a b) w → 0 ≤ w → gt (poseT n fl (dist n ls) zs) b ≤ gt (poseT n fl (dist n ls) zs) a + w := fun {a b w} ha hal hb hbl e hw => by
    rw [at_ a ha hal, at_ b hb hbl]
    rcases back (spec a).2 with q | ⟨z, hz', x, q1, q2⟩
    · have := (spec b).1 fl (List.mem_append_right _ (by simp))
      omega
    · obtain ⟨y, e1, e2⟩ := e
      obtain ⟨u, u1, u2⟩ := dist_tri hl ha hal q1 e1
      have := (spec b).1 _ (mem hz' u1)
      omega
  refine ⟨by unfold poseT; rw [List.length_map, List.length_range], ⟨fun i hi hil => ?_, fun z hz' => ?_, fun l hl' => ?_⟩, fun S hS i hi hil => ?_⟩
  · rw [at_ i hi hil]
    exact (spec i).1 fl (List.mem_append_right _ (by simp))
  · have g := hz z hz'
    rw [at_ z.1 g.1 g.2.1]
    have e := (dist_ok hl).self z.1 g.1 g.2.1
    have := (spec z.1).1 _ (mem hz' e)
    omega
  · obtain ⟨a, b, w⟩ := l
    have g := hl _ hl'
    simp only at g
    obtain ⟨e1, e2⟩ := dist_edge hl ho hl'
    have b0 : 0 ≤ b := by omega
    have a1 : a < n := by omega
    have w0 : 0 ≤ w := by omega
    exact ⟨one b0 g.2.2.1 g.1 a1 e2 w0, one g.1 a1 b0 g.2.2.1 e1 w0⟩
  · rw [at_ i hi hil]
    rcases back (spec i).2 with q | ⟨z, hz', x, q1, q2⟩
    · rw [q]; exact hS.floor i hi hil
    · have := dist_sound hl hS.edges _ _ _ q1
      have := hS.ties z hz'
      omega
theorem pose_eq {fl : Int} {zs : List (Int × Int)} (hl : Lim n ls) (ho : Once ls) (hz : Ties n zs) (hf : 0 ≤ fl) : poseT n fl (dist n ls) zs = poseR n fl ls zs := (poseT_great hl ho hz).uniq (poseR_great hl hz hf)
end
end PVN
end

section
set_option Elab.async false
set_option linter.all false
set_option maxRecDepth 100000
set_option maxHeartbeats 8000000
/-! PVM22: figures as numbers; the table of ways. -/
namespace PVL
open PySem (Str)
structure Fig where
  n : Nat
  ls : List L3
  ts : List Int
  fl : Int
def Fig.v (f : Fig) : PV := .tup [.int f.n, .tup (f.ls.map l3V), .tup (f.ts.map PV.int), .int f.fl]
structure Fig.Ok (f : Fig) : Prop where
  n1 : 1 ≤ f.n
  n8 : f.n ≤ 8
  l12 : f.ls.length ≤ 12
  lim : PVN.Lim f.n f.ls
  w9 : ∀ l ∈ f.ls, l.2.2 ≤ 9
  once : PVN.Once f.ls
  asc : f.ls.Pairwise fun l m => l.1 < m.1 ∨ (l.1 = m.1 ∧ l.2.1 < m.2.1)
  t1 : 1 ≤ f.ts.length
  t6 : f.ts.length ≤ 6
  tie : ∀ t ∈ f.ts, 0 ≤ t ∧ t < f.n
  f1 : 1 ≤ f.fl
  f30 : f.fl ≤ 30
  fit : fitsFigure f.v = true
theorem asc_pair {α : Type} {R : α → α → Prop} (tr : ∀ a b c, R a b → R b c → R a c) : ∀ {l : List α}, (∀ p ∈ l.zip (l.drop 1), R p.1 p.2) → l.Pairwise R
  | [], _ => List.Pairwise.nil
  | [x], _ => List.pairwise_singleton R x
  | x :: y :: l, h => by
    have ih := asc_pair tr (l := y :: l) fun p hp => h p (by
      show p ∈ (x, y) :: (y :: l).zip ((y :: l).drop 1)
      exact List.mem_cons_of_mem _ hp)
    have hxy : R x y := h (x, y) (List.mem_cons_self ..)
    refine List.pairwise_cons.mpr ⟨fun z hz => ?_, ih⟩
    rcases List.mem_cons.mp hz with e | hz
    · subst e; exact hxy
    · exact tr _ _ _ hxy ((List.pairwise_cons.mp ih).1 z hz)
theorem limbs_ints {j : Int} {xs : List PV} (h : xs.all (fitsLimb j) = true) : ∃ ls : List L3, xs = ls.map l3V ∧ ∀ l ∈ ls, 0 ≤ l.1 ∧ l.1 < l.2.1 ∧ l.2.1 ≤ j - 1 ∧ 1 ≤ l.2.2 ∧ l.2.2 ≤ 9 := by
  induction xs with
  | nil => exact ⟨[], rfl, fun _ h => by cases h⟩
  | cons x xs ih =>
    rw [List.all_cons, Bool.and_eq_true] at h
    obtain ⟨ls, rfl, h2⟩ := ih h.2
    obtain ⟨a, b, c, rfl, g1, g2, g3, g4, g5⟩ := limb_shape h.1
    refine ⟨(a, b, c) :: ls, rfl, fun l hl => ?_⟩
    rcases List.mem_cons.mp hl with e | e
    · rw [e]; exact ⟨g1, g2, g3, g4, g5⟩
    · exact h2 l e
theorem ints_of : ∀ {ts : List PV} {p : Int → Prop}, (∀ t ∈ ts, ∃ i, t = .int i ∧ p i) → ∃ ns : List Int, ts = ns.map PV.int ∧ ∀ i ∈ ns, p i
  | [], p, _ => ⟨[], rfl, fun _ h => by cases h⟩
  | t :: ts, p, h => by
    obtain ⟨i, rfl, hi⟩ := h t (List.mem_cons_self ..)
    obtain ⟨ns, rfl, hn⟩ := ints_of (ts := ts) (p := p) fun t ht => h t (List.mem_cons_of_mem _ ht)
    refine ⟨i :: ns, rfl, fun j hj => ?_⟩
    rcases List.mem_cons.mp hj with e | e
    · rw [e]; exact hi
    · exact hn j e
/-- what fits is a figure of numbers -/
theorem fig_of {v : PV} (h : fitsFigure v = true) : ∃ f : Fig, v = f.v ∧ f.Ok := by
  obtain ⟨j, ls, ts, fl, rfl, g1, g2, g3, g4, g5, g6, g7, g8, g9, g10⟩ := fig_parts h
  obtain ⟨ms, rfl, hm⟩ := limbs_ints g6
  obtain ⟨ns, rfl, hn⟩ := ints_of (p := fun i => 0 ≤ i ∧ i ≤ j - 1) g10
  have ej : ((j.toNat : Nat) : Int) = j := by omega
  have hasc : ms.Pairwise fun l m => l.1 < m.1 ∨ (l.1 = m.1 ∧ l.2.1 < m.2.1) := by
    refine asc_pair (fun a b c h1 h2 => by omega) fun p hp => ?_
    unfold ascP at g7
    rw [List.all_eq_true] at g7
    have hp' : (l3V p.1, l3V p.2) ∈ (ms.map l3V).zip ((ms.map l3V).drop 1) := by
      rw [← List.map_drop, List.zip_map]
      exact List.mem_map.mpr ⟨p, hp, rfl⟩
    have := g7 _ hp'
    obtain ⟨⟨a, b, w⟩, ⟨a2, b2, w2⟩⟩ := p
    simp [lt2, l3V, lexLt] at this
    simp only
    split at this
    · rename_i e; exact .inr ⟨e, (by simpa using this : ¬ b = b2 ∧ b < b2).2⟩
    · rename_i e; exact .inl (of_decide_eq_true (by simpa using this))
  refine ⟨⟨j.toNat, ms, ns, fl⟩, by unfold Fig.v; simp only; rw [ej], ?_⟩
  exact {
    n1 := by show 1 ≤ j.toNat; omega
    n8 := by show j.toNat ≤ 8; omega
    l12 := by simpa using g5
    lim := fun l hl => by have := hm l hl; simp only; omega
    w9 := fun l hl => (hm l hl).2.2.2.2
    once := hasc.imp fun {l m} e => by omega
    asc := hasc
    t1 := by simpa using g8
    t6 := by simpa using g9
    tie := fun t ht => by have := hn t ht; simp only; omega
    f1 := g3
    f30 := g4
    fit := by unfold Fig.v; simp only; rw [ej]; exact h }
theorem Fig.Ok.okv {f : Fig} (h : f.Ok) : okV f.v = true := okV_fig h.fit
/-! ### rows -/
def optV : Option Int → PV
  | none => .non
  | some i => .int i
def rowV (n : Nat) (D : PVN.Tb) (i : Int) : PV := .lst ((List.range n).map fun (j : Nat) => optV (D i j))
def rowsV (n : Nat) (D : PVN.Tb) : PV := .lst ((List.range n).map fun (i : Nat) => rowV n D i)
theorem rowsV_ext {n : Nat} {D E : PVN.Tb} (h : ∀ i j : Int, 0 ≤ i → i < n → 0 ≤ j → j < n → D i j = E i j) : rowsV n D = rowsV n E := by
  unfold rowsV rowV
  congr 1
  refine List.map_congr_left fun i hi => ?_
  have hi' := List.mem_range.mp hi
  congr 1
  refine List.map_congr_left fun j hj => ?_
  have hj' := List.mem_range.mp hj
  rw [h i j (by omega) (by omega) (by omega) (by omega)]
theorem atI_map {n : Nat} {g : Nat → PV} {i : Int} (h0 : 0 ≤ i) (h1 : i < n) : atI ((List.range n).map g) i = some (g i.toNat) := by
  unfold atI ixN
  rw [if_pos h0, List.length_map, List.length_range, if_pos h1, Option.bind_some, List.getElem?_map, List.getElem?_range (by omega)] <;> rfl
theorem item_rows {n : Nat} {D : PVN.Tb} {i : Int} (h0 : 0 ≤ i) (h1 : i < n) : item (rowsV n D) (.int i) = some (rowV n D i) := by
  show atI _ i = _
  rw [atI_map h0 h1]
  have e : ((i.toNat : Nat) : Int) = i := by omega
  rw [e]
theorem item_row {n : Nat} {D : PVN.Tb} {i j : Int} (h0 : 0 ≤ j) (h1 : j < n) : item (rowV n D i) (.int j) = some (optV (D i j)) := by
  show atI _ j = _
  rw [atI_map h0 h1]
  have e : ((j.toNat : Nat) : Int) = j := by omega
  rw [e]
def putT (D : PVN.Tb) (i j : Int) (o : Option Int) : PVN.Tb := fun a b => if a = i ∧ b = j then o else D a b
theorem set_map {α : Type} {n : Nat} {g : Nat → α} {k : Nat} {v : α} : ((List.range n).map g).set k v = (List.range n).map fun i => if i = k then v else g i := by
  refine List.ext_getElem (by simp) fun i h1 h2 => ?_
  rw [List.getElem_set]
  simp only [List.getElem_map, List.getElem_range]
  by_cases e : k = i
  · rw [if_pos e, if_pos e.symm]
  · rw [if_neg e, if_neg (fun z => e z.symm)]
theorem ixN_ok {n : Nat} {i : Int} (h0 : 0 ≤ i) (h1 : i < n) : ixN n i = some i.toNat := by
  unfold ixN
  rw [if_pos h0, if_pos h1]
theorem modP_rows {n : Nat} {D : PVN.Tb} {i j : Int} (o : Option Int) (h0 : 0 ≤ i) (h1 : i < n) (g0 : 0 ≤ j) (g1 : j < n) : modP (putV (optV o) (.int j)) [.int i] (rowsV n D) = some (rowsV n (putT D i j o)) := by
  have k1 : kidAt (.int i) ((List.range n).map fun (i : Nat) => rowV n D i) = some i.toNat := by
    unfold kidAt
    simp only [int?, Option.bind_some, List.length_map, List.length_range]
    exact ixN_ok h0 h1
  have e0 : ((List.range n).map fun (i : Nat) => rowV n D i)[i.toNat]? = some (rowV n D i.toNat) := by
    rw [List.getElem?_map, List.getElem?_range (by omega)] <;> rfl
  have e : ((i.toNat : Nat) : Int) = i := by omega
  have e2 : ((j.toNat : Nat) : Int) = j := by omega
  have p : putV (optV o) (.int j) (rowV n D i) = some (.lst (((List.range n).map fun (j : Nat) => optV (D i j)).set j.toNat (optV o))) := by
    unfold rowV
    simp only [putV, int?, Option.bind_some, List.length_map, List.length_range]
    rw [ixN_ok g0 g1] <;> rfl
  show ((kidAt (.int i) _).bind fun j' => (((List.range n).map fun (i : Nat) => rowV n D i)[j']?).bind fun y => (modP (putV (optV o) (.int j)) [] y).map fun z => PV.lst (((List.range n).map fun (i : Nat) => rowV n D i).set j' z)) = _
  rw [k1, Option.bind_some, e0, Option.bind_some, e]
  show (putV (optV o) (.int j) (rowV n D i)).map _ = _
  rw [p, Option.map_some, set_map, set_map]
  unfold rowsV
  congr 2
  refine List.map_congr_left fun a ha => ?_
  by_cases q : a = i.toNat
  · rw [if_pos q]
    unfold rowV
    congr 1
    refine List.map_congr_left fun b hb => ?_
    unfold putT
    by_cases q2 : b = j.toNat
    · rw [if_pos q2, if_pos ⟨by omega, by omega⟩]
    · rw [if_neg q2, if_neg (fun z => q2 (by omega))]
      rw [show ((a : Nat) : Int) = i by omega]
  · rw [if_neg q]
    unfold rowV
    congr 1
    refine List.map_congr_left fun b hb => ?_
    unfold putT
    rw [if_neg (fun z => q (by omega))]
theorem valid_rows {n : Nat} {D : PVN.Tb} {i : Int} (h0 : 0 ≤ i) (h1 : i < n) : validP [.int i] (rowsV n D) = true := by
  have k1 : kidAt (.int i) ((List.range n).map fun (i : Nat) => rowV n D i) = some i.toNat := by
    unfold kidAt
    simp only [int?, Option.bind_some, List.length_map, List.length_range]
    exact ixN_ok h0 h1
  have e0 : ((List.range n).map fun (i : Nat) => rowV n D i)[i.toNat]? = some (rowV n D i.toNat) := by
    rw [List.getElem?_map, List.getElem?_range (by omega)] <;> rfl
  show ((((kidAt (.int i) _).bind fun j => ((List.range n).map fun (i : Nat) => rowV n D i)[j]?).map (validP [])).getD false) = true
  rw [k1, Option.bind_some, e0] <;> rfl
end PVL
end

section
set_option Elab.async false
set_option linter.all false
set_option maxRecDepth 100000
set_option maxHeartbeats 8000000
/-! PVM23: the table of ways, walked. -/
namespace PVL
open PySem (Str)
theorem len_rng (lo : Int) (n : Nat) : (rng lo n).length = n := by unfold rng; simp
abbrev tbBody : List S := [.ife (.and (.is true .non (.ix (.ix (.var 2) (.var 3)) (.var 6))) (.is true .non (.ix (.ix (.var 2) (.var 6)) (.var 4)))) [.set 7 false (.op .add (.ix (.ix (.var 2) (.var 3)) (.var 6)) (.ix (.ix (.var 2) (.var 6)) (.var 4))), .put 2 [.var 3] (.var 4) (.ife (.is false .non (.ix (.ix (.var 2) (.var 3)) (.var 4))) (.var 7) (.b2 .min (.var 7) (.ix (.ix (.var 2) (.var 3)) (.var 4))))] []]
def f_table_of : Fn := ⟨"table_of", ["figure", "many", "rows", "one", "other", "length", "by", "far"], 1, false, none, 0, [
    .set 1 false (.ix (.var 0) (.con (.int 0))),
    .set 2 true (.comp [3] (.nm 3) .rng1 [.var 1] [] 1 (.comp [4] (.nm 4) .rng1 [.var 1] [] 0 (.ife (.cmp .eq (.var 3) (.var 4)) (.con (.int 0)) (.con .non)))),
    .for_ (.tup [.nm 3, .nm 4, .nm 5]) .seq [.ix (.var 0) (.con (.int 1))] [.put2 2 [.var 3] (.var 4) 2 [.var 4] (.var 3) (.var 5)],
    .for_ (.nm 6) .rng1 [.var 1] [.for_ (.nm 3) .rng1 [.var 1] [.for_ (.nm 4) .rng1 [.var 1] [.ife (.and (.is true .non (.ix (.ix (.var 2) (.var 3)) (.var 6))) (.is true .non (.ix (.ix (.var 2) (.var 6)) (.var 4)))) [.set 7 false (.op .add (.ix (.ix (.var 2) (.var 3)) (.var 6)) (.ix (.ix (.var 2) (.var 6)) (.var 4))), .put 2 [.var 3] (.var 4) (.ife (.is false .non (.ix (.ix (.var 2) (.var 3)) (.var 4))) (.var 7) (.b2 .min (.var 7) (.ix (.ix (.var 2) (.var 3)) (.var 4))))] []]]],
    .frz 2,
    .ret (.var 2)]⟩
/-- an entry of the table, read -/
theorem em_cell {call : CallF} {env : Env} {c : PV} {n d x i j : Nat} {D : PVN.Tb} {a b : Int} (hx : env[x]? = some (some ⟨d, rowsV n D⟩)) (hd : d ≤ 2) (hi : env[i]? = some (some ⟨0, .int a⟩)) (hj : env[j]? = some (some ⟨0, .int b⟩)) (a0 : 0 ≤ a) (a1 : a < n) (b0 : 0 ≤ b) (b1 : b < n) :
    em call (.ix (.ix (.var x) (.var i)) (.var j)) env c = .ok (0, optV (D a b)) c := by
  have e1 : downD d (rowsV n D) = d - 1 := rfl
  have e2 : ∀ k, downD k (rowV n D a) = k - 1 := fun _ => rfl
  have z : d - 1 - 1 = 0 := by omega
  simp [em, lo, Res.bind, Res.of, hx, hi, hj, item_rows a0 a1, item_row b0 b1, e1, e2, z]
theorem isS_opt (o : Option Int) : isS .non (optV o) = o.isNone := by cases o <;> rfl
def tbE (V : PV) (n : Nat) (D : PVN.Tb) (s3 s4 s5 s6 s7 : Option Slot) : Env := [some ⟨0, V⟩, some ⟨0, .int n⟩, some ⟨2, rowsV n D⟩, s3, s4, s5, s6, s7]
theorem tb_step (call : CallF) (fr : List Str) {n : Nat} (D : PVN.Tb) (V : PV) {m i j : Int} (m0 : 0 ≤ m) (m1 : m < n) (i0 : 0 ≤ i) (i1 : i < n) (j0 : 0 ≤ j) (j1 : j < n) (s5 s7 : Option Slot) (c : PV) :
    ∃ s7', evB call fr tbBody (tbE V n D (some ⟨0, .int i⟩) (some ⟨0, .int j⟩) s5 (some ⟨0, .int m⟩) s7) c = .nx (tbE V n (putT D i j (PVN.viaO (D i j) (D i m) (D m j))) (some ⟨0, .int i⟩) (some ⟨0, .int j⟩) s5 (some ⟨0, .int m⟩) s7') c := by
  have q1 : ∀ D s7, em call (.ix (.ix (.var 2) (.var 3)) (.var 6)) (tbE V n D (some ⟨0, .int i⟩) (some ⟨0, .int j⟩) s5 (some ⟨0, .int m⟩) s7) c = .ok (0, optV (D i m)) c := fun D s7 => em_cell rfl (by omega) rfl rfl i0 i1 m0 m1
  have q2 : ∀ D s7, em call (.ix (.ix (.var 2) (.var 6)) (.var 4)) (tbE V n D (some ⟨0, .int i⟩) (some ⟨0, .int j⟩) s5 (some ⟨0, .int m⟩) s7) c = .ok (0, optV (D m j)) c := fun D s7 => em_cell rfl (by omega) rfl rfl m0 m1 j0 j1
  have q3 : ∀ D s7, em call (.ix (.ix (.var 2) (.var 3)) (.var 4)) (tbE V n D (some ⟨0, .int i⟩) (some ⟨0, .int j⟩) s5 (some ⟨0, .int m⟩) s7) c = .ok (0, optV (D i j)) c := fun D s7 => em_cell rfl (by omega) rfl rfl i0 i1 j0 j1
  have same : rowsV n (putT D i j (D i j)) = rowsV n D := rowsV_ext fun a b _ _ _ _ => by
    unfold putT
    split
    · rename_i h; rw [h.1, h.2]
    · rfl
  unfold tbE at q1 q2 q3 ⊢
  cases h1 : D i m with
  | none =>
    rw [show PVN.viaO (D i j) none (D m j) = D i j by unfold PVN.viaO; rfl, same]
    refine ⟨s7, ?_⟩
    simp [evB, evS, em, lo, hi, tst, truth, Res.of, Res.bind, Res.out, Out.bind, ↓q1, h1, optV, isS]
  | some x =>
    cases h2 : D m j with
    | none =>
      rw [show PVN.viaO (D i j) (some x) none = D i j by unfold PVN.viaO; rfl, same]
      refine ⟨s7, ?_⟩
      simp [evB, evS, em, lo, hi, tst, truth, Res.of, Res.bind, Res.out, Out.bind, ↓q1, ↓q2, h1, h2, optV, isS]
    | some y =>
      refine ⟨some ⟨0, .int (x + y)⟩, ?_⟩
      cases h3 : D i j with
      | none =>
        have p := modP_rows (D := D) (some (x + y)) i0 i1 j0 j1
        have v := valid_rows (D := D) i0 i1
        have e : PVN.viaO none (some x) (some y) = some (x + y) := rfl
        rw [e]
        have p' : modP (putV (.int (x + y)) (.int j)) [.int i] (rowsV n D) = some (rowsV n (putT D i j (some (x + y)))) := p
        simp [evB, evS, ev, em, evs, lo, hi, tst, truth, Res.of, Res.bind, Res.out, Out.bind, okR, okP, modS, op2, ↓q1, ↓q2, ↓q3, h1, h2, h3, optV, isS, v, p']
      | some z =>
        have p := modP_rows (D := D) (some (if z < x + y then z else x + y)) i0 i1 j0 j1
        have v := valid_rows (D := D) i0 i1
        have e : PVN.viaO (some z) (some x) (some y) = some (if z < x + y then z else x + y) := rfl
        rw [e]
        have p' : modP (putV (.int (if z < x + y then z else x + y)) (.int j)) [.int i] (rowsV n D) = some (rowsV n (putT D i j (some (if z < x + y then z else x + y)))) := p
        simp [evB, evS, ev, em, evs, lo, hi, tst, truth, Res.of, Res.bind, Res.out, Out.bind, okR, okP, modS, op2, b2, ↓q1, ↓q2, ↓q3, h1, h2, h3, optV, isS, v, p']
/-- the table in the middle of a round -/
def mixT (D : PVN.Tb) (m : Int) (i j : Int) : PVN.Tb := fun a b => if a < i ∨ (a = i ∧ b < j) then PVN.via D m a b else D a b
theorem via_row {n : Nat} {D : PVN.Tb} (h : PVN.Ok n D) {m : Int} (m0 : 0 ≤ m) (m1 : m < n) (j : Int) : PVN.via D m m j = D m j := by
  unfold PVN.via PVN.viaO
  rw [h.self m m0 m1]
  cases e : D m j with
  | none => rfl
  | some z => simp
theorem via_col {n : Nat} {D : PVN.Tb} (h : PVN.Ok n D) {m : Int} (m0 : 0 ≤ m) (m1 : m < n) (i : Int) : PVN.via D m i m = D i m := by
  unfold PVN.via PVN.viaO
  rw [h.self m m0 m1]
  cases e : D i m with
  | none => rfl
  | some z => simp
theorem mix_next {n : Nat} {D : PVN.Tb} (h : PVN.Ok n D) {m : Int} (m0 : 0 ≤ m) (m1 : m < n) {i j : Int} : rowsV n (putT (mixT D m i j) i j (PVN.viaO (mixT D m i j i j) (mixT D m i j i m) (mixT D m i j m j))) = rowsV n (mixT D m i (j + 1)) := by
  have e1 : mixT D m i j i j = D i j := by unfold mixT; rw [if_neg (by omega)]
  have e2 : mixT D m i j i m = D i m := by
    unfold mixT
    split
    · exact via_col h m0 m1 i
    · rfl
  have e3 : mixT D m i j m j = D m j := by
    unfold mixT
    split
    · exact via_row h m0 m1 j
    · rfl
  rw [e1, e2, e3]
  refine rowsV_ext fun a b _ _ _ _ => ?_
  unfold putT mixT
  by_cases q : a = i ∧ b = j
  · rw [if_pos q, if_pos (by omega), q.1, q.2] <;> rfl
  · rw [if_neg q]
    by_cases p : a < i ∨ a = i ∧ b < j
    · rw [if_pos p, if_pos (by omega)]
    · rw [if_neg p, if_neg (by omega)]
theorem tb_row (call : CallF) (fr : List Str) {n : Nat} (D : PVN.Tb) (hk : PVN.Ok n D) (V : PV) {m i : Int} (m0 : 0 ≤ m) (m1 : m < n) (i0 : 0 ≤ i) (i1 : i < n) (s4 s5 s7 : Option Slot) (c : PV) :
    ∃ s4' s7', forL (.nm 4) (fun env c => evB call fr tbBody env c) (rng 0 n) (tbE V n (mixT D m i 0) (some ⟨0, .int i⟩) s4 s5 (some ⟨0, .int m⟩) s7) c = .nx (tbE V n (mixT D m (i + 1) 0) (some ⟨0, .int i⟩) s4' s5 (some ⟨0, .int m⟩) s7') c := by
  obtain ⟨env', c', e, rfl, s4', s7', rfl⟩ := forL_inv (tg := .nm 4) (f := fun env c => evB call fr tbBody env c) (I := fun k env c' => c' = c ∧ ∃ s4 s7, env = tbE V n (mixT D m i k) (some ⟨0, .int i⟩) s4 s5 (some ⟨0, .int m⟩) s7) (rng 0 n) 0 (tbE V n (mixT D m i 0) (some ⟨0, .int i⟩) s4 s5 (some ⟨0, .int m⟩) s7) c (by
    intro k x env c' hx ⟨ec, s4, s7, he⟩
    subst ec he
    obtain ⟨hk', rfl⟩ := rng_get hx
    obtain ⟨s7', q⟩ := tb_step call fr (mixT D m i ((0 + k : Nat) : Int)) V m0 m1 i0 i1 (j := 0 + (k : Int)) (by omega) (by omega) s5 s7 c'
    refine ⟨_, _, c', rfl, q, rfl, some ⟨0, .int (0 + (k : Int))⟩, s7', ?_⟩
    have e0 : (((0 + k : Nat) : Nat) : Int) = 0 + (k : Int) := by omega
    have e1 : (((0 + k + 1 : Nat) : Nat) : Int) = 0 + (k : Int) + 1 := by omega
    unfold tbE
    rw [e0, e1, mix_next hk m0 m1]) ⟨rfl, s4, s7, rfl⟩
  rw [len_rng] at e
  refine ⟨s4', s7', ?_⟩
  have er : rowsV n (mixT D m i ((0 + n : Nat) : Int)) = rowsV n (mixT D m (i + 1) 0) := rowsV_ext fun a b _ _ b0 b1 => by
    unfold mixT
    by_cases p : a < i + 1 ∨ a = i + 1 ∧ b < 0
    · rw [if_pos p, if_pos (by omega)]
    · rw [if_neg p, if_neg (by omega)]
  rw [e]
  unfold tbE
  rw [er]
abbrev tbOne : List S := [.for_ (.nm 4) .rng1 [.var 1] tbBody]
theorem tb_one (call : CallF) (fr : List Str) {n : Nat} (hn : n ≤ 1000) (D : PVN.Tb) (hk : PVN.Ok n D) (V : PV) {m : Int} (m0 : 0 ≤ m) (m1 : m < n) (s3 s4 s5 s7 : Option Slot) (c : PV) :
    ∃ s3' s4' s7', forL (.nm 3) (fun env c => evB call fr tbOne env c) (rng 0 n) (tbE V n D s3 s4 s5 (some ⟨0, .int m⟩) s7) c = .nx (tbE V n (PVN.via D m) s3' s4' s5 (some ⟨0, .int m⟩) s7') c := by
  have st : rowsV n (mixT D m ((0 : Nat) : Int) 0) = rowsV n D := rowsV_ext fun a b a0 _ b0 _ => by unfold mixT; rw [if_neg (by omega)]
  have fi : rowsV n (mixT D m ((0 + n : Nat) : Int) 0) = rowsV n (PVN.via D m) := rowsV_ext fun a b _ _ _ _ => by unfold mixT; rw [if_pos (by omega)]
  obtain ⟨env', c', e, rfl, s3', s4', s7', rfl⟩ := forL_inv (tg := .nm 3) (f := fun env c => evB call fr tbOne env c) (I := fun k env c' => c' = c ∧ ∃ s3 s4 s7, env = tbE V n (mixT D m k 0) s3 s4 s5 (some ⟨0, .int m⟩) s7) (rng 0 n) 0 (tbE V n D s3 s4 s5 (some ⟨0, .int m⟩) s7) c (by
    intro k x env c' hx ⟨ec, s3, s4, s7, he⟩
    subst ec he
    obtain ⟨hk', rfl⟩ := rng_get hx
    obtain ⟨s4', s7', q⟩ := tb_row call fr D hk V m0 m1 (i := 0 + (k : Int)) (by omega) (by omega) s4 s5 s7 c'
    have e0 : (((0 + k : Nat) : Nat) : Int) = 0 + (k : Int) := by omega
    have e1 : (((0 + k + 1 : Nat) : Nat) : Int) = 0 + (k : Int) + 1 := by omega
    refine ⟨_, _, c', rfl, ?_, rfl, some ⟨0, .int (0 + (k : Int))⟩, s4', s7', by rw [e1]⟩
    show evB call fr tbOne (tbE V n (mixT D m ((0 + k : Nat) : Int) 0) (some ⟨0, .int (0 + (k : Int))⟩) s4 s5 (some ⟨0, .int m⟩) s7) c' = _
    rw [e0, evB_cons, st_for (vs := [.int n]) (xs := rng 0 n) rfl (items1 (by omega) (by omega)), q, obind_nx]
    rfl) ⟨rfl, s3, s4, s7, by unfold tbE; rw [st]⟩
  rw [len_rng] at e
  exact ⟨s3', s4', s7', by rw [e]; unfold tbE; rw [fi]⟩
abbrev tbBy : List S := [.for_ (.nm 3) .rng1 [.var 1] tbOne]
theorem tb_by (call : CallF) (fr : List Str) {n : Nat} (hn : n ≤ 1000) (D : PVN.Tb) (hk : PVN.Ok n D) (V : PV) (s3 s4 s5 s6 s7 : Option Slot) (c : PV) :
    ∃ s3' s4' s6' s7', forL (.nm 6) (fun env c => evB call fr tbBy env c) (rng 0 n) (tbE V n D s3 s4 s5 s6 s7) c = .nx (tbE V n (PVN.viaN D n) s3' s4' s5 s6' s7') c := by
  obtain ⟨env', c', e, rfl, s3', s4', s6', s7', rfl⟩ := forL_inv (tg := .nm 6) (f := fun env c => evB call fr tbBy env c) (I := fun k env c' => c' = c ∧ ∃ s3 s4 s6 s7, env = tbE V n (PVN.viaN D k) s3 s4 s5 s6 s7) (rng 0 n) 0 (tbE V n D s3 s4 s5 s6 s7) c (by
    intro k x env c' hx ⟨ec, s3, s4, s6, s7, he⟩
    subst ec he
    obtain ⟨hk', rfl⟩ := rng_get hx
    obtain ⟨s3', s4', s7', q⟩ := tb_one call fr hn (PVN.viaN D (0 + k)) (PVN.viaN_ok hk _) V (m := 0 + (k : Int)) (by omega) (by omega) s3 s4 s5 s7 c'
    refine ⟨_, _, c', rfl, ?_, rfl, s3', s4', some ⟨0, .int (0 + (k : Int))⟩, s7', rfl⟩
    show evB call fr tbBy (tbE V n (PVN.viaN D (0 + k)) s3 s4 s5 (some ⟨0, .int (0 + (k : Int))⟩) s7) c' = _
    rw [evB_cons, st_for (vs := [.int n]) (xs := rng 0 n) rfl (items1 (by omega) (by omega)), q, obind_nx]
    have e0 : (((0 + k : Nat) : Nat) : Int) = 0 + (k : Int) := by omega
    show Out.nx (tbE V n (PVN.via (PVN.viaN D (0 + k)) (0 + (k : Int))) _ _ _ _ _) c' = Out.nx (tbE V n (PVN.via (PVN.viaN D (0 + k)) ((0 + k : Nat) : Int)) _ _ _ _ _) c'
    rw [e0]) ⟨rfl, s3, s4, s6, s7, rfl⟩
  rw [len_rng] at e
  refine ⟨s3', s4', s6', s7', ?_⟩
  rw [e, Nat.zero_add]
/-- the limbs stored -/
abbrev tbLim : List S := [.put2 2 [.var 3] (.var 4) 2 [.var 4] (.var 3) (.var 5)]
theorem tb_lim (call : CallF) (fr : List Str) {n : Nat} (V : PV) (s6 s7 : Option Slot) (c : PV) : ∀ (ls : List L3) (D : PVN.Tb) (s3 s4 s5 : Option Slot), PVN.Lim n ls →
    ∃ s3' s4' s5', forL (.tup [.nm 3, .nm 4, .nm 5]) (fun env c => evB call fr tbLim env c) (ls.map l3V) (tbE V n D s3 s4 s5 s6 s7) c = .nx (tbE V n (PVN.baseF D ls) s3' s4' s5' s6 s7) c
  | [], D, s3, s4, s5, h => ⟨s3, s4, s5, rfl⟩
  | (a, b, w) :: ls, D, s3, s4, s5, h => by
    obtain ⟨g0, g1, g2, g3⟩ := h _ (List.mem_cons_self ..)
    simp only at g0 g1 g2 g3
    obtain ⟨s3', s4', s5', q⟩ := tb_lim call fr V s6 s7 c ls (fun i j => if (i = a ∧ j = b) ∨ (i = b ∧ j = a) then some w else D i j) (some ⟨0, .int a⟩) (some ⟨0, .int b⟩) (some ⟨0, .int w⟩) (fun l hl => h l (List.mem_cons_of_mem _ hl))
    refine ⟨s3', s4', s5', ?_⟩
    have p1 : modP (putV (.int w) (.int b)) [.int a] (rowsV n D) = some (rowsV n (putT D a b (some w))) := modP_rows (some w) g0 (by omega) (by omega) g2
    have p2 : modP (putV (.int w) (.int a)) [.int b] (rowsV n (putT D a b (some w))) = some (rowsV n (putT (putT D a b (some w)) b a (some w))) := modP_rows (some w) (by omega) g2 g0 (by omega)
    have v1 := valid_rows (D := D) (i := a) g0 (by omega : a < n)
    have v2 := valid_rows (D := putT D a b (some w)) (i := b) (by omega) g2
    have er : rowsV n (putT (putT D a b (some w)) b a (some w)) = rowsV n (fun i j => if (i = a ∧ j = b) ∨ (i = b ∧ j = a) then some w else D i j) := rowsV_ext fun i j _ _ _ _ => by
      unfold putT
      by_cases z : i = b ∧ j = a
      · rw [if_pos z, if_pos (.inr z)]
      · rw [if_neg z]
        by_cases y : i = a ∧ j = b
        · rw [if_pos y, if_pos (.inl y)]
        · rw [if_neg y, if_neg (by rintro (h | h); exact y h; exact z h)]
    have st : evB call fr tbLim (tbE V n D (some ⟨0, .int a⟩) (some ⟨0, .int b⟩) (some ⟨0, .int w⟩) s6 s7) c = .nx (tbE V n (fun i j => if (i = a ∧ j = b) ∨ (i = b ∧ j = a) then some w else D i j) (some ⟨0, .int a⟩) (some ⟨0, .int b⟩) (some ⟨0, .int w⟩) s6 s7) c := by
      unfold tbE
      rw [← er]
      simp [evB, evS, ev, em, evs, lo, hi, Res.of, Res.bind, Res.out, Out.bind, okR, okP, modS, v1, v2, p1, p2]
    show (match (Tg.tup [.nm 3, .nm 4, .nm 5]).put (l3V (a, b, w)) (tbE V n D s3 s4 s5 s6 s7) with
      | none => Out.stuck
      | some env1 => (evB call fr tbLim env1 c).bind fun env c => forL _ _ _ env c) = _
    have pu : (Tg.tup [.nm 3, .nm 4, .nm 5]).put (l3V (a, b, w)) (tbE V n D s3 s4 s5 s6 s7) = some (tbE V n D (some ⟨0, .int a⟩) (some ⟨0, .int b⟩) (some ⟨0, .int w⟩) s6 s7) := rfl
    rw [pu]
    simp only []
    rw [st, obind_nx]
    exact q
/-- the table of a figure -/
def Fig.tab (f : Fig) : PVN.Tb := PVN.dist f.n f.ls
theorem table_ok {P : Prog} (h : P.fn "table_of" = some f_table_of) (k : Nat) {f : Fig} (hf : f.Ok) : callF P (k + 1) "table_of" [f.v] .non = .ok (rowsV f.n f.tab) .non := by
  rw [callF_at h]
  have n8 := hf.n8
  obtain ⟨V, hV⟩ : ∃ V, V = f.v := ⟨_, rfl⟩
  have s0 : evS (callF P k) P.fr (.set 1 false (.ix (.var 0) (.con (.int 0)))) [some ⟨0, f.v⟩, none, none, none, none, none, none, none] .non = .nx [some ⟨0, V⟩, some ⟨0, .int f.n⟩, none, none, none, none, none, none] .non := by rw [hV] <;> rfl
  have a1 : em (callF P k) (.comp [3] (.nm 3) .rng1 [.var 1] [] 1 (.comp [4] (.nm 4) .rng1 [.var 1] [] 0 (.ife (.cmp .eq (.var 3) (.var 4)) (.con (.int 0)) (.con .non)))) [some ⟨0, V⟩, some ⟨0, .int f.n⟩, none, none, none, none, none, none] .non = .ok (0, rowsV f.n (fun i j => if i = j then some 0 else none)) .non := by
    have q := comp_map (call := callF P k) (own := [3]) (tg := .nm 3) (k := .rng1) (srcs := [.var 1]) (d := 1) (elt := .comp [4] (.nm 4) .rng1 [.var 1] [] 0 (.ife (.cmp .eq (.var 3) (.var 4)) (.con (.int 0)) (.con .non))) (env := [some ⟨0, V⟩, some ⟨0, .int f.n⟩, none, none, none, none, none, none]) (c := .non) (ss := [.int f.n]) (xs := rng 0 f.n)
      (fun x => match x with | .int i => rowV f.n (fun i j => if i = j then some 0 else none) i | _ => .non) rfl (items1 (by omega) (by omega)) (fun x hx => by
        obtain ⟨i, hi', rfl⟩ := rng_mem hx
        refine ⟨_, rfl, ?_⟩
        have q2 := comp_map (call := callF P k) (own := [4]) (tg := .nm 4) (k := .rng1) (srcs := [.var 1]) (d := 0) (elt := .ife (.cmp .eq (.var 3) (.var 4)) (.con (.int 0)) (.con .non)) (env := [some ⟨0, V⟩, some ⟨0, .int f.n⟩, none, some ⟨0, .int (0 + (i : Int))⟩, none, none, none, none]) (c := .non) (ss := [.int f.n]) (xs := rng 0 f.n)
          (fun x => match x with | .int j => optV (if 0 + (i : Int) = j then some 0 else none) | _ => .non) rfl (items1 (by omega) (by omega)) (fun x hx => by
            obtain ⟨j, hj', rfl⟩ := rng_mem hx
            refine ⟨_, rfl, ?_⟩
            by_cases e : (i : Int) = j
            · simp [ev, em, lo, hi, wipe, cmp, tst, truth, Res.of, Res.bind, isData, eqv, optV, e]
            · simp [ev, em, lo, hi, wipe, cmp, tst, truth, Res.of, Res.bind, isData, eqv, optV, e])
        refine (ev_of q2).trans ?_
        simp only [Int.zero_add]
        unfold rowV rng
        rw [List.map_map]
        congr 2
        refine List.map_congr_left fun j _ => ?_
        simp)
    rw [q]
    unfold rowsV rng
    rw [List.map_map]
    congr 4
    funext j
    simp
  have s1 : evS (callF P k) P.fr (.set 2 true (.comp [3] (.nm 3) .rng1 [.var 1] [] 1 (.comp [4] (.nm 4) .rng1 [.var 1] [] 0 (.ife (.cmp .eq (.var 3) (.var 4)) (.con (.int 0)) (.con .non))))) [some ⟨0, V⟩, some ⟨0, .int f.n⟩, none, none, none, none, none, none] .non = .nx (tbE V f.n (fun i j => if i = j then some 0 else none) none none none none none) .non := by
    rw [st_own a1] <;> rfl
  obtain ⟨t3, t4, t5, l1⟩ := tb_lim (callF P k) P.fr V none none .non f.ls (fun i j => if i = j then some 0 else none) none none none hf.lim
  have s2 : evS (callF P k) P.fr (.for_ (.tup [.nm 3, .nm 4, .nm 5]) .seq [.ix (.var 0) (.con (.int 1))] tbLim) (tbE V f.n (fun i j => if i = j then some 0 else none) none none none none none) .non = .nx (tbE V f.n (PVN.base f.ls) t3 t4 t5 none none) .non := by
    rw [st_for (vs := [.tup (f.ls.map l3V)]) (xs := f.ls.map l3V) (by rw [hV] <;> rfl) rfl]
    exact l1
  obtain ⟨u3, u4, u6, u7, l2⟩ := tb_by (callF P k) P.fr (by omega) (PVN.base f.ls) (PVN.base_ok hf.lim) V t3 t4 t5 none none .non
  have s3 : evS (callF P k) P.fr (.for_ (.nm 6) .rng1 [.var 1] tbBy) (tbE V f.n (PVN.base f.ls) t3 t4 t5 none none) .non = .nx (tbE V f.n f.tab u3 u4 t5 u6 u7) .non := by
    rw [st_for (vs := [.int f.n]) (xs := rng 0 f.n) rfl (items1 (by omega) (by omega))]
    exact l2
  unfold Fn.run
  rw [if_pos ⟨rfl, rfl⟩]
  show (match evB (callF P k) P.fr [_, _, _, _, .frz 2, .ret (.var 2)] [some ⟨0, f.v⟩, none, none, none, none, none, none, none] .non with
    | .nx _ c => _
    | .ret v c => _
    | .exc e c => _
    | .stuck => _) = _
  rw [evB_cons, s0, obind_nx, evB_cons, s1, obind_nx, evB_cons, s2, obind_nx, evB_cons, s3, obind_nx]
  rfl
end PVL
end

section
set_option Elab.async false
set_option linter.all false
set_option maxRecDepth 100000
set_option maxHeartbeats 8000000
/-! PVM24: poses. -/
namespace PVL
open PySem (Str)
def intsV (ds : List Int) : PV := .tup (ds.map PV.int)
theorem item_ints {ds : List Int} {i : Int} (h0 : 0 ≤ i) (h1 : i < ds.length) : atI (ds.map PV.int) i = some (.int (PVN.gt ds i)) := by
  unfold atI ixN
  rw [if_pos h0, List.length_map, if_pos h1, Option.bind_some, List.getElem?_map]
  unfold PVN.gt
  rw [List.getD_eq_getElem?_getD]
  rw [List.getElem?_eq_getElem (by omega)] <;> rfl
theorem ints_map (ds : List Int) : ints? (ds.map PV.int) = some ds := by
  induction ds with
  | nil => rfl
  | cons x xs ih => rw [List.map_cons]; show (ints? _).map (x :: ·) = _; rw [ih] <;> rfl
theorem minI_minL {x : Int} {xs : List Int} : minI (x :: xs) = some (PVN.minL (x :: xs)) := rfl
/-! ### pose_by -/
def f_pose_by : Fn := ⟨"pose_by", ["figure", "setting", "rows", "found", "joint", "some", "tie", "length"], 3, false, none, 0, [
    .set 3 true (.lst 0 []),
    .for_ (.nm 4) .rng1 [.ix (.var 0) (.con (.int 0))] [.set 5 false (.comp [6, 7] (.tup [.nm 6, .nm 7]) .zip [.ix (.var 0) (.con (.int 2)), .var 1] [.is true .non (.ix (.ix (.var 2) (.var 6)) (.var 4))] 0 (.op .add (.var 7) (.ix (.ix (.var 2) (.var 6)) (.var 4)))), .app 3 [] (.b1 .min (.op .add (.var 5) (.lst 0 [.ix (.var 0) (.con (.int 3))])))],
    .ret (.b1 .tuple (.var 3))]⟩
abbrev pbBody : List S := [.set 5 false (.comp [6, 7] (.tup [.nm 6, .nm 7]) .zip [.ix (.var 0) (.con (.int 2)), .var 1] [.is true .non (.ix (.ix (.var 2) (.var 6)) (.var 4))] 0 (.op .add (.var 7) (.ix (.ix (.var 2) (.var 6)) (.var 4)))), .app 3 [] (.b1 .min (.op .add (.var 5) (.lst 0 [.ix (.var 0) (.con (.int 3))])))]
/-- strings and their lengths -/
def Fig.zs (f : Fig) (ss : List Int) : List (Int × Int) := f.ts.zip ss
theorem zip_ints (ts ss : List Int) : ((ts.map PV.int).zip (ss.map PV.int)).map (fun p => PV.tup [p.1, p.2]) = (ts.zip ss).map prV := by
  rw [List.zip_map, List.map_map] <;> rfl
theorem pb_some (D : PVN.Tb) (j : Int) : ∀ zs : List (Int × Int), ((zs.map prV).filter (fun x => match x with | .tup [.int t, _] => (D t j).isSome | _ => false)).map (fun x => match x with | .tup [.int t, .int l] => PV.int (l + (D t j).getD 0) | _ => .non) = (PVN.some_ D zs j).map PV.int
  | [] => rfl
  | (t, l) :: zs => by
    have ih := pb_some D j zs
    unfold PVN.some_ at ih ⊢
    rw [List.map_cons, List.filter_cons, List.filterMap_cons]
    cases e : D t j with
    | none =>
      simp only [prV, e, Option.isSome_none, Bool.false_eq_true, if_false, Option.map_none]
      exact ih
    | some x =>
      simp only [prV, e, Option.isSome_some, if_true, Option.map_some, List.map_cons, Option.getD_some]
      rw [ih]
theorem some_len (D : PVN.Tb) (j : Int) (zs : List (Int × Int)) : (PVN.some_ D zs j).length ≤ zs.length := by
  unfold PVN.some_
  exact List.length_filterMap_le ..
theorem pose_by_ok {P : Prog} (h : P.fn "pose_by" = some f_pose_by) (k : Nat) {f : Fig} (hf : f.Ok) (ss : List Int) (D : PVN.Tb) : callF P (k + 1) "pose_by" [f.v, intsV ss, rowsV f.n D] .non = .ok (intsV (PVN.poseT f.n f.fl D (f.zs ss))) .non := by
  rw [callF_at h]
  have n8 := hf.n8
  have t6 := hf.t6
  have zl : (f.zs ss).length ≤ 6 := by unfold Fig.zs; rw [List.length_zip]; omega
  obtain ⟨ff, hff⟩ : ∃ ff : Nat → Int, ff = fun (j : Nat) => PVN.minL (PVN.some_ D (f.zs ss) j ++ [f.fl]) := ⟨_, rfl⟩
  obtain ⟨env', c', e, rfl, t4, t5, rfl⟩ := forL_inv (tg := .nm 4) (f := fun env c => evB (callF P k) P.fr pbBody env c) (I := fun i env c' => c' = PV.non ∧ ∃ t4 t5, env = [some ⟨0, f.v⟩, some ⟨0, intsV ss⟩, some ⟨0, rowsV f.n D⟩, some ⟨1, .lst ((List.range i).map fun j => .int (ff j))⟩, t4, t5, none, none]) (rng 0 f.n) 0 [some ⟨0, f.v⟩, some ⟨0, intsV ss⟩, some ⟨0, rowsV f.n D⟩, some ⟨1, .lst []⟩, none, none, none, none] .non (by
    intro i x env c' hx ⟨ec, t4, t5, he⟩
    subst ec he
    obtain ⟨hi', rfl⟩ := rng_get hx
    obtain ⟨env1, he1⟩ : ∃ env1 : Env, env1 = [some ⟨0, f.v⟩, some ⟨0, intsV ss⟩, some ⟨0, rowsV f.n D⟩, some ⟨1, .lst ((List.range (0 + i)).map fun j => .int (ff j))⟩, some ⟨0, .int (0 + (i : Int))⟩, t5, none, none] := ⟨_, rfl⟩
    have hsrc : evs (callF P k) 1 [.ix (.var 0) (.con (.int 2)), .var 1] env1 .non = .ok [.tup (f.ts.map PV.int), .tup (ss.map PV.int)] .non := by rw [he1] <;> rfl
    have hit : items .zip [.tup (f.ts.map PV.int), .tup (ss.map PV.int)] = some ((f.zs ss).map prV) := by
      show some _ = _
      rw [zip_ints] <;> rfl
    have q := comp_pure (call := callF P k) (own := [6, 7]) (tg := .tup [.nm 6, .nm 7]) (k := .zip) (srcs := [.ix (.var 0) (.con (.int 2)), .var 1]) (conds := [.is true .non (.ix (.ix (.var 2) (.var 6)) (.var 4))]) (d := 0) (elt := .op .add (.var 7) (.ix (.ix (.var 2) (.var 6)) (.var 4))) (env := env1) (c := .non)
      (fun x => match x with | .tup [.int t, _] => (D t (0 + (i : Int))).isSome | _ => false) (fun x => match x with | .tup [.int t, .int l] => PV.int (l + (D t (0 + (i : Int))).getD 0) | _ => .non) hsrc hit (fun x hx => by
        obtain ⟨⟨t, l⟩, hp, rfl⟩ := List.mem_map.mp hx
        have ht := hf.tie t (List.of_mem_zip hp).1
        obtain ⟨env2, he2⟩ : ∃ env2 : Env, env2 = [some ⟨0, f.v⟩, some ⟨0, intsV ss⟩, some ⟨0, rowsV f.n D⟩, some ⟨1, .lst ((List.range (0 + i)).map fun j => .int (ff j))⟩, some ⟨0, .int (0 + (i : Int))⟩, t5, some ⟨0, .int t⟩, some ⟨0, .int l⟩] := ⟨_, rfl⟩
        have c1 : em (callF P k) (.ix (.ix (.var 2) (.var 6)) (.var 4)) env2 .non = .ok (0, optV (D t (0 + (i : Int)))) .non := by
          rw [he2]
          exact em_cell rfl (by omega) rfl rfl ht.1 ht.2 (by omega) (by omega)
        have v7 : env2[7]? = some (some ⟨0, .int l⟩) := by rw [he2] <;> rfl
        refine ⟨env2, by rw [he1, he2] <;> rfl, ?_, fun hs => ?_⟩
        · simp only [prV]
          cases e : D t (0 + (i : Int)) with
          | none => rw [e] at c1; simp [evc, em, lo, hi, tst, truth, Res.bind, Res.of, ↓c1, optV, isS]
          | some y => rw [e] at c1; simp [evc, em, lo, hi, tst, truth, Res.bind, Res.of, ↓c1, optV, isS]
        · simp only [prV] at hs ⊢
          cases e : D t (0 + (i : Int)) with
          | none => rw [e] at hs; cases hs
          | some y => rw [e] at c1; simp [ev, em, lo, hi, Res.bind, Res.of, op2, ↓c1, optV, v7])
    rw [pb_some] at q
    obtain ⟨S, hS⟩ : ∃ S, S = PVN.some_ D (f.zs ss) (0 + (i : Int)) := ⟨_, rfl⟩
    rw [← hS] at q
    have sl : S.length ≤ 6 := by rw [hS]; exact Nat.le_trans (some_len ..) zl
    have s1 := st_set (fr := P.fr) (i := 5) q
    obtain ⟨env3, he3⟩ : ∃ env3 : Env, env3 = env1.set 5 (some ⟨0, .lst (S.map PV.int)⟩) := ⟨_, rfl⟩
    rw [← he3] at s1
    have he3' : env3 = [some ⟨0, f.v⟩, some ⟨0, intsV ss⟩, some ⟨0, rowsV f.n D⟩, some ⟨1, .lst ((List.range (0 + i)).map fun j => .int (ff j))⟩, some ⟨0, .int (0 + (i : Int))⟩, some ⟨0, .lst (S.map PV.int)⟩, none, none] := by rw [he3, he1] <;> rfl
    have mn : ∃ x, S ++ [f.fl] = x :: (S ++ [f.fl]).drop 1 := by
      cases S with
      | nil => exact ⟨_, rfl⟩
      | cons y ys => exact ⟨_, rfl⟩
    have b : em (callF P k) (.b1 .min (.op .add (.var 5) (.lst 0 [.ix (.var 0) (.con (.int 3))]))) env3 .non = .ok (0, .int (ff (0 + i))) .non := by
      have a0 := add_lst (call := callF P k) (env := env3) (c := .non) (a := .var 5) (b := .lst 0 [.ix (.var 0) (.con (.int 3))]) (xs := S.map PV.int) (ys := [.int f.fl]) (d1 := 0) (d2 := 0) (by rw [he3'] <;> rfl) (by omega) (by rw [he3'] <;> rfl) (by omega) (by rw [List.length_map]; simp; omega)
      refine em_b1 a0 (by omega) ?_
      have e1 : S.map PV.int ++ [PV.int f.fl] = (S ++ [f.fl]).map PV.int := by rw [List.map_append] <;> rfl
      show (ints? _).bind (fun ns => (minI ns).map PV.int) = _
      rw [e1, ints_map, Option.bind_some]
      obtain ⟨x, hx⟩ := mn
      rw [hx, minI_minL, ← hx, Option.map_some, hff, hS]
      have e2 : (((0 + i : Nat) : Nat) : Int) = 0 + (i : Int) := by omega
      simp only [e2]
    refine ⟨env1, [some ⟨0, f.v⟩, some ⟨0, intsV ss⟩, some ⟨0, rowsV f.n D⟩, some ⟨1, .lst ((List.range (0 + i + 1)).map fun j => .int (ff j))⟩, some ⟨0, .int (0 + (i : Int))⟩, some ⟨0, .lst (S.map PV.int)⟩, none, none], .non, by rw [he1] <;> rfl, ?_, rfl, _, _, rfl⟩
    rw [evB_cons, s1, obind_nx, evB_cons]
    have zz : i < SZ := by unfold SZ; omega
    have s2 : evS (callF P k) P.fr (.app 3 [] (.b1 .min (.op .add (.var 5) (.lst 0 [.ix (.var 0) (.con (.int 3))])))) env3 .non = .nx [some ⟨0, f.v⟩, some ⟨0, intsV ss⟩, some ⟨0, rowsV f.n D⟩, some ⟨1, .lst ((List.range (0 + i + 1)).map fun j => .int (ff j))⟩, some ⟨0, .int (0 + (i : Int))⟩, some ⟨0, .lst (S.map PV.int)⟩, none, none] .non := by
      rw [he3'] at b ⊢
      simp [evS, evs, ev, okA, okR, okP, validP, modS, modP, lstV, appV, Res.bind, Res.out, Out.of, List.range_succ, zz, ↓b]
    rw [s2] <;> rfl) ⟨rfl, none, none, rfl⟩
  rw [len_rng] at e
  unfold Fn.run
  rw [if_pos ⟨rfl, rfl⟩]
  show (match evB (callF P k) P.fr [_, .for_ (.nm 4) .rng1 [.ix (.var 0) (.con (.int 0))] pbBody, .ret (.b1 .tuple (.var 3))] [some ⟨0, f.v⟩, some ⟨0, intsV ss⟩, some ⟨0, rowsV f.n D⟩, none, none, none, none, none] .non with
    | .nx _ c => _
    | .ret v c => _
    | .exc e c => _
    | .stuck => _) = _
  rw [evB_cons]
  have s0 : evS (callF P k) P.fr (.set 3 true (.lst 0 [])) [some ⟨0, f.v⟩, some ⟨0, intsV ss⟩, some ⟨0, rowsV f.n D⟩, none, none, none, none, none] .non = .nx [some ⟨0, f.v⟩, some ⟨0, intsV ss⟩, some ⟨0, rowsV f.n D⟩, some ⟨1, .lst []⟩, none, none, none, none] .non := rfl
  rw [s0, obind_nx, evB_cons, st_for (vs := [.int f.n]) (xs := rng 0 f.n) rfl (items1 (by omega) (by omega)), e, obind_nx]
  show Res.ok (PV.tup ((List.range (0 + f.n)).map fun j => PV.int (ff j))) PV.non = _
  unfold intsV PVN.poseT
  rw [List.map_map, Nat.zero_add, hff] <;> rfl
end PVL
end

section
set_option Elab.async false
set_option linter.all false
set_option maxRecDepth 100000
set_option maxHeartbeats 8000000
/-! PVM25: the law's own pose, by rounds. -/
namespace PVL
open PySem (Str)
abbrev lpZ : List S := [.put 2 [] (.var 3) (.b2 .min (.ix (.var 2) (.var 3)) (.var 4))]
abbrev lpL : List S := [.tput 2 [] (.var 6) 2 [] (.var 7) (.tup [.b2 .min (.ix (.var 2) (.var 6)) (.op .add (.ix (.var 2) (.var 7)) (.var 4)), .b2 .min (.ix (.var 2) (.var 7)) (.op .add (.ix (.var 2) (.var 6)) (.var 4))])]
def f__law_pose : Fn := ⟨"_law_pose", ["figure", "setting", "depths", "tie", "length", "turn", "one", "other"], 2, false, none, 0, [
    .set 2 true (.op .mul (.lst 0 [.ix (.var 0) (.con (.int 3))]) (.ix (.var 0) (.con (.int 0)))),
    .for_ (.tup [.nm 3, .nm 4]) .zip [.ix (.var 0) (.con (.int 2)), .var 1] [.put 2 [] (.var 3) (.b2 .min (.ix (.var 2) (.var 3)) (.var 4))],
    .for_ (.nm 5) .rng1 [.ix (.var 0) (.con (.int 0))] [.for_ (.tup [.nm 6, .nm 7, .nm 4]) .seq [.ix (.var 0) (.con (.int 1))] [.tput 2 [] (.var 6) 2 [] (.var 7) (.tup [.b2 .min (.ix (.var 2) (.var 6)) (.op .add (.ix (.var 2) (.var 7)) (.var 4)), .b2 .min (.ix (.var 2) (.var 7)) (.op .add (.ix (.var 2) (.var 6)) (.var 4))])]],
    .ret (.b1 .tuple (.var 2))]⟩
def lpE (V W : PV) (d : List Int) (s3 s4 s5 s6 s7 : Option Slot) : Env := [some ⟨0, V⟩, some ⟨0, W⟩, some ⟨1, .lst (d.map PV.int)⟩, s3, s4, s5, s6, s7]
theorem min_if (i j : Int) : (if j < i then j else i) = min i j := by
  by_cases h : j < i
  · rw [if_pos h]; omega
  · rw [if_neg h]; omega
theorem item_lst {d : List Int} {i : Int} (h0 : 0 ≤ i) (h1 : i < d.length) : item (.lst (d.map PV.int)) (.int i) = some (.int (PVN.gt d i)) := item_ints h0 h1
theorem modP_lst {d : List Int} {i : Int} (v : Int) (h0 : 0 ≤ i) (h1 : i < d.length) : modP (putV (.int v) (.int i)) [] (.lst (d.map PV.int)) = some (.lst ((d.set i.toNat v).map PV.int)) := by
  show putV (.int v) (.int i) (.lst (d.map PV.int)) = _
  simp only [putV, int?, Option.bind_some, List.length_map]
  rw [ixN_ok h0 h1, Option.map_some, List.map_set]
theorem lp_ties (call : CallF) (fr : List Str) (V W : PV) (s5 s6 s7 : Option Slot) (c : PV) : ∀ (zs : List (Int × Int)) (d : List Int) (s3 s4 : Option Slot), (∀ z ∈ zs, 0 ≤ z.1 ∧ z.1 < d.length) →
    ∃ s3' s4', forL (.tup [.nm 3, .nm 4]) (fun env c => evB call fr lpZ env c) (zs.map prV) (lpE V W d s3 s4 s5 s6 s7) c = .nx (lpE V W (PVN.start d zs) s3' s4' s5 s6 s7) c
  | [], d, s3, s4, _ => ⟨s3, s4, rfl⟩
  | (t, l) :: zs, d, s3, s4, h => by
    have g := h _ (List.mem_cons_self ..)
    simp only at g
    obtain ⟨s3', s4', q⟩ := lp_ties call fr V W s5 s6 s7 c zs (d.set t.toNat (min (PVN.gt d t) l)) (some ⟨0, .int t⟩) (some ⟨0, .int l⟩) (fun z hz => by rw [List.length_set]; exact h z (List.mem_cons_of_mem _ hz))
    refine ⟨s3', s4', ?_⟩
    have p1 := modP_lst (d := d) (min (PVN.gt d t) l) g.1 g.2
    have i1 := item_lst (d := d) g.1 g.2
    have st : evB call fr lpZ (lpE V W d (some ⟨0, .int t⟩) (some ⟨0, .int l⟩) s5 s6 s7) c = .nx (lpE V W (d.set t.toNat (min (PVN.gt d t) l)) (some ⟨0, .int t⟩) (some ⟨0, .int l⟩) s5 s6 s7) c := by
      unfold lpE
      simp [evB, evS, ev, em, evs, lo, hi, Res.of, Res.bind, Res.out, Out.bind, okR, okP, validP, modS, downD, b2, min_if, i1, p1, -List.map_set]
    show (match (Tg.tup [.nm 3, .nm 4]).put (prV (t, l)) (lpE V W d s3 s4 s5 s6 s7) with
      | none => Out.stuck
      | some env1 => (evB call fr lpZ env1 c).bind fun env c => forL _ _ _ env c) = _
    have pu : (Tg.tup [.nm 3, .nm 4]).put (prV (t, l)) (lpE V W d s3 s4 s5 s6 s7) = some (lpE V W d (some ⟨0, .int t⟩) (some ⟨0, .int l⟩) s5 s6 s7) := rfl
    rw [pu]
    simp only []
    rw [st, obind_nx]
    exact q
theorem lp_limbs (call : CallF) (fr : List Str) (V W : PV) (s3 s5 : Option Slot) (c : PV) : ∀ (ls : List L3) (d : List Int) (s4 s6 s7 : Option Slot), PVN.Lim d.length ls →
    ∃ s4' s6' s7', forL (.tup [.nm 6, .nm 7, .nm 4]) (fun env c => evB call fr lpL env c) (ls.map l3V) (lpE V W d s3 s4 s5 s6 s7) c = .nx (lpE V W (PVN.round ls d) s3 s4' s5 s6' s7') c
  | [], d, s4, s6, s7, _ => ⟨s4, s6, s7, rfl⟩
  | (a, b, w) :: ls, d, s4, s6, s7, h => by
    obtain ⟨g0, g1, g2, g3⟩ := h _ (List.mem_cons_self ..)
    simp only at g0 g1 g2 g3
    have b0 : 0 ≤ b := by omega
    have a1 : a < d.length := by omega
    obtain ⟨s4', s6', s7', q⟩ := lp_limbs call fr V W s3 s5 c ls (PVN.relax d (a, b, w)) (some ⟨0, .int w⟩) (some ⟨0, .int a⟩) (some ⟨0, .int b⟩) (by rw [PVN.relax_len]; exact fun l hl => h l (List.mem_cons_of_mem _ hl))
    refine ⟨s4', s6', s7', ?_⟩
    have p1 := modP_lst (d := d) (min (PVN.gt d a) (PVN.gt d b + w)) g0 a1
    have p2 := modP_lst (d := d.set a.toNat (min (PVN.gt d a) (PVN.gt d b + w))) (min (PVN.gt d b) (PVN.gt d a + w)) b0 (by rw [List.length_set]; exact g2)
    have i1 := item_lst (d := d) g0 a1
    have i2 := item_lst (d := d) b0 g2
    have st : evB call fr lpL (lpE V W d s3 (some ⟨0, .int w⟩) s5 (some ⟨0, .int a⟩) (some ⟨0, .int b⟩)) c = .nx (lpE V W (PVN.relax d (a, b, w)) s3 (some ⟨0, .int w⟩) s5 (some ⟨0, .int a⟩) (some ⟨0, .int b⟩)) c := by
      unfold lpE PVN.relax
      simp [evB, evS, ev, em, evs, lo, hi, Res.of, Res.bind, Res.out, Out.bind, okR, okP, validP, modS, downD, b2, op2, min_if, i1, i2, p1, p2, -List.map_set]
    show (match (Tg.tup [.nm 6, .nm 7, .nm 4]).put (l3V (a, b, w)) (lpE V W d s3 s4 s5 s6 s7) with
      | none => Out.stuck
      | some env1 => (evB call fr lpL env1 c).bind fun env c => forL _ _ _ env c) = _
    have pu : (Tg.tup [.nm 6, .nm 7, .nm 4]).put (l3V (a, b, w)) (lpE V W d s3 s4 s5 s6 s7) = some (lpE V W d s3 (some ⟨0, .int w⟩) s5 (some ⟨0, .int a⟩) (some ⟨0, .int b⟩)) := rfl
    rw [pu]
    simp only []
    rw [st, obind_nx]
    exact q
abbrev lpR : List S := [.for_ (.tup [.nm 6, .nm 7, .nm 4]) .seq [.ix (.var 0) (.con (.int 1))] lpL]
theorem law_pose_ok {P : Prog} (h : P.fn "_law_pose" = some f__law_pose) (k : Nat) {f : Fig} (hf : f.Ok) (ss : List Int) : callF P (k + 1) "_law_pose" [f.v, intsV ss] .non = .ok (intsV (PVN.poseR f.n f.fl f.ls (f.zs ss))) .non := by
  rw [callF_at h]
  have n8 := hf.n8
  obtain ⟨d0, hd0⟩ : ∃ d0, d0 = List.replicate f.n f.fl := ⟨_, rfl⟩
  have l0 : d0.length = f.n := by rw [hd0, List.length_replicate]
  have fl1 : ∀ n : Nat, (List.replicate n [PV.int f.fl]).flatten = (List.replicate n f.fl).map PV.int := fun n => by
    induction n with
    | zero => rfl
    | succ n ih => rw [List.replicate_succ, List.replicate_succ, List.flatten_cons, ih] <;> rfl
  have mu : op2 .mul (.lst [.int f.fl]) (.int f.n) = some (.lst (d0.map PV.int)) := by
    show (if (decide ([PV.int f.fl].length ≤ 1000) && decide ((0 : Int) ≤ f.n) && decide ((f.n : Int) ≤ 1000)) = true then some (PV.lst (List.replicate ((f.n : Int)).toNat [PV.int f.fl]).flatten) else none) = _
    rw [if_pos (by simp; omega), Int.toNat_natCast, fl1, hd0]
  have s0 : evS (callF P k) P.fr (.set 2 true (.op .mul (.lst 0 [.ix (.var 0) (.con (.int 3))]) (.ix (.var 0) (.con (.int 0))))) [some ⟨0, f.v⟩, some ⟨0, intsV ss⟩, none, none, none, none, none, none] .non = .nx (lpE f.v (intsV ss) d0 none none none none none) .non := by
    have a1 : em (callF P k) (.op .mul (.lst 0 [.ix (.var 0) (.con (.int 3))]) (.ix (.var 0) (.con (.int 0)))) [some ⟨0, f.v⟩, some ⟨0, intsV ss⟩, none, none, none, none, none, none] .non = .ok (0, .lst (d0.map PV.int)) .non := by
      simp [em, evs, lo, hi, Res.bind, Res.of, Fig.v, item, atI, ixN, downD, mu]
    rw [st_own a1] <;> rfl
  have zt : ∀ z ∈ f.zs ss, 0 ≤ z.1 ∧ z.1 < d0.length := fun z hz => by
    rw [l0]
    exact hf.tie _ (List.of_mem_zip hz).1
  obtain ⟨t3, t4, q1⟩ := lp_ties (callF P k) P.fr f.v (intsV ss) none none none .non (f.zs ss) d0 none none zt
  have s1 : evS (callF P k) P.fr (.for_ (.tup [.nm 3, .nm 4]) .zip [.ix (.var 0) (.con (.int 2)), .var 1] lpZ) (lpE f.v (intsV ss) d0 none none none none none) .non = .nx (lpE f.v (intsV ss) (PVN.start d0 (f.zs ss)) t3 t4 none none none) .non := by
    rw [st_for (vs := [.tup (f.ts.map PV.int), .tup (ss.map PV.int)]) (xs := (f.zs ss).map prV) rfl (by show some _ = _; rw [zip_ints] <;> rfl)]
    exact q1
  have l1 : (PVN.start d0 (f.zs ss)).length = f.n := by rw [PVN.start_len, l0]
  obtain ⟨env', c', e, rfl, u4, u5, u6, u7, rfl⟩ := forL_inv (tg := .nm 5) (f := fun env c => evB (callF P k) P.fr lpR env c) (I := fun i env c' => c' = PV.non ∧ ∃ u4 u5 u6 u7, env = lpE f.v (intsV ss) (PVN.rounds f.ls i (PVN.start d0 (f.zs ss))) t3 u4 u5 u6 u7) (rng 0 f.n) 0 (lpE f.v (intsV ss) (PVN.start d0 (f.zs ss)) t3 t4 none none none) .non (by
    intro i x env c' hx ⟨ec, u4, u5, u6, u7, he⟩
    subst ec he
    obtain ⟨hi', rfl⟩ := rng_get hx
    obtain ⟨v4, v6, v7, q2⟩ := lp_limbs (callF P k) P.fr f.v (intsV ss) t3 (some ⟨0, .int (0 + (i : Int))⟩) .non f.ls (PVN.rounds f.ls (0 + i) (PVN.start d0 (f.zs ss))) u4 u6 u7 (by rw [PVN.rounds_len, l1]; exact hf.lim)
    refine ⟨_, _, .non, rfl, ?_, rfl, v4, some ⟨0, .int (0 + (i : Int))⟩, v6, v7, rfl⟩
    show evB (callF P k) P.fr lpR (lpE f.v (intsV ss) (PVN.rounds f.ls (0 + i) (PVN.start d0 (f.zs ss))) t3 u4 (some ⟨0, .int (0 + (i : Int))⟩) u6 u7) .non = _
    rw [evB_cons, st_for (vs := [.tup (f.ls.map l3V)]) (xs := f.ls.map l3V) rfl rfl, q2, obind_nx, PVN.rounds_succ] <;> rfl) ⟨rfl, _, _, _, _, rfl⟩
  rw [len_rng] at e
  unfold Fn.run
  rw [if_pos ⟨rfl, rfl⟩]
  show (match evB (callF P k) P.fr [_, _, .for_ (.nm 5) .rng1 [.ix (.var 0) (.con (.int 0))] lpR, .ret (.b1 .tuple (.var 2))] [some ⟨0, f.v⟩, some ⟨0, intsV ss⟩, none, none, none, none, none, none] .non with
    | .nx _ c => _
    | .ret v c => _
    | .exc e c => _
    | .stuck => _) = _
  rw [evB_cons, s0, obind_nx, evB_cons, s1, obind_nx, evB_cons, st_for (vs := [.int f.n]) (xs := rng 0 f.n) rfl (items1 (by omega) (by omega)), e, obind_nx, Nat.zero_add]
  unfold PVN.poseR
  rw [← hd0] <;> rfl
end PVL
end

section
set_option Elab.async false
set_option linter.all false
set_option maxRecDepth 100000
set_option maxHeartbeats 8000000
/-! PVM26: what fits as depths; what is a pose. -/
namespace PVL
open PySem (Str)
def f_fits_depths : Fn := ⟨"fits_depths", ["figure", "value", "one"], 2, false, none, 0, [
    .ret (.and (.call "is_tuple_of" [.var 1, .ix (.var 0) (.con (.int 0)), .ix (.var 0) (.con (.int 0))]) (.b1 .all (.comp [2] (.nm 2) .seq [.var 1] [] 0 (.call "is_whole" [.var 2, .con (.int 0), .ix (.var 0) (.con (.int 3))]))))]⟩
def f_need_setting : Fn := ⟨"need_setting", ["figure", "setting"], 2, false, none, 0, [
    .ife (.not (.call "fits_setting" [.var 0, .var 1])) [.raise] []]⟩
def f_need_set : Fn := ⟨"need_set", ["figure", "setting"], 2, false, none, 0, [
    .expr (.call "need_figure" [.var 0]),
    .expr (.call "need_setting" [.var 0, .var 1])]⟩
def f_keeps_limbs : Fn := ⟨"keeps_limbs", ["figure", "depths", "one", "other", "length"], 2, false, none, 0, [
    .ret (.b1 .all (.comp [2, 3, 4] (.tup [.nm 2, .nm 3, .nm 4]) .seq [.ix (.var 0) (.con (.int 1))] [] 0 (.cmp .le (.b1 .abs (.op .sub (.ix (.var 1) (.var 2)) (.ix (.var 1) (.var 3)))) (.var 4))))]⟩
def f_pose_in : Fn := ⟨"pose_in", ["figure", "setting"], 2, false, none, 0, [
    .ret (.call "pose_by" [.var 0, .var 1, .call "table_of" [.var 0]])]⟩
def f_pose : Fn := ⟨"pose", ["figure", "setting"], 2, false, none, 0, [
    .expr (.call "need_set" [.var 0, .var 1]),
    .ret (.call "pose_in" [.var 0, .var 1])]⟩
def f_least_by : Fn := ⟨"least_by", ["figure", "depths", "tie"], 2, false, none, 0, [
    .ret (.b1 .tuple (.comp [2] (.nm 2) .seq [.ix (.var 0) (.con (.int 2))] [] 0 (.ix (.var 1) (.var 2))))]⟩
def f_fits_pose : Fn := ⟨"fits_pose", ["figure", "value"], 2, false, none, 0, [
    .ife (.or (.not (.call "fits_depths" [.var 0, .var 1])) (.not (.call "keeps_limbs" [.var 0, .var 1]))) [.ret (.con (.bl false))] [],
    .ret (.cmp .eq (.call "pose_by" [.var 0, .call "least_by" [.var 0, .var 1], .call "table_of" [.var 0]]) (.var 1))]⟩
def f_need_pose : Fn := ⟨"need_pose", ["figure", "depths"], 2, false, none, 0, [
    .expr (.call "need_figure" [.var 0]),
    .ife (.not (.call "fits_pose" [.var 0, .var 1])) [.raise] []]⟩
def f_is_pose : Fn := ⟨"is_pose", ["figure", "value"], 2, false, none, 0, [
    .expr (.call "need_figure" [.var 0]),
    .ret (.call "fits_pose" [.var 0, .var 1])]⟩
def f_least_setting : Fn := ⟨"least_setting", ["figure", "depths"], 2, false, none, 0, [
    .expr (.call "need_pose" [.var 0, .var 1]),
    .ret (.call "least_by" [.var 0, .var 1])]⟩
def f__law_is_pose : Fn := ⟨"_law_is_pose", ["figure", "depths", "tie"], 2, false, none, 0, [
    .ret (.cmp .eq (.call "_law_pose" [.var 0, .b1 .tuple (.comp [2] (.nm 2) .seq [.ix (.var 0) (.con (.int 2))] [] 0 (.ix (.var 1) (.var 2)))]) (.var 1))]⟩
theorem okV_ints (ds : List Int) : okV (intsV ds) = true := by
  unfold intsV okV
  exact okVs_all fun x hx => by
    obtain ⟨i, _, rfl⟩ := List.mem_map.mp hx
    rfl
theorem isData_ints (ds : List Int) : ∀ n, isDataL n (ds.map PV.int) = true := by
  intro n
  induction ds with
  | nil => rfl
  | cons x xs ih => rw [List.map_cons]; unfold isDataL isData; rw [ih] <;> rfl
theorem eqvL_ints : ∀ (a b : List Int), eqvL (a.map PV.int) (b.map PV.int) = decide (a = b)
  | [], [] => rfl
  | [], _ :: _ => rfl
  | _ :: _, [] => rfl
  | x :: a, y :: b => by
    rw [List.map_cons, List.map_cons]
    unfold eqvL eqv
    rw [eqvL_ints a b]
    by_cases h : x = y
    · subst h; simp
    · simp [h]
theorem eq_ints (a b : List Int) : cmp .eq (intsV a) (intsV b) = some (decide (a = b)) := by
  have e1 : isData 60 (intsV a) = true := by unfold intsV isData; exact isData_ints a _
  have e2 : isData 60 (intsV b) = true := by unfold intsV isData; exact isData_ints b _
  have e3 : eqv (intsV a) (intsV b) = decide (a = b) := by unfold intsV eqv; exact eqvL_ints a b
  show (if isData 60 (intsV a) && isData 60 (intsV b) then some (eqv (intsV a) (intsV b)) else none) = _
  rw [e1, e2, e3] <;> rfl
theorem fs_ints {n : Nat} {fl : Int} {v : PV} (h : fitsSetting n fl v = true) : ∃ ds : List Int, v = intsV ds ∧ ds.length = n ∧ ∀ d ∈ ds, 0 ≤ d ∧ d ≤ fl := by
  unfold fitsSetting at h
  rw [Bool.and_eq_true] at h
  obtain ⟨xs, rfl⟩ := tup_of h.1
  have h2 : xs.all (fun x => whole x 0 fl) = true := h.2
  obtain ⟨ds, rfl, hd⟩ := ints_of (ts := xs) (p := fun i => 0 ≤ i ∧ i ≤ fl) fun t ht => whole_int (List.all_eq_true.mp h2 t ht)
  have h1 := h.1
  unfold tupOf at h1
  simp at h1
  exact ⟨ds, rfl, by omega, hd⟩
theorem fs_of {n : Nat} {fl : Int} {ds : List Int} (h : ds.length = n) (hd : ∀ d ∈ ds, 0 ≤ d ∧ d ≤ fl) : fitsSetting n fl (intsV ds) = true :=
  fs_yes (by rw [List.length_map]; exact h) fun y hy => by
    obtain ⟨i, hi, rfl⟩ := List.mem_map.mp hy
    have := hd i hi
    unfold whole
    simp [this]
section
variable {P : Prog} (D : FigD P)
include D in
theorem fits_depths_ok (h : P.fn "fits_depths" = some f_fits_depths) (k : Nat) (f : Fig) (v : PV) (hv : okV v = true) : callF P (k + 2) "fits_depths" [f.v, v] .non = .ok (.bl (fitsSetting f.n f.fl v)) .non := by
  rw [callF_at h]
  have t1 := tupOf_ok D.tup k v f.n f.n (okV_isD hv)
  obtain ⟨V, hV⟩ : ∃ V, V = f.v := ⟨_, rfl⟩
  have i0 : item f.v (.int 0) = some (.int f.n) := rfl
  have i3 : item f.v (.int 3) = some (.int f.fl) := rfl
  have dn : ∀ k, downD k f.v = 0 := fun _ => rfl
  rw [← hV] at i0 i3 dn ⊢
  cases b1 : tupOf v f.n f.n with
  | false =>
    have e : fitsSetting f.n f.fl v = false := by unfold fitsSetting; rw [b1] <;> rfl
    simp [Fn.run, f_fits_depths, Fn.start, evB, evS, ev, em, evs, lo, hi, Res.of, tst, truth, Res.bind, Res.out, Out.bind, isNon, i0, i3, dn, t1, b1, e]
  | true =>
    obtain ⟨xs, rfl⟩ := tup_of b1
    have e : fitsSetting f.n f.fl (.tup xs) = xs.all fun x => whole x 0 f.fl := by
      show (tupOf (.tup xs) _ _ && _) = _
      rw [b1, Bool.true_and]
    have hxs : okVs xs = true := by unfold okV at hv; exact hv
    have a1 : em (callF P (k + 1)) (.b1 .all (.comp [2] (.nm 2) .seq [.var 1] [] 0 (.call "is_whole" [.var 2, .con (.int 0), .ix (.var 0) (.con (.int 3))]))) [some ⟨0, V⟩, some ⟨0, .tup xs⟩, none] .non = .ok (0, .bl (xs.all fun x => whole x 0 f.fl)) .non := by
      refine em_b1 (comp_map (ss := [.tup xs]) (xs := xs) (fun x => .bl (whole x 0 f.fl)) rfl rfl fun x hx => ⟨_, rfl, ?_⟩) (Nat.zero_le _) (all_bools _ xs)
      simp [ev, em, evs, lo, hi, wipe, Res.bind, Res.of, i3, dn, whole_ok D.whole k x 0 f.fl (okV_isD (okVs_mem hxs hx))]
    rw [e]
    simp [Fn.run, f_fits_depths, Fn.start, evB, evS, ev, em, evs, lo, hi, Res.of, tst, truth, Res.bind, Res.out, Out.bind, isNon, i0, dn, t1, b1, ↓a1]
def keepsL (f : Fig) (ds : List Int) : Bool := f.ls.all fun l => decide ((if PVN.gt ds l.1 - PVN.gt ds l.2.1 < 0 then -(PVN.gt ds l.1 - PVN.gt ds l.2.1) else PVN.gt ds l.1 - PVN.gt ds l.2.1) ≤ l.2.2)
theorem keepsL_iff (f : Fig) (ds : List Int) : keepsL f ds = true ↔ PVN.Edges f.ls (PVN.gt ds) := by
  unfold keepsL PVN.Edges
  rw [List.all_eq_true]
  constructor
  · intro h l hl
    have := of_decide_eq_true (h l hl)
    split at this <;> omega
  · intro h l hl
    have := h l hl
    refine decide_eq_true ?_
    split <;> omega
omit D in
theorem keeps_limbs_ok (h : P.fn "keeps_limbs" = some f_keeps_limbs) (k : Nat) {f : Fig} (hf : f.Ok) {ds : List Int} (hl : ds.length = f.n) : callF P (k + 1) "keeps_limbs" [f.v, intsV ds] .non = .ok (.bl (keepsL f ds)) .non := by
  rw [callF_at h]
  have a1 : em (callF P k) (.b1 .all (.comp [2, 3, 4] (.tup [.nm 2, .nm 3, .nm 4]) .seq [.ix (.var 0) (.con (.int 1))] [] 0 (.cmp .le (.b1 .abs (.op .sub (.ix (.var 1) (.var 2)) (.ix (.var 1) (.var 3)))) (.var 4)))) [some ⟨0, f.v⟩, some ⟨0, intsV ds⟩, none, none, none] .non = .ok (0, .bl (keepsL f ds)) .non := by
    refine em_b1 (comp_map (ss := [.tup (f.ls.map l3V)]) (xs := f.ls.map l3V) (fun x => match x with | .tup [.int a, .int b, .int w] => .bl (decide ((if PVN.gt ds a - PVN.gt ds b < 0 then -(PVN.gt ds a - PVN.gt ds b) else PVN.gt ds a - PVN.gt ds b) ≤ w)) | _ => .non) rfl rfl fun x hx => ?_) (Nat.zero_le _) ?_
    · obtain ⟨⟨a, b, w⟩, hm, rfl⟩ := List.mem_map.mp hx
      obtain ⟨g0, g1, g2, g3⟩ := hf.lim _ hm
      simp only at g0 g1 g2 g3
      refine ⟨_, rfl, ?_⟩
      have i1 : item (intsV ds) (.int a) = some (.int (PVN.gt ds a)) := item_ints g0 (by omega)
      have i2 : item (intsV ds) (.int b) = some (.int (PVN.gt ds b)) := item_ints (by omega) (by omega)
      have dn : ∀ k, downD k (intsV ds) = 0 := fun _ => rfl
      simp [ev, em, evs, lo, hi, wipe, Res.bind, Res.of, l3V, op2, PVL.b1, cmp, i1, i2, dn]
    · have : (f.ls.map l3V).map (fun x => match x with | .tup [.int a, .int b, .int w] => PV.bl (decide ((if PVN.gt ds a - PVN.gt ds b < 0 then -(PVN.gt ds a - PVN.gt ds b) else PVN.gt ds a - PVN.gt ds b) ≤ w)) | _ => .non) = f.ls.map fun l => PV.bl (decide ((if PVN.gt ds l.1 - PVN.gt ds l.2.1 < 0 then -(PVN.gt ds l.1 - PVN.gt ds l.2.1) else PVN.gt ds l.1 - PVN.gt ds l.2.1) ≤ l.2.2)) := by
        rw [List.map_map] <;> rfl
      rw [this]
      have ab : ∀ (p : L3 → Bool) (ls : List L3), PVL.b1 .all (.lst (ls.map fun l => PV.bl (p l))) = some (.bl (ls.all p)) := fun p ls => by
        have : ∀ ls : List L3, bools? (ls.map fun l => PV.bl (p l)) = some (ls.map p) := fun ls => by
          induction ls with
          | nil => rfl
          | cons x xs ih => rw [List.map_cons]; show (bools? _).map (p x :: ·) = _; rw [ih] <;> rfl
        show (bools? _).map (fun bs => PV.bl (bs.all id)) = _
        rw [this, Option.map_some, List.all_map] <;> rfl
      exact ab _ f.ls
  simp [Fn.run, f_keeps_limbs, Fn.start, evB, evS, ev, lo, Res.bind, Res.out, Out.bind, isNon, ↓a1]
def Fig.least (f : Fig) (ds : List Int) : List Int := f.ts.map (PVN.gt ds)
omit D in
theorem em_least (call : CallF) {env : Env} {f : Fig} (hf : f.Ok) {ds : List Int} (hl : ds.length = f.n) {x y t : Nat} (hx : env[x]? = some (some ⟨0, f.v⟩)) (hy : env[y]? = some (some ⟨0, intsV ds⟩)) (ht : t < env.length) (hxt : x ≠ t) (hyt : y ≠ t) (c : PV) :
    em call (.b1 .tuple (.comp [t] (.nm t) .seq [.ix (.var x) (.con (.int 2))] [] 0 (.ix (.var y) (.var t)))) env c = .ok (0, intsV (f.least ds)) c := by
  have i2 : item f.v (.int 2) = some (.tup (f.ts.map PV.int)) := rfl
  have dn : ∀ k, downD k f.v = 0 := fun _ => rfl
  have dn2 : ∀ k, downD k (intsV ds) = 0 := fun _ => rfl
  refine em_b1 (comp_map (ss := [.tup (f.ts.map PV.int)]) (xs := f.ts.map PV.int) (fun x => match x with | .int t => .int (PVN.gt ds t) | _ => .non) ?_ rfl fun z hz => ?_) (Nat.zero_le _) ?_
  · simp [em, evs, lo, hi, Res.bind, Res.of, hx, i2, dn]
  · obtain ⟨t', ht', rfl⟩ := List.mem_map.mp hz
    have g := hf.tie t' ht'
    refine ⟨(env.set t none).set t (some ⟨0, .int t'⟩), rfl, ?_⟩
    have i1 : item (intsV ds) (.int t') = some (.int (PVN.gt ds t')) := item_ints g.1 (by omega)
    have e1 : ((env.set t none).set t (some ⟨0, .int t'⟩))[t]? = some (some ⟨0, .int t'⟩) := by rw [List.getElem?_set_self (by rw [List.length_set]; exact ht)]
    have e2 : ((env.set t none).set t (some ⟨0, .int t'⟩))[y]? = some (some ⟨0, intsV ds⟩) := by rw [List.getElem?_set_ne (fun z => hyt z.symm), List.getElem?_set_ne (fun z => hyt z.symm), hy]
    simp only [ev, em, e1, e2, lo_ok, bind_ok, Nat.le_refl, if_true, i1, Option.map_some, of_some, dn2]
  · unfold intsV Fig.least
    rw [List.map_map, List.map_map] <;> rfl
omit D in
theorem least_by_ok (h : P.fn "least_by" = some f_least_by) (k : Nat) {f : Fig} (hf : f.Ok) {ds : List Int} (hl : ds.length = f.n) : callF P (k + 1) "least_by" [f.v, intsV ds] .non = .ok (intsV (f.least ds)) .non := by
  rw [callF_at h]
  have a1 := em_least (callF P k) (env := [some ⟨0, f.v⟩, some ⟨0, intsV ds⟩, none]) hf hl (x := 0) (y := 1) (t := 2) rfl rfl (by simp) (by omega) (by omega) .non
  simp [Fn.run, f_least_by, Fn.start, evB, evS, ev, lo, Res.bind, Res.out, Out.bind, isNon, ↓a1]
/-- the pose of a setting -/
def Fig.pose (f : Fig) (ss : List Int) : List Int := PVN.poseR f.n f.fl f.ls (f.zs ss)
theorem Fig.Ok.tiesOk {f : Fig} (hf : f.Ok) {ss : List Int} (h : ∀ s ∈ ss, 0 ≤ s) : PVN.Ties f.n (f.zs ss) := fun z hz => by
  have m := List.of_mem_zip hz
  have := hf.tie _ m.1
  exact ⟨this.1, this.2, h _ m.2⟩
theorem Fig.Ok.great {f : Fig} (hf : f.Ok) {ss : List Int} (h : ∀ s ∈ ss, 0 ≤ s) : PVN.Great f.n f.fl f.ls (f.zs ss) (f.pose ss) := PVN.poseR_great hf.lim (hf.tiesOk h) (by have := hf.f1; omega)
theorem Fig.Ok.pose_tab {f : Fig} (hf : f.Ok) {ss : List Int} (h : ∀ s ∈ ss, 0 ≤ s) : PVN.poseT f.n f.fl f.tab (f.zs ss) = f.pose ss := PVN.pose_eq hf.lim hf.once (hf.tiesOk h) (by have := hf.f1; omega)
omit D in
theorem pose_in_ok (h : P.fn "pose_in" = some f_pose_in) (hb : P.fn "pose_by" = some f_pose_by) (ht : P.fn "table_of" = some f_table_of) (k : Nat) {f : Fig} (hf : f.Ok) {ss : List Int} (hs : ∀ s ∈ ss, 0 ≤ s) : callF P (k + 2) "pose_in" [f.v, intsV ss] .non = .ok (intsV (f.pose ss)) .non := by
  rw [callF_at h]
  have q1 := table_ok ht k hf
  have q2 := pose_by_ok hb k hf ss f.tab
  rw [hf.pose_tab hs] at q2
  simp [Fn.run, f_pose_in, Fn.start, evB, evS, ev, em, evs, lo, hi, Res.bind, Res.out, Out.bind, isNon, q1, q2]
include D in
theorem need_set_ok (h : P.fn "need_set" = some f_need_set) (hn : P.fn "need_figure" = some f_need_figure) (hs : P.fn "need_setting" = some f_need_setting) (hfs : P.fn "fits_setting" = some f_fits_setting) (k : Nat) {f : Fig} (hf : f.Ok) {v : PV} (hv : okV v = true) (fs : fitsSetting f.ts.length f.fl v = true) :
    callF P (k + 5) "need_set" [f.v, v] .non = .ok .non .non := by
  rw [callF_at h]
  have q1 := need_figure_ok D hn k _ hf.okv hf.fit
  have q2 := fits_setting_ok hfs D.whole D.tup (k + 1) (.int f.n) (.tup (f.ls.map l3V)) (f.ts.map PV.int) f.fl v hv
  rw [List.length_map, fs] at q2
  have q2' : callF P (k + 3) "fits_setting" [f.v, v] .non = .ok (.bl true) .non := q2
  have q3 : callF P (k + 4) "need_setting" [f.v, v] .non = .ok .non .non := by
    rw [callF_at hs]
    simp [Fn.run, f_need_setting, Fn.start, evB, evS, ev, em, evs, lo, hi, tst, truth, Res.bind, Res.of, Res.out, Out.bind, isNon, q2']
  simp [Fn.run, f_need_set, Fn.start, evB, evS, ev, em, evs, lo, hi, tst, truth, Res.bind, Res.of, Res.out, Out.bind, isNon, q1, q3]
include D in
theorem pose_ok (h : P.fn "pose" = some f_pose) (hd : P.fn "need_set" = some f_need_set) (hn : P.fn "need_figure" = some f_need_figure) (hs : P.fn "need_setting" = some f_need_setting) (hfs : P.fn "fits_setting" = some f_fits_setting) (hi' : P.fn "pose_in" = some f_pose_in) (hb : P.fn "pose_by" = some f_pose_by) (ht : P.fn "table_of" = some f_table_of) (k : Nat) {f : Fig} (hf : f.Ok) {ss : List Int} (hl : ss.length = f.ts.length) (hr : ∀ s ∈ ss, 0 ≤ s ∧ s ≤ f.fl) :
    callF P (k + 6) "pose" [f.v, intsV ss] .non = .ok (intsV (f.pose ss)) .non := by
  rw [callF_at h]
  have q1 := need_set_ok D hd hn hs hfs k hf (okV_ints ss) (fs_of hl hr)
  have q2 := pose_in_ok hi' hb ht (k + 3) hf (ss := ss) fun s h => (hr s h).1
  simp [Fn.run, f_pose, Fn.start, evB, evS, ev, em, evs, lo, hi, Res.bind, Res.out, Out.bind, isNon, q1, q2]
theorem gt_mem {ds : List Int} {p : Int → Prop} (h : ∀ d ∈ ds, p d) {i : Int} (h0 : 0 ≤ i) (h1 : i < ds.length) : p (PVN.gt ds i) := by
  have e : PVN.gt ds ((i.toNat : Nat) : Int) = ds[i.toNat] := PVN.gt_get (by omega)
  have e2 : ((i.toNat : Nat) : Int) = i := by omega
  rw [e2] at e
  rw [e]
  exact h _ (List.getElem_mem _)
/-- what is a pose -/
def isPoseB (f : Fig) (ds : List Int) : Bool := keepsL f ds && decide (f.pose (f.least ds) = ds)
omit D in
theorem least_ok' {f : Fig} (hf : f.Ok) {ds : List Int} (hl : ds.length = f.n) {p : Int → Prop} (hp : ∀ d ∈ ds, p d) : ∀ s ∈ f.least ds, p s := fun s hs => by
  obtain ⟨t, ht, rfl⟩ := List.mem_map.mp hs
  have := hf.tie t ht
  exact gt_mem hp this.1 (by omega)
include D in
theorem fits_pose_ok (h : P.fn "fits_pose" = some f_fits_pose) (hd : P.fn "fits_depths" = some f_fits_depths) (hk : P.fn "keeps_limbs" = some f_keeps_limbs) (hb : P.fn "pose_by" = some f_pose_by) (hl' : P.fn "least_by" = some f_least_by) (ht : P.fn "table_of" = some f_table_of) (k : Nat) {f : Fig} (hf : f.Ok) {ds : List Int} (hl : ds.length = f.n) (hr : ∀ d ∈ ds, 0 ≤ d ∧ d ≤ f.fl) :
    callF P (k + 3) "fits_pose" [f.v, intsV ds] .non = .ok (.bl (isPoseB f ds)) .non := by
  rw [callF_at h]
  have q1 := fits_depths_ok D hd k f (intsV ds) (okV_ints ds)
  rw [fs_of hl hr] at q1
  have q2 := keeps_limbs_ok hk (k + 1) hf hl
  have q3 := least_by_ok hl' (k + 1) hf hl
  have q4 := table_ok ht (k + 1) hf
  have q5 := pose_by_ok hb (k + 1) hf (f.least ds) f.tab
  rw [hf.pose_tab (least_ok' hf hl fun d h => (hr d h).1)] at q5
  unfold isPoseB
  cases b : keepsL f ds with
  | false =>
    rw [b] at q2
    simp [Fn.run, f_fits_pose, Fn.start, evB, evS, ev, em, evs, lo, hi, tst, truth, Res.bind, Res.of, Res.out, Out.bind, isNon, q1, q2]
  | true =>
    rw [b] at q2
    simp [Fn.run, f_fits_pose, Fn.start, evB, evS, ev, em, evs, lo, hi, tst, truth, Res.bind, Res.of, Res.out, Out.bind, isNon, q1, q2, q3, q4, q5, eq_ints]
include D in
theorem fits_pose_no (h : P.fn "fits_pose" = some f_fits_pose) (hd : P.fn "fits_depths" = some f_fits_depths) (k : Nat) {f : Fig} {v : PV} (hv : okV v = true) (hn : fitsSetting f.n f.fl v = false) :
    callF P (k + 3) "fits_pose" [f.v, v] .non = .ok (.bl false) .non := by
  rw [callF_at h]
  have q1 := fits_depths_ok D hd k f v hv
  rw [hn] at q1
  simp [Fn.run, f_fits_pose, Fn.start, evB, evS, ev, em, evs, lo, hi, tst, truth, Res.bind, Res.of, Res.out, Out.bind, isNon, q1]
include D in
theorem is_pose_of (h : P.fn "is_pose" = some f_is_pose) (hn : P.fn "need_figure" = some f_need_figure) (k : Nat) {f : Fig} (hf : f.Ok) {v : PV} {b : Bool} (q : callF P (k + 4) "fits_pose" [f.v, v] .non = .ok (.bl b) .non) :
    callF P (k + 5) "is_pose" [f.v, v] .non = .ok (.bl b) .non := by
  rw [callF_at h]
  have q1 := need_figure_ok D hn k _ hf.okv hf.fit
  simp [Fn.run, f_is_pose, Fn.start, evB, evS, ev, em, evs, lo, hi, Res.bind, Res.out, Out.bind, isNon, q1, q]
include D in
theorem least_setting_ok (h : P.fn "least_setting" = some f_least_setting) (hp : P.fn "need_pose" = some f_need_pose) (hn : P.fn "need_figure" = some f_need_figure) (hl' : P.fn "least_by" = some f_least_by) (k : Nat) {f : Fig} (hf : f.Ok) {ds : List Int} (hl : ds.length = f.n) (q : callF P (k + 4) "fits_pose" [f.v, intsV ds] .non = .ok (.bl true) .non) :
    callF P (k + 6) "least_setting" [f.v, intsV ds] .non = .ok (intsV (f.least ds)) .non := by
  rw [callF_at h]
  have q1 := need_figure_ok D hn k _ hf.okv hf.fit
  have q2 : callF P (k + 5) "need_pose" [f.v, intsV ds] .non = .ok .non .non := by
    rw [callF_at hp]
    simp [Fn.run, f_need_pose, Fn.start, evB, evS, ev, em, evs, lo, hi, tst, truth, Res.bind, Res.of, Res.out, Out.bind, isNon, q1, q]
  have q3 := least_by_ok hl' (k + 4) hf hl
  simp [Fn.run, f_least_setting, Fn.start, evB, evS, ev, em, evs, lo, hi, Res.bind, Res.out, Out.bind, isNon, q2, q3]
omit D in
theorem law_is_pose_ok (h : P.fn "_law_is_pose" = some f__law_is_pose) (hp : P.fn "_law_pose" = some f__law_pose) (k : Nat) {f : Fig} (hf : f.Ok) {ds : List Int} (hl : ds.length = f.n) : callF P (k + 2) "_law_is_pose" [f.v, intsV ds] .non = .ok (.bl (decide (f.pose (f.least ds) = ds))) .non := by
  rw [callF_at h]
  have a1 := em_least (callF P (k + 1)) (env := [some ⟨0, f.v⟩, some ⟨0, intsV ds⟩, none]) hf hl (x := 0) (y := 1) (t := 2) rfl rfl (by simp) (by omega) (by omega) .non
  have q1 := law_pose_ok hp k hf (f.least ds)
  have q1' : callF P (k + 1) "_law_pose" [f.v, intsV (f.least ds)] .non = .ok (intsV (f.pose (f.least ds))) .non := q1
  simp [Fn.run, f__law_is_pose, Fn.start, evB, evS, ev, em, evs, lo, hi, Res.bind, Res.of, Res.out, Out.bind, isNon, ↓a1, q1', eq_ints]
end
/-! ### what the law asks of poses -/
theorem pose_len {f : Fig} (hf : f.Ok) {ss : List Int} (h : ∀ s ∈ ss, 0 ≤ s) : (f.pose ss).length = f.n := (hf.great h).len
theorem pose_range {f : Fig} (hf : f.Ok) {ss : List Int} (h : ∀ s ∈ ss, 0 ≤ s) : ∀ d ∈ f.pose ss, 0 ≤ d ∧ d ≤ f.fl := fun d hd => by
  obtain ⟨i, hi, rfl⟩ := List.mem_iff_getElem.mp hd
  have e := PVN.gt_get hi
  rw [← e]
  have hl := pose_len hf h
  have g := hf.great h
  exact ⟨g.nonneg hf.lim (hf.tiesOk h) (by have := hf.f1; omega) i (by omega) (by omega), g.st.floor i (by omega) (by omega)⟩
/-- a pose's least setting has the pose -/
theorem pose_least {f : Fig} (hf : f.Ok) {ss : List Int} (hl : ss.length = f.ts.length) (h : ∀ s ∈ ss, 0 ≤ s) : f.pose (f.least (f.pose ss)) = f.pose ss := by
  have g := hf.great h
  have ln := pose_len hf h
  have h2 : ∀ s ∈ f.least (f.pose ss), 0 ≤ s := least_ok' hf ln fun d hd => (pose_range hf h d hd).1
  refine (hf.great h2).uniq ⟨g.len, ⟨g.st.floor, fun z hz => ?_, g.st.edges⟩, fun S hS i hi hil => g.up S ⟨hS.floor, fun z hz => ?_, hS.edges⟩ i hi hil⟩
  · unfold Fig.zs Fig.least at hz
    rw [List.zip_map_right, List.mem_map] at hz
    obtain ⟨⟨a, b⟩, hm, rfl⟩ := hz
    have e : a = b := by
      have : ∀ l : List Int, ∀ p ∈ l.zip l, p.1 = p.2 := fun l => by
        induction l with
        | nil => intro p hp; cases hp
        | cons x xs ih =>
          intro p hp
          rw [List.zip_cons_cons] at hp
          rcases List.mem_cons.mp hp with q | q
          · rw [q]
          · exact ih p q
      exact this _ _ hm
    subst e
    exact Int.le_refl _
  · have hz' := List.of_mem_zip hz
    have m : (z.1, PVN.gt (f.pose ss) z.1) ∈ f.zs (f.least (f.pose ss)) := by
      unfold Fig.zs Fig.least
      rw [List.zip_map_right, List.mem_map]
      refine ⟨(z.1, z.1), ?_, rfl⟩
      have : ∀ l : List Int, ∀ x ∈ l, (x, x) ∈ l.zip l := fun l => by
        induction l with
        | nil => intro x hx; cases hx
        | cons y ys ih =>
          intro x hx
          rw [List.zip_cons_cons]
          rcases List.mem_cons.mp hx with q | q
          · rw [q]; exact List.mem_cons_self ..
          · exact List.mem_cons_of_mem _ (ih x q)
      exact this _ _ hz'.1
    have e1 : S z.1 ≤ PVN.gt (f.pose ss) z.1 := hS.ties _ m
    have e2 := g.st.ties z hz
    omega
theorem isPose_pose {f : Fig} (hf : f.Ok) {ss : List Int} (hl : ss.length = f.ts.length) (h : ∀ s ∈ ss, 0 ≤ s) : isPoseB f (f.pose ss) = true := by
  unfold isPoseB
  rw [pose_least hf hl h, (keepsL_iff f _).mpr (hf.great h).st.edges]
  simp
/-- the law's word is the program's -/
theorem isPose_eq {f : Fig} (hf : f.Ok) {ds : List Int} (hl : ds.length = f.n) (hr : ∀ d ∈ ds, 0 ≤ d) : isPoseB f ds = decide (f.pose (f.least ds) = ds) := by
  unfold isPoseB
  by_cases h : f.pose (f.least ds) = ds
  · have e := (hf.great (least_ok' hf hl hr)).st.edges
    rw [h] at e
    rw [(keepsL_iff f _).mpr e, Bool.true_and]
  · rw [decide_eq_false h, Bool.and_false]
end PVL
end

section
set_option Elab.async false
set_option linter.all false
set_option maxRecDepth 100000
set_option maxHeartbeats 8000000
/-! PVM27: pieces that several laws share. -/
namespace PVL
open PySem (Str)
theorem em_putAt {call : CallF} {env : Env} {c : PV} {x t v t0 : Nat} {xs : List PV} {y : PV} (hx : env[x]? = some (some ⟨0, .tup xs⟩)) (ht : env[t]? = some (some ⟨0, .int (t0 : Int)⟩)) (hv : env[v]? = some (some ⟨0, y⟩)) (htl : t0 < xs.length) (hl : xs.length ≤ 1000) :
    em call (.op .add (.op .add (.sl (.var x) false true [.var t]) (.tup [.var v])) (.sl (.var x) true false [.op .add (.var t) (.con (.int 1))])) env c = .ok (0, putAt xs t0 y) c := by
  have e1 : slice (.tup xs) none (some (t0 : Int)) = some (.tup (xs.take t0)) := by
    show some (PV.tup (cutV xs none (some (t0 : Int)))) = _
    rw [sl_up (by omega)]
  have e2 : slice (.tup xs) (some ((t0 : Int) + 1)) none = some (.tup (xs.drop (t0 + 1))) := by
    show some (PV.tup (cutV xs (some ((t0 : Int) + 1)) none)) = _
    rw [sl_down (by omega)]
  have z1 : (xs.take t0).length + 1 ≤ SZ := by rw [List.length_take]; unfold SZ; omega
  have z2 : (xs.take t0).length + (1 + (xs.length - (t0 + 1))) ≤ SZ := by rw [List.length_take]; unfold SZ; omega
  have o1 : op2 .add (.tup (xs.take t0)) (.tup [y]) = some (.tup (xs.take t0 ++ [y])) := by
    show (if (xs.take t0).length + [y].length ≤ SZ then some (PV.tup (xs.take t0 ++ [y])) else none) = _
    exact if_pos z1
  have o2 : op2 .add (.tup (xs.take t0 ++ [y])) (.tup (xs.drop (t0 + 1))) = some (putAt xs t0 y) := by
    show (if (xs.take t0 ++ [y]).length + (xs.drop (t0 + 1)).length ≤ SZ then some (PV.tup (xs.take t0 ++ [y] ++ xs.drop (t0 + 1))) else none) = _
    rw [if_pos (by rw [List.length_append, List.length_drop, List.length_singleton, Nat.add_assoc]; exact z2)] <;> rfl
  have o3 : op2 .add (.int (t0 : Int)) (.int 1) = some (.int ((t0 : Int) + 1)) := rfl
  simp only [em, evs, evi, hx, ht, hv, lo_ok, hi_ok, bind_ok, Nat.zero_le, Nat.le_refl, if_true, lo_hi, int?, of_some, e1, e2, o1, o2, o3]
/-- depths of a figure, as a tuple of ints -/
def DepV (n : Nat) (fl : Int) (x : PV) : Prop := ∃ es : List Int, x = intsV es ∧ es.length = n ∧ ∀ e ∈ es, 0 ≤ e ∧ e ≤ fl
theorem dep_put {n : Nat} {fl : Int} {ds : List Int} (hl : ds.length = n) (hr : ∀ d ∈ ds, 0 ≤ d ∧ d ≤ fl) {t : Nat} (ht : t < n) {e : Int} (h0 : 0 ≤ e) (h1 : e ≤ fl) : DepV n fl (putAt (ds.map PV.int) t (.int e)) := by
  refine ⟨ds.take t ++ [e] ++ ds.drop (t + 1), ?_, ?_, fun x hx => ?_⟩
  · unfold putAt intsV
    rw [List.map_append, List.map_append, List.map_take, List.map_drop] <;> rfl
  · rw [List.length_append, List.length_append, List.length_take, List.length_drop, List.length_singleton]; omega
  · rcases List.mem_append.mp hx with q | q
    · rcases List.mem_append.mp q with q | q
      · exact hr x (List.mem_of_mem_take q)
      · have : x = e := by simpa using q
        subst this; exact ⟨h0, h1⟩
    · exact hr x (List.mem_of_mem_drop q)
theorem dep_map {n : Nat} {fl : Int} {ds : List Int} (hl : ds.length = n) {g : Int → Int} (hg : ∀ d ∈ ds, 0 ≤ g d ∧ g d ≤ fl) : DepV n fl (intsV (ds.map g)) :=
  ⟨ds.map g, rfl, by rw [List.length_map]; exact hl, fun e he => by obtain ⟨d, hd, rfl⟩ := List.mem_map.mp he; exact hg d hd⟩
theorem dep_rep {n : Nat} {fl v : Int} (h0 : 0 ≤ v) (h1 : v ≤ fl) : DepV n fl (rep n (.int v)) := by
  refine ⟨List.replicate n v, ?_, List.length_replicate, fun e he => by rw [(List.mem_replicate.mp he).2]; exact ⟨h0, h1⟩⟩
  unfold rep intsV
  rw [List.map_replicate]
theorem dep_rev {n : Nat} {fl : Int} {ds : List Int} (hl : ds.length = n) (hr : ∀ d ∈ ds, 0 ≤ d ∧ d ≤ fl) : DepV n fl (.tup (ds.map PV.int).reverse) :=
  ⟨ds.reverse, by unfold intsV; rw [List.map_reverse], by rw [List.length_reverse]; exact hl, fun e he => hr e (List.mem_reverse.mp he)⟩
/-- depths drawn -/
theorem em_draws {P : Prog} (hr : RollAt P) {k : Nat} {env : Env} {x y t : Nat} {xs : List PV} {fl : Int} (hx : env[x]? = some (some ⟨0, .tup xs⟩)) (hy : env[y]? = some (some ⟨0, .int fl⟩)) (ht : t < env.length) (hyt : y ≠ t) (f1 : 0 ≤ fl) (f2 : fl ≤ 1000) (a b : Int) :
    ∃ es a' b', em (callF P (k + 1)) (.b1 .tuple (.comp [t] (.nm t) .seq [.var x] [] 0 (.callc "_law_roll" [.op .add (.var y) (.con (.int 1))]))) env (cup a b) = .ok (0, intsV es) (cup a' b') ∧ es.length = xs.length ∧ ∀ e ∈ es, 0 ≤ e ∧ e ≤ fl := by
  have hsrc : evs (callF P (k + 1)) 1 [.var x] env (cup a b) = .ok [.tup xs] (cup a b) := by simp [em, evs, lo, Res.bind, hx]
  obtain ⟨ys, c', q, ⟨a', b', rfl⟩, hR⟩ := comp_draw (call := callF P (k + 1)) (own := [t]) (tg := .nm t) (k := .seq) (d := 0) (elt := .callc "_law_roll" [.op .add (.var y) (.con (.int 1))]) (I := IsCup) (R := fun _ z => ∃ i : Int, z = .int i ∧ 0 ≤ i ∧ i ≤ fl) hsrc rfl ⟨a, b, rfl⟩ (fun z hz c hc => by
    obtain ⟨a, b, rfl⟩ := hc
    have e2 : ((env.set t none).set t (some ⟨0, z⟩))[y]? = some (some ⟨0, .int fl⟩) := by rw [List.getElem?_set_ne (fun z => hyt z.symm), List.getElem?_set_ne (fun z => hyt z.symm), hy]
    have e3 : em (callF P (k + 1)) (.op .add (.var y) (.con (.int 1))) ((env.set t none).set t (some ⟨0, z⟩)) (cup a b) = .ok (0, .int (fl + 1)) (cup a b) := by simp only [em, e2, lo_ok, bind_ok, Nat.zero_le, if_true, op2, of_some, hi_ok]
    obtain ⟨r, a1, b1, q1, r0, r1⟩ := em_roll hr (n := k) e3 (by omega) (by omega)
    exact ⟨(env.set t none).set t (some ⟨0, z⟩), .int r, cup a1 b1, rfl, ev_of q1, ⟨a1, b1, rfl⟩, r, rfl, r0, by omega⟩)
  obtain ⟨es, rfl, he⟩ := ints_of (ts := ys) (p := fun i => 0 ≤ i ∧ i ≤ fl) (hR.right fun _ z _ h => h)
  refine ⟨es, a', b', em_b1 q (Nat.zero_le _) rfl, ?_, he⟩
  have := hR.length
  rw [List.length_map] at this
  omega
/-- a comprehension over depths -/
theorem em_mapd {call : CallF} {env : Env} {c : PV} {x t : Nat} {ds : List Int} {e : E} (g : Int → Int) (hx : env[x]? = some (some ⟨0, intsV ds⟩)) (h : ∀ d ∈ ds, em call e ((env.set t none).set t (some ⟨0, .int d⟩)) c = .ok (0, .int (g d)) c) :
    em call (.b1 .tuple (.comp [t] (.nm t) .seq [.var x] [] 0 e)) env c = .ok (0, intsV (ds.map g)) c := by
  have hsrc : evs call 1 [.var x] env c = .ok [.tup (ds.map PV.int)] c := by
    have : evs call 1 [.var x] env c = .ok [intsV ds] c := by simp [em, evs, lo, Res.bind, hx]
    exact this
  refine em_b1 (comp_map (xs := ds.map PV.int) (fun x => match x with | .int d => .int (g d) | _ => .non) hsrc rfl fun z hz => ?_) (Nat.zero_le _) ?_
  · obtain ⟨d, hd, rfl⟩ := List.mem_map.mp hz
    exact ⟨_, rfl, ev_of (h d hd)⟩
  · unfold intsV
    rw [List.map_map, List.map_map] <;> rfl
/-- no item of a list answers otherwise -/
theorem em_none {call : CallF} {env : Env} {c : PV} {x t : Nat} {xs : List PV} {cd e : E} (hx : env[x]? = some (some ⟨0, .lst xs⟩)) (h : ∀ z ∈ xs, evc call [cd] ((env.set t none).set t (some ⟨0, z⟩)) c = .ok false c) :
    em call (.cmp .ne (.comp [t] (.nm t) .seq [.var x] [cd] 0 e) (.lst 0 [])) env c = .ok (0, .bl false) c := by
  have hsrc : evs call 1 [.var x] env c = .ok [.lst xs] c := by simp [em, evs, lo, Res.bind, hx]
  have q := comp_pure (call := call) (own := [t]) (tg := .nm t) (k := .seq) (srcs := [.var x]) (conds := [cd]) (d := 0) (elt := e) (env := env) (c := c) (fun _ => false) (fun z => z) hsrc (xs := xs) rfl fun z hz => ⟨_, rfl, h z hz, fun w => by cases w⟩
  rw [filter_nil (fun _ _ => rfl)] at q
  simp [em, evs, lo, hi, Res.bind, Res.of, cmp, isData, isDataL, eqv, eqvL, ↓q]
theorem st_ife_f {call : CallF} {fr : List Str} {env : Env} {c c' : PV} {t : E} {a b : List S} {n : Nat} {v : PV} (h : em call t env c = .ok (n, v) c') (hn : n ≤ 1000) (hv : truth v = some false) : evS call fr (.ife t a b) env c = evB call fr b env c' := by
  show (tst (lo AN (em call t env c))).out (fun r c => if r then evB call fr a env c else evB call fr b env c) = _
  rw [h, lo_ok, if_pos hn]
  show ((Res.ok v c').bind fun x c => Res.of (truth x) c).out _ = _
  rw [bind_ok, hv] <;> rfl
theorem st_unp2 {call : CallF} {fr : List Str} {env : Env} {c c1 c2 : PV} {a b : E} {i j : Nat} {x y : PV} (ha : em call a env c = .ok (0, x) c1) (hb : em call b env c1 = .ok (0, y) c2) : evS call fr (.unp (.tup [.nm i, .nm j]) (.tup [a, b])) env c = .nx ((env.set i (some ⟨0, x⟩)).set j (some ⟨0, y⟩)) c2 := by
  have e : em call (.tup [a, b]) env c = .ok (0, .tup [x, y]) c2 := by simp [em, evs, lo, Res.bind, ha, hb]
  show (ev call (.tup [a, b]) env c).out _ = _
  rw [ev_of e] <;> rfl
theorem st_par2 {call : CallF} {fr : List Str} {env : Env} {c c1 c2 : PV} {a b : E} {i j : Nat} {x y : PV} (ha : em call a env c = .ok (0, x) c1) (hb : em call b env c1 = .ok (0, y) c2) : evS call fr (.par [i, j] [a, b]) env c = .nx ((env.set i (some ⟨0, x⟩)).set j (some ⟨0, y⟩)) c2 := by
  show (evs call 0 [a, b] env c).out _ = _
  have e : evs call 0 [a, b] env c = .ok [x, y] c2 := by simp [evs, lo, Res.bind, ha, hb]
  rw [e] <;> rfl
theorem st_app0 {call : CallF} {fr : List Str} {env : Env} {c c' : PV} {e : E} {x : Nat} {ys : List PV} {v : PV} (hx : env[x]? = some (some ⟨1, .lst ys⟩)) (hl : ys.length < SZ) (he : em call e env c = .ok (0, v) c') : evS call fr (.app x [] e) env c = .nx (env.set x (some ⟨1, .lst (ys ++ [v])⟩)) c' := by
  have av : appV v (.lst ys) = some (.lst (ys ++ [v])) := if_pos hl
  simp only [evS, evs, okA, okR, hx, bind_ok, okP, validP, List.length_nil, Nat.zero_add, decide_true, Bool.true_and, if_true, modS, modP, lstV, Option.map_some, Option.isSome_some, out_ok, ev_of he, av, oof_some]
theorem em_call1 {call : CallF} {env : Env} {c c' : PV} {f : Str} {as : List E} {xs : List PV} {x c2 : PV} (h : evs call 0 as env c = .ok xs c') (hc : call f xs .non = .ok x c2) : em call (.call f as) env c = .ok (0, x) c' := by
  show hi ((evs call 0 as env c).bind fun xs c => match call f xs .non with
      | .ok v _ => .ok v c
      | .exc e _ => .exc e c
      | .stuck => .stuck) = _
  rw [h, bind_ok, hc] <;> rfl
theorem evs_two {call : CallF} {env : Env} {c c1 c2 : PV} {a b : E} {k : Nat} {x y : PV} (ha : em call a env c = .ok (0, x) c1) (hb : em call b env c1 = .ok (0, y) c2) : evs call k [a, b] env c = .ok [x, y] c2 := by simp [evs, lo, Res.bind, ha, hb]
end PVL
end

section
set_option Elab.async false
set_option linter.all false
set_option maxRecDepth 100000
set_option maxHeartbeats 8000000
/-! PVM28: the law of poses by shape, a turn. -/
namespace PVL
open PySem (Str)
def k10_law : Fn := ⟨"law", ["script", "cup", "turn", "figure", "floor", "setting", "depths", "least", "at", "values", "value", "odds", "length", "deep", "told", "two", "tie", "one", "other", "depth", "bad", "odd"], 1, false, (some 1), 0, [
    .setc 1 (.call "_law_cup" [.var 0]),
    .for_ (.nm 2) .rng1 [.con (.int 8)] [.set 3 false (.callc "_law_figure" [.con (.int 8), .con (.int 6)]), .unp (.tup [.nm 4, .nm 5]) (.tup [.ix (.var 3) (.con (.int 3)), .callc "_law_setting" [.var 3]]), .set 6 false (.call "_law_pose" [.var 3, .var 5]), .ife (.is true .tt (.call "is_pose" [.var 3, .var 6])) [.ret (.con (.bl false))] [], .set 7 false (.call "least_setting" [.var 3, .var 6]), .ife (.or (.not (.call "_law_same" [.var 7, .b1 .tuple (.comp [16] (.nm 16) .seq [.ix (.var 3) (.con (.int 2))] [] 0 (.ix (.var 6) (.var 16)))])) (.or (.not (.call "_law_same" [.call "pose" [.var 3, .var 7], .var 6])) (.cmp .ne (.comp [17, 18] (.tup [.nm 17, .nm 18]) .zip [.var 7, .var 5] [.cmp .gt (.var 17) (.var 18)] 0 (.con (.int 1))) (.lst 0 [])))) [.ret (.con (.bl false))] [], .set 8 false (.callc "_law_roll" [.ix (.var 3) (.con (.int 0))]), .set 9 true (.lst 0 [.b1 .tuple (.comp [19] (.nm 19) .seq [.var 6] [] 0 (.b2 .max (.con (.int 0)) (.op .sub (.var 19) (.con (.int 1))))), .b1 .tuple (.comp [19] (.nm 19) .seq [.var 6] [] 0 (.b2 .min (.var 4) (.op .add (.var 19) (.con (.int 1))))), .rev (.var 6) [], .op .mul (.tup [.con (.int 0)]) (.ix (.var 3) (.con (.int 0))), .op .mul (.tup [.var 4]) (.ix (.var 3) (.con (.int 0)))]), .set 9 true (.op .add (.var 9) (.comp [17] (.nm 17) .seq [.tup [.con (.int 0), .var 4, .b2 .max (.con (.int 0)) (.op .sub (.ix (.var 6) (.var 8)) (.con (.int 1))), .b2 .min (.var 4) (.op .add (.ix (.var 6) (.var 8)) (.con (.int 1)))]] [] 0 (.op .add (.op .add (.sl (.var 6) false true [.var 8]) (.tup [.var 17])) (.sl (.var 6) true false [.op .add (.var 8) (.con (.int 1))])))), .app 9 [] (.b1 .tuple (.comp [19] (.nm 19) .seq [.var 6] [] 0 (.callc "_law_roll" [.op .add (.var 4) (.con (.int 1))]))), .frz 9, .for_ (.nm 10) .seq [.var 9] [.ife (.not (.call "_law_same" [.call "is_pose" [.var 3, .var 10], .call "_law_is_pose" [.var 3, .var 10]])) [.ret (.con (.bl false))] []], .set 11 false (.lst 0 [.con .non, .tup [], .b1 .list (.var 6), .sl (.var 6) true false [.con (.int 1)], .op .add (.var 6) (.tup [.con (.int 0)]), .con (.int 7), .con (.str "pose"), .op .mul (.tup [.op .add (.var 4) (.con (.int 1))]) (.ix (.var 3) (.con (.int 0))), .op .mul (.tup [.neg (.con (.int 1))]) (.ix (.var 3) (.con (.int 0))), .op .mul (.tup [.con (.bl false)]) (.ix (.var 3) (.con (.int 0)))]), .set 11 false (.op .add (.var 11) (.comp [20] (.nm 20) .seq [.tup [.con .non, .con (.str "0"), .tup [.con (.int 0)]]] [] 0 (.op .add (.op .add (.sl (.var 6) false true [.var 8]) (.tup [.var 20])) (.sl (.var 6) true false [.op .add (.var 8) (.con (.int 1))])))), .ife (.cmp .ne (.comp [21] (.nm 21) .seq [.var 11] [.is true .ff (.call "is_pose" [.var 3, .var 21])] 0 (.var 21)) (.lst 0 [])) [.ret (.con (.bl false))] []],
    .par [12, 13] [.op .add (.con (.int 1)) (.callc "_law_roll" [.con (.int 9)]), .callc "_law_roll" [.con (.int 10)]],
    .set 3 false (.tup [.con (.int 3), .tup [.tup [.con (.int 0), .con (.int 1), .var 12]], .tup [.con (.int 0)], .con (.int 30)]),
    .set 14 false (.comp [10] (.nm 10) .seq [.tup [.tup [.var 13, .op .add (.var 13) (.var 12), .con (.int 30)], .tup [.var 13, .op .sub (.op .add (.var 13) (.var 12)) (.con (.int 1)), .con (.int 30)], .tup [.var 13, .op .add (.var 13) (.var 12), .con (.int 29)], .tup [.con (.int 30), .con (.int 30), .con (.int 30)], .tup [.op .sub (.con (.int 30)) (.var 12), .con (.int 30), .con (.int 30)], .tup [.op .sub (.con (.int 31)) (.var 12), .con (.int 30), .con (.int 30)]]] [] 0 (.call "is_pose" [.var 3, .var 10])),
    .ife (.cmp .ne (.var 14) (.lst 0 [.con (.bl true), .con (.bl false), .con (.bl false), .con (.bl true), .con (.bl true), .con (.bl true)])) [.ret (.con (.bl false))] [],
    .set 15 false (.tup [.con (.int 2), .tup [.tup [.con (.int 0), .con (.int 1), .var 12]], .tup [.con (.int 0), .con (.int 1)], .con (.int 30)]),
    .set 14 false (.comp [10] (.nm 10) .seq [.tup [.tup [.var 13, .var 13], .tup [.var 13, .op .add (.var 13) (.var 12)], .tup [.var 13, .op .add (.op .add (.var 13) (.var 12)) (.con (.int 1))], .tup [.op .add (.var 13) (.var 12), .var 13], .tup [.op .add (.op .add (.var 13) (.var 12)) (.con (.int 1)), .var 13]]] [] 0 (.call "is_pose" [.var 15, .var 10])),
    .ret (.and (.cmp .eq (.var 14) (.lst 0 [.con (.bl true), .con (.bl true), .con (.bl false), .con (.bl true), .con (.bl false)])) (.is false .ff (.call "is_pose" [.tup [.con (.int 1), .tup [], .tup [.con (.int 0)], .con (.int 1)], .tup [.con (.bl true)]])))]⟩
abbrev k10_body : List S := [.set 3 false (.callc "_law_figure" [.con (.int 8), .con (.int 6)]), .unp (.tup [.nm 4, .nm 5]) (.tup [.ix (.var 3) (.con (.int 3)), .callc "_law_setting" [.var 3]]), .set 6 false (.call "_law_pose" [.var 3, .var 5]), .ife (.is true .tt (.call "is_pose" [.var 3, .var 6])) [.ret (.con (.bl false))] [], .set 7 false (.call "least_setting" [.var 3, .var 6]), .ife (.or (.not (.call "_law_same" [.var 7, .b1 .tuple (.comp [16] (.nm 16) .seq [.ix (.var 3) (.con (.int 2))] [] 0 (.ix (.var 6) (.var 16)))])) (.or (.not (.call "_law_same" [.call "pose" [.var 3, .var 7], .var 6])) (.cmp .ne (.comp [17, 18] (.tup [.nm 17, .nm 18]) .zip [.var 7, .var 5] [.cmp .gt (.var 17) (.var 18)] 0 (.con (.int 1))) (.lst 0 [])))) [.ret (.con (.bl false))] [], .set 8 false (.callc "_law_roll" [.ix (.var 3) (.con (.int 0))]), .set 9 true (.lst 0 [.b1 .tuple (.comp [19] (.nm 19) .seq [.var 6] [] 0 (.b2 .max (.con (.int 0)) (.op .sub (.var 19) (.con (.int 1))))), .b1 .tuple (.comp [19] (.nm 19) .seq [.var 6] [] 0 (.b2 .min (.var 4) (.op .add (.var 19) (.con (.int 1))))), .rev (.var 6) [], .op .mul (.tup [.con (.int 0)]) (.ix (.var 3) (.con (.int 0))), .op .mul (.tup [.var 4]) (.ix (.var 3) (.con (.int 0)))]), .set 9 true (.op .add (.var 9) (.comp [17] (.nm 17) .seq [.tup [.con (.int 0), .var 4, .b2 .max (.con (.int 0)) (.op .sub (.ix (.var 6) (.var 8)) (.con (.int 1))), .b2 .min (.var 4) (.op .add (.ix (.var 6) (.var 8)) (.con (.int 1)))]] [] 0 (.op .add (.op .add (.sl (.var 6) false true [.var 8]) (.tup [.var 17])) (.sl (.var 6) true false [.op .add (.var 8) (.con (.int 1))])))), .app 9 [] (.b1 .tuple (.comp [19] (.nm 19) .seq [.var 6] [] 0 (.callc "_law_roll" [.op .add (.var 4) (.con (.int 1))]))), .frz 9, .for_ (.nm 10) .seq [.var 9] [.ife (.not (.call "_law_same" [.call "is_pose" [.var 3, .var 10], .call "_law_is_pose" [.var 3, .var 10]])) [.ret (.con (.bl false))] []], .set 11 false (.lst 0 [.con .non, .tup [], .b1 .list (.var 6), .sl (.var 6) true false [.con (.int 1)], .op .add (.var 6) (.tup [.con (.int 0)]), .con (.int 7), .con (.str "pose"), .op .mul (.tup [.op .add (.var 4) (.con (.int 1))]) (.ix (.var 3) (.con (.int 0))), .op .mul (.tup [.neg (.con (.int 1))]) (.ix (.var 3) (.con (.int 0))), .op .mul (.tup [.con (.bl false)]) (.ix (.var 3) (.con (.int 0)))]), .set 11 false (.op .add (.var 11) (.comp [20] (.nm 20) .seq [.tup [.con .non, .con (.str "0"), .tup [.con (.int 0)]]] [] 0 (.op .add (.op .add (.sl (.var 6) false true [.var 8]) (.tup [.var 20])) (.sl (.var 6) true false [.op .add (.var 8) (.con (.int 1))])))), .ife (.cmp .ne (.comp [21] (.nm 21) .seq [.var 11] [.is true .ff (.call "is_pose" [.var 3, .var 21])] 0 (.var 21)) (.lst 0 [])) [.ret (.con (.bl false))] []]
structure K10 (P : Prog) : Prop extends FigD P where
  isp : P.fn "is_pose" = some f_is_pose
  nf : P.fn "need_figure" = some f_need_figure
  fp : P.fn "fits_pose" = some f_fits_pose
  fd : P.fn "fits_depths" = some f_fits_depths
  kl : P.fn "keeps_limbs" = some f_keeps_limbs
  pb : P.fn "pose_by" = some f_pose_by
  lb : P.fn "least_by" = some f_least_by
  tb : P.fn "table_of" = some f_table_of
  ls : P.fn "least_setting" = some f_least_setting
  np : P.fn "need_pose" = some f_need_pose
  po : P.fn "pose" = some f_pose
  ns : P.fn "need_set" = some f_need_set
  nst : P.fn "need_setting" = some f_need_setting
  fs : P.fn "fits_setting" = some f_fits_setting
  pi : P.fn "pose_in" = some f_pose_in
  cu : CupAt P
  ro : RollAt P
  so : P.fn "_law_some" = some f__law_some
  sa : P.fn "_law_same" = some f__law_same
  fi : P.fn "_law_figure" = some f__law_figure
  se : P.fn "_law_setting" = some f__law_setting
  lp : P.fn "_law_pose" = some f__law_pose
  li : P.fn "_law_is_pose" = some f__law_is_pose
theorem exB_step {call : CallF} {fr : List Str} {s : S} {ss : List S} {env env1 : Env} {c c1 : PV} {Q : Env → PV → Prop} (h : evS call fr s env c = .nx env1 c1) (h2 : ∃ env' c', evB call fr ss env1 c1 = .nx env' c' ∧ Q env' c') : ∃ env' c', evB call fr (s :: ss) env c = .nx env' c' ∧ Q env' c' := by
  rw [evB_cons, h, obind_nx]
  exact h2
theorem st_pass_if {call : CallF} {fr : List Str} {env : Env} {c c' : PV} {t : E} {a : List S} {n : Nat} {v : PV} (h : em call t env c = .ok (n, v) c') (hn : n ≤ 1000) (hv : truth v = some false) : evS call fr (.ife t a []) env c = .nx env c' := by
  rw [st_ife_f h hn hv] <;> rfl
/-- what is no depths, in the law's list -/
def oddsD (xs : List PV) (n : Nat) (fl : Int) : List PV := [.non, .tup [], .lst xs, .tup (xs.drop 1), .tup (xs ++ [.int 0]), .int 7, .str "pose", rep n (.int (fl + 1)), rep n (.int (-1)), rep n (.bl false)]
theorem oddsD_no {xs : List PV} {n : Nat} {fl : Int} (hx : xs.length = n) (h1 : 1 ≤ n) (f1 : 1 ≤ fl) (f2 : fl ≤ 30) {t : Nat} (ht : t < n) : ∀ o ∈ oddsD xs n fl ++ [PV.non, .str "0", .tup [.int 0]].map (putAt xs t), fitsSetting n fl o = false := by
  intro o ho
  have w1 : whole (.int (fl + 1)) 0 fl = false := by unfold whole; simp; omega
  have w2 : whole (.int (-1)) 0 fl = false := by unfold whole; simp
  rcases List.mem_append.mp ho with h | h
  · unfold oddsD at h
    simp only [List.mem_cons, List.not_mem_nil, or_false] at h
    rcases h with e | e | e | e | e | e | e | e | e | e <;> subst e
    · rfl
    · exact fs_len (by simp; omega)
    · rfl
    · exact fs_len (by rw [List.length_drop]; omega)
    · exact fs_len (by rw [List.length_append, List.length_singleton]; omega)
    · rfl
    · rfl
    · exact fs_rep h1 w1
    · exact fs_rep h1 w2
    · exact fs_rep h1 rfl
  · obtain ⟨v, hv, rfl⟩ := List.mem_map.mp h
    refine fs_no (y := v) (by simp) ?_
    simp only [List.mem_cons, List.not_mem_nil, or_false] at hv
    rcases hv with e | e | e <;> subst e <;> rfl
theorem okV_rep {n : Nat} {v : PV} (h : okV v = true) : okV (rep n v) = true := by
  unfold rep okV
  exact okVs_all fun y hy => by rw [(List.mem_replicate.mp hy).2]; exact h
theorem okV_put {xs : List PV} {t : Nat} {v : PV} (hx : ∀ x ∈ xs, okV x = true) (hv : okV v = true) : okV (putAt xs t v) = true := by
  unfold putAt okV
  refine okVs_all fun y hy => ?_
  rcases List.mem_append.mp hy with e | e
  · rcases List.mem_append.mp e with e | e
    · exact hx y (List.mem_of_mem_take e)
    · have : y = v := by simpa using e
      subst this; exact hv
  · exact hx y (List.mem_of_mem_drop e)
theorem oddsD_ok {xs : List PV} {n : Nat} {fl : Int} {t : Nat} (hx : ∀ x ∈ xs, okV x = true) : ∀ o ∈ oddsD xs n fl ++ [PV.non, .str "0", .tup [.int 0]].map (putAt xs t), okV o = true := by
  intro o ho
  have tup : ∀ ys : List PV, (∀ y ∈ ys, okV y = true) → okV (.tup ys) = true := fun ys h => by unfold okV; exact okVs_all h
  rcases List.mem_append.mp ho with h | h
  · unfold oddsD at h
    simp only [List.mem_cons, List.not_mem_nil, or_false] at h
    rcases h with e | e | e | e | e | e | e | e | e | e <;> subst e
    · rfl
    · rfl
    · unfold okV; exact okVs_all hx
    · exact tup _ fun y hy => hx y (List.mem_of_mem_drop hy)
    · exact tup _ fun y hy => by
        rcases List.mem_append.mp hy with e | e
        · exact hx y e
        · have : y = .int 0 := by simpa using e
          rw [this] <;> rfl
    · rfl
    · rfl
    · exact okV_rep rfl
    · exact okV_rep rfl
    · exact okV_rep rfl
  · obtain ⟨v, hv, rfl⟩ := List.mem_map.mp h
    simp only [List.mem_cons, List.not_mem_nil, or_false] at hv
    rcases hv with e | e | e <;> subst e <;> exact okV_put hx rfl
/-- the law's slots -/
def E10 (S s2 s3 s4 s5 s6 s7 s8 s9 s10 s11 : Option Slot) : Env := [S, none, s2, s3, s4, s5, s6, s7, s8, s9, s10, s11, none, none, none, none, none, none, none, none, none, none]
theorem plain_ints (ds : List Int) (h : ds.length ≤ 1000) : plainV 1 (intsV ds) := ⟨by rw [List.length_map]; exact h, fun x hx => by
  obtain ⟨i, _, rfl⟩ := List.mem_map.mp hx
  trivial⟩
section
variable {P : Prog} (D : K10 P)
include D
/-- is_pose of depths -/
theorem K10.isp_ok {f : Fig} (hf : f.Ok) {ds : List Int} (hl : ds.length = f.n) (hr : ∀ d ∈ ds, 0 ≤ d ∧ d ≤ f.fl) (k : Nat) : callF P (k + 5) "is_pose" [f.v, intsV ds] .non = .ok (.bl (isPoseB f ds)) .non :=
  is_pose_of D.toFigD D.isp D.nf k hf (fits_pose_ok D.toFigD D.fp D.fd D.kl D.pb D.lb D.tb (k + 1) hf hl hr)
theorem K10.isp_no {f : Fig} (hf : f.Ok) {v : PV} (hv : okV v = true) (hn : fitsSetting f.n f.fl v = false) (k : Nat) : callF P (k + 5) "is_pose" [f.v, v] .non = .ok (.bl false) .non :=
  is_pose_of D.toFigD D.isp D.nf k hf (fits_pose_no D.toFigD D.fp D.fd (k + 1) hv hn)
theorem k10_turn (S s2 s3 s4 s5 s6 s7 s8 s9 s10 s11 : Option Slot) (a b : Int) : ∃ env' c', evB (callF P 39) P.fr k10_body (E10 S s2 s3 s4 s5 s6 s7 s8 s9 s10 s11) (cup a b) = .nx env' c' ∧ IsCup c' ∧ ∃ s3 s4 s5 s6 s7 s8 s9 s10 s11, env' = E10 S s2 s3 s4 s5 s6 s7 s8 s9 s10 s11 := by
  obtain ⟨v, a1, b1, q1, hv, _⟩ := law_figure_ok D.fi D.so D.ro 36 (most := 8) (strings := 6) (by omega) (by omega) (by omega) (by omega) a b
  obtain ⟨f, rfl, hf⟩ := fig_of hv
  have n1 := hf.n1; have n8 := hf.n8; have f1 := hf.f1; have f30 := hf.f30; have t6 := hf.t6
  refine exB_step (st_set (em_callc rfl q1)) ?_
  obtain ⟨F, hF⟩ : ∃ F : Option Slot, F = some ⟨0, f.v⟩ := ⟨_, rfl⟩
  show ∃ env' c', evB _ _ _ (E10 S s2 (some ⟨0, f.v⟩) s4 s5 s6 s7 s8 s9 s10 s11) (cup a1 b1) = _ ∧ _
  -- floor, setting
  obtain ⟨xs, a2, b2, q2, hxl, hx⟩ := law_setting_ok D.se D.so D.ro 36 (.int f.n) (.tup (f.ls.map l3V)) (f.ts.map PV.int) f.fl hf.f1 hf.f30 (by rw [List.length_map]; exact hf.t6) a1 b1
  rw [List.length_map] at hxl
  obtain ⟨ss, rfl, hs⟩ := ints_of (ts := xs) (p := fun i => 0 ≤ i ∧ i ≤ f.fl) hx
  rw [List.length_map] at hxl
  have hs0 : ∀ s ∈ ss, 0 ≤ s := fun s h => (hs s h).1
  refine exB_step (st_unp2 (x := .int f.fl) (y := intsV ss) (c1 := cup a1 b1) (c2 := cup a2 b2) rfl (em_callc (c' := cup a1 b1) rfl q2)) ?_
  show ∃ env' c', evB _ _ _ (E10 S s2 (some ⟨0, f.v⟩) (some ⟨0, .int f.fl⟩) (some ⟨0, intsV ss⟩) s6 s7 s8 s9 s10 s11) (cup a2 b2) = _ ∧ _
  -- depths
  obtain ⟨ds, hds⟩ : ∃ ds, ds = f.pose ss := ⟨_, rfl⟩
  have q3 : callF P 39 "_law_pose" [f.v, intsV ss] .non = .ok (intsV ds) .non := by rw [hds]; exact law_pose_ok D.lp 38 hf ss
  have dl : ds.length = f.n := by rw [hds]; exact pose_len hf hs0
  have dr : ∀ d ∈ ds, 0 ≤ d ∧ d ≤ f.fl := by rw [hds]; exact pose_range hf hs0
  refine exB_step (st_set (em_call1 (xs := [f.v, intsV ss]) rfl q3)) ?_
  show ∃ env' c', evB _ _ _ (E10 S s2 (some ⟨0, f.v⟩) (some ⟨0, .int f.fl⟩) (some ⟨0, intsV ss⟩) (some ⟨0, intsV ds⟩) s7 s8 s9 s10 s11) (cup a2 b2) = _ ∧ _
  -- is_pose
  have pT : isPoseB f ds = true := by rw [hds]; exact isPose_pose hf hxl hs0
  have q4 := D.isp_ok hf dl dr 34
  rw [pT] at q4
  have e4 : em (callF P 39) (.is true .tt (.call "is_pose" [.var 3, .var 6])) (E10 S s2 (some ⟨0, f.v⟩) (some ⟨0, .int f.fl⟩) (some ⟨0, intsV ss⟩) (some ⟨0, intsV ds⟩) s7 s8 s9 s10 s11) (cup a2 b2) = .ok (0, .bl false) (cup a2 b2) := by
    have := em_call1 (call := callF P 39) (f := "is_pose") (as := [.var 3, .var 6]) (env := E10 S s2 (some ⟨0, f.v⟩) (some ⟨0, .int f.fl⟩) (some ⟨0, intsV ss⟩) (some ⟨0, intsV ds⟩) s7 s8 s9 s10 s11) (c := cup a2 b2) (c' := cup a2 b2) (xs := [f.v, intsV ds]) rfl q4
    show hi ((lo 0 (em (callF P 39) (.call "is_pose" [.var 3, .var 6]) _ (cup a2 b2))).bind _) = _
    rw [this] <;> rfl
  refine exB_step (st_pass_if e4 (by omega) rfl) ?_
  -- least
  have q5 := least_setting_ok D.toFigD D.ls D.np D.nf D.lb 33 hf dl (by rw [← pT]; exact fits_pose_ok D.toFigD D.fp D.fd D.kl D.pb D.lb D.tb 34 hf dl dr)
  obtain ⟨le, hle⟩ : ∃ le, le = f.least ds := ⟨_, rfl⟩
  rw [← hle] at q5
  have lel : le.length = f.ts.length := by rw [hle]; unfold Fig.least; rw [List.length_map]
  have ler : ∀ s ∈ le, 0 ≤ s ∧ s ≤ f.fl := by rw [hle]; exact least_ok' hf dl dr
  refine exB_step (st_set (em_call1 (xs := [f.v, intsV ds]) rfl q5)) ?_
  show ∃ env' c', evB _ _ _ (E10 S s2 (some ⟨0, f.v⟩) (some ⟨0, .int f.fl⟩) (some ⟨0, intsV ss⟩) (some ⟨0, intsV ds⟩) (some ⟨0, intsV le⟩) s8 s9 s10 s11) (cup a2 b2) = _ ∧ _
  obtain ⟨env1, he1⟩ : ∃ env1, env1 = E10 S s2 (some ⟨0, f.v⟩) (some ⟨0, .int f.fl⟩) (some ⟨0, intsV ss⟩) (some ⟨0, intsV ds⟩) (some ⟨0, intsV le⟩) s8 s9 s10 s11 := ⟨_, rfl⟩
  rw [← he1]
  -- least, pose of least, no string longer
  have g6 : em (callF P 39) (.b1 .tuple (.comp [16] (.nm 16) .seq [.ix (.var 3) (.con (.int 2))] [] 0 (.ix (.var 6) (.var 16)))) env1 (cup a2 b2) = .ok (0, intsV le) (cup a2 b2) := by
    rw [hle, he1]
    exact em_least (callF P 39) hf dl rfl rfl (by simp [E10]) (by omega) (by omega) _
  have q6 := same_ok D.sa 1 37 (intsV le) (plain_ints le (by omega))
  have h6 : em (callF P 39) (.call "_law_same" [.var 7, .b1 .tuple (.comp [16] (.nm 16) .seq [.ix (.var 3) (.con (.int 2))] [] 0 (.ix (.var 6) (.var 16)))]) env1 (cup a2 b2) = .ok (0, .bl true) (cup a2 b2) :=
    em_call1 (evs_two (by rw [he1] <;> rfl) g6) q6
  have q7 := pose_ok D.toFigD D.po D.ns D.nf D.nst D.fs D.pi D.pb D.tb 33 hf lel ler
  have e7 : f.pose le = ds := by rw [hle, hds]; exact pose_least hf hxl hs0
  rw [e7] at q7
  have g7 : em (callF P 39) (.call "pose" [.var 3, .var 7]) env1 (cup a2 b2) = .ok (0, intsV ds) (cup a2 b2) := em_call1 (xs := [f.v, intsV le]) (by rw [he1] <;> rfl) q7
  have q8 := same_ok D.sa 1 37 (intsV ds) (plain_ints ds (by omega))
  have h7 : em (callF P 39) (.call "_law_same" [.call "pose" [.var 3, .var 7], .var 6]) env1 (cup a2 b2) = .ok (0, .bl true) (cup a2 b2) :=
    em_call1 (evs_two g7 (by rw [he1] <;> rfl)) q8
  have lz : ∀ z ∈ le.zip ss, z.1 ≤ z.2 := by
    intro z hz
    rw [hle] at hz
    unfold Fig.least at hz
    rw [List.zip_map_left, List.mem_map] at hz
    obtain ⟨y, hy, rfl⟩ := hz
    rw [hds]
    exact (hf.great hs0).st.ties y hy
  have h8 : em (callF P 39) (.cmp .ne (.comp [17, 18] (.tup [.nm 17, .nm 18]) .zip [.var 7, .var 5] [.cmp .gt (.var 17) (.var 18)] 0 (.con (.int 1))) (.lst 0 [])) env1 (cup a2 b2) = .ok (0, .bl false) (cup a2 b2) := by
    have q := comp_pure (call := callF P 39) (own := [17, 18]) (tg := .tup [.nm 17, .nm 18]) (k := .zip) (srcs := [.var 7, .var 5]) (conds := [.cmp .gt (.var 17) (.var 18)]) (d := 0) (elt := .con (.int 1)) (env := env1) (c := cup a2 b2) (fun _ => false) (fun z => z) (ss := [intsV le, intsV ss]) (xs := (le.zip ss).map prV) (by rw [he1] <;> rfl) (by show some _ = _; rw [zip_ints]) fun z hz => by
      obtain ⟨y, hy, rfl⟩ := List.mem_map.mp hz
      have := lz y hy
      have hn : ¬ y.2 < y.1 := by omega
      refine ⟨_, rfl, ?_, fun w => by cases w⟩
      rw [he1]
      simp [E10, prV, evc, em, lo, hi, wipe, tst, truth, Res.bind, Res.of, cmp, hn]
    rw [filter_nil (fun _ _ => rfl)] at q
    simp [em, evs, lo, hi, Res.bind, Res.of, cmp, isData, isDataL, eqv, eqvL, ↓q]
  have e8 : em (callF P 39) (.or (.not (.call "_law_same" [.var 7, .b1 .tuple (.comp [16] (.nm 16) .seq [.ix (.var 3) (.con (.int 2))] [] 0 (.ix (.var 6) (.var 16)))])) (.or (.not (.call "_law_same" [.call "pose" [.var 3, .var 7], .var 6])) (.cmp .ne (.comp [17, 18] (.tup [.nm 17, .nm 18]) .zip [.var 7, .var 5] [.cmp .gt (.var 17) (.var 18)] 0 (.con (.int 1))) (.lst 0 [])))) env1 (cup a2 b2) = .ok (0, .bl false) (cup a2 b2) := by
    simp [em, lo, hi, tst, truth, Res.bind, Res.of, ↓h6, ↓h7, ↓h8]
  refine exB_step (st_pass_if e8 (by omega) rfl) ?_
  -- at
  obtain ⟨r, a3, b3, q9, r0, r1⟩ := em_roll D.ro (n := 38) (env := env1) (e := .ix (.var 3) (.con (.int 0))) (a := a2) (b := b2) (a1 := a2) (b1 := b2) (m := f.n) (by rw [he1] <;> rfl) (by omega) (by omega)
  obtain ⟨t, rfl⟩ : ∃ t : Nat, r = t := ⟨r.toNat, by omega⟩
  have tl : t < f.n := by omega
  refine exB_step (st_set q9) ?_
  rw [he1]
  clear q9 g6 h6 g7 h7 h8 e8 he1 env1
  show ∃ env' c', evB _ _ _ (E10 S s2 (some ⟨0, f.v⟩) (some ⟨0, .int f.fl⟩) (some ⟨0, intsV ss⟩) (some ⟨0, intsV ds⟩) (some ⟨0, intsV le⟩) (some ⟨0, .int (t : Int)⟩) s9 s10 s11) (cup a3 b3) = _ ∧ _
  -- values
  have Z1 : em (callF P 39) (.b1 .tuple (.comp [19] (.nm 19) .seq [.var 6] [] 0 (.b2 .max (.con (.int 0)) (.op .sub (.var 19) (.con (.int 1)))))) (E10 S s2 (some ⟨0, f.v⟩) (some ⟨0, .int f.fl⟩) (some ⟨0, intsV ss⟩) (some ⟨0, intsV ds⟩) (some ⟨0, intsV le⟩) (some ⟨0, .int (t : Int)⟩) s9 s10 s11) (cup a3 b3) = .ok (0, intsV (ds.map fun d => if d - 1 > 0 then d - 1 else 0)) (cup a3 b3) :=
    em_mapd (fun d => if d - 1 > 0 then d - 1 else 0) rfl fun d hd => by simp [E10, em, lo, hi, Res.bind, Res.of, op2, PVL.b2]
  have Z2 : em (callF P 39) (.b1 .tuple (.comp [19] (.nm 19) .seq [.var 6] [] 0 (.b2 .min (.var 4) (.op .add (.var 19) (.con (.int 1)))))) (E10 S s2 (some ⟨0, f.v⟩) (some ⟨0, .int f.fl⟩) (some ⟨0, intsV ss⟩) (some ⟨0, intsV ds⟩) (some ⟨0, intsV le⟩) (some ⟨0, .int (t : Int)⟩) s9 s10 s11) (cup a3 b3) = .ok (0, intsV (ds.map fun d => if d + 1 < f.fl then d + 1 else f.fl)) (cup a3 b3) :=
    em_mapd (fun d => if d + 1 < f.fl then d + 1 else f.fl) rfl fun d hd => by simp [E10, em, lo, hi, Res.bind, Res.of, op2, PVL.b2]
  have m1 : op2 .mul (.tup [.int 0]) (.int f.n) = some (rep f.n (.int 0)) := mul_rep n1 (by omega) _
  have m2 : op2 .mul (.tup [.int f.fl]) (.int f.n) = some (rep f.n (.int f.fl)) := mul_rep n1 (by omega) _
  have i30 : item f.v (.int 0) = some (.int f.n) := rfl
  have dnf : ∀ k, downD k f.v = 0 := fun _ => rfl
  have rv : revV (intsV ds) none = some (.tup (ds.map PV.int).reverse) := by
    show some (PV.tup ((ds.map PV.int).take (ds.map PV.int).length).reverse) = _
    rw [List.take_length]
  obtain ⟨V1, hV1⟩ : ∃ V1 : List PV, V1 = [intsV (ds.map fun d => if d - 1 > 0 then d - 1 else 0), intsV (ds.map fun d => if d + 1 < f.fl then d + 1 else f.fl), .tup (ds.map PV.int).reverse, rep f.n (.int 0), rep f.n (.int f.fl)] := ⟨_, rfl⟩
  have gV1 : ∀ x ∈ V1, DepV f.n f.fl x := by
    rw [hV1]
    intro x hx
    simp only [List.mem_cons, List.not_mem_nil, or_false] at hx
    rcases hx with e | e | e | e | e <;> subst e
    · exact dep_map dl fun d hd => by have := dr d hd; split <;> omega
    · exact dep_map dl fun d hd => by have := dr d hd; split <;> omega
    · exact dep_rev dl dr
    · exact dep_rep (by omega) (by omega)
    · exact dep_rep (by omega) (by omega)
  refine exB_step (st_own (x := .lst V1) (c' := cup a3 b3) ?_) ?_
  · rw [hV1]
    unfold E10 at Z1 Z2 ⊢
    simp [em, evs, evi, lo, hi, Res.bind, Res.of, i30, dnf, m1, m2, rv, ↓Z1, ↓Z2]
  show ∃ env' c', evB _ _ _ (E10 S s2 (some ⟨0, f.v⟩) (some ⟨0, .int f.fl⟩) (some ⟨0, intsV ss⟩) (some ⟨0, intsV ds⟩) (some ⟨0, intsV le⟩) (some ⟨0, .int (t : Int)⟩) (some ⟨1, .lst V1⟩) s10 s11) (cup a3 b3) = _ ∧ _
  -- more values
  have dt : ∃ x, PVN.gt ds t = x ∧ 0 ≤ x ∧ x ≤ f.fl := ⟨_, rfl, gt_mem (p := fun d => 0 ≤ d ∧ d ≤ f.fl) dr (by omega) (by omega)⟩
  obtain ⟨x, hx, x0, x1⟩ := dt
  have ix : item (intsV ds) (.int (t : Int)) = some (.int x) := by rw [← hx]; exact item_ints (by omega) (by omega)
  have dnd : ∀ k, downD k (intsV ds) = 0 := fun _ => rfl
  obtain ⟨V2, hV2⟩ : ∃ V2 : List PV, V2 = [.int 0, .int f.fl, .int (if x - 1 > 0 then x - 1 else 0), .int (if x + 1 < f.fl then x + 1 else f.fl)].map (putAt (ds.map PV.int) t) := ⟨_, rfl⟩
  have gV2 : ∀ y ∈ V2, DepV f.n f.fl y := by
    rw [hV2]
    intro y hy
    obtain ⟨z, hz, rfl⟩ := List.mem_map.mp hy
    simp only [List.mem_cons, List.not_mem_nil, or_false] at hz
    rcases hz with e | e | e | e <;> subst e <;> refine dep_put dl dr tl ?_ ?_ <;> first | omega | (split <;> omega)
  have h9 : em (callF P 39) (.comp [17] (.nm 17) .seq [.tup [.con (.int 0), .var 4, .b2 .max (.con (.int 0)) (.op .sub (.ix (.var 6) (.var 8)) (.con (.int 1))), .b2 .min (.var 4) (.op .add (.ix (.var 6) (.var 8)) (.con (.int 1)))]] [] 0 (.op .add (.op .add (.sl (.var 6) false true [.var 8]) (.tup [.var 17])) (.sl (.var 6) true false [.op .add (.var 8) (.con (.int 1))]))) (E10 S s2 (some ⟨0, f.v⟩) (some ⟨0, .int f.fl⟩) (some ⟨0, intsV ss⟩) (some ⟨0, intsV ds⟩) (some ⟨0, intsV le⟩) (some ⟨0, .int (t : Int)⟩) (some ⟨1, .lst V1⟩) s10 s11) (cup a3 b3) = .ok (0, .lst V2) (cup a3 b3) := by
    rw [hV2]
    refine comp_map (putAt (ds.map PV.int) t) (ss := [.tup [.int 0, .int f.fl, .int (if x - 1 > 0 then x - 1 else 0), .int (if x + 1 < f.fl then x + 1 else f.fl)]]) ?_ rfl fun z hz => ⟨_, rfl, ev_of (em_putAt rfl rfl rfl (by rw [List.length_map]; omega) (by rw [List.length_map]; omega))⟩
    simp [E10, em, evs, lo, hi, Res.bind, Res.of, op2, PVL.b2, ix, dnd]
  refine exB_step (st_own (add_lst (d1 := 1) (d2 := 0) (xs := V1) (ys := V2) rfl (by omega) h9 (by omega) (by rw [hV1, hV2]; simp))) ?_
  show ∃ env' c', evB _ _ _ (E10 S s2 (some ⟨0, f.v⟩) (some ⟨0, .int f.fl⟩) (some ⟨0, intsV ss⟩) (some ⟨0, intsV ds⟩) (some ⟨0, intsV le⟩) (some ⟨0, .int (t : Int)⟩) (some ⟨1, .lst (V1 ++ V2)⟩) s10 s11) (cup a3 b3) = _ ∧ _
  -- drawn values
  obtain ⟨es, a4, b4, q10, el, er⟩ := em_draws D.ro (k := 38) (env := E10 S s2 (some ⟨0, f.v⟩) (some ⟨0, .int f.fl⟩) (some ⟨0, intsV ss⟩) (some ⟨0, intsV ds⟩) (some ⟨0, intsV le⟩) (some ⟨0, .int (t : Int)⟩) (some ⟨1, .lst (V1 ++ V2)⟩) s10 s11) (x := 6) (y := 4) (t := 19) (xs := ds.map PV.int) (fl := f.fl) rfl rfl (by simp [E10]) (by omega) (by omega) (by omega) a3 b3
  rw [List.length_map] at el
  have vl : (V1 ++ V2).length = 9 := by rw [hV1, hV2]; rfl
  have s12 : evS (callF P 39) P.fr (.app 9 [] (.b1 .tuple (.comp [19] (.nm 19) .seq [.var 6] [] 0 (.callc "_law_roll" [.op .add (.var 4) (.con (.int 1))])))) (E10 S s2 (some ⟨0, f.v⟩) (some ⟨0, .int f.fl⟩) (some ⟨0, intsV ss⟩) (some ⟨0, intsV ds⟩) (some ⟨0, intsV le⟩) (some ⟨0, .int (t : Int)⟩) (some ⟨1, .lst (V1 ++ V2)⟩) s10 s11) (cup a3 b3) = .nx (E10 S s2 (some ⟨0, f.v⟩) (some ⟨0, .int f.fl⟩) (some ⟨0, intsV ss⟩) (some ⟨0, intsV ds⟩) (some ⟨0, intsV le⟩) (some ⟨0, .int (t : Int)⟩) (some ⟨1, .lst (V1 ++ V2 ++ [intsV es])⟩) s10 s11) (cup a4 b4) := by
    exact st_app0 rfl (by rw [vl]; unfold SZ; omega) q10
  refine exB_step s12 (exB_step (env1 := E10 S s2 (some ⟨0, f.v⟩) (some ⟨0, .int f.fl⟩) (some ⟨0, intsV ss⟩) (some ⟨0, intsV ds⟩) (some ⟨0, intsV le⟩) (some ⟨0, .int (t : Int)⟩) (some ⟨0, .lst (V1 ++ V2 ++ [intsV es])⟩) s10 s11) (c1 := cup a4 b4) rfl ?_)
  obtain ⟨V, hV⟩ : ∃ V, V = V1 ++ V2 ++ [intsV es] := ⟨_, rfl⟩
  have gV : ∀ y ∈ V, DepV f.n f.fl y := by
    rw [hV]
    intro y hy
    rcases List.mem_append.mp hy with q | q
    · rcases List.mem_append.mp q with q | q
      · exact gV1 y q
      · exact gV2 y q
    · have : y = intsV es := by simpa using q
      rw [this]
      exact ⟨es, rfl, by omega, er⟩
  rw [← hV]
  -- each value
  obtain ⟨env', c', e11, rfl, s10', rfl⟩ := forL_inv (tg := .nm 10) (f := fun env c => evB (callF P 39) P.fr [.ife (.not (.call "_law_same" [.call "is_pose" [.var 3, .var 10], .call "_law_is_pose" [.var 3, .var 10]])) [.ret (.con (.bl false))] []] env c) (I := fun _ env c' => c' = cup a4 b4 ∧ ∃ s10, env = E10 S s2 (some ⟨0, f.v⟩) (some ⟨0, .int f.fl⟩) (some ⟨0, intsV ss⟩) (some ⟨0, intsV ds⟩) (some ⟨0, intsV le⟩) (some ⟨0, .int (t : Int)⟩) (some ⟨0, .lst V⟩) s10 s11) V 0 (E10 S s2 (some ⟨0, f.v⟩) (some ⟨0, .int f.fl⟩) (some ⟨0, intsV ss⟩) (some ⟨0, intsV ds⟩) (some ⟨0, intsV le⟩) (some ⟨0, .int (t : Int)⟩) (some ⟨0, .lst V⟩) s10 s11) (cup a4 b4) (by
    intro i y env c' hy ⟨ec, s10, he⟩
    subst ec he
    obtain ⟨es, rfl, el, er⟩ := gV y (List.mem_of_getElem? hy)
    obtain ⟨env2, he2⟩ : ∃ env2, env2 = E10 S s2 (some ⟨0, f.v⟩) (some ⟨0, .int f.fl⟩) (some ⟨0, intsV ss⟩) (some ⟨0, intsV ds⟩) (some ⟨0, intsV le⟩) (some ⟨0, .int (t : Int)⟩) (some ⟨0, .lst V⟩) (some ⟨0, intsV es⟩) s11 := ⟨_, rfl⟩
    refine ⟨env2, env2, cup a4 b4, by rw [he2] <;> rfl, ?_, rfl, some ⟨0, intsV es⟩, he2⟩
    have p1 := D.isp_ok hf el er 34
    have p2 := law_is_pose_ok D.li D.lp 37 hf el
    rw [← isPose_eq hf el fun d h => (er d h).1] at p2
    have w1 : em (callF P 39) (.call "is_pose" [.var 3, .var 10]) env2 (cup a4 b4) = .ok (0, .bl (isPoseB f es)) (cup a4 b4) := em_call1 (xs := [f.v, intsV es]) (by rw [he2] <;> rfl) p1
    have w2 : em (callF P 39) (.call "_law_is_pose" [.var 3, .var 10]) env2 (cup a4 b4) = .ok (0, .bl (isPoseB f es)) (cup a4 b4) := em_call1 (xs := [f.v, intsV es]) (by rw [he2] <;> rfl) p2
    have w3 : em (callF P 39) (.call "_law_same" [.call "is_pose" [.var 3, .var 10], .call "_law_is_pose" [.var 3, .var 10]]) env2 (cup a4 b4) = .ok (0, .bl true) (cup a4 b4) := em_call1 (evs_two w1 w2) (same_ok D.sa 0 38 (.bl (isPoseB f es)) trivial)
    have w4 : em (callF P 39) (.not (.call "_law_same" [.call "is_pose" [.var 3, .var 10], .call "_law_is_pose" [.var 3, .var 10]])) env2 (cup a4 b4) = .ok (0, .bl false) (cup a4 b4) := by simp [em, lo, hi, tst, truth, Res.bind, Res.of, ↓w3]
    rw [evB_cons, st_pass_if w4 (by omega) rfl, obind_nx] <;> rfl) ⟨rfl, s10, rfl⟩
  refine exB_step ((st_for (vs := [.lst V]) (xs := V) rfl rfl).trans e11) ?_
  -- odds
  obtain ⟨O1, hO1⟩ : ∃ O1 : List PV, O1 = oddsD (ds.map PV.int) f.n f.fl := ⟨_, rfl⟩
  have m3 : op2 .mul (.tup [.int (f.fl + 1)]) (.int f.n) = some (rep f.n (.int (f.fl + 1))) := mul_rep n1 (by omega) _
  have m4 : op2 .mul (.tup [.int (-1)]) (.int f.n) = some (rep f.n (.int (-1))) := mul_rep n1 (by omega) _
  have m5 : op2 .mul (.tup [.bl false]) (.int f.n) = some (rep f.n (.bl false)) := mul_rep n1 (by omega) _
  have sl1 : slice (.tup (ds.map PV.int)) (some 1) none = some (.tup ((ds.map PV.int).drop 1)) := by
    show some (PV.tup (cutV (ds.map PV.int) (some 1) none)) = _
    rw [cut_tail]
  have ad0 : op2 .add (.tup (ds.map PV.int)) (.tup [.int 0]) = some (.tup (ds.map PV.int ++ [.int 0])) := if_pos (by rw [List.length_map]; show ds.length + 1 ≤ SZ; unfold SZ; omega)
  have ad1 : op2 .add (.int f.fl) (.int 1) = some (.int (f.fl + 1)) := rfl
  refine exB_step (st_set (x := .lst O1) (c' := cup a4 b4) ?_) ?_
  · rw [hO1]
    unfold oddsD
    unfold intsV
    simp [E10, em, evs, evi, lo, hi, Res.bind, Res.of, PVL.b1, seq?, int?, i30, dnf, m3, m4, m5, sl1, ad0, ad1]
  show ∃ env' c', evB _ _ _ (E10 S s2 (some ⟨0, f.v⟩) (some ⟨0, .int f.fl⟩) (some ⟨0, intsV ss⟩) (some ⟨0, intsV ds⟩) (some ⟨0, intsV le⟩) (some ⟨0, .int (t : Int)⟩) (some ⟨0, .lst V⟩) s10' (some ⟨0, .lst O1⟩)) (cup a4 b4) = _ ∧ _
  obtain ⟨O2, hO2⟩ : ∃ O2 : List PV, O2 = [PV.non, .str "0", .tup [.int 0]].map (putAt (ds.map PV.int) t) := ⟨_, rfl⟩
  have h14 : em (callF P 39) (.comp [20] (.nm 20) .seq [.tup [.con .non, .con (.str "0"), .tup [.con (.int 0)]]] [] 0 (.op .add (.op .add (.sl (.var 6) false true [.var 8]) (.tup [.var 20])) (.sl (.var 6) true false [.op .add (.var 8) (.con (.int 1))]))) (E10 S s2 (some ⟨0, f.v⟩) (some ⟨0, .int f.fl⟩) (some ⟨0, intsV ss⟩) (some ⟨0, intsV ds⟩) (some ⟨0, intsV le⟩) (some ⟨0, .int (t : Int)⟩) (some ⟨0, .lst V⟩) s10' (some ⟨0, .lst O1⟩)) (cup a4 b4) = .ok (0, .lst O2) (cup a4 b4) := by
    rw [hO2]
    exact comp_map (putAt (ds.map PV.int) t) (ss := [.tup [.non, .str "0", .tup [.int 0]]]) rfl rfl fun z hz => ⟨_, rfl, ev_of (em_putAt rfl rfl rfl (by rw [List.length_map]; omega) (by rw [List.length_map]; omega))⟩
  refine exB_step (st_set (add_lst (d1 := 0) (d2 := 0) (xs := O1) (ys := O2) rfl (by omega) h14 (by omega) (by rw [hO1, hO2]; simp [oddsD]))) ?_
  show ∃ env' c', evB _ _ _ (E10 S s2 (some ⟨0, f.v⟩) (some ⟨0, .int f.fl⟩) (some ⟨0, intsV ss⟩) (some ⟨0, intsV ds⟩) (some ⟨0, intsV le⟩) (some ⟨0, .int (t : Int)⟩) (some ⟨0, .lst V⟩) s10' (some ⟨0, .lst (O1 ++ O2)⟩)) (cup a4 b4) = _ ∧ _
  have hdl : (ds.map PV.int).length = f.n := by rw [List.length_map]; exact dl
  have no := oddsD_no (xs := ds.map PV.int) hdl n1 f1 f30 tl
  have ok := oddsD_ok (xs := ds.map PV.int) (n := f.n) (fl := f.fl) (t := t) (fun x hx => by obtain ⟨i, _, rfl⟩ := List.mem_map.mp hx; rfl)
  rw [← hO1, ← hO2] at no ok
  have h15 : em (callF P 39) (.cmp .ne (.comp [21] (.nm 21) .seq [.var 11] [.is true .ff (.call "is_pose" [.var 3, .var 21])] 0 (.var 21)) (.lst 0 [])) (E10 S s2 (some ⟨0, f.v⟩) (some ⟨0, .int f.fl⟩) (some ⟨0, intsV ss⟩) (some ⟨0, intsV ds⟩) (some ⟨0, intsV le⟩) (some ⟨0, .int (t : Int)⟩) (some ⟨0, .lst V⟩) s10' (some ⟨0, .lst (O1 ++ O2)⟩)) (cup a4 b4) = .ok (0, .bl false) (cup a4 b4) := by
    refine em_none (xs := O1 ++ O2) rfl fun z hz => ?_
    have q := D.isp_no hf (ok z hz) (no z hz) 34
    have w := em_call1 (call := callF P 39) (f := "is_pose") (as := [.var 3, .var 21]) (env := ((E10 S s2 (some ⟨0, f.v⟩) (some ⟨0, .int f.fl⟩) (some ⟨0, intsV ss⟩) (some ⟨0, intsV ds⟩) (some ⟨0, intsV le⟩) (some ⟨0, .int (t : Int)⟩) (some ⟨0, .lst V⟩) s10' (some ⟨0, .lst (O1 ++ O2)⟩)).set 21 none).set 21 (some ⟨0, z⟩)) (c := cup a4 b4) (c' := cup a4 b4) (xs := [f.v, z]) rfl q
    simp [evc, em, lo, hi, tst, truth, Res.bind, Res.of, isS, ↓w]
  refine exB_step (st_pass_if h15 (by omega) rfl) ?_
  exact ⟨_, _, rfl, ⟨a4, b4, rfl⟩, _, _, _, _, _, _, _, _, _, rfl⟩
end
end PVL
end

section
set_option Elab.async false
set_option linter.all false
set_option maxRecDepth 100000
set_option maxHeartbeats 8000000
/-! PVM29: the law of poses by shape, its end. -/
namespace PVL
open PySem (Str)
theorem map_inj' {α β : Type} {g : α → β} (hg : ∀ a b, g a = g b → a = b) : ∀ {l m : List α}, l.map g = m.map g → l = m
  | [], [], _ => rfl
  | [], _ :: _, h => by cases h
  | _ :: _, [], h => by cases h
  | x :: l, y :: m, h => by
    rw [List.map_cons, List.map_cons] at h
    injection h with h1 h2
    rw [hg _ _ h1, map_inj' hg h2]
theorem Fig.v_inj {f g : Fig} (h : f.v = g.v) : f = g := by
  obtain ⟨n, ls, ts, fl⟩ := f
  obtain ⟨n', ls', ts', fl'⟩ := g
  unfold Fig.v at h
  simp only [PV.tup.injEq, List.cons.injEq, PV.int.injEq] at h
  obtain ⟨h1, h2, h3, h4, _⟩ := h
  have e1 : n = n' := by omega
  have e2 : ls = ls' := map_inj' (fun a b h => by
    obtain ⟨a1, a2, a3⟩ := a
    obtain ⟨b1, b2, b3⟩ := b
    unfold l3V at h
    simp only [PV.tup.injEq, List.cons.injEq, PV.int.injEq] at h
    rw [h.1, h.2.1, h.2.2.1]) h2
  have e3 : ts = ts' := map_inj' (fun a b h => by injection h) h3
  rw [e1, e2, e3, h4]
theorem Fig.Ok.of {f : Fig} (h : fitsFigure f.v = true) : f.Ok := by
  obtain ⟨g, e, hg⟩ := fig_of h
  rw [Fig.v_inj e]
  exact hg
def oneF (n : Nat) (le : Int) (ts : List Int) : Fig := ⟨n, [(0, 1, le)], ts, 30⟩
def T6 (le dp : Int) : List (List Int) := [[dp, dp + le, 30], [dp, dp + le - 1, 30], [dp, dp + le, 29], [30, 30, 30], [30 - le, 30, 30], [31 - le, 30, 30]]
def T5 (le dp : Int) : List (List Int) := [[dp, dp], [dp, dp + le], [dp, dp + le + 1], [dp + le, dp], [dp + le + 1, dp]]
def n1to9 : List Int := [1, 2, 3, 4, 5, 6, 7, 8, 9]
def n0to9 : List Int := [0, 1, 2, 3, 4, 5, 6, 7, 8, 9]
theorem k10_dec : ∀ le ∈ n1to9, ∀ dp ∈ n0to9, fitsFigure (oneF 3 le [0]).v = true ∧ fitsFigure (oneF 2 le [0, 1]).v = true ∧ (T6 le dp).map (isPoseB (oneF 3 le [0])) = [true, false, false, true, true, true] ∧ (T5 le dp).map (isPoseB (oneF 2 le [0, 1])) = [true, true, false, true, false] := by decide +kernel
theorem mem19 {i : Int} (h1 : 1 ≤ i) (h2 : i ≤ 9) : i ∈ n1to9 := by
  have : i = 1 ∨ i = 2 ∨ i = 3 ∨ i = 4 ∨ i = 5 ∨ i = 6 ∨ i = 7 ∨ i = 8 ∨ i = 9 := by omega
  unfold n1to9
  simpa using this
theorem mem09 {i : Int} (h1 : 0 ≤ i) (h2 : i ≤ 9) : i ∈ n0to9 := by
  have : i = 0 ∨ i = 1 ∨ i = 2 ∨ i = 3 ∨ i = 4 ∨ i = 5 ∨ i = 6 ∨ i = 7 ∨ i = 8 ∨ i = 9 := by omega
  unfold n0to9
  simpa using this
abbrev k10_rest : List S := k10_law.body.drop 2
def E10b (S s2 s3 s4 s5 s6 s7 s8 s9 s10 s11 s12 s13 s14 s15 : Option Slot) : Env := [S, none, s2, s3, s4, s5, s6, s7, s8, s9, s10, s11, s12, s13, s14, s15, none, none, none, none, none, none]
/-- truths of a list of tuples -/
theorem em_told {call : CallF} {env : Env} {c : PV} {x t : Nat} {f : Fig} {src : E} {vs : List (List Int)} (hx : env[x]? = some (some ⟨0, f.v⟩)) (ht : t < env.length) (hxt : x ≠ t) (hs : em call src env c = .ok (0, .tup (vs.map intsV)) c) (h : ∀ ds ∈ vs, call "is_pose" [f.v, intsV ds] .non = .ok (.bl (isPoseB f ds)) .non) :
    em call (.comp [t] (.nm t) .seq [src] [] 0 (.call "is_pose" [.var x, .var t])) env c = .ok (0, .lst ((vs.map (isPoseB f)).map PV.bl)) c := by
  have q := comp_map (call := call) (own := [t]) (tg := .nm t) (k := .seq) (srcs := [src]) (d := 0) (elt := .call "is_pose" [.var x, .var t]) (env := env) (c := c) (fun y => match y with | .tup xs => (match ints? xs with | some ds => PV.bl (isPoseB f ds) | none => .non) | _ => .non) (evs_one hs (Nat.zero_le _)) (xs := vs.map intsV) rfl (fun y hy => by
    obtain ⟨ds, hd, rfl⟩ := List.mem_map.mp hy
    refine ⟨_, rfl, ?_⟩
    have e1 : ((env.set t none).set t (some ⟨0, intsV ds⟩))[t]? = some (some ⟨0, intsV ds⟩) := by rw [List.getElem?_set_self (by rw [List.length_set]; exact ht)]
    have e2 : ((env.set t none).set t (some ⟨0, intsV ds⟩))[x]? = some (some ⟨0, f.v⟩) := by rw [List.getElem?_set_ne (fun z => hxt z.symm), List.getElem?_set_ne (fun z => hxt z.symm), hx]
    have a1 : em call (.var x) ((env.set t none).set t (some ⟨0, intsV ds⟩)) c = .ok (0, f.v) c := by simp only [em, e2]
    have a2 : em call (.var t) ((env.set t none).set t (some ⟨0, intsV ds⟩)) c = .ok (0, intsV ds) c := by simp only [em, e1]
    have w := em_call1 (f := "is_pose") (evs_two (k := 0) a1 a2) (h ds hd)
    refine (ev_of w).trans ?_
    show _ = Res.ok (match intsV ds with | .tup xs => (match ints? xs with | some ds => PV.bl (isPoseB f ds) | none => .non) | _ => .non) c
    unfold intsV
    simp only [ints_map])
  rw [q, List.map_map, List.map_map]
  congr 3
  refine List.map_congr_left fun ds _ => ?_
  show (match intsV ds with | .tup xs => (match ints? xs with | some ds => PV.bl (isPoseB f ds) | none => .non) | _ => .non) = PV.bl (isPoseB f ds)
  unfold intsV
  simp only [ints_map]
section
variable {P : Prog} (D : K10 P)
include D
theorem k10_fin (S s2 s3 s4 s5 s6 s7 s8 s9 s10 s11 : Option Slot) (a b : Int) : ∃ c', evB (callF P 39) P.fr k10_rest (E10 S s2 s3 s4 s5 s6 s7 s8 s9 s10 s11) (cup a b) = .ret (.bl true) c' := by
  obtain ⟨l, a1, b1, q1, l0, l1⟩ := em_roll D.ro (n := 38) (env := E10 S s2 s3 s4 s5 s6 s7 s8 s9 s10 s11) (e := .con (.int 9)) (a := a) (b := b) (a1 := a) (b1 := b) (m := 9) rfl (by omega) (by omega)
  obtain ⟨dp, a2, b2, q2, d0, d1⟩ := em_roll D.ro (n := 38) (env := E10 S s2 s3 s4 s5 s6 s7 s8 s9 s10 s11) (e := .con (.int 10)) (a := a1) (b := b1) (a1 := a1) (b1 := b1) (m := 10) rfl (by omega) (by omega)
  obtain ⟨le, hle⟩ : ∃ le, le = 1 + l := ⟨_, rfl⟩
  have q1' : em (callF P 39) (.op .add (.con (.int 1)) (.callc "_law_roll" [.con (.int 9)])) (E10 S s2 s3 s4 s5 s6 s7 s8 s9 s10 s11) (cup a b) = .ok (0, .int le) (cup a1 b1) := by
    rw [hle]
    simp [em, lo, hi, Res.bind, Res.of, op2, ↓q1]
  have s1 := st_par2 (fr := P.fr) (i := 12) (j := 13) q1' q2
  obtain ⟨fA, fB, tA, tB⟩ := k10_dec le (mem19 (by omega) (by omega)) dp (mem09 (by omega) (by omega))
  have oA := Fig.Ok.of fA
  have oB := Fig.Ok.of fB
  refine ⟨cup a2 b2, ?_⟩
  rw [show k10_rest = _ :: _ from rfl, evB_cons, s1, obind_nx, evB_cons]
  show (Out.nx (E10b S s2 (some ⟨0, (oneF 3 le [0]).v⟩) s4 s5 s6 s7 s8 s9 s10 s11 (some ⟨0, .int le⟩) (some ⟨0, .int dp⟩) none none) (cup a2 b2)).bind _ = _
  rw [obind_nx, evB_cons]
  have hA : ∀ ds ∈ T6 le dp, callF P 39 "is_pose" [(oneF 3 le [0]).v, intsV ds] .non = .ok (.bl (isPoseB (oneF 3 le [0]) ds)) .non := fun ds hd => by
    unfold T6 at hd
    simp only [List.mem_cons, List.not_mem_nil, or_false] at hd
    refine D.isp_ok oA ?_ ?_ 34
    · rcases hd with e | e | e | e | e | e <;> subst e <;> rfl
    · rcases hd with e | e | e | e | e | e <;> subst e <;> (intro d hd; simp only [List.mem_cons, List.not_mem_nil, or_false] at hd; show 0 ≤ d ∧ d ≤ 30; omega)
  have hB : ∀ ds ∈ T5 le dp, callF P 39 "is_pose" [(oneF 2 le [0, 1]).v, intsV ds] .non = .ok (.bl (isPoseB (oneF 2 le [0, 1]) ds)) .non := fun ds hd => by
    unfold T5 at hd
    simp only [List.mem_cons, List.not_mem_nil, or_false] at hd
    refine D.isp_ok oB ?_ ?_ 34
    · rcases hd with e | e | e | e | e <;> subst e <;> rfl
    · rcases hd with e | e | e | e | e <;> subst e <;> (intro d hd; simp only [List.mem_cons, List.not_mem_nil, or_false] at hd; show 0 ≤ d ∧ d ≤ 30; omega)
  have p3 := st_set (fr := P.fr) (i := 14) (em_told (call := callF P 39) (env := E10b S s2 (some ⟨0, (oneF 3 le [0]).v⟩) s4 s5 s6 s7 s8 s9 s10 s11 (some ⟨0, .int le⟩) (some ⟨0, .int dp⟩) none none) (c := cup a2 b2) (x := 3) (t := 10) (src := .tup [.tup [.var 13, .op .add (.var 13) (.var 12), .con (.int 30)], .tup [.var 13, .op .sub (.op .add (.var 13) (.var 12)) (.con (.int 1)), .con (.int 30)], .tup [.var 13, .op .add (.var 13) (.var 12), .con (.int 29)], .tup [.con (.int 30), .con (.int 30), .con (.int 30)], .tup [.op .sub (.con (.int 30)) (.var 12), .con (.int 30), .con (.int 30)], .tup [.op .sub (.con (.int 31)) (.var 12), .con (.int 30), .con (.int 30)]]) rfl (by simp [E10b]) (by omega) rfl hA)
  rw [tA] at p3
  rw [p3, obind_nx, evB_cons]
  have i4 : evS (callF P 39) P.fr (.ife (.cmp .ne (.var 14) (.lst 0 [.con (.bl true), .con (.bl false), .con (.bl false), .con (.bl true), .con (.bl true), .con (.bl true)])) [.ret (.con (.bl false))] []) ((E10b S s2 (some ⟨0, (oneF 3 le [0]).v⟩) s4 s5 s6 s7 s8 s9 s10 s11 (some ⟨0, .int le⟩) (some ⟨0, .int dp⟩) none none).set 14 (some ⟨0, .lst ([true, false, false, true, true, true].map PV.bl)⟩)) (cup a2 b2) = .nx (E10b S s2 (some ⟨0, (oneF 3 le [0]).v⟩) s4 s5 s6 s7 s8 s9 s10 s11 (some ⟨0, .int le⟩) (some ⟨0, .int dp⟩) (some ⟨0, .lst ([true, false, false, true, true, true].map PV.bl)⟩) none) (cup a2 b2) := rfl
  rw [i4, obind_nx, evB_cons]
  show (Out.nx (E10b S s2 (some ⟨0, (oneF 3 le [0]).v⟩) s4 s5 s6 s7 s8 s9 s10 s11 (some ⟨0, .int le⟩) (some ⟨0, .int dp⟩) (some ⟨0, .lst ([true, false, false, true, true, true].map PV.bl)⟩) (some ⟨0, (oneF 2 le [0, 1]).v⟩)) (cup a2 b2)).bind _ = _
  rw [obind_nx, evB_cons]
  have p6 := st_set (fr := P.fr) (i := 14) (em_told (call := callF P 39) (env := E10b S s2 (some ⟨0, (oneF 3 le [0]).v⟩) s4 s5 s6 s7 s8 s9 s10 s11 (some ⟨0, .int le⟩) (some ⟨0, .int dp⟩) (some ⟨0, .lst ([true, false, false, true, true, true].map PV.bl)⟩) (some ⟨0, (oneF 2 le [0, 1]).v⟩)) (c := cup a2 b2) (x := 15) (t := 10) (src := .tup [.tup [.var 13, .var 13], .tup [.var 13, .op .add (.var 13) (.var 12)], .tup [.var 13, .op .add (.op .add (.var 13) (.var 12)) (.con (.int 1))], .tup [.op .add (.var 13) (.var 12), .var 13], .tup [.op .add (.op .add (.var 13) (.var 12)) (.con (.int 1)), .var 13]]) rfl (by simp [E10b]) (by omega) rfl hB)
  rw [tB] at p6
  rw [p6, obind_nx, evB_cons]
  have oC : (⟨1, [], [0], 1⟩ : Fig).Ok := Fig.Ok.of (by decide +kernel)
  have q7 := D.isp_no oC (v := .tup [.bl true]) rfl (by decide +kernel) 34
  have w7 := em_call1 (call := callF P 39) (f := "is_pose") (as := [.tup [.con (.int 1), .tup [], .tup [.con (.int 0)], .con (.int 1)], .tup [.con (.bl true)]]) (env := (E10b S s2 (some ⟨0, (oneF 3 le [0]).v⟩) s4 s5 s6 s7 s8 s9 s10 s11 (some ⟨0, .int le⟩) (some ⟨0, .int dp⟩) (some ⟨0, .lst ([true, false, false, true, true, true].map PV.bl)⟩) (some ⟨0, (oneF 2 le [0, 1]).v⟩)).set 14 (some ⟨0, .lst ([true, true, false, true, false].map PV.bl)⟩)) (c := cup a2 b2) (c' := cup a2 b2) (xs := [(⟨1, [], [0], 1⟩ : Fig).v, .tup [.bl true]]) rfl q7
  have e7 : em (callF P 39) (.and (.cmp .eq (.var 14) (.lst 0 [.con (.bl true), .con (.bl true), .con (.bl false), .con (.bl true), .con (.bl false)])) (.is false .ff (.call "is_pose" [.tup [.con (.int 1), .tup [], .tup [.con (.int 0)], .con (.int 1)], .tup [.con (.bl true)]]))) ((E10b S s2 (some ⟨0, (oneF 3 le [0]).v⟩) s4 s5 s6 s7 s8 s9 s10 s11 (some ⟨0, .int le⟩) (some ⟨0, .int dp⟩) (some ⟨0, .lst ([true, false, false, true, true, true].map PV.bl)⟩) (some ⟨0, (oneF 2 le [0, 1]).v⟩)).set 14 (some ⟨0, .lst ([true, true, false, true, false].map PV.bl)⟩)) (cup a2 b2) = .ok (0, .bl true) (cup a2 b2) := by
    unfold E10b at w7 ⊢
    simp only [List.set_cons_succ, List.set_cons_zero, List.map_cons, List.map_nil] at w7 ⊢
    simp [em, evs, lo, hi, tst, truth, Res.bind, Res.of, cmp, isData, isDataL, eqv, eqvL, isS, ↓w7]
  rw [st_ret e7, obind_ret]
end
theorem k10_plain {P : Prog} (D : K10 P) (hl : P.fn "law" = some k10_law) (ns : List Int) (h : ns.length ≤ 63) : ∃ c', callF P 40 "law" [.scr (ns.map PV.int)] .non = .ok (.bl true) c' := by
  rw [callF_at hl]
  obtain ⟨a, b, q0⟩ := cup_ok D.cu 38 ns h
  obtain ⟨S, hS⟩ : ∃ S : Option Slot, S = some ⟨0, .scr (ns.map PV.int)⟩ := ⟨_, rfl⟩
  obtain ⟨env', c', e1, ⟨a1, b1, rfl⟩, s2, s3, s4, s5, s6, s7, s8, s9, s10, s11, rfl⟩ := forL_inv (tg := .nm 2) (f := fun env c => evB (callF P 39) P.fr k10_body env c) (I := fun _ env c => IsCup c ∧ ∃ s2 s3 s4 s5 s6 s7 s8 s9 s10 s11, env = E10 S s2 s3 s4 s5 s6 s7 s8 s9 s10 s11) (rng 0 8) 0 (E10 S none none none none none none none none none none) (cup a b) (by
    intro i x env c hx ⟨⟨a, b, hc⟩, s2, s3, s4, s5, s6, s7, s8, s9, s10, s11, he⟩
    subst hc he
    obtain ⟨env', c', e, h1, h2⟩ := k10_turn D S (some ⟨0, x⟩) s3 s4 s5 s6 s7 s8 s9 s10 s11 a b
    exact ⟨_, env', c', rfl, e, h1, _, h2⟩) ⟨⟨a, b, rfl⟩, _, _, _, _, _, _, _, _, _, _, rfl⟩
  obtain ⟨c2, e2⟩ := k10_fin D S s2 s3 s4 s5 s6 s7 s8 s9 s10 s11 a1 b1
  refine ⟨c2, ?_⟩
  unfold Fn.run
  rw [if_pos ⟨rfl, rfl⟩]
  have st0 : evS (callF P 39) P.fr (.setc 1 (.call "_law_cup" [.var 0])) [some ⟨0, .scr (ns.map PV.int)⟩, none, none, none, none, none, none, none, none, none, none, none, none, none, none, none, none, none, none, none, none, none] .non = .nx (E10 S none none none none none none none none none none) (cup a b) := by
    rw [hS]
    simp at q0
    simp [E10, evS, ev, em, evs, lo, hi, Res.bind, Res.of, Res.out, q0]
  show (match evB (callF P 39) P.fr (_ :: .for_ (.nm 2) .rng1 [.con (.int 8)] k10_body :: k10_rest) [some ⟨0, .scr (ns.map PV.int)⟩, none, none, none, none, none, none, none, none, none, none, none, none, none, none, none, none, none, none, none, none, none] .non with
    | .nx _ c => _
    | .ret v c => _
    | .exc e c => _
    | .stuck => _) = _
  rw [evB_cons, st0, obind_nx, evB_cons, st_for (vs := [.int 8]) (xs := rng 0 8) rfl rfl, e1, obind_nx, e2] <;> rfl
end PVL
end

section
set_option Elab.async false
set_option linter.all false
set_option maxRecDepth 100000
set_option maxHeartbeats 8000000
/-! PVM30: stances. -/
namespace PVL
open PySem (Str)
def f_keeps_strings : Fn := ⟨"keeps_strings", ["figure", "setting", "depths", "joint", "length"], 3, false, none, 0, [
    .ret (.b1 .all (.comp [3, 4] (.tup [.nm 3, .nm 4]) .zip [.ix (.var 0) (.con (.int 2)), .var 1] [] 0 (.cmp .le (.ix (.var 2) (.var 3)) (.var 4))))]⟩
def f_is_stance : Fn := ⟨"is_stance", ["figure", "setting", "value"], 3, false, none, 0, [
    .expr (.call "need_set" [.var 0, .var 1]),
    .ret (.and (.call "fits_depths" [.var 0, .var 2]) (.and (.call "keeps_limbs" [.var 0, .var 2]) (.call "keeps_strings" [.var 0, .var 1, .var 2])))]⟩
def f__law_is_stance : Fn := ⟨"_law_is_stance", ["figure", "setting", "depths", "one", "other", "length", "tie"], 3, false, none, 0, [
    .ife (.cmp .ne (.comp [3, 4, 5] (.tup [.nm 3, .nm 4, .nm 5]) .seq [.ix (.var 0) (.con (.int 1))] [.or (.cmp .gt (.ix (.var 2) (.var 3)) (.op .add (.ix (.var 2) (.var 4)) (.var 5))) (.cmp .gt (.ix (.var 2) (.var 4)) (.op .add (.ix (.var 2) (.var 3)) (.var 5)))] 0 (.con (.int 1))) (.lst 0 [])) [.ret (.con (.bl false))] [],
    .ret (.cmp .eq (.comp [6, 5] (.tup [.nm 6, .nm 5]) .zip [.ix (.var 0) (.con (.int 2)), .var 1] [.cmp .gt (.ix (.var 2) (.var 6)) (.var 5)] 0 (.con (.int 1))) (.lst 0 []))]⟩
def f__law_near : Fn := ⟨"_law_near", ["cup", "figure", "depths", "floor", "at", "found", "depth", "more"], 3, true, (some 0), 0, [
    .set 3 false (.ix (.var 1) (.con (.int 3))),
    .set 4 false (.callc "_law_roll" [.b1 .len (.var 2)]),
    .set 5 false (.lst 0 [.var 2, .b1 .tuple (.comp [6] (.nm 6) .seq [.var 2] [] 0 (.b2 .max (.con (.int 0)) (.op .sub (.var 6) (.con (.int 1))))), .b1 .tuple (.comp [6] (.nm 6) .seq [.var 2] [] 0 (.b2 .min (.var 3) (.op .add (.var 6) (.con (.int 1))))), .op .mul (.tup [.con (.int 0)]) (.b1 .len (.var 2)), .op .mul (.tup [.var 3]) (.b1 .len (.var 2))]),
    .set 5 false (.op .add (.var 5) (.comp [7] (.nm 7) .seq [.tup [.con (.int 1), .neg (.con (.int 1)), .con (.int 3), .neg (.con (.int 5))]] [] 0 (.op .add (.op .add (.sl (.var 2) false true [.var 4]) (.tup [.b2 .max (.con (.int 0)) (.b2 .min (.var 3) (.op .add (.ix (.var 2) (.var 4)) (.var 7)))])) (.sl (.var 2) true false [.op .add (.var 4) (.con (.int 1))])))),
    .ret (.op .add (.var 5) (.lst 0 [.b1 .tuple (.comp [6] (.nm 6) .seq [.var 2] [] 0 (.callc "_law_roll" [.op .add (.var 3) (.con (.int 1))]))]))]⟩
theorem em_putE {call : CallF} {env : Env} {c : PV} {x t t0 : Nat} {xs : List PV} {y : PV} {e : E} (hx : env[x]? = some (some ⟨0, .tup xs⟩)) (ht : env[t]? = some (some ⟨0, .int (t0 : Int)⟩)) (he : em call e env c = .ok (0, y) c) (htl : t0 < xs.length) (hl : xs.length ≤ 1000) :
    em call (.op .add (.op .add (.sl (.var x) false true [.var t]) (.tup [e])) (.sl (.var x) true false [.op .add (.var t) (.con (.int 1))])) env c = .ok (0, putAt xs t0 y) c := by
  have e1 : slice (.tup xs) none (some (t0 : Int)) = some (.tup (xs.take t0)) := by
    show some (PV.tup (cutV xs none (some (t0 : Int)))) = _
    rw [sl_up (by omega)]
  have e2 : slice (.tup xs) (some ((t0 : Int) + 1)) none = some (.tup (xs.drop (t0 + 1))) := by
    show some (PV.tup (cutV xs (some ((t0 : Int) + 1)) none)) = _
    rw [sl_down (by omega)]
  have z1 : (xs.take t0).length + 1 ≤ SZ := by rw [List.length_take]; unfold SZ; omega
  have z2 : (xs.take t0).length + (1 + (xs.length - (t0 + 1))) ≤ SZ := by rw [List.length_take]; unfold SZ; omega
  have o1 : op2 .add (.tup (xs.take t0)) (.tup [y]) = some (.tup (xs.take t0 ++ [y])) := by
    show (if (xs.take t0).length + [y].length ≤ SZ then some (PV.tup (xs.take t0 ++ [y])) else none) = _
    exact if_pos z1
  have o2 : op2 .add (.tup (xs.take t0 ++ [y])) (.tup (xs.drop (t0 + 1))) = some (putAt xs t0 y) := by
    show (if (xs.take t0 ++ [y]).length + (xs.drop (t0 + 1)).length ≤ SZ then some (PV.tup (xs.take t0 ++ [y] ++ xs.drop (t0 + 1))) else none) = _
    rw [if_pos (by rw [List.length_append, List.length_drop, List.length_singleton, Nat.add_assoc]; exact z2)] <;> rfl
  have o3 : op2 .add (.int (t0 : Int)) (.int 1) = some (.int ((t0 : Int) + 1)) := rfl
  simp only [em, evs, evi, hx, ht, he, lo_ok, hi_ok, bind_ok, Nat.zero_le, Nat.le_refl, if_true, lo_hi, int?, of_some, e1, e2, o1, o2, o3]
theorem all_bls {α : Type} (p : α → Bool) (xs : List α) : PVL.b1 .all (.lst (xs.map fun x => PV.bl (p x))) = some (.bl (xs.all p)) := by
  have : ∀ xs : List α, bools? (xs.map fun l => PV.bl (p l)) = some (xs.map p) := fun ls => by
    induction ls with
    | nil => rfl
    | cons x xs ih => rw [List.map_cons]; show (bools? _).map (p x :: ·) = _; rw [ih] <;> rfl
  show (bools? _).map (fun bs => PV.bl (bs.all id)) = _
  rw [this, Option.map_some, List.all_map] <;> rfl
theorem ones_data {α : Type} : ∀ (xs : List α) (n : Nat), isDataL n (xs.map fun _ => PV.int 1) = true
  | [], _ => rfl
  | x :: xs, n => by rw [List.map_cons]; unfold isDataL isData; rw [ones_data xs] <;> rfl
theorem ones_ne {α : Type} (xs : List α) : cmp .ne (.lst (xs.map fun _ => PV.int 1)) (.lst []) = some (!xs.isEmpty) := by
  have e1 : isData 60 (.lst (xs.map fun _ => PV.int 1)) = true := by unfold isData; exact ones_data xs _
  show (if isData 60 (.lst (xs.map fun _ => PV.int 1)) && isData 60 (.lst []) then some (!eqv (.lst (xs.map fun _ => PV.int 1)) (.lst [])) else none) = _
  rw [e1]
  cases xs <;> rfl
theorem ones_eq {α : Type} (xs : List α) : cmp .eq (.lst (xs.map fun _ => PV.int 1)) (.lst []) = some xs.isEmpty := by
  have e1 : isData 60 (.lst (xs.map fun _ => PV.int 1)) = true := by unfold isData; exact ones_data xs _
  show (if isData 60 (.lst (xs.map fun _ => PV.int 1)) && isData 60 (.lst []) then some (eqv (.lst (xs.map fun _ => PV.int 1)) (.lst [])) else none) = _
  rw [e1]
  cases xs <;> rfl
theorem filter_emp {α : Type} (p : α → Bool) : ∀ xs : List α, (xs.filter p).isEmpty = !xs.any p
  | [] => rfl
  | x :: xs => by
    rw [List.filter_cons, List.any_cons]
    cases p x with
    | true => rfl
    | false => simp only [Bool.false_or]; exact filter_emp p xs
def keepsS (f : Fig) (ss ds : List Int) : Bool := (f.zs ss).all fun z => decide (PVN.gt ds z.1 ≤ z.2)
def stB (f : Fig) (ss ds : List Int) : Bool := keepsL f ds && keepsS f ss ds
section
variable {P : Prog}
theorem keeps_strings_ok (h : P.fn "keeps_strings" = some f_keeps_strings) (k : Nat) {f : Fig} (hf : f.Ok) (ss : List Int) {ds : List Int} (hl : ds.length = f.n) : callF P (k + 1) "keeps_strings" [f.v, intsV ss, intsV ds] .non = .ok (.bl (keepsS f ss ds)) .non := by
  rw [callF_at h]
  have a1 : em (callF P k) (.b1 .all (.comp [3, 4] (.tup [.nm 3, .nm 4]) .zip [.ix (.var 0) (.con (.int 2)), .var 1] [] 0 (.cmp .le (.ix (.var 2) (.var 3)) (.var 4)))) [some ⟨0, f.v⟩, some ⟨0, intsV ss⟩, some ⟨0, intsV ds⟩, none, none] .non = .ok (0, .bl (keepsS f ss ds)) .non := by
    refine em_b1 (comp_map (ss := [.tup (f.ts.map PV.int), .tup (ss.map PV.int)]) (xs := (f.zs ss).map prV) (fun x => match x with | .tup [.int t, .int l] => .bl (decide (PVN.gt ds t ≤ l)) | _ => .non) rfl (by show some _ = _; rw [zip_ints] <;> rfl) fun x hx => ?_) (Nat.zero_le _) ?_
    · obtain ⟨⟨t, l⟩, hm, rfl⟩ := List.mem_map.mp hx
      have g := hf.tie _ (List.of_mem_zip hm).1
      refine ⟨_, rfl, ?_⟩
      have i1 : item (intsV ds) (.int t) = some (.int (PVN.gt ds t)) := item_ints g.1 (by omega)
      have dn : ∀ k, downD k (intsV ds) = 0 := fun _ => rfl
      simp [ev, em, evs, lo, hi, wipe, Res.bind, Res.of, prV, cmp, i1, dn]
    · rw [List.map_map]
      exact all_bls (fun z : Int × Int => decide (PVN.gt ds z.1 ≤ z.2)) (f.zs ss)
  simp [Fn.run, f_keeps_strings, Fn.start, evB, evS, ev, lo, Res.bind, Res.out, Out.bind, isNon, ↓a1]
theorem is_stance_ok (D : FigD P) (h : P.fn "is_stance" = some f_is_stance) (hd : P.fn "need_set" = some f_need_set) (hn : P.fn "need_figure" = some f_need_figure) (hs : P.fn "need_setting" = some f_need_setting) (hfs : P.fn "fits_setting" = some f_fits_setting) (hfd : P.fn "fits_depths" = some f_fits_depths) (hk : P.fn "keeps_limbs" = some f_keeps_limbs) (hks : P.fn "keeps_strings" = some f_keeps_strings)
    (k : Nat) {f : Fig} (hf : f.Ok) {ss : List Int} (hl : ss.length = f.ts.length) (hr : ∀ s ∈ ss, 0 ≤ s ∧ s ≤ f.fl) {ds : List Int} (hdl : ds.length = f.n) (hdr : ∀ d ∈ ds, 0 ≤ d ∧ d ≤ f.fl) : callF P (k + 6) "is_stance" [f.v, intsV ss, intsV ds] .non = .ok (.bl (stB f ss ds)) .non := by
  rw [callF_at h]
  have q0 := need_set_ok D hd hn hs hfs k hf (okV_ints ss) (fs_of hl hr)
  have q1 := fits_depths_ok D hfd (k + 3) f (intsV ds) (okV_ints ds)
  rw [fs_of hdl hdr] at q1
  have q2 := keeps_limbs_ok hk (k + 4) hf hdl
  have q3 := keeps_strings_ok hks (k + 4) hf ss hdl
  unfold stB
  cases b : keepsL f ds with
  | false => rw [b] at q2; simp [Fn.run, f_is_stance, Fn.start, evB, evS, ev, em, evs, lo, hi, tst, truth, Res.bind, Res.of, Res.out, Out.bind, isNon, q0, q1, q2]
  | true => rw [b] at q2; simp [Fn.run, f_is_stance, Fn.start, evB, evS, ev, em, evs, lo, hi, tst, truth, Res.bind, Res.of, Res.out, Out.bind, isNon, q0, q1, q2, q3]
theorem is_stance_no (D : FigD P) (h : P.fn "is_stance" = some f_is_stance) (hd : P.fn "need_set" = some f_need_set) (hn : P.fn "need_figure" = some f_need_figure) (hs : P.fn "need_setting" = some f_need_setting) (hfs : P.fn "fits_setting" = some f_fits_setting) (hfd : P.fn "fits_depths" = some f_fits_depths)
    (k : Nat) {f : Fig} (hf : f.Ok) {ss : List Int} (hl : ss.length = f.ts.length) (hr : ∀ s ∈ ss, 0 ≤ s ∧ s ≤ f.fl) {v : PV} (hv : okV v = true) (hno : fitsSetting f.n f.fl v = false) : callF P (k + 6) "is_stance" [f.v, intsV ss, v] .non = .ok (.bl false) .non := by
  rw [callF_at h]
  have q0 := need_set_ok D hd hn hs hfs k hf (okV_ints ss) (fs_of hl hr)
  have q1 := fits_depths_ok D hfd (k + 3) f v hv
  rw [hno] at q1
  simp [Fn.run, f_is_stance, Fn.start, evB, evS, ev, em, evs, lo, hi, tst, truth, Res.bind, Res.of, Res.out, Out.bind, isNon, q0, q1]
theorem law_is_stance_ok (h : P.fn "_law_is_stance" = some f__law_is_stance) (k : Nat) {f : Fig} (hf : f.Ok) (ss : List Int) {ds : List Int} (hl : ds.length = f.n) : callF P (k + 1) "_law_is_stance" [f.v, intsV ss, intsV ds] .non = .ok (.bl (stB f ss ds)) .non := by
  rw [callF_at h]
  obtain ⟨pL, hpL⟩ : ∃ pL : L3 → Bool, pL = fun l => decide (PVN.gt ds l.2.1 + l.2.2 < PVN.gt ds l.1) || decide (PVN.gt ds l.1 + l.2.2 < PVN.gt ds l.2.1) := ⟨_, rfl⟩
  obtain ⟨pZ, hpZ⟩ : ∃ pZ : Int × Int → Bool, pZ = fun z => decide (z.2 < PVN.gt ds z.1) := ⟨_, rfl⟩
  have dn : ∀ k, downD k (intsV ds) = 0 := fun _ => rfl
  have fm : ∀ {α : Type} (q : PV → Bool) (p : α → Bool) (g : α → PV) (hg : ∀ a, q (g a) = p a) (xs : List α), ((xs.map g).filter q).map (fun _ => PV.int 1) = (xs.filter p).map fun _ => PV.int 1 := fun q p g hg xs => by
    rw [List.filter_map, List.map_map]
    congr 1
    congr 1
    funext a
    exact hg a
  have a1 : em (callF P k) (.comp [3, 4, 5] (.tup [.nm 3, .nm 4, .nm 5]) .seq [.ix (.var 0) (.con (.int 1))] [.or (.cmp .gt (.ix (.var 2) (.var 3)) (.op .add (.ix (.var 2) (.var 4)) (.var 5))) (.cmp .gt (.ix (.var 2) (.var 4)) (.op .add (.ix (.var 2) (.var 3)) (.var 5)))] 0 (.con (.int 1))) [some ⟨0, f.v⟩, some ⟨0, intsV ss⟩, some ⟨0, intsV ds⟩, none, none, none, none] .non = .ok (0, .lst ((f.ls.filter pL).map fun _ => .int 1)) .non := by
    have q := comp_pure (call := callF P k) (own := [3, 4, 5]) (tg := .tup [.nm 3, .nm 4, .nm 5]) (k := .seq) (srcs := [.ix (.var 0) (.con (.int 1))]) (conds := [.or (.cmp .gt (.ix (.var 2) (.var 3)) (.op .add (.ix (.var 2) (.var 4)) (.var 5))) (.cmp .gt (.ix (.var 2) (.var 4)) (.op .add (.ix (.var 2) (.var 3)) (.var 5)))]) (d := 0) (elt := .con (.int 1)) (env := [some ⟨0, f.v⟩, some ⟨0, intsV ss⟩, some ⟨0, intsV ds⟩, none, none, none, none]) (c := .non)
      (fun x => match x with | .tup [.int a, .int b, .int w] => pL (a, b, w) | _ => false) (fun _ => .int 1) (ss := [.tup (f.ls.map l3V)]) (xs := f.ls.map l3V) rfl rfl fun x hx => by
        obtain ⟨⟨a, b, w⟩, hm, rfl⟩ := List.mem_map.mp hx
        obtain ⟨g0, g1, g2, g3⟩ := hf.lim _ hm
        simp only at g0 g1 g2 g3
        have i1 : item (intsV ds) (.int a) = some (.int (PVN.gt ds a)) := item_ints g0 (by omega)
        have i2 : item (intsV ds) (.int b) = some (.int (PVN.gt ds b)) := item_ints (by omega) (by omega)
        refine ⟨_, rfl, ?_, fun _ => rfl⟩
        simp only [l3V]
        rw [hpL]
        by_cases c1 : PVN.gt ds b + w < PVN.gt ds a
        · simp [evc, em, evs, lo, hi, wipe, tst, truth, Res.bind, Res.of, op2, cmp, i1, i2, dn, c1]
        · simp [evc, em, evs, lo, hi, wipe, tst, truth, Res.bind, Res.of, op2, cmp, i1, i2, dn, c1]
    rw [q, fm _ pL l3V (fun a => rfl) f.ls]
  have a2 : em (callF P k) (.comp [6, 5] (.tup [.nm 6, .nm 5]) .zip [.ix (.var 0) (.con (.int 2)), .var 1] [.cmp .gt (.ix (.var 2) (.var 6)) (.var 5)] 0 (.con (.int 1))) [some ⟨0, f.v⟩, some ⟨0, intsV ss⟩, some ⟨0, intsV ds⟩, none, none, none, none] .non = .ok (0, .lst (((f.zs ss).filter pZ).map fun _ => .int 1)) .non := by
    have q := comp_pure (call := callF P k) (own := [6, 5]) (tg := .tup [.nm 6, .nm 5]) (k := .zip) (srcs := [.ix (.var 0) (.con (.int 2)), .var 1]) (conds := [.cmp .gt (.ix (.var 2) (.var 6)) (.var 5)]) (d := 0) (elt := .con (.int 1)) (env := [some ⟨0, f.v⟩, some ⟨0, intsV ss⟩, some ⟨0, intsV ds⟩, none, none, none, none]) (c := .non)
      (fun x => match x with | .tup [.int t, .int l] => pZ (t, l) | _ => false) (fun _ => .int 1) (ss := [.tup (f.ts.map PV.int), .tup (ss.map PV.int)]) (xs := (f.zs ss).map prV) rfl (by show some _ = _; rw [zip_ints] <;> rfl) fun x hx => by
        obtain ⟨⟨t, l⟩, hm, rfl⟩ := List.mem_map.mp hx
        have g := hf.tie _ (List.of_mem_zip hm).1
        have i1 : item (intsV ds) (.int t) = some (.int (PVN.gt ds t)) := item_ints g.1 (by omega)
        refine ⟨_, rfl, ?_, fun _ => rfl⟩
        simp only [prV]
        rw [hpZ]
        simp [evc, em, evs, lo, hi, wipe, tst, truth, Res.bind, Res.of, cmp, i1, dn]
    rw [q, fm _ pZ prV (fun a => rfl) (f.zs ss)]
  have bL : (f.ls.filter pL).isEmpty = keepsL f ds := by
    rw [filter_emp]
    unfold keepsL
    rw [List.all_eq_not_any_not]
    congr 2
    funext l
    rw [hpL]
    by_cases c1 : PVN.gt ds l.2.1 + l.2.2 < PVN.gt ds l.1
    · simp [c1]; split <;> omega
    · by_cases c2 : PVN.gt ds l.1 + l.2.2 < PVN.gt ds l.2.1
      · simp [c1, c2]; split <;> omega
      · simp [c1, c2]; split <;> omega
  have bZ : ((f.zs ss).filter pZ).isEmpty = keepsS f ss ds := by
    rw [filter_emp]
    unfold keepsS
    rw [List.all_eq_not_any_not]
    congr 2
    funext z
    rw [hpZ]
    by_cases c1 : z.2 < PVN.gt ds z.1
    · simp [c1]
    · simp [c1]; omega
  have c1 := ones_ne (f.ls.filter pL)
  have c2 := ones_eq ((f.zs ss).filter pZ)
  rw [bL] at c1
  rw [bZ] at c2
  unfold stB
  cases b : keepsL f ds with
  | false =>
    rw [b] at c1
    simp [Fn.run, f__law_is_stance, Fn.start, evB, evS, ev, em, evs, lo, hi, tst, truth, Res.bind, Res.of, Res.out, Out.bind, isNon, ↓a1, c1]
  | true =>
    rw [b] at c1
    simp [Fn.run, f__law_is_stance, Fn.start, evB, evS, ev, em, evs, lo, hi, tst, truth, Res.bind, Res.of, Res.out, Out.bind, isNon, ↓a1, ↓a2, c1, c2]
end
end PVL
end

section
set_option Elab.async false
set_option linter.all false
set_option maxRecDepth 100000
set_option maxHeartbeats 8000000
/-! PVM31: the law of stances. -/
namespace PVL
open PySem (Str)
def k02_law : Fn := ⟨"law", ["script", "cup", "turn", "figure", "one", "other", "first", "second", "value", "low", "high", "short", "long", "at", "floor", "odds", "length", "deep", "told", "pair", "odd"], 1, false, (some 1), 0, [
    .setc 1 (.call "_law_cup" [.var 0]),
    .for_ (.nm 2) .rng1 [.con (.int 5)] [.set 3 false (.callc "_law_figure" [.con (.int 8), .con (.int 5)]), .unp (.tup [.nm 4, .nm 5]) (.tup [.callc "_law_setting" [.var 3], .callc "_law_setting" [.var 3]]), .par [6, 7] [.call "_law_pose" [.var 3, .var 4], .call "_law_pose" [.var 3, .var 5]], .for_ (.nm 8) .seq [.op .add (.callc "_law_near" [.var 3, .var 6]) (.lst 0 [.var 7])] [.ife (.not (.call "_law_same" [.call "is_stance" [.var 3, .var 4, .var 8], .call "_law_is_stance" [.var 3, .var 4, .var 8]])) [.ret (.con (.bl false))] []], .par [9, 10] [.b1 .tuple (.comp [19] (.nm 19) .zipn [.var 6, .var 7] [] 0 (.b1 .min (.var 19))), .b1 .tuple (.comp [19] (.nm 19) .zipn [.var 6, .var 7] [] 0 (.b1 .max (.var 19)))], .par [11, 12] [.b1 .tuple (.comp [19] (.nm 19) .zipn [.var 4, .var 5] [] 0 (.b1 .min (.var 19))), .b1 .tuple (.comp [19] (.nm 19) .zipn [.var 4, .var 5] [] 0 (.b1 .max (.var 19)))], .ife (.or (.is true .tt (.call "is_stance" [.var 3, .var 4, .var 6])) (.or (.is true .tt (.call "is_stance" [.var 3, .var 11, .var 9])) (.is true .tt (.call "is_stance" [.var 3, .var 12, .var 10])))) [.ret (.con (.bl false))] [], .par [13, 14] [.callc "_law_roll" [.b1 .len (.var 6)], .ix (.var 3) (.con (.int 3))], .set 15 false (.lst 0 [.con .non, .tup [], .b1 .list (.var 6), .sl (.var 6) true false [.con (.int 1)], .op .add (.var 6) (.tup [.con (.int 0)]), .con (.int 7), .con (.str "stance"), .op .add (.op .add (.sl (.var 6) false true [.var 13]) (.tup [.con .non])) (.sl (.var 6) true false [.op .add (.var 13) (.con (.int 1))]), .op .add (.op .add (.sl (.var 6) false true [.var 13]) (.tup [.neg (.con (.int 1))])) (.sl (.var 6) true false [.op .add (.var 13) (.con (.int 1))]), .op .add (.op .add (.sl (.var 6) false true [.var 13]) (.tup [.con (.str "0")])) (.sl (.var 6) true false [.op .add (.var 13) (.con (.int 1))])]), .set 15 false (.op .add (.var 15) (.lst 0 [.op .mul (.tup [.op .add (.var 14) (.con (.int 1))]) (.b1 .len (.var 6)), .op .mul (.tup [.con (.bl false)]) (.b1 .len (.var 6)), .op .add (.op .add (.sl (.var 6) false true [.var 13]) (.tup [.tup [.con (.int 0)]])) (.sl (.var 6) true false [.op .add (.var 13) (.con (.int 1))])])), .ife (.cmp .ne (.comp [20] (.nm 20) .seq [.var 15] [.is true .ff (.call "is_stance" [.var 3, .var 4, .var 20])] 0 (.var 20)) (.lst 0 [])) [.ret (.con (.bl false))] []],
    .unp (.tup [.nm 16, .nm 17]) (.tup [.op .add (.con (.int 1)) (.callc "_law_roll" [.con (.int 9)]), .callc "_law_roll" [.con (.int 10)]]),
    .set 3 false (.tup [.con (.int 2), .tup [.tup [.con (.int 0), .con (.int 1), .var 16]], .tup [.con (.int 0)], .con (.int 30)]),
    .set 18 false (.comp [8] (.nm 8) .seq [.tup [.tup [.var 17, .op .add (.var 17) (.var 16)], .tup [.var 17, .op .add (.op .add (.var 17) (.var 16)) (.con (.int 1))], .tup [.op .add (.var 17) (.con (.int 1)), .var 17], .tup [.con (.int 0), .var 16], .tup [.con (.int 0), .con (.int 0)], .tup [.con (.int 0), .op .add (.var 16) (.con (.int 1))]]] [] 0 (.call "is_stance" [.var 3, .tup [.var 17], .var 8])),
    .ret (.cmp .eq (.var 18) (.lst 0 [.con (.bl true), .con (.bl false), .con (.bl false), .con (.bl true), .con (.bl true), .con (.bl false)]))]⟩
abbrev k02_body : List S := [.set 3 false (.callc "_law_figure" [.con (.int 8), .con (.int 5)]), .unp (.tup [.nm 4, .nm 5]) (.tup [.callc "_law_setting" [.var 3], .callc "_law_setting" [.var 3]]), .par [6, 7] [.call "_law_pose" [.var 3, .var 4], .call "_law_pose" [.var 3, .var 5]], .for_ (.nm 8) .seq [.op .add (.callc "_law_near" [.var 3, .var 6]) (.lst 0 [.var 7])] [.ife (.not (.call "_law_same" [.call "is_stance" [.var 3, .var 4, .var 8], .call "_law_is_stance" [.var 3, .var 4, .var 8]])) [.ret (.con (.bl false))] []], .par [9, 10] [.b1 .tuple (.comp [19] (.nm 19) .zipn [.var 6, .var 7] [] 0 (.b1 .min (.var 19))), .b1 .tuple (.comp [19] (.nm 19) .zipn [.var 6, .var 7] [] 0 (.b1 .max (.var 19)))], .par [11, 12] [.b1 .tuple (.comp [19] (.nm 19) .zipn [.var 4, .var 5] [] 0 (.b1 .min (.var 19))), .b1 .tuple (.comp [19] (.nm 19) .zipn [.var 4, .var 5] [] 0 (.b1 .max (.var 19)))], .ife (.or (.is true .tt (.call "is_stance" [.var 3, .var 4, .var 6])) (.or (.is true .tt (.call "is_stance" [.var 3, .var 11, .var 9])) (.is true .tt (.call "is_stance" [.var 3, .var 12, .var 10])))) [.ret (.con (.bl false))] [], .par [13, 14] [.callc "_law_roll" [.b1 .len (.var 6)], .ix (.var 3) (.con (.int 3))], .set 15 false (.lst 0 [.con .non, .tup [], .b1 .list (.var 6), .sl (.var 6) true false [.con (.int 1)], .op .add (.var 6) (.tup [.con (.int 0)]), .con (.int 7), .con (.str "stance"), .op .add (.op .add (.sl (.var 6) false true [.var 13]) (.tup [.con .non])) (.sl (.var 6) true false [.op .add (.var 13) (.con (.int 1))]), .op .add (.op .add (.sl (.var 6) false true [.var 13]) (.tup [.neg (.con (.int 1))])) (.sl (.var 6) true false [.op .add (.var 13) (.con (.int 1))]), .op .add (.op .add (.sl (.var 6) false true [.var 13]) (.tup [.con (.str "0")])) (.sl (.var 6) true false [.op .add (.var 13) (.con (.int 1))])]), .set 15 false (.op .add (.var 15) (.lst 0 [.op .mul (.tup [.op .add (.var 14) (.con (.int 1))]) (.b1 .len (.var 6)), .op .mul (.tup [.con (.bl false)]) (.b1 .len (.var 6)), .op .add (.op .add (.sl (.var 6) false true [.var 13]) (.tup [.tup [.con (.int 0)]])) (.sl (.var 6) true false [.op .add (.var 13) (.con (.int 1))])])), .ife (.cmp .ne (.comp [20] (.nm 20) .seq [.var 15] [.is true .ff (.call "is_stance" [.var 3, .var 4, .var 20])] 0 (.var 20)) (.lst 0 [])) [.ret (.con (.bl false))] []]
structure K02 (P : Prog) : Prop extends FigD P where
  ist : P.fn "is_stance" = some f_is_stance
  nf : P.fn "need_figure" = some f_need_figure
  fd : P.fn "fits_depths" = some f_fits_depths
  kl : P.fn "keeps_limbs" = some f_keeps_limbs
  ks : P.fn "keeps_strings" = some f_keeps_strings
  ns : P.fn "need_set" = some f_need_set
  nst : P.fn "need_setting" = some f_need_setting
  fs : P.fn "fits_setting" = some f_fits_setting
  cu : CupAt P
  ro : RollAt P
  so : P.fn "_law_some" = some f__law_some
  sa : P.fn "_law_same" = some f__law_same
  fi : P.fn "_law_figure" = some f__law_figure
  se : P.fn "_law_setting" = some f__law_setting
  lp : P.fn "_law_pose" = some f__law_pose
  ls : P.fn "_law_is_stance" = some f__law_is_stance
  ln : P.fn "_law_near" = some f__law_near
/-! ### two rows, item by item -/
def zw (g : Int → Int → Int) (a b : List Int) : List Int := (a.zip b).map fun p => g p.1 p.2
theorem zw_len {g : Int → Int → Int} {a b : List Int} (h : a.length = b.length) : (zw g a b).length = a.length := by
  unfold zw
  rw [List.length_map, List.length_zip]
  omega
theorem gt_zw {g : Int → Int → Int} {a b : List Int} {i : Int} (h0 : 0 ≤ i) (h1 : i < a.length) (h2 : i < b.length) : PVN.gt (zw g a b) i = g (PVN.gt a i) (PVN.gt b i) := by
  have ha : i.toNat < a.length := by omega
  have hb : i.toNat < b.length := by omega
  unfold PVN.gt zw
  rw [List.getD_eq_getElem?_getD, List.getD_eq_getElem?_getD, List.getD_eq_getElem?_getD, List.getElem?_map, (List.getElem?_zip_eq_some (z := (a[i.toNat], b[i.toNat]))).mpr ⟨List.getElem?_eq_getElem ha, List.getElem?_eq_getElem hb⟩, List.getElem?_eq_getElem ha, List.getElem?_eq_getElem hb] <;> rfl
theorem zip_zw {g : Int → Int → Int} : ∀ {ts a b : List Int} {z : Int × Int}, z ∈ ts.zip (zw g a b) → ∃ x y, z.2 = g x y ∧ (z.1, x) ∈ ts.zip a ∧ (z.1, y) ∈ ts.zip b
  | [], a, b, z, h => by cases h
  | t :: ts, [], b, z, h => by cases h
  | t :: ts, x :: a, [], z, h => by cases h
  | t :: ts, x :: a, y :: b, z, h => by
    have h' : z ∈ (t, g x y) :: ts.zip (zw g a b) := h
    rcases List.mem_cons.mp h' with q | q
    · subst q
      exact ⟨x, y, rfl, List.mem_cons_self .., List.mem_cons_self ..⟩
    · obtain ⟨x', y', q1, q2, q3⟩ := zip_zw q
      exact ⟨x', y', q1, List.mem_cons_of_mem _ q2, List.mem_cons_of_mem _ q3⟩
theorem zw_mem {g : Int → Int → Int} {a b : List Int} {p : Int → Prop} (hg : ∀ x ∈ a, ∀ y ∈ b, p (g x y)) : ∀ z ∈ zw g a b, p z := fun z hz => by
  obtain ⟨q, hq, rfl⟩ := List.mem_map.mp hz
  exact hg _ (List.of_mem_zip hq).1 _ (List.of_mem_zip hq).2
def mn (x y : Int) : Int := if y < x then y else x
def mx (x y : Int) : Int := if y > x then y else x
theorem mn_eq (x y : Int) : mn x y = min x y := by unfold mn; split <;> omega
theorem mx_eq (x y : Int) : mx x y = max x y := by unfold mx; split <;> omega
theorem stB_iff (f : Fig) (ss ds : List Int) : stB f ss ds = true ↔ PVN.Edges f.ls (PVN.gt ds) ∧ ∀ z ∈ f.zs ss, PVN.gt ds z.1 ≤ z.2 := by
  unfold stB
  rw [Bool.and_eq_true, keepsL_iff]
  unfold keepsS
  rw [List.all_eq_true]
  constructor
  · exact fun h => ⟨h.1, fun z hz => of_decide_eq_true (h.2 z hz)⟩
  · exact fun h => ⟨h.1, fun z hz => decide_eq_true (h.2 z hz)⟩
theorem st_pose {f : Fig} (hf : f.Ok) {ss : List Int} (h : ∀ s ∈ ss, 0 ≤ s) : stB f ss (f.pose ss) = true := (stB_iff f _ _).mpr ⟨(hf.great h).st.edges, (hf.great h).st.ties⟩
theorem st_zw {f : Fig} (hf : f.Ok) {s1 s2 d1 d2 : List Int} (l1 : d1.length = f.n) (l2 : d2.length = f.n) (h1 : stB f s1 d1 = true) (h2 : stB f s2 d2 = true) {g : Int → Int → Int} (hg : g = mn ∨ g = mx) : stB f (zw g s1 s2) (zw g d1 d2) = true := by
  rw [stB_iff] at h1 h2 ⊢
  have at' : ∀ i : Int, 0 ≤ i → i < f.n → PVN.gt (zw g d1 d2) i = g (PVN.gt d1 i) (PVN.gt d2 i) := fun i hi hl => gt_zw hi (by omega) (by omega)
  refine ⟨fun l hl => ?_, fun z hz => ?_⟩
  · have g0 := hf.lim l hl
    rw [at' l.1 (by omega) (by omega), at' l.2.1 (by omega) (by omega)]
    have e1 := h1.1 l hl
    have e2 := h2.1 l hl
    rcases hg with e | e <;> subst e <;> simp only [mn_eq, mx_eq] <;> constructor <;> omega
  · obtain ⟨x, y, e, m1, m2⟩ := zip_zw hz
    have t := hf.tie _ (List.of_mem_zip hz).1
    rw [at' z.1 t.1 t.2, e]
    have e1 := h1.2 _ m1
    have e2 := h2.2 _ m2
    simp only at e1 e2
    rcases hg with e | e <;> subst e <;> simp only [mn_eq, mx_eq] <;> omega
/-- a comprehension over two rows -/
theorem em_zw {call : CallF} {env : Env} {c : PV} {x y t : Nat} {a b : List Int} {f : B1} {g : Int → Int → Int} (hg : ∀ x y, PVL.b1 f (prV (x, y)) = some (.int (g x y))) (hx : env[x]? = some (some ⟨0, intsV a⟩)) (hy : env[y]? = some (some ⟨0, intsV b⟩)) (ht : t < env.length) :
    em call (.b1 .tuple (.comp [t] (.nm t) .zipn [.var x, .var y] [] 0 (.b1 f (.var t)))) env c = .ok (0, intsV (zw g a b)) c := by
  have hsrc : evs call 1 [.var x, .var y] env c = .ok [.tup (a.map PV.int), .tup (b.map PV.int)] c := by
    have : evs call 1 [.var x, .var y] env c = .ok [intsV a, intsV b] c := by simp [em, evs, lo, Res.bind, hx, hy]
    exact this
  refine em_b1 (comp_map (xs := (a.zip b).map prV) (fun z => match z with | .tup [.int x, .int y] => .int (g x y) | _ => .non) hsrc (by show some _ = _; rw [zip_ints]) fun z hz => ?_) (Nat.zero_le _) ?_
  · obtain ⟨⟨p, q⟩, hp, rfl⟩ := List.mem_map.mp hz
    refine ⟨(env.set t none).set t (some ⟨0, prV (p, q)⟩), rfl, ?_⟩
    have e1 : ((env.set t none).set t (some ⟨0, prV (p, q)⟩))[t]? = some (some ⟨0, prV (p, q)⟩) := by rw [List.getElem?_set_self (by rw [List.length_set]; exact ht)]
    have e2 : em call (.var t) ((env.set t none).set t (some ⟨0, prV (p, q)⟩)) c = .ok (0, prV (p, q)) c := by simp only [em, e1]
    exact ev_of (em_b1 e2 (Nat.zero_le _) (hg p q))
  · unfold intsV zw
    rw [List.map_map, List.map_map] <;> rfl
section
variable {P : Prog}
theorem law_near_ok (h : P.fn "_law_near" = some f__law_near) (hr : RollAt P) (k : Nat) {f : Fig} (hf : f.Ok) {ds : List Int} (dl : ds.length = f.n) (dr : ∀ d ∈ ds, 0 ≤ d ∧ d ≤ f.fl) (a b : Int) :
    ∃ L a' b', callF P (k + 2) "_law_near" [f.v, intsV ds] (cup a b) = .ok (.lst L) (cup a' b') ∧ L.length = 10 ∧ ∀ x ∈ L, DepV f.n f.fl x := by
  have n1 := hf.n1; have n8 := hf.n8; have f1 := hf.f1; have f30 := hf.f30
  obtain ⟨env1, he1⟩ : ∃ env1 : Env, env1 = [none, some ⟨0, f.v⟩, some ⟨0, intsV ds⟩, some ⟨0, .int f.fl⟩, none, none, none, none] := ⟨_, rfl⟩
  have i3 : item f.v (.int 3) = some (.int f.fl) := rfl
  have s1 : evS (callF P (k + 1)) P.fr (.set 3 false (.ix (.var 1) (.con (.int 3)))) [none, some ⟨0, f.v⟩, some ⟨0, intsV ds⟩, none, none, none, none, none] (cup a b) = .nx env1 (cup a b) := by rw [he1] <;> rfl
  have ln : PVL.b1 .len (intsV ds) = some (.int f.n) := by
    show some (PV.int ((ds.map PV.int).length : Nat)) = _
    rw [List.length_map, dl]
  have el : ∀ env c, env[2]? = some (some ⟨0, intsV ds⟩) → em (callF P (k + 1)) (.b1 .len (.var 2)) env c = .ok (0, .int f.n) c := fun env c hx => em_b1 (x := intsV ds) (by simp only [em, hx]) (Nat.zero_le _) ln
  obtain ⟨r, a1, b1, q1, r0, r1⟩ := em_roll hr (n := k) (env := env1) (e := .b1 .len (.var 2)) (a := a) (b := b) (a1 := a) (b1 := b) (m := f.n) (el env1 _ (by rw [he1] <;> rfl)) (by omega) (by omega)
  obtain ⟨t, rfl⟩ : ∃ t : Nat, r = t := ⟨r.toNat, by omega⟩
  have tl : t < f.n := by omega
  have s2 := st_set (fr := P.fr) (i := 4) q1
  obtain ⟨env2, he2⟩ : ∃ env2 : Env, env2 = [none, some ⟨0, f.v⟩, some ⟨0, intsV ds⟩, some ⟨0, .int f.fl⟩, some ⟨0, .int (t : Int)⟩, none, none, none] := ⟨_, rfl⟩
  have s2' : evS (callF P (k + 1)) P.fr (.set 4 false (.callc "_law_roll" [.b1 .len (.var 2)])) env1 (cup a b) = .nx env2 (cup a1 b1) := by rw [s2, he1, he2] <;> rfl
  have Z1 : em (callF P (k + 1)) (.b1 .tuple (.comp [6] (.nm 6) .seq [.var 2] [] 0 (.b2 .max (.con (.int 0)) (.op .sub (.var 6) (.con (.int 1)))))) env2 (cup a1 b1) = .ok (0, intsV (ds.map fun d => if d - 1 > 0 then d - 1 else 0)) (cup a1 b1) :=
    em_mapd (fun d => if d - 1 > 0 then d - 1 else 0) (by rw [he2] <;> rfl) fun d hd => by rw [he2]; simp [em, lo, hi, Res.bind, Res.of, op2, PVL.b2]
  have Z2 : em (callF P (k + 1)) (.b1 .tuple (.comp [6] (.nm 6) .seq [.var 2] [] 0 (.b2 .min (.var 3) (.op .add (.var 6) (.con (.int 1)))))) env2 (cup a1 b1) = .ok (0, intsV (ds.map fun d => if d + 1 < f.fl then d + 1 else f.fl)) (cup a1 b1) :=
    em_mapd (fun d => if d + 1 < f.fl then d + 1 else f.fl) (by rw [he2] <;> rfl) fun d hd => by rw [he2]; simp [em, lo, hi, Res.bind, Res.of, op2, PVL.b2]
  have m1 : op2 .mul (.tup [.int 0]) (.int f.n) = some (rep f.n (.int 0)) := mul_rep n1 (by omega) _
  have m2 : op2 .mul (.tup [.int f.fl]) (.int f.n) = some (rep f.n (.int f.fl)) := mul_rep n1 (by omega) _
  obtain ⟨V1, hV1⟩ : ∃ V1 : List PV, V1 = [intsV ds, intsV (ds.map fun d => if d - 1 > 0 then d - 1 else 0), intsV (ds.map fun d => if d + 1 < f.fl then d + 1 else f.fl), rep f.n (.int 0), rep f.n (.int f.fl)] := ⟨_, rfl⟩
  have gV1 : ∀ x ∈ V1, DepV f.n f.fl x := by
    rw [hV1]
    intro x hx
    simp only [List.mem_cons, List.not_mem_nil, or_false] at hx
    rcases hx with e | e | e | e | e <;> subst e
    · exact ⟨ds, rfl, dl, dr⟩
    · exact dep_map dl fun d hd => by have := dr d hd; split <;> omega
    · exact dep_map dl fun d hd => by have := dr d hd; split <;> omega
    · exact dep_rep (by omega) (by omega)
    · exact dep_rep (by omega) (by omega)
  have L2 := el env2 (cup a1 b1) (by rw [he2] <;> rfl)
  have e3 : em (callF P (k + 1)) (.lst 0 [.var 2, .b1 .tuple (.comp [6] (.nm 6) .seq [.var 2] [] 0 (.b2 .max (.con (.int 0)) (.op .sub (.var 6) (.con (.int 1))))), .b1 .tuple (.comp [6] (.nm 6) .seq [.var 2] [] 0 (.b2 .min (.var 3) (.op .add (.var 6) (.con (.int 1))))), .op .mul (.tup [.con (.int 0)]) (.b1 .len (.var 2)), .op .mul (.tup [.var 3]) (.b1 .len (.var 2))]) env2 (cup a1 b1) = .ok (0, .lst V1) (cup a1 b1) := by
    rw [he2] at Z1 Z2 L2 ⊢
    rw [hV1]
    simp [em, evs, lo, hi, Res.bind, Res.of, m1, m2, ↓Z1, ↓Z2, ↓L2]
  obtain ⟨env3, he3⟩ : ∃ env3 : Env, env3 = [none, some ⟨0, f.v⟩, some ⟨0, intsV ds⟩, some ⟨0, .int f.fl⟩, some ⟨0, .int (t : Int)⟩, some ⟨0, .lst V1⟩, none, none] := ⟨_, rfl⟩
  have s3 := st_set (fr := P.fr) (i := 5) e3
  rw [show env2.set 5 (some ⟨0, .lst V1⟩) = env3 by rw [he2, he3] <;> rfl] at s3
  obtain ⟨x, hx, x0, x1⟩ : ∃ x, PVN.gt ds t = x ∧ 0 ≤ x ∧ x ≤ f.fl := ⟨_, rfl, gt_mem (p := fun d => 0 ≤ d ∧ d ≤ f.fl) dr (by omega) (by omega)⟩
  have ix : item (intsV ds) (.int (t : Int)) = some (.int x) := by rw [← hx]; exact item_ints (by omega) (by omega)
  have dnd : ∀ k, downD k (intsV ds) = 0 := fun _ => rfl
  obtain ⟨nv, hnv⟩ : ∃ nv : Int → Int, nv = fun m => if (if x + m < f.fl then x + m else f.fl) > 0 then (if x + m < f.fl then x + m else f.fl) else 0 := ⟨_, rfl⟩
  obtain ⟨V2, hV2⟩ : ∃ V2 : List PV, V2 = [PV.int 1, .int (-1), .int 3, .int (-5)].map (fun z => match z with | .int m => putAt (ds.map PV.int) t (.int (nv m)) | _ => .non) := ⟨_, rfl⟩
  have gV2 : ∀ y ∈ V2, DepV f.n f.fl y := by
    rw [hV2]
    intro y hy
    obtain ⟨z, hz, rfl⟩ := List.mem_map.mp hy
    simp only [List.mem_cons, List.not_mem_nil, or_false] at hz
    rcases hz with e | e | e | e <;> subst e <;> refine dep_put dl dr tl ?_ ?_ <;> (rw [hnv]; simp only; (repeat' split) <;> omega)
  have h4 : em (callF P (k + 1)) (.comp [7] (.nm 7) .seq [.tup [.con (.int 1), .neg (.con (.int 1)), .con (.int 3), .neg (.con (.int 5))]] [] 0 (.op .add (.op .add (.sl (.var 2) false true [.var 4]) (.tup [.b2 .max (.con (.int 0)) (.b2 .min (.var 3) (.op .add (.ix (.var 2) (.var 4)) (.var 7)))])) (.sl (.var 2) true false [.op .add (.var 4) (.con (.int 1))]))) env3 (cup a1 b1) = .ok (0, .lst V2) (cup a1 b1) := by
    rw [hV2]
    refine comp_map (fun z => match z with | .int m => putAt (ds.map PV.int) t (.int (nv m)) | _ => .non) (ss := [.tup [.int 1, .int (-1), .int 3, .int (-5)]]) (by rw [he3] <;> rfl) rfl fun z hz => ?_
    have : ∃ m : Int, z = .int m := by
      simp only [List.mem_cons, List.not_mem_nil, or_false] at hz
      rcases hz with e | e | e | e <;> exact ⟨_, e⟩
    obtain ⟨m, rfl⟩ := this
    refine ⟨_, rfl, ev_of (em_putE (y := .int (nv m)) (by rw [he3] <;> rfl) (by rw [he3] <;> rfl) ?_ (by rw [List.length_map]; omega) (by rw [List.length_map]; omega))⟩
    rw [he3, hnv]
    simp [em, lo, hi, wipe, Res.bind, Res.of, op2, PVL.b2, ix, dnd]
  have h5 := add_lst (call := callF P (k + 1)) (env := env3) (c := cup a1 b1) (a := .var 5) (d1 := 0) (d2 := 0) (xs := V1) (ys := V2) (by rw [he3] <;> rfl) (by omega) h4 (by omega) (by rw [hV1, hV2]; simp)
  have s4 := st_set (fr := P.fr) (i := 5) h5
  obtain ⟨env4, he4⟩ : ∃ env4 : Env, env4 = [none, some ⟨0, f.v⟩, some ⟨0, intsV ds⟩, some ⟨0, .int f.fl⟩, some ⟨0, .int (t : Int)⟩, some ⟨0, .lst (V1 ++ V2)⟩, none, none] := ⟨_, rfl⟩
  rw [show env3.set 5 (some ⟨0, .lst (V1 ++ V2)⟩) = env4 by rw [he3, he4] <;> rfl] at s4
  obtain ⟨es, a4, b4, q6, esl, esr⟩ := em_draws hr (k := k) (env := env4) (x := 2) (y := 3) (t := 6) (xs := ds.map PV.int) (fl := f.fl) (by rw [he4] <;> rfl) (by rw [he4] <;> rfl) (by rw [he4]; simp) (by omega) (by omega) (by omega) a1 b1
  rw [List.length_map] at esl
  have q7 : em (callF P (k + 1)) (.lst 0 [.b1 .tuple (.comp [6] (.nm 6) .seq [.var 2] [] 0 (.callc "_law_roll" [.op .add (.var 3) (.con (.int 1))]))]) env4 (cup a1 b1) = .ok (0, .lst [intsV es]) (cup a4 b4) := by simp [em, evs, lo, Res.bind, ↓q6]
  have q8 : em (callF P (k + 1)) (.op .add (.var 5) (.lst 0 [.b1 .tuple (.comp [6] (.nm 6) .seq [.var 2] [] 0 (.callc "_law_roll" [.op .add (.var 3) (.con (.int 1))]))])) env4 (cup a1 b1) = .ok (0, .lst (V1 ++ V2 ++ [intsV es])) (cup a4 b4) := by
    have e0 : em (callF P (k + 1)) (.var 5) env4 (cup a1 b1) = .ok (0, .lst (V1 ++ V2)) (cup a1 b1) := by rw [he4] <;> rfl
    show hi ((lo 1 (em (callF P (k + 1)) (.var 5) env4 (cup a1 b1))).bind fun x c => (lo 1 (em (callF P (k + 1)) (.lst 0 _) env4 c)).bind fun y c => .of (op2 .add x y) c) = _
    rw [e0, lo_ok, if_pos (by omega), bind_ok, q7, lo_ok, if_pos (by omega), bind_ok]
    have e2 : op2 .add (.lst (V1 ++ V2)) (.lst [intsV es]) = some (.lst (V1 ++ V2 ++ [intsV es])) := if_pos (by rw [hV1, hV2]; show 10 ≤ SZ; unfold SZ; omega)
    rw [e2] <;> rfl
  refine ⟨V1 ++ V2 ++ [intsV es], a4, b4, ?_, by rw [hV1, hV2]; rfl, fun y hy => ?_⟩
  · rw [callF_at h]
    unfold Fn.run
    rw [if_pos ⟨rfl, rfl⟩]
    show (match evB (callF P (k + 1)) P.fr [_, _, _, _, _] [none, some ⟨0, f.v⟩, some ⟨0, intsV ds⟩, none, none, none, none, none] (cup a b) with
      | .nx _ c => _
      | .ret v c => _
      | .exc e c => _
      | .stuck => _) = _
    rw [evB_cons, s1, obind_nx, evB_cons, s2', obind_nx, evB_cons, s3, obind_nx, evB_cons, s4, obind_nx, evB_cons, st_ret q8, obind_ret] <;> rfl
  · rcases List.mem_append.mp hy with q | q
    · rcases List.mem_append.mp q with q | q
      · exact gV1 y q
      · exact gV2 y q
    · have : y = intsV es := by simpa using q
      rw [this]
      exact ⟨es, rfl, by omega, esr⟩
end
end PVL
end

section
set_option Elab.async false
set_option linter.all false
set_option maxRecDepth 100000
set_option maxHeartbeats 8000000
/-! PVM32: the law of stances, a turn and the end. -/
namespace PVL
open PySem (Str)
def odds2 (xs : List PV) (n : Nat) (fl : Int) (t : Nat) : List PV := [.non, .tup [], .lst xs, .tup (xs.drop 1), .tup (xs ++ [.int 0]), .int 7, .str "stance", putAt xs t .non, putAt xs t (.int (-1)), putAt xs t (.str "0")] ++ [rep n (.int (fl + 1)), rep n (.bl false), putAt xs t (.tup [.int 0])]
theorem odds2_no {xs : List PV} {n : Nat} {fl : Int} (hx : xs.length = n) (h1 : 1 ≤ n) (f1 : 1 ≤ fl) (f2 : fl ≤ 30) {t : Nat} (ht : t < n) : ∀ o ∈ odds2 xs n fl t, fitsSetting n fl o = false := by
  intro o ho
  have w1 : whole (.int (fl + 1)) 0 fl = false := by unfold whole; simp; omega
  have w2 : whole (.int (-1)) 0 fl = false := by unfold whole; simp
  have pt : ∀ v, whole v 0 fl = false → fitsSetting n fl (putAt xs t v) = false := fun v hv => fs_no (y := v) (by simp) hv
  unfold odds2 at ho
  simp only [List.cons_append, List.nil_append, List.mem_cons, List.not_mem_nil, or_false] at ho
  rcases ho with e | e | e | e | e | e | e | e | e | e | e | e | e <;> subst e
  · rfl
  · exact fs_len (by simp; omega)
  · rfl
  · exact fs_len (by rw [List.length_drop]; omega)
  · exact fs_len (by rw [List.length_append, List.length_singleton]; omega)
  · rfl
  · rfl
  · exact pt _ rfl
  · exact pt _ w2
  · exact pt _ rfl
  · exact fs_rep h1 w1
  · exact fs_rep h1 rfl
  · exact pt _ rfl
theorem odds2_ok {xs : List PV} {n : Nat} {fl : Int} {t : Nat} (hx : ∀ x ∈ xs, okV x = true) : ∀ o ∈ odds2 xs n fl t, okV o = true := by
  intro o ho
  have tup : ∀ ys : List PV, (∀ y ∈ ys, okV y = true) → okV (.tup ys) = true := fun ys h => by unfold okV; exact okVs_all h
  unfold odds2 at ho
  simp only [List.cons_append, List.nil_append, List.mem_cons, List.not_mem_nil, or_false] at ho
  rcases ho with e | e | e | e | e | e | e | e | e | e | e | e | e <;> subst e
  · rfl
  · rfl
  · unfold okV; exact okVs_all hx
  · exact tup _ fun y hy => hx y (List.mem_of_mem_drop hy)
  · exact tup _ fun y hy => by
      rcases List.mem_append.mp hy with e | e
      · exact hx y e
      · have : y = .int 0 := by simpa using e
        rw [this] <;> rfl
  · rfl
  · rfl
  · exact okV_put hx rfl
  · exact okV_put hx rfl
  · exact okV_put hx rfl
  · exact okV_rep rfl
  · exact okV_rep rfl
  · exact okV_put hx rfl
def E02 (S s2 s3 s4 s5 s6 s7 s8 s9 s10 s11 s12 s13 s14 s15 : Option Slot) : Env := [S, none, s2, s3, s4, s5, s6, s7, s8, s9, s10, s11, s12, s13, s14, s15, none, none, none, none, none]
theorem em_is_tt {call : CallF} {env : Env} {c c' : PV} {e : E} (h : em call e env c = .ok (0, .bl true) c') : em call (.is true .tt e) env c = .ok (0, .bl false) c' := by
  show hi ((lo 0 (em call e env c)).bind _) = _
  rw [h] <;> rfl
theorem evs_three {call : CallF} {env : Env} {c c1 c2 c3 : PV} {a b d : E} {k : Nat} {x y z : PV} (ha : em call a env c = .ok (0, x) c1) (hb : em call b env c1 = .ok (0, y) c2) (hd : em call d env c2 = .ok (0, z) c3) : evs call k [a, b, d] env c = .ok [x, y, z] c3 := by simp [evs, lo, Res.bind, ha, hb, hd]
theorem em_or_f {call : CallF} {env : Env} {c c1 c2 : PV} {a b : E} {y : PV} (ha : em call a env c = .ok (0, .bl false) c1) (hb : em call b env c1 = .ok (0, y) c2) : em call (.or a b) env c = .ok (0, y) c2 := by simp [em, lo, hi, truth, Res.bind, Res.of, ha, hb]
section
variable {P : Prog} (D : K02 P)
include D
theorem K02.st_ok {f : Fig} (hf : f.Ok) {ss : List Int} (hl : ss.length = f.ts.length) (hr : ∀ s ∈ ss, 0 ≤ s ∧ s ≤ f.fl) {ds : List Int} (hdl : ds.length = f.n) (hdr : ∀ d ∈ ds, 0 ≤ d ∧ d ≤ f.fl) (k : Nat) : callF P (k + 6) "is_stance" [f.v, intsV ss, intsV ds] .non = .ok (.bl (stB f ss ds)) .non :=
  is_stance_ok D.toFigD D.ist D.ns D.nf D.nst D.fs D.fd D.kl D.ks k hf hl hr hdl hdr
theorem K02.st_no {f : Fig} (hf : f.Ok) {ss : List Int} (hl : ss.length = f.ts.length) (hr : ∀ s ∈ ss, 0 ≤ s ∧ s ≤ f.fl) {v : PV} (hv : okV v = true) (hno : fitsSetting f.n f.fl v = false) (k : Nat) : callF P (k + 6) "is_stance" [f.v, intsV ss, v] .non = .ok (.bl false) .non :=
  is_stance_no D.toFigD D.ist D.ns D.nf D.nst D.fs D.fd k hf hl hr hv hno
theorem k02_turn (S s2 s3 s4 s5 s6 s7 s8 s9 s10 s11 s12 s13 s14 s15 : Option Slot) (a b : Int) : ∃ env' c', evB (callF P 39) P.fr k02_body (E02 S s2 s3 s4 s5 s6 s7 s8 s9 s10 s11 s12 s13 s14 s15) (cup a b) = .nx env' c' ∧ IsCup c' ∧ ∃ s3 s4 s5 s6 s7 s8 s9 s10 s11 s12 s13 s14 s15, env' = E02 S s2 s3 s4 s5 s6 s7 s8 s9 s10 s11 s12 s13 s14 s15 := by
  obtain ⟨v, a1, b1, q1, hv, _⟩ := law_figure_ok D.fi D.so D.ro 36 (most := 8) (strings := 5) (by omega) (by omega) (by omega) (by omega) a b
  obtain ⟨f, rfl, hf⟩ := fig_of hv
  have n1 := hf.n1; have n8 := hf.n8; have f1 := hf.f1; have f30 := hf.f30; have t6 := hf.t6
  refine exB_step (st_set (em_callc rfl q1)) ?_
  obtain ⟨xs1, a2, b2, p1, hxl1, hx1⟩ := law_setting_ok D.se D.so D.ro 36 (.int f.n) (.tup (f.ls.map l3V)) (f.ts.map PV.int) f.fl hf.f1 hf.f30 (by rw [List.length_map]; exact hf.t6) a1 b1
  rw [List.length_map] at hxl1
  obtain ⟨u, rfl, hu⟩ := ints_of (ts := xs1) (p := fun i => 0 ≤ i ∧ i ≤ f.fl) hx1
  rw [List.length_map] at hxl1
  obtain ⟨xs2, a3, b3, p2, hxl2, hx2⟩ := law_setting_ok D.se D.so D.ro 36 (.int f.n) (.tup (f.ls.map l3V)) (f.ts.map PV.int) f.fl hf.f1 hf.f30 (by rw [List.length_map]; exact hf.t6) a2 b2
  rw [List.length_map] at hxl2
  obtain ⟨w, rfl, hw⟩ := ints_of (ts := xs2) (p := fun i => 0 ≤ i ∧ i ≤ f.fl) hx2
  rw [List.length_map] at hxl2
  have hu0 : ∀ s ∈ u, 0 ≤ s := fun s h => (hu s h).1
  have hw0 : ∀ s ∈ w, 0 ≤ s := fun s h => (hw s h).1
  refine exB_step (st_unp2 (x := intsV u) (y := intsV w) (c1 := cup a2 b2) (c2 := cup a3 b3) (em_callc (c' := cup a1 b1) rfl p1) (em_callc (c' := cup a2 b2) rfl p2)) ?_
  obtain ⟨d1, hd1⟩ : ∃ d1, d1 = f.pose u := ⟨_, rfl⟩
  obtain ⟨d2, hd2⟩ : ∃ d2, d2 = f.pose w := ⟨_, rfl⟩
  have l1 : d1.length = f.n := by rw [hd1]; exact pose_len hf hu0
  have l2 : d2.length = f.n := by rw [hd2]; exact pose_len hf hw0
  have r1 : ∀ d ∈ d1, 0 ≤ d ∧ d ≤ f.fl := by rw [hd1]; exact pose_range hf hu0
  have r2 : ∀ d ∈ d2, 0 ≤ d ∧ d ≤ f.fl := by rw [hd2]; exact pose_range hf hw0
  have q3 : callF P 39 "_law_pose" [f.v, intsV u] .non = .ok (intsV d1) .non := by rw [hd1]; exact law_pose_ok D.lp 38 hf u
  have q4 : callF P 39 "_law_pose" [f.v, intsV w] .non = .ok (intsV d2) .non := by rw [hd2]; exact law_pose_ok D.lp 38 hf w
  refine exB_step (st_par2 (em_call1 (xs := [f.v, intsV u]) rfl q3) (em_call1 (c := cup a3 b3) (c' := cup a3 b3) (xs := [f.v, intsV w]) rfl q4)) ?_
  obtain ⟨F, hF⟩ : ∃ F : Slot, F = ⟨0, f.v⟩ := ⟨_, rfl⟩
  obtain ⟨U, hU⟩ : ∃ U : Slot, U = ⟨0, intsV u⟩ := ⟨_, rfl⟩
  obtain ⟨W, hW⟩ : ∃ W : Slot, W = ⟨0, intsV w⟩ := ⟨_, rfl⟩
  obtain ⟨A, hA⟩ : ∃ A : Slot, A = ⟨0, intsV d1⟩ := ⟨_, rfl⟩
  obtain ⟨B, hB⟩ : ∃ B : Slot, B = ⟨0, intsV d2⟩ := ⟨_, rfl⟩
  show ∃ env' c', evB _ _ _ (E02 S s2 (some ⟨0, f.v⟩) (some ⟨0, intsV u⟩) (some ⟨0, intsV w⟩) (some ⟨0, intsV d1⟩) (some ⟨0, intsV d2⟩) s8 s9 s10 s11 s12 s13 s14 s15) (cup a3 b3) = _ ∧ _
  rw [← hF, ← hU, ← hW, ← hA, ← hB]
  -- values near the pose
  obtain ⟨L, a4, b4, q5, Ll, gL⟩ := law_near_ok D.ln D.ro 37 hf l1 r1 a3 b3
  have e5 : em (callF P 39) (.op .add (.callc "_law_near" [.var 3, .var 6]) (.lst 0 [.var 7])) (E02 S s2 (some F) (some U) (some W) (some A) (some B) s8 s9 s10 s11 s12 s13 s14 s15) (cup a3 b3) = .ok (0, .lst (L ++ [intsV d2])) (cup a4 b4) := by
    have w1 : em (callF P 39) (.callc "_law_near" [.var 3, .var 6]) (E02 S s2 (some F) (some U) (some W) (some A) (some B) s8 s9 s10 s11 s12 s13 s14 s15) (cup a3 b3) = .ok (0, .lst L) (cup a4 b4) := em_callc (xs := [f.v, intsV d1]) (c' := cup a3 b3) (by rw [hF, hA] <;> rfl) q5
    have w2 : em (callF P 39) (.lst 0 [.var 7]) (E02 S s2 (some F) (some U) (some W) (some A) (some B) s8 s9 s10 s11 s12 s13 s14 s15) (cup a4 b4) = .ok (0, .lst [intsV d2]) (cup a4 b4) := by rw [hB] <;> rfl
    show hi ((lo 1 (em (callF P 39) (.callc "_law_near" [.var 3, .var 6]) _ (cup a3 b3))).bind fun x c => (lo 1 (em (callF P 39) (.lst 0 [.var 7]) _ c)).bind fun y c => .of (op2 .add x y) c) = _
    rw [w1, lo_ok, if_pos (by omega), bind_ok, w2, lo_ok, if_pos (by omega), bind_ok]
    have e2 : op2 .add (.lst L) (.lst [intsV d2]) = some (.lst (L ++ [intsV d2])) := if_pos (by rw [Ll]; show 11 ≤ SZ; unfold SZ; omega)
    rw [e2] <;> rfl
  have gV : ∀ y ∈ L ++ [intsV d2], DepV f.n f.fl y := fun y hy => by
    rcases List.mem_append.mp hy with q | q
    · exact gL y q
    · have : y = intsV d2 := by simpa using q
      rw [this]; exact ⟨d2, rfl, l2, r2⟩
  obtain ⟨env', c', e6, rfl, s8', rfl⟩ := forL_inv (tg := .nm 8) (f := fun env c => evB (callF P 39) P.fr [.ife (.not (.call "_law_same" [.call "is_stance" [.var 3, .var 4, .var 8], .call "_law_is_stance" [.var 3, .var 4, .var 8]])) [.ret (.con (.bl false))] []] env c) (I := fun _ env c' => c' = cup a4 b4 ∧ ∃ s8, env = E02 S s2 (some F) (some U) (some W) (some A) (some B) s8 s9 s10 s11 s12 s13 s14 s15) (L ++ [intsV d2]) 0 (E02 S s2 (some F) (some U) (some W) (some A) (some B) s8 s9 s10 s11 s12 s13 s14 s15) (cup a4 b4) (by
    intro i y env c' hy ⟨ec, s8, he⟩
    subst ec he
    obtain ⟨es, rfl, el, er⟩ := gV y (List.mem_of_getElem? hy)
    obtain ⟨env2, he2⟩ : ∃ env2, env2 = E02 S s2 (some F) (some U) (some W) (some A) (some B) (some ⟨0, intsV es⟩) s9 s10 s11 s12 s13 s14 s15 := ⟨_, rfl⟩
    refine ⟨env2, env2, cup a4 b4, by rw [he2] <;> rfl, ?_, rfl, some ⟨0, intsV es⟩, he2⟩
    have p1 := D.st_ok hf hxl1 hu el er 33
    have p2 := law_is_stance_ok D.ls 38 hf u el
    have w1 : em (callF P 39) (.call "is_stance" [.var 3, .var 4, .var 8]) env2 (cup a4 b4) = .ok (0, .bl (stB f u es)) (cup a4 b4) := em_call1 (xs := [f.v, intsV u, intsV es]) (by rw [he2, hF, hU] <;> rfl) p1
    have w2 : em (callF P 39) (.call "_law_is_stance" [.var 3, .var 4, .var 8]) env2 (cup a4 b4) = .ok (0, .bl (stB f u es)) (cup a4 b4) := em_call1 (xs := [f.v, intsV u, intsV es]) (by rw [he2, hF, hU] <;> rfl) p2
    have w3 : em (callF P 39) (.call "_law_same" [.call "is_stance" [.var 3, .var 4, .var 8], .call "_law_is_stance" [.var 3, .var 4, .var 8]]) env2 (cup a4 b4) = .ok (0, .bl true) (cup a4 b4) := em_call1 (evs_two w1 w2) (same_ok D.sa 0 38 (.bl (stB f u es)) trivial)
    have w4 : em (callF P 39) (.not (.call "_law_same" [.call "is_stance" [.var 3, .var 4, .var 8], .call "_law_is_stance" [.var 3, .var 4, .var 8]])) env2 (cup a4 b4) = .ok (0, .bl false) (cup a4 b4) := by simp [em, lo, hi, tst, truth, Res.bind, Res.of, ↓w3]
    rw [evB_cons, st_pass_if w4 (by omega) rfl, obind_nx] <;> rfl) ⟨rfl, s8, rfl⟩
  refine exB_step ((st_for (vs := [.lst (L ++ [intsV d2])]) (xs := L ++ [intsV d2]) (evs_one e5 (Nat.le_refl _)) rfl).trans e6) ?_
  -- lesser and greater ones
  have bmn : ∀ x y, PVL.b1 .min (prV (x, y)) = some (.int (mn x y)) := fun _ _ => rfl
  have bmx : ∀ x y, PVL.b1 .max (prV (x, y)) = some (.int (mx x y)) := fun _ _ => rfl
  refine exB_step (st_par2 (em_zw (a := d1) (b := d2) bmn (by rw [hA] <;> rfl) (by rw [hB] <;> rfl) (by simp [E02])) (em_zw (a := d1) (b := d2) bmx (by rw [hA] <;> rfl) (by rw [hB] <;> rfl) (by simp [E02]))) ?_
  refine exB_step (st_par2 (em_zw (a := u) (b := w) bmn (by rw [hU] <;> rfl) (by rw [hW] <;> rfl) (by simp [E02])) (em_zw (a := u) (b := w) bmx (by rw [hU] <;> rfl) (by rw [hW] <;> rfl) (by simp [E02]))) ?_
  obtain ⟨env3, he3⟩ : ∃ env3, env3 = E02 S s2 (some F) (some U) (some W) (some A) (some B) s8' (some ⟨0, intsV (zw mn d1 d2)⟩) (some ⟨0, intsV (zw mx d1 d2)⟩) (some ⟨0, intsV (zw mn u w)⟩) (some ⟨0, intsV (zw mx u w)⟩) s13 s14 s15 := ⟨_, rfl⟩
  show ∃ env' c', evB _ _ _ (E02 S s2 (some F) (some U) (some W) (some A) (some B) s8' (some ⟨0, intsV (zw mn d1 d2)⟩) (some ⟨0, intsV (zw mx d1 d2)⟩) (some ⟨0, intsV (zw mn u w)⟩) (some ⟨0, intsV (zw mx u w)⟩) s13 s14 s15) (cup a4 b4) = _ ∧ _
  rw [← he3]
  have t1 : stB f u d1 = true := by rw [hd1]; exact st_pose hf hu0
  have t2 : stB f w d2 = true := by rw [hd2]; exact st_pose hf hw0
  have rng' : ∀ {g : Int → Int → Int}, (g = mn ∨ g = mx) → ∀ {x y : List Int}, (∀ d ∈ x, 0 ≤ d ∧ d ≤ f.fl) → (∀ d ∈ y, 0 ≤ d ∧ d ≤ f.fl) → ∀ d ∈ zw g x y, 0 ≤ d ∧ d ≤ f.fl := fun {g} hg {x y} hx hy => zw_mem (p := fun d => 0 ≤ d ∧ d ≤ f.fl) fun p hp q hq => by
    have := hx p hp
    have := hy q hq
    rcases hg with e | e <;> subst e <;> simp only [mn_eq, mx_eq] <;> omega
  have c1 := D.st_ok hf hxl1 hu l1 r1 33
  have c2 := D.st_ok hf (ss := zw mn u w) (ds := zw mn d1 d2) (by rw [zw_len (by omega)]; exact hxl1) (rng' (.inl rfl) hu hw) (by rw [zw_len (by omega)]; exact l1) (rng' (.inl rfl) r1 r2) 33
  have c3 := D.st_ok hf (ss := zw mx u w) (ds := zw mx d1 d2) (by rw [zw_len (by omega)]; exact hxl1) (rng' (.inr rfl) hu hw) (by rw [zw_len (by omega)]; exact l1) (rng' (.inr rfl) r1 r2) 33
  rw [t1] at c1
  rw [st_zw hf l1 l2 t1 t2 (.inl rfl)] at c2
  rw [st_zw hf l1 l2 t1 t2 (.inr rfl)] at c3
  have g1 : em (callF P 39) (.call "is_stance" [.var 3, .var 4, .var 6]) env3 (cup a4 b4) = .ok (0, .bl true) (cup a4 b4) := em_call1 (xs := [f.v, intsV u, intsV d1]) (by rw [he3, hF, hU, hA] <;> rfl) c1
  have g2 : em (callF P 39) (.call "is_stance" [.var 3, .var 11, .var 9]) env3 (cup a4 b4) = .ok (0, .bl true) (cup a4 b4) := em_call1 (xs := [f.v, intsV (zw mn u w), intsV (zw mn d1 d2)]) (by rw [he3, hF] <;> rfl) c2
  have g3 : em (callF P 39) (.call "is_stance" [.var 3, .var 12, .var 10]) env3 (cup a4 b4) = .ok (0, .bl true) (cup a4 b4) := em_call1 (xs := [f.v, intsV (zw mx u w), intsV (zw mx d1 d2)]) (by rw [he3, hF] <;> rfl) c3
  refine exB_step (st_pass_if (em_or_f (em_is_tt g1) (em_or_f (em_is_tt g2) (em_is_tt g3))) (by omega) rfl) ?_
  -- odds
  have ln : PVL.b1 .len (intsV d1) = some (.int f.n) := by
    show some (PV.int ((d1.map PV.int).length : Nat)) = _
    rw [List.length_map, l1]
  have e6 : ∀ c, em (callF P 39) (.b1 .len (.var 6)) env3 c = .ok (0, .int f.n) c := fun c => em_b1 (x := intsV d1) (n := 0) (by rw [he3, hA] <;> rfl) (Nat.zero_le _) ln
  obtain ⟨r, a5, b5, q9, r0, r1'⟩ := em_roll D.ro (n := 38) (e6 (cup a4 b4)) (by omega) (by omega)
  obtain ⟨t, rfl⟩ : ∃ t : Nat, r = t := ⟨r.toNat, by omega⟩
  have tl : t < f.n := by omega
  have hfl : em (callF P 39) (.ix (.var 3) (.con (.int 3))) env3 (cup a5 b5) = .ok (0, .int f.fl) (cup a5 b5) := by rw [he3, hF] <;> rfl
  refine exB_step (st_par2 q9 hfl) ?_
  rw [he3]
  clear hfl q9 e6 g1 g2 g3 he3 env3
  obtain ⟨env4, he4⟩ : ∃ env4, env4 = E02 S s2 (some F) (some U) (some W) (some A) (some B) s8' (some ⟨0, intsV (zw mn d1 d2)⟩) (some ⟨0, intsV (zw mx d1 d2)⟩) (some ⟨0, intsV (zw mn u w)⟩) (some ⟨0, intsV (zw mx u w)⟩) (some ⟨0, .int (t : Int)⟩) (some ⟨0, .int f.fl⟩) s15 := ⟨_, rfl⟩
  show ∃ env' c', evB _ _ _ (E02 S s2 (some F) (some U) (some W) (some A) (some B) s8' (some ⟨0, intsV (zw mn d1 d2)⟩) (some ⟨0, intsV (zw mx d1 d2)⟩) (some ⟨0, intsV (zw mn u w)⟩) (some ⟨0, intsV (zw mx u w)⟩) (some ⟨0, .int (t : Int)⟩) (some ⟨0, .int f.fl⟩) s15) (cup a5 b5) = _ ∧ _
  rw [← he4]
  have v6 : env4[6]? = some (some ⟨0, .tup (d1.map PV.int)⟩) := by rw [he4, hA] <;> rfl
  have v13 : env4[13]? = some (some ⟨0, .int (t : Int)⟩) := by rw [he4] <;> rfl
  have v14 : env4[14]? = some (some ⟨0, .int f.fl⟩) := by rw [he4] <;> rfl
  have hml : (d1.map PV.int).length = f.n := by rw [List.length_map]; exact l1
  have pt : ∀ (e : E) (y : PV), em (callF P 39) e env4 (cup a5 b5) = .ok (0, y) (cup a5 b5) → em (callF P 39) (.op .add (.op .add (.sl (.var 6) false true [.var 13]) (.tup [e])) (.sl (.var 6) true false [.op .add (.var 13) (.con (.int 1))])) env4 (cup a5 b5) = .ok (0, putAt (d1.map PV.int) t y) (cup a5 b5) := fun e y he => em_putE v6 v13 he (by omega) (by omega)
  have P1 := pt (.con .non) .non rfl
  have P2 := pt (.neg (.con (.int 1))) (.int (-1)) rfl
  have P3 := pt (.con (.str "0")) (.str "0") rfl
  have P4 := pt (.tup [.con (.int 0)]) (.tup [.int 0]) rfl
  have sl1 : slice (.tup (d1.map PV.int)) (some 1) none = some (.tup ((d1.map PV.int).drop 1)) := by
    show some (PV.tup (cutV (d1.map PV.int) (some 1) none)) = _
    rw [cut_tail]
  have ad0 : op2 .add (.tup (d1.map PV.int)) (.tup [.int 0]) = some (.tup (d1.map PV.int ++ [.int 0])) := if_pos (by rw [hml]; show f.n + 1 ≤ SZ; unfold SZ; omega)
  have ad1 : op2 .add (.int f.fl) (.int 1) = some (.int (f.fl + 1)) := rfl
  have m3 : op2 .mul (.tup [.int (f.fl + 1)]) (.int f.n) = some (rep f.n (.int (f.fl + 1))) := mul_rep n1 (by omega) _
  have m5 : op2 .mul (.tup [.bl false]) (.int f.n) = some (rep f.n (.bl false)) := mul_rep n1 (by omega) _
  obtain ⟨O1, hO1⟩ : ∃ O1 : List PV, O1 = [.non, .tup [], .lst (d1.map PV.int), .tup ((d1.map PV.int).drop 1), .tup (d1.map PV.int ++ [.int 0]), .int 7, .str "stance", putAt (d1.map PV.int) t .non, putAt (d1.map PV.int) t (.int (-1)), putAt (d1.map PV.int) t (.str "0")] := ⟨_, rfl⟩
  obtain ⟨O2, hO2⟩ : ∃ O2 : List PV, O2 = [rep f.n (.int (f.fl + 1)), rep f.n (.bl false), putAt (d1.map PV.int) t (.tup [.int 0])] := ⟨_, rfl⟩
  refine exB_step (st_set (x := .lst O1) (c' := cup a5 b5) ?_) ?_
  · rw [hO1]
    have b1l : PVL.b1 .list (.tup (d1.map PV.int)) = some (.lst (d1.map PV.int)) := rfl
    have E1 : em (callF P 39) (.b1 .list (.var 6)) env4 (cup a5 b5) = .ok (0, .lst (d1.map PV.int)) (cup a5 b5) := em_b1 (x := .tup (d1.map PV.int)) (n := 0) (by simp only [em, v6]) (Nat.zero_le _) b1l
    have E2 : em (callF P 39) (.sl (.var 6) true false [.con (.int 1)]) env4 (cup a5 b5) = .ok (0, .tup ((d1.map PV.int).drop 1)) (cup a5 b5) := by
      simp only [em, evi, v6, lo_ok, Nat.zero_le, Nat.le_refl, if_true, bind_ok, int?, of_some, sl1, hi_ok]
    have E3 : em (callF P 39) (.op .add (.var 6) (.tup [.con (.int 0)])) env4 (cup a5 b5) = .ok (0, .tup (d1.map PV.int ++ [.int 0])) (cup a5 b5) := by
      simp only [em, evs, v6, lo_ok, Nat.zero_le, Nat.le_refl, if_true, bind_ok, of_some, ad0, hi_ok]
    clear he4 v6 v13 v14 pt
    simp [em, evs, lo, Res.bind, ↓E1, ↓E2, ↓E3, ↓P1, ↓P2, ↓P3]
  have v6' : (env4.set 15 (some ⟨0, .lst O1⟩))[6]? = some (some ⟨0, .tup (d1.map PV.int)⟩) := by rw [he4, hA] <;> rfl
  obtain ⟨env5, he5⟩ : ∃ env5, env5 = env4.set 15 (some ⟨0, .lst O1⟩) := ⟨_, rfl⟩
  have he5' : env5 = E02 S s2 (some F) (some U) (some W) (some A) (some B) s8' (some ⟨0, intsV (zw mn d1 d2)⟩) (some ⟨0, intsV (zw mx d1 d2)⟩) (some ⟨0, intsV (zw mn u w)⟩) (some ⟨0, intsV (zw mx u w)⟩) (some ⟨0, .int (t : Int)⟩) (some ⟨0, .int f.fl⟩) (some ⟨0, .lst O1⟩) := by rw [he5, he4] <;> rfl
  rw [← he5]
  have y6 : env5[6]? = some (some ⟨0, .tup (d1.map PV.int)⟩) := by rw [he5', hA] <;> rfl
  have y13 : env5[13]? = some (some ⟨0, .int (t : Int)⟩) := by rw [he5'] <;> rfl
  have y14 : env5[14]? = some (some ⟨0, .int f.fl⟩) := by rw [he5'] <;> rfl
  have P5 : em (callF P 39) (.op .add (.op .add (.sl (.var 6) false true [.var 13]) (.tup [.tup [.con (.int 0)]])) (.sl (.var 6) true false [.op .add (.var 13) (.con (.int 1))])) env5 (cup a5 b5) = .ok (0, putAt (d1.map PV.int) t (.tup [.int 0])) (cup a5 b5) := em_putE y6 y13 rfl (by omega) (by omega)
  have L5 : em (callF P 39) (.b1 .len (.var 6)) env5 (cup a5 b5) = .ok (0, .int f.n) (cup a5 b5) := em_b1 (x := intsV d1) (n := 0) (by simp only [em, y6]; rfl) (Nat.zero_le _) ln
  have Q1 : em (callF P 39) (.op .mul (.tup [.op .add (.var 14) (.con (.int 1))]) (.b1 .len (.var 6))) env5 (cup a5 b5) = .ok (0, rep f.n (.int (f.fl + 1))) (cup a5 b5) := by
    have z : em (callF P 39) (.tup [.op .add (.var 14) (.con (.int 1))]) env5 (cup a5 b5) = .ok (0, .tup [.int (f.fl + 1)]) (cup a5 b5) := by
      simp only [em, evs, y14, lo_ok, Nat.zero_le, Nat.le_refl, if_true, bind_ok, of_some, ad1, hi_ok, lo_hi]
    show hi ((lo 1 (em (callF P 39) (.tup [.op .add (.var 14) (.con (.int 1))]) env5 (cup a5 b5))).bind fun x c => (lo 1 (em (callF P 39) (.b1 .len (.var 6)) env5 c)).bind fun y c => .of (op2 .mul x y) c) = _
    rw [z, lo_ok, if_pos (by omega), bind_ok, L5, lo_ok, if_pos (by omega), bind_ok, m3] <;> rfl
  have Q2 : em (callF P 39) (.op .mul (.tup [.con (.bl false)]) (.b1 .len (.var 6))) env5 (cup a5 b5) = .ok (0, rep f.n (.bl false)) (cup a5 b5) := by
    have z : em (callF P 39) (.tup [.con (.bl false)]) env5 (cup a5 b5) = .ok (0, .tup [.bl false]) (cup a5 b5) := rfl
    show hi ((lo 1 (em (callF P 39) (.tup [.con (.bl false)]) env5 (cup a5 b5))).bind fun x c => (lo 1 (em (callF P 39) (.b1 .len (.var 6)) env5 c)).bind fun y c => .of (op2 .mul x y) c) = _
    rw [z, lo_ok, if_pos (by omega), bind_ok, L5, lo_ok, if_pos (by omega), bind_ok, m5] <;> rfl
  have Q3 : em (callF P 39) (.lst 0 [.op .mul (.tup [.op .add (.var 14) (.con (.int 1))]) (.b1 .len (.var 6)), .op .mul (.tup [.con (.bl false)]) (.b1 .len (.var 6)), .op .add (.op .add (.sl (.var 6) false true [.var 13]) (.tup [.tup [.con (.int 0)]])) (.sl (.var 6) true false [.op .add (.var 13) (.con (.int 1))])]) env5 (cup a5 b5) = .ok (0, .lst O2) (cup a5 b5) := by
    rw [hO2]
    show (evs (callF P 39) 0 [_, _, _] env5 (cup a5 b5)).bind (fun xs c => Res.ok (0, PV.lst xs) c) = _
    rw [evs_three Q1 Q2 P5] <;> rfl
  refine exB_step (st_set (add_lst (d1 := 0) (d2 := 0) (xs := O1) (ys := O2) (by rw [he5'] <;> rfl) (by omega) Q3 (by omega) (by rw [hO1, hO2]; simp))) ?_
  rw [he5']
  show ∃ env' c', evB _ _ _ (E02 S s2 (some F) (some U) (some W) (some A) (some B) s8' (some ⟨0, intsV (zw mn d1 d2)⟩) (some ⟨0, intsV (zw mx d1 d2)⟩) (some ⟨0, intsV (zw mn u w)⟩) (some ⟨0, intsV (zw mx u w)⟩) (some ⟨0, .int (t : Int)⟩) (some ⟨0, .int f.fl⟩) (some ⟨0, .lst (O1 ++ O2)⟩)) (cup a5 b5) = _ ∧ _
  have no := odds2_no (xs := d1.map PV.int) hml n1 f1 f30 tl
  have ok := odds2_ok (xs := d1.map PV.int) (n := f.n) (fl := f.fl) (t := t) (fun x hx => by obtain ⟨i, _, rfl⟩ := List.mem_map.mp hx; rfl)
  have eO : odds2 (d1.map PV.int) f.n f.fl t = O1 ++ O2 := by rw [hO1, hO2] <;> rfl
  rw [eO] at no ok
  have h15 : em (callF P 39) (.cmp .ne (.comp [20] (.nm 20) .seq [.var 15] [.is true .ff (.call "is_stance" [.var 3, .var 4, .var 20])] 0 (.var 20)) (.lst 0 [])) (E02 S s2 (some F) (some U) (some W) (some A) (some B) s8' (some ⟨0, intsV (zw mn d1 d2)⟩) (some ⟨0, intsV (zw mx d1 d2)⟩) (some ⟨0, intsV (zw mn u w)⟩) (some ⟨0, intsV (zw mx u w)⟩) (some ⟨0, .int (t : Int)⟩) (some ⟨0, .int f.fl⟩) (some ⟨0, .lst (O1 ++ O2)⟩)) (cup a5 b5) = .ok (0, .bl false) (cup a5 b5) := by
    refine em_none (xs := O1 ++ O2) rfl fun z hz => ?_
    have q := D.st_no hf hxl1 hu (ok z hz) (no z hz) 33
    have w := em_call1 (call := callF P 39) (f := "is_stance") (as := [.var 3, .var 4, .var 20]) (env := ((E02 S s2 (some F) (some U) (some W) (some A) (some B) s8' (some ⟨0, intsV (zw mn d1 d2)⟩) (some ⟨0, intsV (zw mx d1 d2)⟩) (some ⟨0, intsV (zw mn u w)⟩) (some ⟨0, intsV (zw mx u w)⟩) (some ⟨0, .int (t : Int)⟩) (some ⟨0, .int f.fl⟩) (some ⟨0, .lst (O1 ++ O2)⟩)).set 20 none).set 20 (some ⟨0, z⟩)) (c := cup a5 b5) (c' := cup a5 b5) (xs := [f.v, intsV u, z]) (by rw [hF, hU] <;> rfl) q
    simp [evc, em, lo, hi, tst, truth, Res.bind, Res.of, isS, ↓w]
  refine exB_step (st_pass_if h15 (by omega) rfl) ?_
  exact ⟨_, _, rfl, ⟨a5, b5, rfl⟩, _, _, _, _, _, _, _, _, _, _, _, _, _, rfl⟩
end
end PVL
end

section
set_option Elab.async false
set_option linter.all false
set_option maxRecDepth 100000
set_option maxHeartbeats 8000000
/-! PVM34: what is taut, what lies. -/
namespace PVL
open PySem (Str)
def f_taut_strings : Fn := ⟨"taut_strings", ["figure", "setting", "depths", "at", "tie"], 2, false, none, 0, [
    .expr (.call "need_set" [.var 0, .var 1]),
    .set 2 false (.call "pose_in" [.var 0, .var 1]),
    .ret (.b1 .tuple (.comp [3, 4] (.tup [.nm 3, .nm 4]) .enum [.ix (.var 0) (.con (.int 2))] [.cmp .eq (.ix (.var 2) (.var 4)) (.ix (.var 1) (.var 3))] 0 (.var 3)))]⟩
def f_taut_limbs : Fn := ⟨"taut_limbs", ["figure", "setting", "depths", "limb"], 2, false, none, 0, [
    .expr (.call "need_set" [.var 0, .var 1]),
    .set 2 false (.call "pose_in" [.var 0, .var 1]),
    .ret (.b1 .tuple (.comp [3] (.nm 3) .seq [.ix (.var 0) (.con (.int 1))] [.cmp .eq (.b1 .abs (.op .sub (.ix (.var 2) (.ix (.var 3) (.con (.int 0)))) (.ix (.var 2) (.ix (.var 3) (.con (.int 1)))))) (.ix (.var 3) (.con (.int 2)))] 0 (.var 3)))]⟩
def f_lying : Fn := ⟨"lying", ["figure", "setting", "joint", "depth"], 2, false, none, 0, [
    .expr (.call "need_set" [.var 0, .var 1]),
    .ret (.b1 .tuple (.comp [2, 3] (.tup [.nm 2, .nm 3]) .enum [.call "pose_in" [.var 0, .var 1]] [.cmp .eq (.var 3) (.ix (.var 0) (.con (.int 3)))] 0 (.var 2)))]⟩
theorem enum_ints (ds : List Int) : ((ds.map PV.int).zipIdx).map (fun p => PV.tup [.int p.2, p.1]) = (List.range ds.length).map fun (k : Nat) => prV ((k : Int), PVN.gt ds k) := by
  refine List.ext_getElem (by simp) fun i h1 h2 => ?_
  have hi : i < ds.length := by simpa using h1
  rw [List.getElem_map, List.getElem_zipIdx, List.getElem_map, List.getElem_map, List.getElem_range, PVN.gt_get hi]
  simp [prV]
theorem filt_range {n : Nat} {h : Nat → PV} {p : PV → Bool} {g : PV → PV} : (((List.range n).map h).filter p).map g = ((List.range n).filter fun k => p (h k)).map fun k => g (h k) := by
  rw [List.filter_map, List.map_map] <;> rfl
/-- which strings are taut -/
def tautS (f : Fig) (ss ds : List Int) : List Int := ((List.range f.ts.length).filter fun (k : Nat) => decide (PVN.gt ds (PVN.gt f.ts k) = PVN.gt ss k)).map fun (k : Nat) => (k : Int)
def absI (i : Int) : Int := if i < 0 then -i else i
def tautL (f : Fig) (ds : List Int) : List L3 := f.ls.filter fun l => decide (absI (PVN.gt ds l.1 - PVN.gt ds l.2.1) = l.2.2)
def lieJ (f : Fig) (ds : List Int) : List Int := ((List.range f.n).filter fun (k : Nat) => decide (PVN.gt ds k = f.fl)).map fun (k : Nat) => (k : Int)
theorem eq_int (a b : Int) : cmp .eq (.int a) (.int b) = some (decide (a = b)) := by
  show some (a == b) = _
  by_cases h : a = b
  · subst h; simp
  · simp [h]
theorem st_expr {call : CallF} {fr : List Str} {env : Env} {c c' : PV} {e : E} {x : PV} (h : em call e env c = .ok (0, x) c') : evS call fr (.expr e) env c = .nx env c' := by
  show (ev call e env c).out _ = _
  rw [ev_of h] <;> rfl
/-- a def of three statements: a check, a value, an answer -/
theorem run_pose3 {fr : List Str} {fn : Fn} {call : CallF} {args : List PV} {env1 : Env} {v : PV} {s1 s2 s3 : S} (h1 : evS call fr s1 (fn.start args) .non = .nx (fn.start args) .non) (h2 : evS call fr s2 (fn.start args) .non = .nx env1 .non) (h3 : evS call fr s3 env1 .non = .ret v .non)
    (hb : fn.body = [s1, s2, s3] := by rfl) (hp : fn.cellPar = false := by rfl) (hl : args.length = fn.np := by rfl) : fn.run fr call args .non = .ok v .non := by
  unfold Fn.run
  rw [hb, hp, if_pos ⟨by simp [hl], rfl⟩, evB_cons, h1, obind_nx, evB_cons, h2, obind_nx, evB_cons, h3, obind_ret] <;> rfl
theorem comp_tautL (call : CallF) {env : Env} {c : PV} (f : Fig) (ds : List Int) {own : List Nat} {srcs conds : List E} {e : E} {tg : Tg} {k : ItK} {vs : List PV} (hs : evs call 1 srcs env c = .ok vs c) (hi' : items k vs = some (f.ls.map l3V))
    (step : ∀ l ∈ f.ls, ∃ e1, tg.put (l3V l) (wipe env own) = some e1 ∧ evc call conds e1 c = .ok (decide (absI (PVN.gt ds l.1 - PVN.gt ds l.2.1) = l.2.2)) c ∧ ev call e e1 c = .ok (l3V l) c) :
    em call (.b1 .tuple (.comp own tg k srcs conds 0 e)) env c = .ok (0, .tup ((tautL f ds).map l3V)) c := by
  have q := comp_pure (call := call) (own := own) (tg := tg) (k := k) (srcs := srcs) (conds := conds) (d := 0) (elt := e) (env := env) (c := c) (fun x => match x with | .tup [.int a, .int b, .int w] => decide (absI (PVN.gt ds a - PVN.gt ds b) = w) | _ => false) (fun x => x) hs hi' (fun x hx => by
    obtain ⟨l, hm, rfl⟩ := List.mem_map.mp hx
    obtain ⟨e1, g1, g2, g3⟩ := step l hm
    exact ⟨e1, g1, g2, fun _ => g3⟩)
  rw [List.filter_map, List.map_map] at q
  exact em_b1 q (Nat.zero_le _) rfl
theorem comp_lie (call : CallF) {env : Env} {c : PV} (f : Fig) (ds : List Int) {own : List Nat} {srcs conds : List E} {e : E} {tg : Tg} {k : ItK} {xs vs : List PV} (hs : evs call 1 srcs env c = .ok vs c) (hi' : items k vs = some xs) {h : Nat → PV} (hx : xs = (List.range f.n).map h)
    (step : ∀ k : Nat, k < f.n → ∃ e1, tg.put (h k) (wipe env own) = some e1 ∧ evc call conds e1 c = .ok (decide (PVN.gt ds k = f.fl)) c ∧ ev call e e1 c = .ok (.int (k : Int)) c) (hinj : ∀ k : Nat, ∃ r, h k = .tup (.int (k : Int) :: r) ∨ h k = .int (k : Int)) :
    em call (.b1 .tuple (.comp own tg k srcs conds 0 e)) env c = .ok (0, intsV (lieJ f ds)) c := by
  subst hx
  obtain ⟨no, hno⟩ : ∃ no : PV → Nat, no = fun x => match x with | .tup (.int k :: _) => k.toNat | .int k => k.toNat | _ => 0 := ⟨_, rfl⟩
  have hk : ∀ k : Nat, no (h k) = k := fun k => by
    obtain ⟨r, e | e⟩ := hinj k
    · rw [e, hno]; simp
    · rw [e, hno]; simp
  have q := comp_pure (call := call) (own := own) (tg := tg) (k := k) (srcs := srcs) (conds := conds) (d := 0) (elt := e) (env := env) (c := c) (fun x => decide (PVN.gt ds (no x) = f.fl)) (fun x => .int (no x)) hs hi' (fun x hx => by
    obtain ⟨k, hm, rfl⟩ := List.mem_map.mp hx
    obtain ⟨e1, g1, g2, g3⟩ := step k (List.mem_range.mp hm)
    exact ⟨e1, g1, by simp only [hk]; exact g2, fun _ => by simp only [hk]; exact g3⟩)
  rw [filt_range] at q
  simp only [hk] at q
  refine em_b1 q (Nat.zero_le _) ?_
  unfold intsV lieJ
  rw [List.map_map] <;> rfl
section
variable {P : Prog}
theorem comp_tautS (call : CallF) {env : Env} {c : PV} {f : Fig} (hf : f.Ok) {ss ds : List Int} (hl : ss.length = f.ts.length) (hdl : ds.length = f.n) {own : List Nat} {srcs conds : List E} {e : E} {tg : Tg} {k : ItK} {xs vs : List PV} (hs : evs call 1 srcs env c = .ok vs c) (hi' : items k vs = some xs) (h : Nat → PV) (hx : xs = (List.range f.ts.length).map h)
    (step : ∀ k : Nat, k < f.ts.length → ∃ e1, tg.put (h k) (wipe env own) = some e1 ∧ evc call conds e1 c = .ok (decide (PVN.gt ds (PVN.gt f.ts k) = PVN.gt ss k)) c ∧ ev call e e1 c = .ok (.int (k : Int)) c) (hinj : ∀ k : Nat, ∃ r, h k = .tup (.int (k : Int) :: r) ∨ h k = .int (k : Int)) :
    em call (.b1 .tuple (.comp own tg k srcs conds 0 e)) env c = .ok (0, intsV (tautS f ss ds)) c := by
  subst hx
  obtain ⟨no, hno⟩ : ∃ no : PV → Nat, no = fun x => match x with | .tup (.int k :: _) => k.toNat | .int k => k.toNat | _ => 0 := ⟨_, rfl⟩
  have hk : ∀ k : Nat, no (h k) = k := fun k => by
    obtain ⟨r, e | e⟩ := hinj k
    · rw [e, hno]; simp
    · rw [e, hno]; simp
  have q := comp_pure (call := call) (own := own) (tg := tg) (k := k) (srcs := srcs) (conds := conds) (d := 0) (elt := e) (env := env) (c := c) (fun x => decide (PVN.gt ds (PVN.gt f.ts (no x)) = PVN.gt ss (no x))) (fun x => .int (no x)) hs hi' (fun x hx => by
    obtain ⟨k, hm, rfl⟩ := List.mem_map.mp hx
    obtain ⟨e1, g1, g2, g3⟩ := step k (List.mem_range.mp hm)
    exact ⟨e1, g1, by simp only [hk]; exact g2, fun _ => by simp only [hk]; exact g3⟩)
  rw [filt_range] at q
  simp only [hk] at q
  refine em_b1 q (Nat.zero_le _) ?_
  unfold intsV tautS
  rw [List.map_map] <;> rfl
theorem taut_strings_ok (D : FigD P) (h : P.fn "taut_strings" = some f_taut_strings) (hd : P.fn "need_set" = some f_need_set) (hn : P.fn "need_figure" = some f_need_figure) (hs : P.fn "need_setting" = some f_need_setting) (hfs : P.fn "fits_setting" = some f_fits_setting) (hi' : P.fn "pose_in" = some f_pose_in) (hb : P.fn "pose_by" = some f_pose_by) (ht : P.fn "table_of" = some f_table_of) (k : Nat) {f : Fig} (hf : f.Ok) {ss : List Int} (hl : ss.length = f.ts.length) (hr : ∀ s ∈ ss, 0 ≤ s ∧ s ≤ f.fl) :
    callF P (k + 6) "taut_strings" [f.v, intsV ss] .non = .ok (intsV (tautS f ss (f.pose ss))) .non := by
  rw [callF_at h]
  have q1 := need_set_ok D hd hn hs hfs k hf (okV_ints ss) (fs_of hl hr)
  have hs0 : ∀ s ∈ ss, 0 ≤ s := fun s h => (hr s h).1
  have q2 := pose_in_ok hi' hb ht (k + 3) hf hs0
  obtain ⟨ds, hds⟩ : ∃ ds, ds = f.pose ss := ⟨_, rfl⟩
  have dl : ds.length = f.n := by rw [hds]; exact pose_len hf hs0
  rw [← hds] at q2 ⊢
  have a1 : em (callF P (k + 5)) (.b1 .tuple (.comp [3, 4] (.tup [.nm 3, .nm 4]) .enum [.ix (.var 0) (.con (.int 2))] [.cmp .eq (.ix (.var 2) (.var 4)) (.ix (.var 1) (.var 3))] 0 (.var 3))) [some ⟨0, f.v⟩, some ⟨0, intsV ss⟩, some ⟨0, intsV ds⟩, none, none] .non = .ok (0, intsV (tautS f ss ds)) .non := by
    refine comp_tautS _ hf hl dl (vs := [.tup (f.ts.map PV.int)]) (xs := (List.range f.ts.length).map fun (k : Nat) => prV ((k : Int), PVN.gt f.ts k)) rfl (by show some _ = _; rw [enum_ints]) _ rfl (fun k hk => ?_) fun k => ⟨_, .inl rfl⟩
    have g : 0 ≤ PVN.gt f.ts k ∧ PVN.gt f.ts k < f.n := gt_mem (p := fun t => 0 ≤ t ∧ t < f.n) hf.tie (by omega) (by omega)
    have i1 : item (intsV ds) (.int (PVN.gt f.ts k)) = some (.int (PVN.gt ds (PVN.gt f.ts k))) := item_ints g.1 (by omega)
    have i2 : item (intsV ss) (.int (k : Int)) = some (.int (PVN.gt ss k)) := item_ints (by omega) (by omega)
    have dn : ∀ ds : List Int, ∀ k, downD k (intsV ds) = 0 := fun _ _ => rfl
    refine ⟨_, rfl, ?_, rfl⟩
    simp [evc, em, lo, hi, wipe, tst, truth, Res.bind, Res.of, prV, i1, i2, dn, eq_int]
  exact run_pose3 (st_expr (em_call1 (xs := [f.v, intsV ss]) rfl q1)) (st_set (em_call1 (xs := [f.v, intsV ss]) rfl q2)) (st_ret a1)
theorem taut_limbs_ok (D : FigD P) (h : P.fn "taut_limbs" = some f_taut_limbs) (hd : P.fn "need_set" = some f_need_set) (hn : P.fn "need_figure" = some f_need_figure) (hs : P.fn "need_setting" = some f_need_setting) (hfs : P.fn "fits_setting" = some f_fits_setting) (hi' : P.fn "pose_in" = some f_pose_in) (hb : P.fn "pose_by" = some f_pose_by) (ht : P.fn "table_of" = some f_table_of) (k : Nat) {f : Fig} (hf : f.Ok) {ss : List Int} (hl : ss.length = f.ts.length) (hr : ∀ s ∈ ss, 0 ≤ s ∧ s ≤ f.fl) :
    callF P (k + 6) "taut_limbs" [f.v, intsV ss] .non = .ok (.tup ((tautL f (f.pose ss)).map l3V)) .non := by
  rw [callF_at h]
  have q1 := need_set_ok D hd hn hs hfs k hf (okV_ints ss) (fs_of hl hr)
  have hs0 : ∀ s ∈ ss, 0 ≤ s := fun s h => (hr s h).1
  have q2 := pose_in_ok hi' hb ht (k + 3) hf hs0
  obtain ⟨ds, hds⟩ : ∃ ds, ds = f.pose ss := ⟨_, rfl⟩
  have dl : ds.length = f.n := by rw [hds]; exact pose_len hf hs0
  rw [← hds] at q2 ⊢
  have a1 : em (callF P (k + 5)) (.b1 .tuple (.comp [3] (.nm 3) .seq [.ix (.var 0) (.con (.int 1))] [.cmp .eq (.b1 .abs (.op .sub (.ix (.var 2) (.ix (.var 3) (.con (.int 0)))) (.ix (.var 2) (.ix (.var 3) (.con (.int 1)))))) (.ix (.var 3) (.con (.int 2)))] 0 (.var 3))) [some ⟨0, f.v⟩, some ⟨0, intsV ss⟩, some ⟨0, intsV ds⟩, none] .non = .ok (0, .tup ((tautL f ds).map l3V)) .non := by
    refine comp_tautL _ f ds (vs := [.tup (f.ls.map l3V)]) rfl rfl fun l hm => ?_
    obtain ⟨a, b, w⟩ := l
    obtain ⟨g0, g1, g2, g3⟩ := hf.lim _ hm
    simp only at g0 g1 g2 g3
    have i1 : item (intsV ds) (.int a) = some (.int (PVN.gt ds a)) := item_ints g0 (by omega)
    have i2 : item (intsV ds) (.int b) = some (.int (PVN.gt ds b)) := item_ints (by omega) (by omega)
    have dn : ∀ ds : List Int, ∀ k, downD k (intsV ds) = 0 := fun _ _ => rfl
    have j0 : item (l3V (a, b, w)) (.int 0) = some (.int a) := rfl
    have j1 : item (l3V (a, b, w)) (.int 1) = some (.int b) := rfl
    have j2 : item (l3V (a, b, w)) (.int 2) = some (.int w) := rfl
    have dn3 : ∀ k, downD k (l3V (a, b, w)) = 0 := fun _ => rfl
    refine ⟨_, rfl, ?_, rfl⟩
    simp [evc, em, lo, hi, wipe, tst, truth, Res.bind, Res.of, j0, j1, j2, dn3, i1, i2, dn, op2, PVL.b1, eq_int, absI]
  exact run_pose3 (st_expr (em_call1 (xs := [f.v, intsV ss]) rfl q1)) (st_set (em_call1 (xs := [f.v, intsV ss]) rfl q2)) (st_ret a1)
theorem lying_ok (D : FigD P) (h : P.fn "lying" = some f_lying) (hd : P.fn "need_set" = some f_need_set) (hn : P.fn "need_figure" = some f_need_figure) (hs : P.fn "need_setting" = some f_need_setting) (hfs : P.fn "fits_setting" = some f_fits_setting) (hi' : P.fn "pose_in" = some f_pose_in) (hb : P.fn "pose_by" = some f_pose_by) (ht : P.fn "table_of" = some f_table_of) (k : Nat) {f : Fig} (hf : f.Ok) {ss : List Int} (hl : ss.length = f.ts.length) (hr : ∀ s ∈ ss, 0 ≤ s ∧ s ≤ f.fl) :
    callF P (k + 6) "lying" [f.v, intsV ss] .non = .ok (intsV (lieJ f (f.pose ss))) .non := by
  rw [callF_at h]
  have q1 := need_set_ok D hd hn hs hfs k hf (okV_ints ss) (fs_of hl hr)
  have hs0 : ∀ s ∈ ss, 0 ≤ s := fun s h => (hr s h).1
  have q2 := pose_in_ok hi' hb ht (k + 3) hf hs0
  obtain ⟨ds, hds⟩ : ∃ ds, ds = f.pose ss := ⟨_, rfl⟩
  have dl : ds.length = f.n := by rw [hds]; exact pose_len hf hs0
  rw [← hds] at q2 ⊢
  have a1 : em (callF P (k + 5)) (.b1 .tuple (.comp [2, 3] (.tup [.nm 2, .nm 3]) .enum [.call "pose_in" [.var 0, .var 1]] [.cmp .eq (.var 3) (.ix (.var 0) (.con (.int 3)))] 0 (.var 2))) [some ⟨0, f.v⟩, some ⟨0, intsV ss⟩, none, none] .non = .ok (0, intsV (lieJ f ds)) .non := by
    have e0 : em (callF P (k + 5)) (.call "pose_in" [.var 0, .var 1]) [some ⟨0, f.v⟩, some ⟨0, intsV ss⟩, none, none] .non = .ok (0, intsV ds) .non := em_call1 (xs := [f.v, intsV ss]) rfl q2
    refine comp_lie _ f ds (vs := [.tup (ds.map PV.int)]) (evs_one e0 (Nat.zero_le _)) (xs := (List.range ds.length).map fun (k : Nat) => prV ((k : Int), PVN.gt ds k)) (by show some _ = _; rw [enum_ints]) (h := fun k => prV ((k : Int), PVN.gt ds k)) (by rw [dl]) (fun k hk => ?_) fun k => ⟨_, .inl rfl⟩
    have i3 : item f.v (.int 3) = some (.int f.fl) := rfl
    have dnf : ∀ k, downD k f.v = 0 := fun _ => rfl
    refine ⟨_, rfl, ?_, rfl⟩
    simp [evc, em, lo, hi, wipe, tst, truth, Res.bind, Res.of, prV, i3, dnf, eq_int]
  unfold Fn.run
  rw [if_pos ⟨rfl, rfl⟩]
  show (match evB (callF P (k + 5)) P.fr [_, _] [some ⟨0, f.v⟩, some ⟨0, intsV ss⟩, none, none] .non with
    | .nx _ c => _
    | .ret v c => _
    | .exc e c => _
    | .stuck => _) = _
  rw [evB_cons, st_expr (em_call1 (xs := [f.v, intsV ss]) rfl q1), obind_nx, evB_cons, st_ret a1, obind_ret] <;> rfl
end
end PVL
end

section
set_option Elab.async false
set_option linter.all false
set_option maxRecDepth 100000
set_option maxHeartbeats 8000000
/-! PVM35: the law of what is taut and what lies. -/
namespace PVL
open PySem (Str)
def k05_law : Fn := ⟨"law", ["script", "cup", "turn", "figure", "setting", "depths", "strings", "limbs", "lie", "length", "deep", "more", "rows", "low", "told", "at", "limb", "joint"], 1, false, (some 1), 0, [
    .setc 1 (.call "_law_cup" [.var 0]),
    .for_ (.nm 2) .rng1 [.con (.int 8)] [.set 3 false (.callc "_law_figure" [.con (.int 8), .con (.int 6)]), .set 4 false (.callc "_law_setting" [.var 3]), .set 5 false (.call "_law_pose" [.var 3, .var 4]), .set 6 false (.b1 .tuple (.comp [15] (.nm 15) .rng1 [.b1 .len (.var 4)] [.cmp .eq (.ix (.var 5) (.ix (.ix (.var 3) (.con (.int 2))) (.var 15))) (.ix (.var 4) (.var 15))] 0 (.var 15))), .set 7 false (.b1 .tuple (.comp [16] (.nm 16) .seq [.ix (.var 3) (.con (.int 1))] [.cmp .isin (.op .sub (.ix (.var 5) (.ix (.var 16) (.con (.int 0)))) (.ix (.var 5) (.ix (.var 16) (.con (.int 1))))) (.tup [.ix (.var 16) (.con (.int 2)), .neg (.ix (.var 16) (.con (.int 2)))])] 0 (.var 16))), .set 8 false (.b1 .tuple (.comp [17] (.nm 17) .rng1 [.ix (.var 3) (.con (.int 0))] [.cmp .ge (.ix (.var 5) (.var 17)) (.ix (.var 3) (.con (.int 3)))] 0 (.var 17))), .ife (.not (.call "_law_same" [.tup [.call "taut_strings" [.var 3, .var 4], .call "taut_limbs" [.var 3, .var 4], .call "lying" [.var 3, .var 4]], .tup [.var 6, .var 7, .var 8]])) [.ret (.con (.bl false))] []],
    .par [9, 10] [.op .add (.con (.int 1)) (.callc "_law_roll" [.con (.int 9)]), .callc "_law_roll" [.con (.int 10)]],
    .unp (.tup [.nm 3, .nm 11]) (.tup [.tup [.con (.int 2), .tup [.tup [.con (.int 0), .con (.int 1), .var 9]], .tup [.con (.int 0), .con (.int 1)], .con (.int 30)], .op .add (.con (.int 1)) (.callc "_law_roll" [.con (.int 5)])]),
    .set 12 false (.lst 0 [.tup [.tup [.var 10, .op .add (.var 10) (.var 9)], .tup [.con (.int 0), .con (.int 1)], .ix (.var 3) (.con (.int 1)), .tup []], .tup [.tup [.var 10, .op .add (.op .add (.var 10) (.var 9)) (.var 11)], .tup [.con (.int 0)], .ix (.var 3) (.con (.int 1)), .tup []], .tup [.tup [.var 10, .op .sub (.op .add (.var 10) (.var 9)) (.con (.int 1))], .tup [.con (.int 0), .con (.int 1)], .tup [], .tup []]]),
    .for_ (.tup [.nm 4, .nm 6, .nm 7, .nm 8]) .seq [.var 12] [.ife (.not (.call "_law_same" [.tup [.call "taut_strings" [.var 3, .var 4], .call "taut_limbs" [.var 3, .var 4], .call "lying" [.var 3, .var 4]], .tup [.var 6, .var 7, .var 8]])) [.ret (.con (.bl false))] []],
    .set 13 false (.tup [.con (.int 2), .tup [.tup [.con (.int 0), .con (.int 1), .var 9]], .tup [.con (.int 0), .con (.int 1)], .op .add (.var 10) (.con (.int 1))]),
    .set 14 false (.tup [.call "taut_strings" [.var 13, .tup [.op .add (.var 10) (.con (.int 1)), .op .add (.var 10) (.con (.int 1))]], .call "taut_limbs" [.var 13, .tup [.op .add (.var 10) (.con (.int 1)), .op .add (.var 10) (.con (.int 1))]], .call "lying" [.var 13, .tup [.op .add (.var 10) (.con (.int 1)), .op .add (.var 10) (.con (.int 1))]], .call "lying" [.var 13, .tup [.op .add (.var 10) (.con (.int 1)), .var 10]], .call "taut_strings" [.var 13, .tup [.op .add (.var 10) (.con (.int 1)), .var 10]]]),
    .ret (.call "_law_same" [.var 14, .tup [.tup [.con (.int 0), .con (.int 1)], .tup [], .tup [.con (.int 0), .con (.int 1)], .tup [.con (.int 0)], .tup [.con (.int 0), .con (.int 1)]]])]⟩
abbrev k05_body : List S := [.set 3 false (.callc "_law_figure" [.con (.int 8), .con (.int 6)]), .set 4 false (.callc "_law_setting" [.var 3]), .set 5 false (.call "_law_pose" [.var 3, .var 4]), .set 6 false (.b1 .tuple (.comp [15] (.nm 15) .rng1 [.b1 .len (.var 4)] [.cmp .eq (.ix (.var 5) (.ix (.ix (.var 3) (.con (.int 2))) (.var 15))) (.ix (.var 4) (.var 15))] 0 (.var 15))), .set 7 false (.b1 .tuple (.comp [16] (.nm 16) .seq [.ix (.var 3) (.con (.int 1))] [.cmp .isin (.op .sub (.ix (.var 5) (.ix (.var 16) (.con (.int 0)))) (.ix (.var 5) (.ix (.var 16) (.con (.int 1))))) (.tup [.ix (.var 16) (.con (.int 2)), .neg (.ix (.var 16) (.con (.int 2)))])] 0 (.var 16))), .set 8 false (.b1 .tuple (.comp [17] (.nm 17) .rng1 [.ix (.var 3) (.con (.int 0))] [.cmp .ge (.ix (.var 5) (.var 17)) (.ix (.var 3) (.con (.int 3)))] 0 (.var 17))), .ife (.not (.call "_law_same" [.tup [.call "taut_strings" [.var 3, .var 4], .call "taut_limbs" [.var 3, .var 4], .call "lying" [.var 3, .var 4]], .tup [.var 6, .var 7, .var 8]])) [.ret (.con (.bl false))] []]
structure K05 (P : Prog) : Prop extends FigD P where
  tst : P.fn "taut_strings" = some f_taut_strings
  tli : P.fn "taut_limbs" = some f_taut_limbs
  ly : P.fn "lying" = some f_lying
  nf : P.fn "need_figure" = some f_need_figure
  ns : P.fn "need_set" = some f_need_set
  nst : P.fn "need_setting" = some f_need_setting
  fs : P.fn "fits_setting" = some f_fits_setting
  pin : P.fn "pose_in" = some f_pose_in
  pb : P.fn "pose_by" = some f_pose_by
  tb : P.fn "table_of" = some f_table_of
  cu : CupAt P
  ro : RollAt P
  so : P.fn "_law_some" = some f__law_some
  sa : P.fn "_law_same" = some f__law_same
  fi : P.fn "_law_figure" = some f__law_figure
  se : P.fn "_law_setting" = some f__law_setting
  lp : P.fn "_law_pose" = some f__law_pose
def trip (a : List Int) (b : List L3) (c : List Int) : PV := .tup [intsV a, .tup (b.map l3V), intsV c]
theorem plain_trip {a : List Int} {b : List L3} {c : List Int} (ha : a.length ≤ 1000) (hb : b.length ≤ 1000) (hc : c.length ≤ 1000) : plainV 3 (trip a b c) := by
  have pi : ∀ l : List Int, l.length ≤ 1000 → plainV 2 (intsV l) := fun l h => ⟨by rw [List.length_map]; exact h, fun x hx => by
    obtain ⟨i, _, rfl⟩ := List.mem_map.mp hx
    trivial⟩
  refine ⟨by simp, fun x hx => ?_⟩
  simp only [List.mem_cons, List.not_mem_nil, or_false] at hx
  rcases hx with e | e | e <;> subst e
  · exact pi a ha
  · refine ⟨by rw [List.length_map]; exact hb, fun x hx => ?_⟩
    obtain ⟨l, _, rfl⟩ := List.mem_map.mp hx
    exact ⟨by simp, fun y hy => by
      simp only [List.mem_cons, List.not_mem_nil, or_false] at hy
      rcases hy with e | e | e <;> subst e <;> trivial⟩
  · exact pi c hc
theorem tautS_len (f : Fig) (ss ds : List Int) : (tautS f ss ds).length ≤ f.ts.length := by
  unfold tautS
  rw [List.length_map]
  exact Nat.le_trans (List.length_filter_le ..) (by rw [List.length_range]; exact Nat.le_refl _)
theorem lieJ_len (f : Fig) (ds : List Int) : (lieJ f ds).length ≤ f.n := by
  unfold lieJ
  rw [List.length_map]
  exact Nat.le_trans (List.length_filter_le ..) (by rw [List.length_range]; exact Nat.le_refl _)
theorem rng0 (n : Nat) : rng 0 n = (List.range n).map fun (k : Nat) => PV.int (k : Int) := by
  unfold rng
  refine List.map_congr_left fun k _ => ?_
  rw [Int.zero_add]
def E05 (S s2 s3 s4 s5 s6 s7 s8 s9 s10 s11 s12 s13 s14 : Option Slot) : Env := [S, none, s2, s3, s4, s5, s6, s7, s8, s9, s10, s11, s12, s13, s14, none, none, none]
section
variable {P : Prog} (D : K05 P)
include D
theorem K05.all {f : Fig} (hf : f.Ok) {ss : List Int} (hl : ss.length = f.ts.length) (hr : ∀ s ∈ ss, 0 ≤ s ∧ s ≤ f.fl) :
    callF P 39 "taut_strings" [f.v, intsV ss] .non = .ok (intsV (tautS f ss (f.pose ss))) .non ∧ callF P 39 "taut_limbs" [f.v, intsV ss] .non = .ok (.tup ((tautL f (f.pose ss)).map l3V)) .non ∧ callF P 39 "lying" [f.v, intsV ss] .non = .ok (intsV (lieJ f (f.pose ss))) .non :=
  ⟨taut_strings_ok D.toFigD D.tst D.ns D.nf D.nst D.fs D.pin D.pb D.tb 33 hf hl hr, taut_limbs_ok D.toFigD D.tli D.ns D.nf D.nst D.fs D.pin D.pb D.tb 33 hf hl hr, lying_ok D.toFigD D.ly D.ns D.nf D.nst D.fs D.pin D.pb D.tb 33 hf hl hr⟩
/-- the three answers against what is due -/
theorem K05.same {f : Fig} (hf : f.Ok) {ss : List Int} (hl : ss.length = f.ts.length) (hr : ∀ s ∈ ss, 0 ≤ s ∧ s ≤ f.fl) {env : Env} {c : PV} (v3 : env[3]? = some (some ⟨0, f.v⟩)) (v4 : env[4]? = some (some ⟨0, intsV ss⟩)) (v6 : env[6]? = some (some ⟨0, intsV (tautS f ss (f.pose ss))⟩)) (v7 : env[7]? = some (some ⟨0, .tup ((tautL f (f.pose ss)).map l3V)⟩)) (v8 : env[8]? = some (some ⟨0, intsV (lieJ f (f.pose ss))⟩)) :
    em (callF P 39) (.not (.call "_law_same" [.tup [.call "taut_strings" [.var 3, .var 4], .call "taut_limbs" [.var 3, .var 4], .call "lying" [.var 3, .var 4]], .tup [.var 6, .var 7, .var 8]])) env c = .ok (0, .bl false) c := by
  obtain ⟨g1, g2, g3⟩ := D.all hf hl hr
  have e34 : ∀ c, evs (callF P 39) 0 [.var 3, .var 4] env c = .ok [f.v, intsV ss] c := fun c => by simp only [evs, em, v3, v4, lo_ok, Nat.le_refl, if_true, bind_ok]
  have w1 := em_call1 (call := callF P 39) (e34 c) g1
  have w2 := em_call1 (call := callF P 39) (e34 c) g2
  have w3 := em_call1 (call := callF P 39) (e34 c) g3
  have w4 : em (callF P 39) (.tup [.call "taut_strings" [.var 3, .var 4], .call "taut_limbs" [.var 3, .var 4], .call "lying" [.var 3, .var 4]]) env c = .ok (0, trip (tautS f ss (f.pose ss)) (tautL f (f.pose ss)) (lieJ f (f.pose ss))) c := by
    show (evs (callF P 39) 0 [_, _, _] env c).bind (fun xs c => Res.ok (0, PV.tup xs) c) = _
    rw [evs_three w1 w2 w3] <;> rfl
  have w5 : em (callF P 39) (.tup [.var 6, .var 7, .var 8]) env c = .ok (0, trip (tautS f ss (f.pose ss)) (tautL f (f.pose ss)) (lieJ f (f.pose ss))) c := by
    simp only [evs, em, v6, v7, v8, lo_ok, Nat.le_refl, if_true, bind_ok]
    rfl
  have hm := hf.n8
  have ht := hf.t6
  have hl12 := hf.l12
  have w6 := em_call1 (call := callF P 39) (f := "_law_same") (evs_two (k := 0) w4 w5) (same_ok D.sa 3 35 _ (plain_trip (a := tautS f ss (f.pose ss)) (b := tautL f (f.pose ss)) (c := lieJ f (f.pose ss)) (by have := tautS_len f ss (f.pose ss); omega) (by have := List.length_filter_le (fun l : L3 => decide (absI (PVN.gt (f.pose ss) l.1 - PVN.gt (f.pose ss) l.2.1) = l.2.2)) f.ls; unfold tautL; omega) (by have := lieJ_len f (f.pose ss); omega)))
  show hi ((PVL.tst (lo AN (em (callF P 39) (.call "_law_same" _) env c))).bind _) = _
  rw [w6] <;> rfl
theorem k05_turn (S s2 s3 s4 s5 s6 s7 s8 : Option Slot) (a b : Int) : ∃ env' c', evB (callF P 39) P.fr k05_body (E05 S s2 s3 s4 s5 s6 s7 s8 none none none none none none) (cup a b) = .nx env' c' ∧ IsCup c' ∧ ∃ s3 s4 s5 s6 s7 s8, env' = E05 S s2 s3 s4 s5 s6 s7 s8 none none none none none none := by
  obtain ⟨v, a1, b1, q1, hv, _⟩ := law_figure_ok D.fi D.so D.ro 36 (most := 8) (strings := 6) (by omega) (by omega) (by omega) (by omega) a b
  obtain ⟨f, rfl, hf⟩ := fig_of hv
  have n1 := hf.n1; have n8 := hf.n8; have f1 := hf.f1; have f30 := hf.f30; have t6 := hf.t6
  refine exB_step (st_set (em_callc rfl q1)) ?_
  obtain ⟨xs1, a2, b2, p1, hxl1, hx1⟩ := law_setting_ok D.se D.so D.ro 36 (.int f.n) (.tup (f.ls.map l3V)) (f.ts.map PV.int) f.fl hf.f1 hf.f30 (by rw [List.length_map]; exact hf.t6) a1 b1
  rw [List.length_map] at hxl1
  obtain ⟨u, rfl, hu⟩ := ints_of (ts := xs1) (p := fun i => 0 ≤ i ∧ i ≤ f.fl) hx1
  rw [List.length_map] at hxl1
  have hu0 : ∀ s ∈ u, 0 ≤ s := fun s h => (hu s h).1
  refine exB_step (st_set (em_callc (c' := cup a1 b1) rfl p1)) ?_
  obtain ⟨ds, hds⟩ : ∃ ds, ds = f.pose u := ⟨_, rfl⟩
  have dl : ds.length = f.n := by rw [hds]; exact pose_len hf hu0
  have dr : ∀ d ∈ ds, 0 ≤ d ∧ d ≤ f.fl := by rw [hds]; exact pose_range hf hu0
  have q3 : callF P 39 "_law_pose" [f.v, intsV u] .non = .ok (intsV ds) .non := by rw [hds]; exact law_pose_ok D.lp 38 hf u
  refine exB_step (st_set (em_call1 (xs := [f.v, intsV u]) rfl q3)) ?_
  show ∃ env' c', evB _ _ _ (E05 S s2 (some ⟨0, f.v⟩) (some ⟨0, intsV u⟩) (some ⟨0, intsV ds⟩) s6 s7 s8 none none none none none none) (cup a2 b2) = _ ∧ _
  have dn : ∀ ds : List Int, ∀ k, downD k (intsV ds) = 0 := fun _ _ => rfl
  have dnf : ∀ k, downD k f.v = 0 := fun _ => rfl
  have i2 : item f.v (.int 2) = some (intsV f.ts) := rfl
  have i3 : item f.v (.int 3) = some (.int f.fl) := rfl
  -- strings
  refine exB_step (st_set (comp_tautS _ hf hxl1 dl (vs := [.int f.ts.length]) (xs := (List.range f.ts.length).map fun (k : Nat) => PV.int (k : Int)) ?_ (by rw [items1 (by omega) (by omega), ← rng0]; simp) _ rfl (fun k hk => ?_) fun k => ⟨[], .inr rfl⟩)) ?_
  · exact evs_one (em_b1 (x := intsV u) (n := 0) rfl (Nat.zero_le _) (by show some (PV.int ((u.map PV.int).length : Nat)) = _; rw [List.length_map, hxl1])) (Nat.zero_le _)
  · have g : 0 ≤ PVN.gt f.ts k ∧ PVN.gt f.ts k < f.n := gt_mem (p := fun t => 0 ≤ t ∧ t < f.n) hf.tie (by omega) (by omega)
    have j1 : item (intsV ds) (.int (PVN.gt f.ts k)) = some (.int (PVN.gt ds (PVN.gt f.ts k))) := item_ints g.1 (by omega)
    have j2 : item (intsV u) (.int (k : Int)) = some (.int (PVN.gt u k)) := item_ints (by omega) (by omega)
    have j3 : item (intsV f.ts) (.int (k : Int)) = some (.int (PVN.gt f.ts k)) := item_ints (by omega) (by omega)
    refine ⟨_, rfl, ?_, rfl⟩
    simp [E05, evc, em, lo, hi, wipe, tst, truth, Res.bind, Res.of, i2, j1, j2, j3, dn, dnf, eq_int]
  show ∃ env' c', evB _ _ _ (E05 S s2 (some ⟨0, f.v⟩) (some ⟨0, intsV u⟩) (some ⟨0, intsV ds⟩) (some ⟨0, intsV (tautS f u ds)⟩) s7 s8 none none none none none none) (cup a2 b2) = _ ∧ _
  -- limbs
  refine exB_step (st_set (comp_tautL _ f ds (vs := [.tup (f.ls.map l3V)]) rfl rfl fun l hm => ?_)) ?_
  · obtain ⟨x, y, w⟩ := l
    obtain ⟨g0, g1, g2, g3⟩ := hf.lim _ hm
    simp only at g0 g1 g2 g3
    have j1 : item (intsV ds) (.int x) = some (.int (PVN.gt ds x)) := item_ints g0 (by omega)
    have j2 : item (intsV ds) (.int y) = some (.int (PVN.gt ds y)) := item_ints (by omega) (by omega)
    have k0 : item (l3V (x, y, w)) (.int 0) = some (.int x) := rfl
    have k1 : item (l3V (x, y, w)) (.int 1) = some (.int y) := rfl
    have k2 : item (l3V (x, y, w)) (.int 2) = some (.int w) := rfl
    have dn3 : ∀ k, downD k (l3V (x, y, w)) = 0 := fun _ => rfl
    have ii : cmp .isin (.int (PVN.gt ds x - PVN.gt ds y)) (.tup [.int w, .int (-w)]) = some (decide (absI (PVN.gt ds x - PVN.gt ds y) = w)) := by
      show some ((w == PVN.gt ds x - PVN.gt ds y) || ((-w == PVN.gt ds x - PVN.gt ds y) || false)) = _
      congr 1
      unfold absI
      rw [Bool.eq_iff_iff]
      simp
      split <;> omega
    refine ⟨_, rfl, ?_, rfl⟩
    simp [E05, evc, em, evs, lo, hi, wipe, tst, truth, Res.bind, Res.of, k0, k1, k2, dn3, j1, j2, dn, op2, int?, ii]
  show ∃ env' c', evB _ _ _ (E05 S s2 (some ⟨0, f.v⟩) (some ⟨0, intsV u⟩) (some ⟨0, intsV ds⟩) (some ⟨0, intsV (tautS f u ds)⟩) (some ⟨0, .tup ((tautL f ds).map l3V)⟩) s8 none none none none none none) (cup a2 b2) = _ ∧ _
  -- joints
  refine exB_step (st_set (comp_lie _ f ds (vs := [.int f.n]) rfl (xs := (List.range f.n).map fun (k : Nat) => PV.int (k : Int)) (by rw [items1 (by omega) (by omega), ← rng0]; simp) rfl (fun k hk => ?_) fun k => ⟨[], .inr rfl⟩)) ?_
  · have j1 : item (intsV ds) (.int (k : Int)) = some (.int (PVN.gt ds k)) := item_ints (by omega) (by omega)
    have r := gt_mem (p := fun d => 0 ≤ d ∧ d ≤ f.fl) dr (i := k) (by omega) (by omega)
    have ge : cmp .ge (.int (PVN.gt ds k)) (.int f.fl) = some (decide (PVN.gt ds k = f.fl)) := by
      show some (decide (f.fl ≤ PVN.gt ds k)) = _
      congr 1
      exact decide_eq_decide.mpr ⟨fun h => by omega, fun h => by omega⟩
    refine ⟨_, rfl, ?_, rfl⟩
    simp [E05, evc, em, lo, hi, wipe, tst, truth, Res.bind, Res.of, i3, j1, dn, dnf, ge]
  show ∃ env' c', evB _ _ _ (E05 S s2 (some ⟨0, f.v⟩) (some ⟨0, intsV u⟩) (some ⟨0, intsV ds⟩) (some ⟨0, intsV (tautS f u ds)⟩) (some ⟨0, .tup ((tautL f ds).map l3V)⟩) (some ⟨0, intsV (lieJ f ds)⟩) none none none none none none) (cup a2 b2) = _ ∧ _
  rw [hds]
  refine exB_step (st_pass_if (D.same hf hxl1 hu rfl rfl rfl rfl rfl) (by omega) rfl) ?_
  exact ⟨_, _, rfl, ⟨a2, b2, rfl⟩, _, _, _, _, _, _, rfl⟩
end
end PVL
end

section
set_option Elab.async false
set_option linter.all false
set_option maxRecDepth 100000
set_option maxHeartbeats 8000000
/-! PVM36: the law of what is taut, its end. -/
namespace PVL
open PySem (Str)
abbrev Tr := List Int × List L3 × List Int
def res3 (f : Fig) (ss : List Int) : Tr := (tautS f ss (f.pose ss), tautL f (f.pose ss), lieJ f (f.pose ss))
def T05 (le dp more : Int) : List (List Int × Tr) := [([dp, dp + le], [0, 1], [(0, 1, le)], []), ([dp, dp + le + more], [0], [(0, 1, le)], []), ([dp, dp + le - 1], [0, 1], [], [])]
def lowF (le dp : Int) : Fig := ⟨2, [(0, 1, le)], [0, 1], dp + 1⟩
def n1to5 : List Int := [1, 2, 3, 4, 5]
def k05_chk (le dp : Int) : Bool := fitsFigure (oneF 2 le [0, 1]).v && fitsFigure (lowF le dp).v && (n1to5.all fun more => (T05 le dp more).all fun r => decide (res3 (oneF 2 le [0, 1]) r.1 = r.2)) &&
    decide (res3 (lowF le dp) [dp + 1, dp + 1] = ([0, 1], [], [0, 1])) && decide (lieJ (lowF le dp) ((lowF le dp).pose [dp + 1, dp]) = [0]) && decide (tautS (lowF le dp) [dp + 1, dp] ((lowF le dp).pose [dp + 1, dp]) = [0, 1])
theorem k05_dec0 : (n1to9.all fun le => n0to9.all fun dp => k05_chk le dp) = true := by decide +kernel
theorem k05_dec : ∀ le ∈ n1to9, ∀ dp ∈ n0to9, fitsFigure (oneF 2 le [0, 1]).v = true ∧ fitsFigure (lowF le dp).v = true ∧ (∀ more ∈ n1to5, ∀ r ∈ T05 le dp more, res3 (oneF 2 le [0, 1]) r.1 = r.2) ∧
    res3 (lowF le dp) [dp + 1, dp + 1] = ([0, 1], [], [0, 1]) ∧ lieJ (lowF le dp) ((lowF le dp).pose [dp + 1, dp]) = [0] ∧ tautS (lowF le dp) [dp + 1, dp] ((lowF le dp).pose [dp + 1, dp]) = [0, 1] := fun le hl dp hd => by
  have h := List.all_eq_true.mp (List.all_eq_true.mp k05_dec0 le hl) dp hd
  unfold k05_chk at h
  simp only [Bool.and_eq_true, decide_eq_true_eq] at h
  obtain ⟨⟨⟨⟨⟨h1, h2⟩, h3⟩, h4⟩, h5⟩, h6⟩ := h
  exact ⟨h1, h2, fun more hm r hr => of_decide_eq_true (List.all_eq_true.mp (List.all_eq_true.mp h3 more hm) r hr), h4, h5, h6⟩
theorem mem15 {i : Int} (h1 : 1 ≤ i) (h2 : i ≤ 5) : i ∈ n1to5 := by
  have : i = 1 ∨ i = 2 ∨ i = 3 ∨ i = 4 ∨ i = 5 := by omega
  unfold n1to5
  simpa using this
def rowV5 (r : List Int × Tr) : PV := .tup [intsV r.1, intsV r.2.1, .tup (r.2.2.1.map l3V), intsV r.2.2.2]
abbrev k05_rest : List S := k05_law.body.drop 2
section
variable {P : Prog} (D : K05 P)
include D
theorem k05_fin (S s2 s3 s4 s5 s6 s7 s8 : Option Slot) (a b : Int) : ∃ c', evB (callF P 39) P.fr k05_rest (E05 S s2 s3 s4 s5 s6 s7 s8 none none none none none none) (cup a b) = .ret (.bl true) c' := by
  obtain ⟨l, a1, b1, q1, l0, l1⟩ := em_roll D.ro (n := 38) (env := E05 S s2 s3 s4 s5 s6 s7 s8 none none none none none none) (e := .con (.int 9)) (a := a) (b := b) (a1 := a) (b1 := b) (m := 9) rfl (by omega) (by omega)
  obtain ⟨dp, a2, b2, q2, d0, d1⟩ := em_roll D.ro (n := 38) (env := E05 S s2 s3 s4 s5 s6 s7 s8 none none none none none none) (e := .con (.int 10)) (a := a1) (b := b1) (a1 := a1) (b1 := b1) (m := 10) rfl (by omega) (by omega)
  obtain ⟨le, hle⟩ : ∃ le, le = 1 + l := ⟨_, rfl⟩
  have q1' : em (callF P 39) (.op .add (.con (.int 1)) (.callc "_law_roll" [.con (.int 9)])) (E05 S s2 s3 s4 s5 s6 s7 s8 none none none none none none) (cup a b) = .ok (0, .int le) (cup a1 b1) := by
    rw [hle]
    simp [em, lo, hi, Res.bind, Res.of, op2, ↓q1]
  have p1 := st_par2 (fr := P.fr) (i := 9) (j := 10) q1' q2
  obtain ⟨env1, he1⟩ : ∃ env1, env1 = E05 S s2 s3 s4 s5 s6 s7 s8 (some ⟨0, .int le⟩) (some ⟨0, .int dp⟩) none none none none := ⟨_, rfl⟩
  obtain ⟨m, a3, b3, q3, m0, m1⟩ := em_roll D.ro (n := 38) (env := env1) (e := .con (.int 5)) (a := a2) (b := b2) (a1 := a2) (b1 := b2) (m := 5) rfl (by omega) (by omega)
  obtain ⟨mo, hmo⟩ : ∃ mo, mo = 1 + m := ⟨_, rfl⟩
  have q3' : em (callF P 39) (.op .add (.con (.int 1)) (.callc "_law_roll" [.con (.int 5)])) env1 (cup a2 b2) = .ok (0, .int mo) (cup a3 b3) := by
    rw [hmo]
    simp [em, lo, hi, Res.bind, Res.of, op2, ↓q3]
  obtain ⟨fA, fL, tA, tL, tM, tN⟩ := k05_dec le (mem19 (by omega) (by omega)) dp (mem09 (by omega) (by omega))
  have tA := tA mo (mem15 (by omega) (by omega))
  have oA := Fig.Ok.of fA
  have oL := Fig.Ok.of fL
  have eF : em (callF P 39) (.tup [.con (.int 2), .tup [.tup [.con (.int 0), .con (.int 1), .var 9]], .tup [.con (.int 0), .con (.int 1)], .con (.int 30)]) env1 (cup a2 b2) = .ok (0, (oneF 2 le [0, 1]).v) (cup a2 b2) := by rw [he1] <;> rfl
  have p2 := st_unp2 (fr := P.fr) (i := 3) (j := 11) eF q3'
  refine ⟨cup a3 b3, ?_⟩
  rw [show k05_rest = _ :: _ from rfl, evB_cons, p1, obind_nx]
  rw [show ((E05 S s2 s3 s4 s5 s6 s7 s8 none none none none none none).set 9 (some ⟨0, .int le⟩)).set 10 (some ⟨0, .int dp⟩) = env1 by rw [he1] <;> rfl, evB_cons, p2, obind_nx, evB_cons]
  obtain ⟨V, hV⟩ : ∃ V, V = (T05 le dp mo).map rowV5 := ⟨_, rfl⟩
  obtain ⟨E, hE⟩ : ∃ E : Option Slot → Option Slot → Option Slot → Option Slot → Env, E = fun s4 s6 s7 s8 => E05 S s2 (some ⟨0, (oneF 2 le [0, 1]).v⟩) s4 s5 s6 s7 s8 (some ⟨0, .int le⟩) (some ⟨0, .int dp⟩) (some ⟨0, .int mo⟩) (some ⟨0, .lst V⟩) none none := ⟨_, rfl⟩
  have p3 : evS (callF P 39) P.fr (.set 12 false (.lst 0 [.tup [.tup [.var 10, .op .add (.var 10) (.var 9)], .tup [.con (.int 0), .con (.int 1)], .ix (.var 3) (.con (.int 1)), .tup []], .tup [.tup [.var 10, .op .add (.op .add (.var 10) (.var 9)) (.var 11)], .tup [.con (.int 0)], .ix (.var 3) (.con (.int 1)), .tup []], .tup [.tup [.var 10, .op .sub (.op .add (.var 10) (.var 9)) (.con (.int 1))], .tup [.con (.int 0), .con (.int 1)], .tup [], .tup []]])) ((env1.set 3 (some ⟨0, (oneF 2 le [0, 1]).v⟩)).set 11 (some ⟨0, .int mo⟩)) (cup a3 b3) = .nx (E s4 s6 s7 s8) (cup a3 b3) := by
    rw [he1, hE, hV] <;> rfl
  rw [p3, obind_nx, evB_cons]
  obtain ⟨env', c', e1, rfl, t4, t6, t7, t8, rfl⟩ := forL_inv (tg := .tup [.nm 4, .nm 6, .nm 7, .nm 8]) (f := fun env c => evB (callF P 39) P.fr [.ife (.not (.call "_law_same" [.tup [.call "taut_strings" [.var 3, .var 4], .call "taut_limbs" [.var 3, .var 4], .call "lying" [.var 3, .var 4]], .tup [.var 6, .var 7, .var 8]])) [.ret (.con (.bl false))] []] env c) (I := fun _ env c' => c' = cup a3 b3 ∧ ∃ s4 s6 s7 s8, env = E s4 s6 s7 s8) V 0 (E s4 s6 s7 s8) (cup a3 b3) (by
    intro i y env c' hy ⟨ec, s4, s6, s7, s8, he⟩
    subst ec he
    rw [hV] at hy
    obtain ⟨r, hr, rfl⟩ := List.mem_map.mp (List.mem_of_getElem? hy)
    have er := tA r hr
    obtain ⟨ss, da, db, dc⟩ := r
    unfold res3 at er
    simp only [Prod.mk.injEq] at er
    obtain ⟨e1, e2, e3⟩ := er
    have hs : ss.length = 2 ∧ ∀ s ∈ ss, 0 ≤ s ∧ s ≤ 30 := by
      unfold T05 at hr
      simp only [List.mem_cons, List.not_mem_nil, or_false, Prod.mk.injEq] at hr
      rcases hr with e | e | e <;> (rw [e.1]; refine ⟨rfl, fun s hs => ?_⟩; simp only [List.mem_cons, List.not_mem_nil, or_false] at hs; omega)
    refine ⟨E (some ⟨0, intsV ss⟩) (some ⟨0, intsV da⟩) (some ⟨0, .tup (db.map l3V)⟩) (some ⟨0, intsV dc⟩), E (some ⟨0, intsV ss⟩) (some ⟨0, intsV da⟩) (some ⟨0, .tup (db.map l3V)⟩) (some ⟨0, intsV dc⟩), cup a3 b3, by rw [hE] <;> rfl, ?_, rfl, _, _, _, _, rfl⟩
    have st := D.same oA (ss := ss) (env := E (some ⟨0, intsV ss⟩) (some ⟨0, intsV da⟩) (some ⟨0, .tup (db.map l3V)⟩) (some ⟨0, intsV dc⟩)) (c := cup a3 b3) (hs.1.trans rfl) hs.2 (by rw [hE] <;> rfl) (by rw [hE] <;> rfl) (by rw [hE, e1] <;> rfl) (by rw [hE, e2] <;> rfl) (by rw [hE, e3] <;> rfl)
    rw [evB_cons, st_pass_if st (by omega) rfl, obind_nx] <;> rfl) ⟨rfl, _, _, _, _, rfl⟩
  have p4 : evS (callF P 39) P.fr (.for_ (.tup [.nm 4, .nm 6, .nm 7, .nm 8]) .seq [.var 12] [.ife (.not (.call "_law_same" [.tup [.call "taut_strings" [.var 3, .var 4], .call "taut_limbs" [.var 3, .var 4], .call "lying" [.var 3, .var 4]], .tup [.var 6, .var 7, .var 8]])) [.ret (.con (.bl false))] []]) (E s4 s6 s7 s8) (cup a3 b3) = .nx (E t4 t6 t7 t8) (cup a3 b3) := by
    rw [st_for (vs := [.lst V]) (xs := V) (by rw [hE] <;> rfl) rfl]
    exact e1
  rw [p4, obind_nx, evB_cons]
  obtain ⟨env5, he5⟩ : ∃ env5 : Env, env5 = E05 S s2 (some ⟨0, (oneF 2 le [0, 1]).v⟩) t4 s5 t6 t7 t8 (some ⟨0, .int le⟩) (some ⟨0, .int dp⟩) (some ⟨0, .int mo⟩) (some ⟨0, .lst V⟩) (some ⟨0, (lowF le dp).v⟩) none := ⟨_, rfl⟩
  have p5 : evS (callF P 39) P.fr (.set 13 false (.tup [.con (.int 2), .tup [.tup [.con (.int 0), .con (.int 1), .var 9]], .tup [.con (.int 0), .con (.int 1)], .op .add (.var 10) (.con (.int 1))])) (E t4 t6 t7 t8) (cup a3 b3) = .nx env5 (cup a3 b3) := by rw [he5, hE] <;> rfl
  rw [p5, obind_nx, evB_cons]
  unfold res3 at tL
  simp only [Prod.mk.injEq] at tL
  have rA : ∀ s ∈ [dp + 1, dp + 1], 0 ≤ s ∧ s ≤ (lowF le dp).fl := fun s hs => by simp only [List.mem_cons, List.not_mem_nil, or_false] at hs; show 0 ≤ s ∧ s ≤ dp + 1; omega
  have rB : ∀ s ∈ [dp + 1, dp], 0 ≤ s ∧ s ≤ (lowF le dp).fl := fun s hs => by simp only [List.mem_cons, List.not_mem_nil, or_false] at hs; show 0 ≤ s ∧ s ≤ dp + 1; omega
  obtain ⟨g1, g2, g3⟩ := D.all oL (ss := [dp + 1, dp + 1]) rfl rA
  obtain ⟨k1, k2, k3⟩ := D.all oL (ss := [dp + 1, dp]) rfl rB
  rw [tL.1] at g1
  rw [tL.2.1] at g2
  rw [tL.2.2] at g3
  rw [tM] at k3
  rw [tN] at k1
  have eA : ∀ c, evs (callF P 39) 0 [.var 13, .tup [.op .add (.var 10) (.con (.int 1)), .op .add (.var 10) (.con (.int 1))]] env5 c = .ok [(lowF le dp).v, intsV [dp + 1, dp + 1]] c := fun c => by rw [he5] <;> rfl
  have eB : ∀ c, evs (callF P 39) 0 [.var 13, .tup [.op .add (.var 10) (.con (.int 1)), .var 10]] env5 c = .ok [(lowF le dp).v, intsV [dp + 1, dp]] c := fun c => by rw [he5] <;> rfl
  have w1 := em_call1 (eA (cup a3 b3)) g1
  have w2 := em_call1 (eA (cup a3 b3)) g2
  have w3 := em_call1 (eA (cup a3 b3)) g3
  have w4 := em_call1 (eB (cup a3 b3)) k3
  have w5 := em_call1 (eB (cup a3 b3)) k1
  obtain ⟨T, hT⟩ : ∃ T : PV, T = .tup [intsV [0, 1], .tup [], intsV [0, 1], intsV [0], intsV [0, 1]] := ⟨_, rfl⟩
  have w6 : em (callF P 39) (.tup [.call "taut_strings" [.var 13, .tup [.op .add (.var 10) (.con (.int 1)), .op .add (.var 10) (.con (.int 1))]], .call "taut_limbs" [.var 13, .tup [.op .add (.var 10) (.con (.int 1)), .op .add (.var 10) (.con (.int 1))]], .call "lying" [.var 13, .tup [.op .add (.var 10) (.con (.int 1)), .op .add (.var 10) (.con (.int 1))]], .call "lying" [.var 13, .tup [.op .add (.var 10) (.con (.int 1)), .var 10]], .call "taut_strings" [.var 13, .tup [.op .add (.var 10) (.con (.int 1)), .var 10]]]) env5 (cup a3 b3) = .ok (0, T) (cup a3 b3) := by
    rw [hT]
    show (evs (callF P 39) 0 [_, _, _, _, _] env5 (cup a3 b3)).bind (fun xs c => Res.ok (0, PV.tup xs) c) = _
    have : ∀ {call : CallF} {env : Env} {c : PV} {e1 e2 e3 e4 e5 : PVL.E} {x1 x2 x3 x4 x5 : PV}, em call e1 env c = .ok (0, x1) c → em call e2 env c = .ok (0, x2) c → em call e3 env c = .ok (0, x3) c → em call e4 env c = .ok (0, x4) c → em call e5 env c = .ok (0, x5) c → evs call 0 [e1, e2, e3, e4, e5] env c = .ok [x1, x2, x3, x4, x5] c := fun h1 h2 h3 h4 h5 => by simp [evs, lo, Res.bind, h1, h2, h3, h4, h5]
    rw [this w1 w2 w3 w4 w5] <;> rfl
  have p6 := st_set (fr := P.fr) (i := 14) w6
  rw [p6, obind_nx, evB_cons]
  have pl : plainV 2 T := by
    rw [hT]
    have pi : ∀ l : List Int, l.length ≤ 1000 → plainV 1 (intsV l) := fun l h => ⟨by rw [List.length_map]; exact h, fun x hx => by
      obtain ⟨i, _, rfl⟩ := List.mem_map.mp hx
      trivial⟩
    refine ⟨by simp, fun x hx => ?_⟩
    simp only [List.mem_cons, List.not_mem_nil, or_false] at hx
    rcases hx with e | e | e | e | e <;> subst e
    · exact pi _ (by simp)
    · exact ⟨by simp, fun y hy => by cases hy⟩
    · exact pi _ (by simp)
    · exact pi _ (by simp)
    · exact pi _ (by simp)
  have w7 : em (callF P 39) (.var 14) (env5.set 14 (some ⟨0, T⟩)) (cup a3 b3) = .ok (0, T) (cup a3 b3) := by rw [he5] <;> rfl
  have w8 : em (callF P 39) (.tup [.tup [.con (.int 0), .con (.int 1)], .tup [], .tup [.con (.int 0), .con (.int 1)], .tup [.con (.int 0)], .tup [.con (.int 0), .con (.int 1)]]) (env5.set 14 (some ⟨0, T⟩)) (cup a3 b3) = .ok (0, T) (cup a3 b3) := by rw [hT] <;> rfl
  rw [st_ret (em_call1 (evs_two w7 w8) (same_ok D.sa 2 36 T pl)), obind_ret]
end
theorem k05_plain {P : Prog} (D : K05 P) (hl : P.fn "law" = some k05_law) (ns : List Int) (h : ns.length ≤ 63) : ∃ c', callF P 40 "law" [.scr (ns.map PV.int)] .non = .ok (.bl true) c' := by
  rw [callF_at hl]
  obtain ⟨a, b, q0⟩ := cup_ok D.cu 38 ns h
  obtain ⟨S, hS⟩ : ∃ S : Option Slot, S = some ⟨0, .scr (ns.map PV.int)⟩ := ⟨_, rfl⟩
  obtain ⟨env', c', e1, ⟨a1, b1, rfl⟩, s2, s3, s4, s5, s6, s7, s8, rfl⟩ := forL_inv (tg := .nm 2) (f := fun env c => evB (callF P 39) P.fr k05_body env c) (I := fun _ env c => IsCup c ∧ ∃ s2 s3 s4 s5 s6 s7 s8, env = E05 S s2 s3 s4 s5 s6 s7 s8 none none none none none none) (rng 0 8) 0 (E05 S none none none none none none none none none none none none none) (cup a b) (by
    intro i x env c hx ⟨⟨a, b, hc⟩, s2, s3, s4, s5, s6, s7, s8, he⟩
    subst hc he
    obtain ⟨env', c', e, h1, h2⟩ := k05_turn D S (some ⟨0, x⟩) s3 s4 s5 s6 s7 s8 a b
    exact ⟨_, env', c', rfl, e, h1, _, h2⟩) ⟨⟨a, b, rfl⟩, _, _, _, _, _, _, _, rfl⟩
  obtain ⟨c2, e2⟩ := k05_fin D S s2 s3 s4 s5 s6 s7 s8 a1 b1
  refine ⟨c2, ?_⟩
  unfold Fn.run
  rw [if_pos ⟨rfl, rfl⟩]
  have st0 : evS (callF P 39) P.fr (.setc 1 (.call "_law_cup" [.var 0])) (k05_law.start [.scr (ns.map PV.int)]) .non = .nx (E05 S none none none none none none none none none none none none none) (cup a b) := by
    rw [hS]
    simp at q0
    simp [E05, k05_law, Fn.start, evS, ev, em, evs, lo, hi, Res.bind, Res.of, Res.out, q0]
  show (match evB (callF P 39) P.fr (_ :: .for_ (.nm 2) .rng1 [.con (.int 8)] k05_body :: k05_rest) (k05_law.start [.scr (ns.map PV.int)]) .non with
    | .nx _ c => _
    | .ret v c => _
    | .exc e c => _
    | .stuck => _) = _
  rw [evB_cons, st0, obind_nx, evB_cons, st_for (vs := [.int 8]) (xs := rng 0 8) rfl rfl, e1, obind_nx, e2] <;> rfl
end PVL
end

section
set_option Elab.async false
set_option linter.all false
set_option maxRecDepth 100000
set_option maxHeartbeats 8000000
/-! PVM37: how far strings reach; seen joints; idle strings. -/
namespace PVL
open PySem (Str)
def f_reach_in : Fn := ⟨"reach_in", ["figure", "rows", "floor", "tie", "far"], 1, false, none, 0, [
    .unp (.tup [.nm 1, .nm 2]) (.tup [.call "table_of" [.var 0], .ix (.var 0) (.con (.int 3))]),
    .ret (.comp [3] (.nm 3) .seq [.ix (.var 0) (.con (.int 2))] [] 0 (.comp [4] (.nm 4) .seq [.ix (.var 1) (.var 3)] [] 0 (.ife (.is false .non (.var 4)) (.var 2) (.b2 .min (.var 4) (.var 2)))))]⟩
def f_fits_seen : Fn := ⟨"fits_seen", ["figure", "value", "joint", "one", "other"], 2, false, none, 0, [
    .ife (.or (.not (.call "is_tuple_of" [.var 1, .con (.int 1), .ix (.var 0) (.con (.int 0))])) (.not (.b1 .all (.comp [2] (.nm 2) .seq [.var 1] [] 0 (.call "fits_joint" [.var 0, .var 2]))))) [.ret (.con (.bl false))] [],
    .ret (.b1 .all (.comp [3, 4] (.tup [.nm 3, .nm 4]) .zip [.var 1, .sl (.var 1) true false [.con (.int 1)]] [] 0 (.cmp .lt (.var 3) (.var 4))))]⟩
def f_need_seen : Fn := ⟨"need_seen", ["figure", "seen"], 2, false, none, 0, [
    .ife (.not (.call "fits_seen" [.var 0, .var 1])) [.raise] []]⟩
def f_idle_strings : Fn := ⟨"idle_strings", ["figure", "seen", "rows", "at", "row", "joint"], 2, false, none, 0, [
    .expr (.call "need_figure" [.var 0]),
    .expr (.call "need_seen" [.var 0, .var 1]),
    .set 2 false (.call "reach_in" [.var 0]),
    .ret (.b1 .tuple (.comp [3, 4] (.tup [.nm 3, .nm 4]) .enum [.var 2] [.b1 .all (.comp [5] (.nm 5) .seq [.var 1] [] 0 (.cmp .eq (.ix (.var 4) (.var 5)) (.ix (.var 0) (.con (.int 3)))))] 0 (.var 3)))]⟩
/-- how far a string at t reaches, at most the floor -/
def reachI (f : Fig) (t j : Int) : Int := match f.tab t j with
  | none => f.fl
  | some x => if f.fl < x then f.fl else x
def reachV (f : Fig) (t : Int) : PV := .lst ((List.range f.n).map fun (j : Nat) => .int (reachI f t j))
theorem reach_in_ok {P : Prog} (h : P.fn "reach_in" = some f_reach_in) (ht : P.fn "table_of" = some f_table_of) (k : Nat) {f : Fig} (hf : f.Ok) : callF P (k + 2) "reach_in" [f.v] .non = .ok (.lst (f.ts.map (reachV f))) .non := by
  rw [callF_at h]
  have q1 := table_ok ht k hf
  have n8 := hf.n8
  obtain ⟨T, hT⟩ : ∃ T, T = rowsV f.n f.tab := ⟨_, rfl⟩
  rw [← hT] at q1
  have dnT : ∀ k, downD k T = k - 1 := fun k => by rw [hT] <;> rfl
  have s1 := st_unp2 (call := callF P (k + 1)) (fr := P.fr) (i := 1) (j := 2) (env := [some ⟨0, f.v⟩, none, none, none, none]) (c := .non) (b := .ix (.var 0) (.con (.int 3))) (y := .int f.fl) (c2 := .non) (em_call1 (f := "table_of") (as := [.var 0]) (xs := [f.v]) rfl q1) rfl
  obtain ⟨env1, he1⟩ : ∃ env1 : Env, env1 = [some ⟨0, f.v⟩, some ⟨0, T⟩, some ⟨0, .int f.fl⟩, none, none] := ⟨_, rfl⟩
  have a1 : em (callF P (k + 1)) (.comp [3] (.nm 3) .seq [.ix (.var 0) (.con (.int 2))] [] 0 (.comp [4] (.nm 4) .seq [.ix (.var 1) (.var 3)] [] 0 (.ife (.is false .non (.var 4)) (.var 2) (.b2 .min (.var 4) (.var 2))))) env1 .non = .ok (0, .lst (f.ts.map (reachV f))) .non := by
    have q := comp_map (call := callF P (k + 1)) (own := [3]) (tg := .nm 3) (k := .seq) (srcs := [.ix (.var 0) (.con (.int 2))]) (d := 0) (elt := .comp [4] (.nm 4) .seq [.ix (.var 1) (.var 3)] [] 0 (.ife (.is false .non (.var 4)) (.var 2) (.b2 .min (.var 4) (.var 2)))) (env := env1) (c := .non) (ss := [.tup (f.ts.map PV.int)]) (xs := f.ts.map PV.int) (fun x => match x with | .int t => reachV f t | _ => .non) (by rw [he1] <;> rfl) rfl (fun x hx => by
      obtain ⟨t, ht, rfl⟩ := List.mem_map.mp hx
      have g := hf.tie t ht
      obtain ⟨env2, he2⟩ : ∃ env2 : Env, env2 = [some ⟨0, f.v⟩, some ⟨0, T⟩, some ⟨0, .int f.fl⟩, some ⟨0, .int t⟩, none] := ⟨_, rfl⟩
      refine ⟨env2, by rw [he1, he2] <;> rfl, ?_⟩
      have ir : item T (.int t) = some (rowV f.n f.tab t) := by rw [hT]; exact item_rows g.1 g.2
      have hs : evs (callF P (k + 1)) 1 [.ix (.var 1) (.var 3)] env2 .non = .ok [rowV f.n f.tab t] .non := by
        rw [he2]
        simp [em, evs, lo, Res.bind, Res.of, ir, dnT]
      have q2 := comp_map (call := callF P (k + 1)) (own := [4]) (tg := .nm 4) (k := .seq) (srcs := [.ix (.var 1) (.var 3)]) (d := 0) (elt := .ife (.is false .non (.var 4)) (.var 2) (.b2 .min (.var 4) (.var 2))) (env := env2) (c := .non) (ss := [rowV f.n f.tab t]) (xs := (List.range f.n).map fun (j : Nat) => optV (f.tab t j)) (fun x => match x with | .int y => .int (if f.fl < y then f.fl else y) | _ => .int f.fl) hs rfl (fun x hx => by
        obtain ⟨j, hj, rfl⟩ := List.mem_map.mp hx
        refine ⟨_, rfl, ?_⟩
        rw [he2]
        cases e : f.tab t j with
        | none => simp [ev, em, lo, hi, wipe, tst, truth, Res.bind, Res.of, optV, isS]
        | some y => simp [ev, em, lo, hi, wipe, tst, truth, Res.bind, Res.of, optV, isS, PVL.b2])
      refine (ev_of q2).trans ?_
      show _ = Res.ok (reachV f t) .non
      unfold reachV
      rw [List.map_map]
      congr 2
      refine List.map_congr_left fun j _ => ?_
      show (match optV (f.tab t j) with | .int y => PV.int (if f.fl < y then f.fl else y) | _ => .int f.fl) = .int (reachI f t j)
      unfold reachI
      cases f.tab t j <;> rfl)
    rw [q, List.map_map] <;> rfl
  unfold Fn.run
  rw [if_pos ⟨rfl, rfl⟩]
  show (match evB (callF P (k + 1)) P.fr [_, _] [some ⟨0, f.v⟩, none, none, none, none] .non with
    | .nx _ c => _
    | .ret v c => _
    | .exc e c => _
    | .stuck => _) = _
  rw [evB_cons, s1, obind_nx]
  rw [show (([some ⟨0, f.v⟩, none, none, none, none] : Env).set 1 (some ⟨0, T⟩)).set 2 (some ⟨0, .int f.fl⟩) = env1 by rw [he1] <;> rfl, evB_cons, st_ret a1, obind_ret] <;> rfl
/-- seen joints: some, ascending -/
structure Seen (f : Fig) (js : List Int) : Prop where
  some_ : js ≠ []
  len : js.length ≤ f.n
  range : ∀ j ∈ js, 0 ≤ j ∧ j < f.n
  asc : js.Pairwise (· < ·)
theorem fits_joint_ok {P : Prog} (D : FigD P) (h : P.fn "fits_joint" = some f_fits_joint) (k : Nat) (f : Fig) {j : Int} (h0 : 0 ≤ j) (h1 : j < f.n) : callF P (k + 2) "fits_joint" [f.v, .int j] .non = .ok (.bl true) .non := by
  rw [callF_at h]
  have w : whole (.int j) 0 ((f.n : Int) - 1) = true := by unfold whole; simp; omega
  have q := whole_ok D.whole k (.int j) 0 ((f.n : Int) - 1) rfl
  rw [w] at q
  have i0 : item f.v (.int 0) = some (.int f.n) := rfl
  have dn : ∀ k, downD k f.v = 0 := fun _ => rfl
  simp [Fn.run, f_fits_joint, Fn.start, evB, evS, ev, em, evs, lo, hi, Res.bind, Res.of, Res.out, Out.bind, isNon, i0, dn, op2, q]
theorem need_seen_ok {P : Prog} (D : FigD P) (h : P.fn "need_seen" = some f_need_seen) (hfs : P.fn "fits_seen" = some f_fits_seen) (hj : P.fn "fits_joint" = some f_fits_joint) (k : Nat) {f : Fig} (hf : f.Ok) {js : List Int} (s : Seen f js) : callF P (k + 4) "need_seen" [f.v, intsV js] .non = .ok .non .non := by
  have n8 := hf.n8
  have l0 := List.length_pos_iff.mpr s.some_
  have t1 := tupOf_ok D.tup (k + 1) (intsV js) 1 f.n rfl
  have tt : tupOf (intsV js) 1 f.n = true := by
    show (decide (1 ≤ ((js.map PV.int).length : Int)) && decide (((js.map PV.int).length : Int) ≤ f.n)) = true
    rw [List.length_map]
    have := s.len
    simp
    omega
  rw [tt] at t1
  obtain ⟨V, hV⟩ : ∃ V, V = f.v := ⟨_, rfl⟩
  have i0 : item f.v (.int 0) = some (.int f.n) := rfl
  have dn : ∀ k, downD k f.v = 0 := fun _ => rfl
  have a1 : em (callF P (k + 2)) (.b1 .all (.comp [2] (.nm 2) .seq [.var 1] [] 0 (.call "fits_joint" [.var 0, .var 2]))) [some ⟨0, f.v⟩, some ⟨0, intsV js⟩, none, none, none] .non = .ok (0, .bl true) .non := by
    refine em_b1 (comp_map (ss := [intsV js]) (xs := js.map PV.int) (fun _ => .bl true) rfl rfl fun x hx => ?_) (Nat.zero_le _) ?_
    · obtain ⟨j, hj', rfl⟩ := List.mem_map.mp hx
      have r := s.range j hj'
      have q := fits_joint_ok D hj k f r.1 r.2
      exact ⟨_, rfl, ev_of (em_call1 (xs := [f.v, .int j]) rfl q)⟩
    · have := all_bls (fun _ : PV => true) (js.map PV.int)
      rw [this]
      simp
  have a2 : em (callF P (k + 2)) (.b1 .all (.comp [3, 4] (.tup [.nm 3, .nm 4]) .zip [.var 1, .sl (.var 1) true false [.con (.int 1)]] [] 0 (.cmp .lt (.var 3) (.var 4)))) [some ⟨0, f.v⟩, some ⟨0, intsV js⟩, none, none, none] .non = .ok (0, .bl true) .non := by
    have sl : slice (intsV js) (some 1) none = some (intsV (js.drop 1)) := by
      show some (PV.tup (cutV (js.map PV.int) (some 1) none)) = _
      rw [cut_tail]
      unfold intsV
      rw [List.map_drop]
    refine em_b1 (comp_map (ss := [intsV js, intsV (js.drop 1)]) (xs := (js.zip (js.drop 1)).map prV) (fun _ => .bl true) ?_ (by show some _ = _; rw [zip_ints]) fun x hx => ?_) (Nat.zero_le _) ?_
    · simp [em, evs, evi, lo, hi, int?, Res.bind, Res.of, sl]
    · obtain ⟨p, hp, rfl⟩ := List.mem_map.mp hx
      have := adj s.asc p hp
      refine ⟨_, rfl, ?_⟩
      simp [ev, em, lo, hi, wipe, Res.bind, Res.of, prV, cmp, this]
    · have := all_bls (fun _ : PV => true) ((js.zip (js.drop 1)).map prV)
      rw [this]
      simp
  have q1 : callF P (k + 3) "fits_seen" [f.v, intsV js] .non = .ok (.bl true) .non := by
    rw [callF_at hfs]
    rw [← hV] at a1 a2 i0 dn ⊢
    simp [Fn.run, f_fits_seen, Fn.start, evB, evS, ev, lo, Res.bind, Res.out, Out.bind, isNon, em, evs, hi, tst, truth, Res.of, i0, dn, t1, ↓a1, ↓a2]
  rw [callF_at h]
  simp [Fn.run, f_need_seen, Fn.start, evB, evS, ev, em, evs, lo, hi, tst, truth, Res.bind, Res.of, Res.out, Out.bind, isNon, q1]
/-- does the string at t draw no seen joint up -/
def idleB (f : Fig) (js : List Int) (t : Int) : Bool := js.all fun j => decide (reachI f t j = f.fl)
def idleL (f : Fig) (js : List Int) : List Int := ((List.range f.ts.length).filter fun (k : Nat) => idleB f js (PVN.gt f.ts k)).map fun (k : Nat) => (k : Int)
theorem enum_any (xs : List PV) (d : PV) : (xs.zipIdx).map (fun p => PV.tup [.int p.2, p.1]) = (List.range xs.length).map fun (k : Nat) => PV.tup [.int (k : Int), xs.getD k d] := by
  refine List.ext_getElem (by simp) fun i h1 h2 => ?_
  have hi : i < xs.length := by simpa using h1
  rw [List.getElem_map, List.getElem_zipIdx, List.getElem_map, List.getElem_range, List.getD_eq_getElem?_getD, List.getElem?_eq_getElem hi]
  simp
theorem idle_strings_ok {P : Prog} (D : FigD P) (h : P.fn "idle_strings" = some f_idle_strings) (hn : P.fn "need_figure" = some f_need_figure) (hs : P.fn "need_seen" = some f_need_seen) (hfs : P.fn "fits_seen" = some f_fits_seen) (hj : P.fn "fits_joint" = some f_fits_joint) (hr : P.fn "reach_in" = some f_reach_in) (ht : P.fn "table_of" = some f_table_of)
    (k : Nat) {f : Fig} (hf : f.Ok) {js : List Int} (s : Seen f js) : callF P (k + 5) "idle_strings" [f.v, intsV js] .non = .ok (intsV (idleL f js)) .non := by
  rw [callF_at h]
  have q1 := need_figure_ok D hn k _ hf.okv hf.fit
  have q2 := need_seen_ok D hs hfs hj k hf s
  have q3 := reach_in_ok hr ht (k + 2) hf
  obtain ⟨L, hL⟩ : ∃ L, L = f.ts.map (reachV f) := ⟨_, rfl⟩
  rw [← hL] at q3
  have a1 : em (callF P (k + 4)) (.b1 .tuple (.comp [3, 4] (.tup [.nm 3, .nm 4]) .enum [.var 2] [.b1 .all (.comp [5] (.nm 5) .seq [.var 1] [] 0 (.cmp .eq (.ix (.var 4) (.var 5)) (.ix (.var 0) (.con (.int 3)))))] 0 (.var 3))) [some ⟨0, f.v⟩, some ⟨0, intsV js⟩, some ⟨0, .lst L⟩, none, none, none] .non = .ok (0, intsV (idleL f js)) .non := by
    have hx : ∀ k : Nat, k < f.ts.length → L.getD k .non = reachV f (PVN.gt f.ts k) := fun k hk => by
      rw [hL, List.getD_eq_getElem?_getD, List.getElem?_map, List.getElem?_eq_getElem hk, PVN.gt_get hk] <;> rfl
    obtain ⟨no, hno⟩ : ∃ no : PV → Nat, no = fun x => match x with | .tup (.int k :: _) => k.toNat | _ => 0 := ⟨_, rfl⟩
    have hk : ∀ (k : Nat) (r : List PV), no (.tup (.int (k : Int) :: r)) = k := fun k r => by rw [hno]; simp
    have q := comp_pure (call := callF P (k + 4)) (own := [3, 4]) (tg := .tup [.nm 3, .nm 4]) (k := .enum) (srcs := [.var 2]) (conds := [.b1 .all (.comp [5] (.nm 5) .seq [.var 1] [] 0 (.cmp .eq (.ix (.var 4) (.var 5)) (.ix (.var 0) (.con (.int 3)))))]) (d := 0) (elt := .var 3) (env := [some ⟨0, f.v⟩, some ⟨0, intsV js⟩, some ⟨0, .lst L⟩, none, none, none]) (c := .non) (ss := [.lst L]) (xs := (List.range L.length).map fun (k : Nat) => PV.tup [.int (k : Int), L.getD k .non]) (fun x => idleB f js (PVN.gt f.ts (no x))) (fun x => .int (no x)) rfl (by show some _ = _; rw [enum_any L .non]) (fun x hx' => by
      obtain ⟨i, hi', rfl⟩ := List.mem_map.mp hx'
      have il : i < f.ts.length := by
        have := List.mem_range.mp hi'
        rw [hL, List.length_map] at this
        exact this
      rw [hx i il]
      refine ⟨_, rfl, ?_, fun _ => by rw [hk] <;> rfl⟩
      rw [hk]
      obtain ⟨t, ht'⟩ : ∃ t, t = PVN.gt f.ts i := ⟨_, rfl⟩
      rw [← ht']
      have i3 : item f.v (.int 3) = some (.int f.fl) := rfl
      have dnf : ∀ k, downD k f.v = 0 := fun _ => rfl
      have dnr : ∀ k, downD k (reachV f t) = k - 1 := fun _ => rfl
      have b1 : em (callF P (k + 4)) (.b1 .all (.comp [5] (.nm 5) .seq [.var 1] [] 0 (.cmp .eq (.ix (.var 4) (.var 5)) (.ix (.var 0) (.con (.int 3)))))) [some ⟨0, f.v⟩, some ⟨0, intsV js⟩, some ⟨0, .lst L⟩, some ⟨0, .int (i : Int)⟩, some ⟨0, reachV f t⟩, none] .non = .ok (0, .bl (idleB f js t)) .non := by
        refine em_b1 (comp_map (ss := [intsV js]) (xs := js.map PV.int) (fun x => match x with | .int j => .bl (decide (reachI f t j = f.fl)) | _ => .non) rfl rfl fun x hx => ?_) (Nat.zero_le _) ?_
        · obtain ⟨j, hj', rfl⟩ := List.mem_map.mp hx
          have r := s.range j hj'
          have ir : item (reachV f t) (.int j) = some (.int (reachI f t j)) := by
            show atI _ j = _
            rw [atI_map r.1 r.2, show ((j.toNat : Nat) : Int) = j by omega]
          refine ⟨_, rfl, ?_⟩
          simp [ev, em, lo, hi, wipe, Res.bind, Res.of, ir, i3, dnf, dnr, eq_int]
        · rw [List.map_map]
          exact all_bls (fun j : Int => decide (reachI f t j = f.fl)) js
      show tst (lo AN (em (callF P (k + 4)) _ [some ⟨0, f.v⟩, some ⟨0, intsV js⟩, some ⟨0, .lst L⟩, some ⟨0, .int (i : Int)⟩, some ⟨0, reachV f t⟩, none] .non)) = _
      rw [b1] <;> rfl)
    rw [filt_range] at q
    simp only [hk] at q
    refine em_b1 q (Nat.zero_le _) ?_
    unfold intsV idleL
    rw [List.map_map, hL, List.length_map] <;> rfl
  unfold Fn.run
  rw [if_pos ⟨rfl, rfl⟩]
  show (match evB (callF P (k + 4)) P.fr [_, _, _, _] [some ⟨0, f.v⟩, some ⟨0, intsV js⟩, none, none, none, none] .non with
    | .nx _ c => _
    | .ret v c => _
    | .exc e c => _
    | .stuck => _) = _
  rw [evB_cons, st_expr (em_call1 (xs := [f.v]) rfl q1), obind_nx, evB_cons, st_expr (em_call1 (xs := [f.v, intsV js]) rfl q2), obind_nx, evB_cons, st_set (em_call1 (xs := [f.v]) rfl q3), obind_nx, evB_cons, show (([some ⟨0, f.v⟩, some ⟨0, intsV js⟩, none, none, none, none] : Env).set 2 (some ⟨0, .lst L⟩)) = [some ⟨0, f.v⟩, some ⟨0, intsV js⟩, some ⟨0, .lst L⟩, none, none, none] from rfl, st_ret a1, obind_ret] <;> rfl
end PVL
end

section
set_option Elab.async false
set_option linter.all false
set_option maxRecDepth 100000
set_option maxHeartbeats 8000000
/-! PVM38: ways from a joint, by the law; joints seen, drawn. -/
namespace PVL
open PySem (Str)
def f__law_from : Fn := ⟨"_law_from", ["figure", "joint", "found", "turn", "one", "other", "length", "begin", "end"], 2, false, none, 0, [
    .set 2 true (.dct1 (.var 1) (.con (.int 0))),
    .for_ (.nm 3) .rng1 [.ix (.var 0) (.con (.int 0))] [.for_ (.tup [.nm 4, .nm 5, .nm 6]) .seq [.ix (.var 0) (.con (.int 1))] [.for_ (.tup [.nm 7, .nm 8]) .seq [.tup [.tup [.var 4, .var 5], .tup [.var 5, .var 4]]] [.ife (.and (.cmp .isin (.var 7) (.var 2)) (.cmp .lt (.op .add (.ix (.var 2) (.var 7)) (.var 6)) (.get2 (.var 2) (.var 8) (.op .pow (.con (.int 10)) (.con (.int 6)))))) [.put 2 [] (.var 8) (.op .add (.ix (.var 2) (.var 7)) (.var 6))] []]]],
    .frz 2,
    .ret (.var 2)]⟩
def f__law_seen : Fn := ⟨"_law_seen", ["cup", "figure", "found", "joint"], 2, true, (some 0), 0, [
    .set 2 false (.b1 .tuple (.comp [3] (.nm 3) .rng1 [.ix (.var 1) (.con (.int 0))] [.cmp .eq (.callc "_law_roll" [.con (.int 2)]) (.con (.int 0))] 0 (.var 3))),
    .ret (.ife (.cmp .ne (.var 2) (.tup [])) (.var 2) (.tup [.callc "_law_roll" [.ix (.var 1) (.con (.int 0))]]))]⟩
/-! ### a dict, put and got -/
theorem dget_map_same {k : DKey} {v : PV} : ∀ {kvs : List (DKey × PV)}, (kvs.any fun kv => decide (kv.1 = k)) = true → dget (kvs.map fun kv => if kv.1 = k then (k, v) else kv) k = some v
  | [], h => by cases h
  | kv :: kvs, h => by
    unfold dget
    rw [List.map_cons, List.find?_cons]
    by_cases e : kv.1 = k
    · rw [if_pos e]; simp
    · rw [if_neg e]
      simp only [e, decide_false]
      rw [List.any_cons] at h
      simp only [e, decide_false, Bool.false_or] at h
      exact dget_map_same h
theorem dget_map_other {k k' : DKey} {v : PV} (hk : k' ≠ k) : ∀ {kvs : List (DKey × PV)}, dget (kvs.map fun kv => if kv.1 = k then (k, v) else kv) k' = dget kvs k'
  | [] => rfl
  | kv :: kvs => by
    have ih := dget_map_other (v := v) hk (kvs := kvs)
    unfold dget at ih ⊢
    rw [List.map_cons, List.find?_cons, List.find?_cons]
    by_cases e : kv.1 = k
    · rw [if_pos e]
      have h1 : ¬ k = k' := fun z => hk z.symm
      have h2 : ¬ kv.1 = k' := fun z => hk (z.symm.trans e)
      simp only [h1, h2, decide_false]
      exact ih
    · rw [if_neg e]
      by_cases e2 : kv.1 = k'
      · simp only [e2, decide_true]
      · simp only [e2, decide_false]
        exact ih
theorem dget_put (kvs : List (DKey × PV)) (k k' : DKey) (v : PV) : dget (dput kvs k v) k' = if k' = k then some v else dget kvs k' := by
  unfold dput
  by_cases ha : (kvs.any fun kv => decide (kv.1 = k)) = true
  · rw [if_pos ha]
    by_cases hk : k' = k
    · subst hk; rw [if_pos rfl]; exact dget_map_same ha
    · rw [if_neg hk]; exact dget_map_other hk
  · rw [if_neg ha]
    unfold dget
    rw [List.find?_append]
    by_cases hk : k' = k
    · subst hk
      rw [if_pos rfl]
      have : kvs.find? (fun kv => decide (kv.1 = k')) = none := by
        rw [List.find?_eq_none]
        intro x hx
        have h2 : (kvs.any fun kv => decide (kv.1 = k')) = false := Bool.eq_false_iff.mpr ha
        rw [List.any_eq_false] at h2
        exact h2 x hx
      rw [this]
      simp
    · rw [if_neg hk]
      have hk2 : ¬ k = k' := fun z => hk z.symm
      cases kvs.find? (fun kv => decide (kv.1 = k')) with
      | none => simp [hk2]
      | some x => rfl
abbrev MM : Int := 1000000
def ik (i : Int) : DKey := .at_ (.inl i)
/-- a dict that tells a row: entries below the line -/
structure FD (n : Nat) (kvs : List (DKey × PV)) (d : List Int) : Prop where
  len : d.length = n
  le : ∀ j : Int, 0 ≤ j → j < n → PVN.gt d j ≤ MM
  at_ : ∀ j : Int, 0 ≤ j → j < n → dget kvs (ik j) = if PVN.gt d j < MM then some (.int (PVN.gt d j)) else none
def halfD (d : List Int) (x y w : Int) : List Int := d.set y.toNat (min (PVN.gt d y) (PVN.gt d x + w))
theorem half_relax {d : List Int} {a b w : Int} (a0 : 0 ≤ a) (ab : a < b) (bn : b < d.length) (w1 : 1 ≤ w) : halfD (halfD d a b w) b a w = PVN.relax d (a, b, w) := by
  have b0 : 0 ≤ b := by omega
  have hb : b.toNat < d.length := by omega
  have ha : a.toNat < d.length := by omega
  refine PVN.gt_ext (by unfold halfD; rw [List.length_set, List.length_set, PVN.relax_len]) fun i hi hl => ?_
  have hi' : i < d.length := by unfold halfD at hl; rw [List.length_set, List.length_set] at hl; exact hl
  rw [PVN.relax_gt a0 ab bn hi]
  have e1 : ∀ j : Int, 0 ≤ j → PVN.gt (halfD d a b w) j = if j = b then min (PVN.gt d b) (PVN.gt d a + w) else PVN.gt d j := fun j hj => by
    unfold halfD
    rw [PVN.gt_set hj hb]
    have : ((b.toNat : Nat) : Int) = b := by omega
    rw [this]
  have e2 : PVN.gt (halfD (halfD d a b w) b a w) i = if i = a then min (PVN.gt (halfD d a b w) a) (PVN.gt (halfD d a b w) b + w) else PVN.gt (halfD d a b w) i := by
    show PVN.gt ((halfD d a b w).set a.toNat _) i = _
    rw [PVN.gt_set hi (by unfold halfD; rw [List.length_set]; exact ha)]
    have : ((a.toNat : Nat) : Int) = a := by omega
    rw [this]
  rw [e2]
  by_cases q1 : i = a
  · subst q1
    rw [if_pos rfl, e1 i a0, e1 b b0, if_neg (by omega), if_pos rfl, if_neg (by omega), if_pos rfl]
    omega
  · rw [if_neg q1, e1 i hi]
    by_cases q2 : i = b
    · rw [if_pos q2, if_pos q2]
    · rw [if_neg q2, if_neg q2, if_neg q1]
theorem FD.put {n : Nat} {kvs : List (DKey × PV)} {d : List Int} (h : FD n kvs d) {y v : Int} (y0 : 0 ≤ y) (y1 : y < n) (hv : v < MM) : FD n (dput kvs (ik y) (.int v)) (d.set y.toNat v) := by
  have hy : y.toNat < d.length := by have := h.len; omega
  have ey : ((y.toNat : Nat) : Int) = y := by omega
  refine ⟨by rw [List.length_set]; exact h.len, fun j j0 j1 => ?_, fun j j0 j1 => ?_⟩
  · rw [PVN.gt_set j0 hy]
    split
    · omega
    · exact h.le j j0 j1
  · rw [dget_put, PVN.gt_set j0 hy, ey]
    by_cases e : j = y
    · subst e
      rw [if_pos rfl, if_pos rfl, if_pos hv]
    · rw [if_neg (fun z => e (by unfold ik at z; injection z with z; injection z)), if_neg e]
      exact h.at_ j j0 j1
abbrev lfStep : List S := [.ife (.and (.cmp .isin (.var 7) (.var 2)) (.cmp .lt (.op .add (.ix (.var 2) (.var 7)) (.var 6)) (.get2 (.var 2) (.var 8) (.op .pow (.con (.int 10)) (.con (.int 6)))))) [.put 2 [] (.var 8) (.op .add (.ix (.var 2) (.var 7)) (.var 6))] []]
abbrev lfTwo : List S := [.for_ (.tup [.nm 7, .nm 8]) .seq [.tup [.tup [.var 4, .var 5], .tup [.var 5, .var 4]]] lfStep]
abbrev lfLim : List S := [.for_ (.tup [.nm 4, .nm 5, .nm 6]) .seq [.ix (.var 0) (.con (.int 1))] lfTwo]
def lfE (V J : PV) (kvs : List (DKey × PV)) (s3 s4 s5 s6 s7 s8 : Option Slot) : Env := [some ⟨0, V⟩, some ⟨0, J⟩, some ⟨1, .dct false kvs⟩, s3, s4, s5, s6, s7, s8]
theorem lf_step (call : CallF) (fr : List Str) {n : Nat} {V J : PV} {kvs : List (DKey × PV)} {d : List Int} (h : FD n kvs d) (hz : kvs.length < SZ) {x y w : Int} (x0 : 0 ≤ x) (x1 : x < n) (y0 : 0 ≤ y) (y1 : y < n) (w1 : 1 ≤ w) (s3 s4 s5 : Option Slot) (c : PV) :
    ∃ kvs', evB call fr lfStep (lfE V J kvs s3 s4 s5 (some ⟨0, .int w⟩) (some ⟨0, .int x⟩) (some ⟨0, .int y⟩)) c = .nx (lfE V J kvs' s3 s4 s5 (some ⟨0, .int w⟩) (some ⟨0, .int x⟩) (some ⟨0, .int y⟩)) c ∧ FD n kvs' (halfD d x y w) ∧ kvs'.length ≤ kvs.length + 1 := by
  have kx : ∀ i : Int, keyIn false (.int i) = some (ik i) := fun _ => rfl
  have han : (1 : Nat) ≤ AN := by decide
  have hx := h.at_ x x0 x1
  have hy := h.at_ y y0 y1
  have ly := h.le y y0 y1
  have pw : op2 .pow (.int 10) (.int 6) = some (.int 1000000) := rfl
  have ad : op2 .add (.int (PVN.gt d x)) (.int w) = some (.int (PVN.gt d x + w)) := rfl
  have lt : cmp .lt (.int (PVN.gt d x + w)) (.int (PVN.gt d y)) = some (decide (PVN.gt d x + w < PVN.gt d y)) := rfl
  have gy : (dget kvs (ik y)).getD (.int 1000000) = .int (PVN.gt d y) := by
    rw [hy]
    by_cases c1 : PVN.gt d y < MM
    · rw [if_pos c1] <;> rfl
    · rw [if_neg c1]
      show PV.int 1000000 = _
      have : PVN.gt d y = 1000000 := by have := ly; unfold MM at *; omega
      rw [this]
  have same : min (PVN.gt d y) (PVN.gt d x + w) = PVN.gt d y → halfD d x y w = d := fun e => by
    unfold halfD
    rw [e]
    have hyl : y.toNat < d.length := by have := h.len; omega
    refine PVN.gt_ext (by rw [List.length_set]) fun i hi _ => ?_
    rw [PVN.gt_set hi hyl]
    split
    · rename_i q
      rw [show i = y by omega]
    · rfl
  by_cases cx : PVN.gt d x < MM
  · rw [if_pos cx] at hx
    have isin : cmp .isin (.int x) (.dct false kvs) = some true := by
      show (keyIn false (.int x)).map (fun k => (dget kvs k).isSome) = _
      rw [kx, Option.map_some, hx] <;> rfl
    have it : item (.dct false kvs) (.int x) = some (.int (PVN.gt d x)) := by
      show (keyIn false (.int x)).bind (dget kvs) = _
      rw [kx, Option.bind_some, hx]
    have gv : getV (.dct false kvs) (.int y) (.int 1000000) = some (.int (PVN.gt d y)) := by
      show (keyIn false (.int y)).map (fun q => (dget kvs q).getD (.int 1000000)) = _
      rw [kx, Option.map_some, gy]
    by_cases cy : PVN.gt d x + w < PVN.gt d y
    · refine ⟨dput kvs (ik y) (.int (PVN.gt d x + w)), ?_, ?_, dput_len'⟩
      · have pv : putV (.int (PVN.gt d x + w)) (.int y) (.dct false kvs) = some (.dct false (dput kvs (ik y) (.int (PVN.gt d x + w)))) := by
          show (keyIn false (.int y)).bind (fun q => if kvs.length < SZ then some (PV.dct false (dput kvs q _)) else none) = _
          rw [kx, Option.bind_some, if_pos hz]
        unfold lfE
        simp [evB, evS, ev, em, evs, lo, hi, tst, truth, Res.of, Res.bind, Res.out, Out.bind, okR, okP, validP, modS, modP, downD, isDct, han, lt, ad, pw, isin, it, gv, pv, cy]
      · have := h.put y0 y1 (v := PVN.gt d x + w) (by omega)
        have e : halfD d x y w = d.set y.toNat (PVN.gt d x + w) := by unfold halfD; rw [show min (PVN.gt d y) (PVN.gt d x + w) = PVN.gt d x + w by omega]
        rw [e]
        exact this
    · refine ⟨kvs, ?_, by rw [same (by omega)]; exact h, by omega⟩
      unfold lfE
      simp [evB, evS, ev, em, evs, lo, hi, tst, truth, Res.of, Res.bind, Res.out, Out.bind, downD, isDct, han, lt, ad, pw, isin, it, gv, cy]
  · rw [if_neg cx] at hx
    have isin : cmp .isin (.int x) (.dct false kvs) = some false := by
      show (keyIn false (.int x)).map (fun k => (dget kvs k).isSome) = _
      rw [kx, Option.map_some, hx] <;> rfl
    refine ⟨kvs, ?_, by rw [same (by omega)]; exact h, by omega⟩
    unfold lfE
    simp [evB, evS, ev, em, evs, lo, hi, tst, truth, Res.of, Res.bind, Res.out, Out.bind, han, isin]
theorem lf_limbs (call : CallF) (fr : List Str) {n : Nat} (V J : PV) (s3 : Option Slot) (c : PV) : ∀ (ls : List L3) (kvs : List (DKey × PV)) (d : List Int) (s4 s5 s6 s7 s8 : Option Slot), FD n kvs d → PVN.Lim n ls → kvs.length + 2 * ls.length < SZ →
    ∃ kvs' s4' s5' s6' s7' s8', forL (.tup [.nm 4, .nm 5, .nm 6]) (fun env c => evB call fr lfTwo env c) (ls.map l3V) (lfE V J kvs s3 s4 s5 s6 s7 s8) c = .nx (lfE V J kvs' s3 s4' s5' s6' s7' s8') c ∧ FD n kvs' (PVN.round ls d) ∧ kvs'.length ≤ kvs.length + 2 * ls.length
  | [], kvs, d, s4, s5, s6, s7, s8, h, _, _ => ⟨kvs, s4, s5, s6, s7, s8, rfl, h, by simp⟩
  | (a, b, w) :: ls, kvs, d, s4, s5, s6, s7, s8, h, hl, hz => by
    obtain ⟨g0, g1, g2, g3⟩ := hl _ (List.mem_cons_self ..)
    simp only at g0 g1 g2 g3
    rw [List.length_cons] at hz
    have b0 : 0 ≤ b := by omega
    have a1 : a < n := by omega
    obtain ⟨k1, e1, f1, z1⟩ := lf_step call fr (V := V) (J := J) h (by omega) (x := a) (y := b) (w := w) g0 a1 b0 g2 g3 s3 (some ⟨0, .int a⟩) (some ⟨0, .int b⟩) c
    obtain ⟨k2, e2, f2, z2⟩ := lf_step call fr (V := V) (J := J) f1 (by omega) (x := b) (y := a) (w := w) b0 g2 g0 a1 g3 s3 (some ⟨0, .int a⟩) (some ⟨0, .int b⟩) c
    rw [half_relax g0 g1 (by rw [h.len]; exact g2) g3] at f2
    obtain ⟨k3, t4, t5, t6, t7, t8, e3, f3, z3⟩ := lf_limbs call fr V J s3 c ls k2 (PVN.relax d (a, b, w)) (some ⟨0, .int a⟩) (some ⟨0, .int b⟩) (some ⟨0, .int w⟩) (some ⟨0, .int b⟩) (some ⟨0, .int a⟩) f2 (fun l hm => hl l (List.mem_cons_of_mem _ hm)) (by omega)
    refine ⟨k3, t4, t5, t6, t7, t8, ?_, f3, by rw [List.length_cons]; omega⟩
    have two : evB call fr lfTwo (lfE V J kvs s3 (some ⟨0, .int a⟩) (some ⟨0, .int b⟩) (some ⟨0, .int w⟩) s7 s8) c = .nx (lfE V J k2 s3 (some ⟨0, .int a⟩) (some ⟨0, .int b⟩) (some ⟨0, .int w⟩) (some ⟨0, .int b⟩) (some ⟨0, .int a⟩)) c := by
      rw [evB_cons, st_for (vs := [.tup [.tup [.int a, .int b], .tup [.int b, .int a]]]) (xs := [.tup [.int a, .int b], .tup [.int b, .int a]]) rfl rfl]
      have p1 : forL (.tup [.nm 7, .nm 8]) (fun env c => evB call fr lfStep env c) [.tup [.int a, .int b], .tup [.int b, .int a]] (lfE V J kvs s3 (some ⟨0, .int a⟩) (some ⟨0, .int b⟩) (some ⟨0, .int w⟩) s7 s8) c = .nx (lfE V J k2 s3 (some ⟨0, .int a⟩) (some ⟨0, .int b⟩) (some ⟨0, .int w⟩) (some ⟨0, .int b⟩) (some ⟨0, .int a⟩)) c := by
        show ((evB call fr lfStep (lfE V J kvs s3 (some ⟨0, .int a⟩) (some ⟨0, .int b⟩) (some ⟨0, .int w⟩) (some ⟨0, .int a⟩) (some ⟨0, .int b⟩)) c).bind fun env c => forL (.tup [.nm 7, .nm 8]) (fun env c => evB call fr lfStep env c) [.tup [.int b, .int a]] env c) = _
        rw [e1, obind_nx]
        show ((evB call fr lfStep (lfE V J k1 s3 (some ⟨0, .int a⟩) (some ⟨0, .int b⟩) (some ⟨0, .int w⟩) (some ⟨0, .int b⟩) (some ⟨0, .int a⟩)) c).bind fun env c => forL (.tup [.nm 7, .nm 8]) (fun env c => evB call fr lfStep env c) [] env c) = _
        rw [e2, obind_nx] <;> rfl
      rw [p1, obind_nx] <;> rfl
    show (match (Tg.tup [.nm 4, .nm 5, .nm 6]).put (l3V (a, b, w)) (lfE V J kvs s3 s4 s5 s6 s7 s8) with
      | none => Out.stuck
      | some env1 => (evB call fr lfTwo env1 c).bind fun env c => forL _ _ _ env c) = _
    have pu : (Tg.tup [.nm 4, .nm 5, .nm 6]).put (l3V (a, b, w)) (lfE V J kvs s3 s4 s5 s6 s7 s8) = some (lfE V J kvs s3 (some ⟨0, .int a⟩) (some ⟨0, .int b⟩) (some ⟨0, .int w⟩) s7 s8) := rfl
    rw [pu]
    simp only []
    rw [two, obind_nx]
    exact e3
/-- ways from a joint: a row, as poses are -/
def Fig.from_ (f : Fig) (j : Int) : List Int := PVN.poseR f.n MM f.ls [(j, 0)]
theorem law_from_ok {P : Prog} (h : P.fn "_law_from" = some f__law_from) (k : Nat) {f : Fig} (hf : f.Ok) {j : Int} (j0 : 0 ≤ j) (j1 : j < f.n) :
    ∃ kvs, callF P (k + 1) "_law_from" [f.v, .int j] .non = .ok (.dct false kvs) .non ∧ FD f.n kvs (f.from_ j) := by
  have n8 := hf.n8
  have l12 := hf.l12
  obtain ⟨d0, hd0⟩ : ∃ d0, d0 = PVN.start (List.replicate f.n MM) [(j, 0)] := ⟨_, rfl⟩
  have l0 : (List.replicate f.n MM).length = f.n := List.length_replicate
  have g0 : ∀ i : Int, 0 ≤ i → i < f.n → PVN.gt d0 i = if i = j then 0 else MM := fun i i0 i1 => by
    rw [hd0]
    show PVN.gt ((List.replicate f.n MM).set j.toNat (min (PVN.gt (List.replicate f.n MM) j) 0)) i = _
    rw [PVN.gt_set i0 (by rw [l0]; omega), PVN.gt_rep j0 j1, PVN.gt_rep i0 i1, show ((j.toNat : Nat) : Int) = j by omega]
    rfl
  have F0 : FD f.n [(ik j, .int 0)] d0 := by
    refine ⟨by rw [hd0, PVN.start_len, l0], fun i i0 i1 => ?_, fun i i0 i1 => ?_⟩
    · rw [g0 i i0 i1]; split <;> (unfold MM; omega)
    · rw [g0 i i0 i1]
      by_cases e : i = j
      · subst e
        unfold dget
        simp
        decide
      · unfold dget
        have : ¬ ik j = ik i := fun z => e (by unfold ik at z; injection z with z; injection z with z; exact z.symm)
        simp [this, e]
  obtain ⟨env', c', e, rfl, kvs, t3, t4, t5, t6, t7, t8, rfl, hF, hz⟩ := forL_inv (tg := .nm 3) (f := fun env c => evB (callF P k) P.fr lfLim env c) (I := fun i env c' => c' = PV.non ∧ ∃ kvs t3 t4 t5 t6 t7 t8, env = lfE f.v (.int j) kvs t3 t4 t5 t6 t7 t8 ∧ FD f.n kvs (PVN.rounds f.ls i d0) ∧ kvs.length ≤ 1 + 24 * i) (rng 0 f.n) 0 (lfE f.v (.int j) [(ik j, .int 0)] none none none none none none) .non (by
    intro i x env c' hx ⟨ec, kvs, t3, t4, t5, t6, t7, t8, he, hF, hz⟩
    subst ec he
    obtain ⟨hi', rfl⟩ := rng_get hx
    obtain ⟨k3, u4, u5, u6, u7, u8, e3, f3, z3⟩ := lf_limbs (callF P k) P.fr f.v (.int j) (some ⟨0, .int (0 + (i : Int))⟩) .non f.ls kvs (PVN.rounds f.ls (0 + i) d0) t4 t5 t6 t7 t8 hF hf.lim (by unfold SZ; omega)
    refine ⟨_, _, .non, rfl, ?_, rfl, k3, some ⟨0, .int (0 + (i : Int))⟩, u4, u5, u6, u7, u8, rfl, by rw [PVN.rounds_succ]; exact f3, by omega⟩
    show evB (callF P k) P.fr lfLim (lfE f.v (.int j) kvs (some ⟨0, .int (0 + (i : Int))⟩) t4 t5 t6 t7 t8) .non = _
    rw [evB_cons, st_for (vs := [.tup (f.ls.map l3V)]) (xs := f.ls.map l3V) rfl rfl, e3, obind_nx] <;> rfl) ⟨rfl, _, _, _, _, _, _, _, rfl, F0, by simp⟩
  rw [len_rng, Nat.zero_add] at hF
  refine ⟨kvs, ?_, by unfold Fig.from_ PVN.poseR; rw [← hd0]; exact hF⟩
  rw [callF_at h]
  unfold Fn.run
  rw [if_pos ⟨rfl, rfl⟩]
  show (match evB (callF P k) P.fr [_, .for_ (.nm 3) .rng1 [.ix (.var 0) (.con (.int 0))] lfLim, .frz 2, .ret (.var 2)] [some ⟨0, f.v⟩, some ⟨0, .int j⟩, none, none, none, none, none, none, none] .non with
    | .nx _ c => _
    | .ret v c => _
    | .exc e c => _
    | .stuck => _) = _
  have s0 : evS (callF P k) P.fr (.set 2 true (.dct1 (.var 1) (.con (.int 0)))) [some ⟨0, f.v⟩, some ⟨0, .int j⟩, none, none, none, none, none, none, none] .non = .nx (lfE f.v (.int j) [(ik j, .int 0)] none none none none none none) .non := rfl
  rw [evB_cons, s0, obind_nx, evB_cons, st_for (vs := [.int f.n]) (xs := rng 0 f.n) rfl (items1 (by omega) (by omega)), e, obind_nx] <;> rfl
/-- what the law's way tells against the floor -/
theorem from_reach {f : Fig} (hf : f.Ok) {t i : Int} (t0 : 0 ≤ t) (t1 : t < f.n) (i0 : 0 ≤ i) (i1 : i < f.n) : ((if PVN.gt (f.from_ t) i < MM then PVN.gt (f.from_ t) i else f.fl) < f.fl) ↔ ¬ reachI f t i = f.fl := by
  have f30 := hf.f30
  have hz : PVN.Ties f.n [(t, 0)] := fun z hz => by
    have : z = (t, 0) := by simpa using hz
    subst this
    exact ⟨t0, t1, Int.le_refl _⟩
  have e : f.from_ t = PVN.poseT f.n MM f.tab [(t, 0)] := (PVN.pose_eq hf.lim hf.once hz (by unfold MM; omega)).symm
  have e2 : PVN.gt (f.from_ t) i = PVN.minL (PVN.some_ f.tab [(t, 0)] i ++ [MM]) := by
    rw [e]
    unfold PVN.poseT
    rw [PVN.gt_map i0 i1, show ((i.toNat : Nat) : Int) = i by omega]
  unfold reachI
  cases q : f.tab t i with
  | none =>
    have : PVN.some_ f.tab [(t, 0)] i = [] := by unfold PVN.some_; simp [q]
    rw [this] at e2
    have e3 : PVN.gt (f.from_ t) i = MM := e2
    rw [e3]
    simp
  | some x =>
    have : PVN.some_ f.tab [(t, 0)] i = [0 + x] := by unfold PVN.some_; simp [q]
    rw [this] at e2
    have e3 : PVN.gt (f.from_ t) i = if MM < 0 + x then MM else 0 + x := e2
    rw [e3]
    simp only
    unfold MM
    by_cases c1 : (1000000 : Int) < 0 + x
    · rw [if_pos c1, if_neg (by omega), if_pos (by omega)]
      simp
    · rw [if_neg c1]
      by_cases c2 : 0 + x < (1000000 : Int)
      · rw [if_pos c2]
        by_cases c3 : f.fl < x
        · rw [if_pos c3]; constructor <;> intro h <;> omega
        · rw [if_neg c3]; constructor <;> intro h <;> omega
      · rw [if_neg c2, if_pos (by omega)]
        simp
/-! ### joints seen, drawn -/
theorem compL_sift {own : List Nat} {tg : Tg} {env : Env} {cond : Env → PV → Res Bool} {elt : Env → PV → Res PV} {I : PV → Prop} : ∀ (xs : List PV) (c : PV), (∀ x ∈ xs, ∀ c, I c → ∃ e1 b c2, tg.put x (wipe env own) = some e1 ∧ cond e1 c = .ok b c2 ∧ I c2 ∧ elt e1 c2 = .ok x c2) → I c →
    ∃ ys c2, compL own tg env cond elt xs c = .ok ys c2 ∧ I c2 ∧ ys.Sublist xs
  | [], c, _, h0 => ⟨[], c, rfl, h0, List.Sublist.refl _⟩
  | x :: xs, c, h, h0 => by
    obtain ⟨e1, b, c2, h1, h2, h3, h4⟩ := h x (List.mem_cons_self ..) c h0
    obtain ⟨ys, c3, i1, i2, i3⟩ := compL_sift xs c2 (fun y hy => h y (List.mem_cons_of_mem _ hy)) h3
    cases b with
    | true =>
      refine ⟨x :: ys, c3, ?_, i2, i3.cons₂ x⟩
      unfold compL
      rw [h1]
      simp only []
      rw [h2]
      simp only []
      rw [h4]
      simp only []
      rw [i1]
    | false =>
      refine ⟨ys, c3, ?_, i2, i3.cons x⟩
      unfold compL
      rw [h1]
      simp only []
      rw [h2]
      simp only []
      rw [i1]
theorem eq_nil_ints (l : List Int) : cmp .ne (intsV l) (.tup []) = some (decide (l ≠ [])) := by
  have e2 : eqv (intsV l) (intsV []) = decide (l = []) := by unfold intsV eqv; exact eqvL_ints l []
  have e1 : isData 60 (intsV l) = true := by unfold intsV isData; exact isData_ints l _
  show (if isData 60 (intsV l) && isData 60 (intsV []) then some (!eqv (intsV l) (intsV [])) else none) = _
  rw [e1, e2]
  cases l <;> rfl
theorem law_seen_ok {P : Prog} (h : P.fn "_law_seen" = some f__law_seen) (hr : RollAt P) (k : Nat) {f : Fig} (hf : f.Ok) (a b : Int) : ∃ js a' b', callF P (k + 2) "_law_seen" [f.v] (cup a b) = .ok (intsV js) (cup a' b') ∧ Seen f js := by
  have n1 := hf.n1; have n8 := hf.n8
  obtain ⟨env1, he1⟩ : ∃ env1 : Env, env1 = [none, some ⟨0, f.v⟩, none, none] := ⟨_, rfl⟩
  obtain ⟨ys, c', q, ⟨a1, b1, rfl⟩, sub⟩ := compL_sift (own := [3]) (tg := .nm 3) (env := env1) (cond := fun env c => evc (callF P (k + 1)) [.cmp .eq (.callc "_law_roll" [.con (.int 2)]) (.con (.int 0))] env c) (elt := fun env c => lo 0 (em (callF P (k + 1)) (.var 3) env c)) (I := IsCup) (rng 0 f.n) (cup a b) (fun x hx c hc => by
    obtain ⟨a, b, rfl⟩ := hc
    obtain ⟨env2, he2⟩ : ∃ env2 : Env, env2 = [none, some ⟨0, f.v⟩, none, some ⟨0, x⟩] := ⟨_, rfl⟩
    obtain ⟨r, a2, b2, q2, _, _⟩ := em_roll hr (n := k) (env := env2) (e := .con (.int 2)) (a := a) (b := b) (a1 := a) (b1 := b) (m := 2) rfl (by omega) (by omega)
    refine ⟨env2, decide (r = 0), cup a2 b2, by rw [he1, he2] <;> rfl, ?_, ⟨a2, b2, rfl⟩, by rw [he2] <;> rfl⟩
    have q3 : em (callF P (k + 1)) (.cmp .eq (.callc "_law_roll" [.con (.int 2)]) (.con (.int 0))) env2 (cup a b) = .ok (0, .bl (decide (r = 0))) (cup a2 b2) := by
      show hi ((lo AN (em (callF P (k + 1)) (.callc "_law_roll" [.con (.int 2)]) env2 (cup a b))).bind fun x c => (lo AN (em (callF P (k + 1)) (.con (.int 0)) env2 c)).bind fun y c => .of ((PVL.cmp .eq x y).map .bl) c) = _
      rw [q2]
      show hi ((Res.ok (PV.int r) (cup a2 b2)).bind fun x c => (Res.ok (PV.int 0) c).bind fun y c => .of ((PVL.cmp .eq x y).map .bl) c) = _
      rw [bind_ok, bind_ok, eq_int] <;> rfl
    show tst (lo AN (em (callF P (k + 1)) _ env2 (cup a b))) = _
    rw [q3] <;> rfl) ⟨a, b, rfl⟩
  rw [rng0] at sub
  obtain ⟨zs, hzs, rfl⟩ : ∃ zs : List Nat, zs.Sublist (List.range f.n) ∧ ys = zs.map fun (k : Nat) => PV.int (k : Int) := by
    obtain ⟨l, h1, h2⟩ := List.sublist_map_iff.mp sub
    exact ⟨l, h1, h2⟩
  obtain ⟨js, hjs⟩ : ∃ js : List Int, js = zs.map fun (k : Nat) => (k : Int) := ⟨_, rfl⟩
  have ej : zs.map (fun (k : Nat) => PV.int (k : Int)) = js.map PV.int := by rw [hjs, List.map_map] <;> rfl
  rw [ej] at q
  have e1 : em (callF P (k + 1)) (.b1 .tuple (.comp [3] (.nm 3) .rng1 [.ix (.var 1) (.con (.int 0))] [.cmp .eq (.callc "_law_roll" [.con (.int 2)]) (.con (.int 0))] 0 (.var 3))) env1 (cup a b) = .ok (0, intsV js) (cup a1 b1) := by
    refine em_b1 (n := 0) ?_ (Nat.zero_le _) (x := .lst (js.map PV.int)) rfl
    show ((evs (callF P (k + 1)) 1 [.ix (.var 1) (.con (.int 0))] env1 (cup a b)).bind fun ss c => match items .rng1 ss with
      | none => .stuck
      | some xs => (match compL [3] (.nm 3) env1 (fun env c => evc (callF P (k + 1)) [.cmp .eq (.callc "_law_roll" [.con (.int 2)]) (.con (.int 0))] env c) (fun env c => lo 0 (em (callF P (k + 1)) (.var 3) env c)) xs c with
        | .ok ys c => .ok (0, PV.lst ys) c
        | _ => .stuck)) = _
    have hsrc : evs (callF P (k + 1)) 1 [.ix (.var 1) (.con (.int 0))] env1 (cup a b) = .ok [.int f.n] (cup a b) := by rw [he1] <;> rfl
    rw [hsrc, bind_ok, items1 (by omega) (by omega)]
    simp only [Int.toNat_natCast]
    rw [q]
  have s1 := st_set (fr := P.fr) (i := 2) e1
  obtain ⟨env2, he2⟩ : ∃ env2 : Env, env2 = [none, some ⟨0, f.v⟩, some ⟨0, intsV js⟩, none] := ⟨_, rfl⟩
  rw [show env1.set 2 (some ⟨0, intsV js⟩) = env2 by rw [he1, he2] <;> rfl] at s1
  have rgj : ∀ j ∈ js, 0 ≤ j ∧ j < f.n := fun j hj => by
    rw [hjs] at hj
    obtain ⟨m, hm, rfl⟩ := List.mem_map.mp hj
    have := List.mem_range.mp (hzs.subset hm)
    omega
  have ascj : js.Pairwise (· < ·) := by
    rw [hjs, List.pairwise_map]
    exact (List.pairwise_lt_range.sublist hzs).imp fun h => by omega
  have lenj : js.length ≤ f.n := by
    rw [hjs, List.length_map]
    have := hzs.length_le
    rwa [List.length_range] at this
  have fin : ∀ (v : PV) (c2 : PV), isLst c2 = true → em (callF P (k + 1)) (.ife (.cmp .ne (.var 2) (.tup [])) (.var 2) (.tup [.callc "_law_roll" [.ix (.var 1) (.con (.int 0))]])) env2 (cup a1 b1) = .ok (0, v) c2 → callF P (k + 2) "_law_seen" [f.v] (cup a b) = .ok v c2 := fun v c2 hc q => by
    rw [callF_at h]
    unfold Fn.run
    rw [if_pos ⟨rfl, rfl⟩]
    show (match evB (callF P (k + 1)) P.fr [_, _] [none, some ⟨0, f.v⟩, none, none] (cup a b) with
      | .nx _ c => _
      | .ret v c => _
      | .exc e c => _
      | .stuck => _) = _
    rw [← he1, evB_cons, s1, obind_nx, evB_cons, st_ret q, obind_ret]
    show (if (true && !isLst c2) = true then Res.stuck else Res.ok v c2) = _
    rw [hc] <;> rfl
  have cn : em (callF P (k + 1)) (.cmp .ne (.var 2) (.tup [])) env2 (cup a1 b1) = .ok (0, .bl (decide (js ≠ []))) (cup a1 b1) := by
    rw [he2]
    simp only [em, evs, List.getElem?_cons_succ, List.getElem?_cons_zero, lo_ok, Nat.zero_le, if_true, bind_ok, eq_nil_ints, Option.map_some, of_some, hi_ok]
  by_cases hj : js = []
  · obtain ⟨r, a2, b2, q2, r0, r1⟩ := em_roll hr (n := k) (env := env2) (e := .ix (.var 1) (.con (.int 0))) (a := a1) (b := b1) (a1 := a1) (b1 := b1) (m := f.n) (by rw [he2] <;> rfl) (by omega) (by omega)
    have sr : Seen f [r] := by
      refine ⟨by simp, by simp; omega, fun j h => ?_, List.pairwise_singleton _ _⟩
      have : j = r := by simpa using h
      subst this
      exact ⟨r0, r1⟩
    refine ⟨[r], a2, b2, fin _ _ rfl ?_, sr⟩
    show ((tst (lo AN (em (callF P (k + 1)) (.cmp .ne (.var 2) (.tup [])) env2 (cup a1 b1)))).bind fun r c => if r then em (callF P (k + 1)) (.var 2) env2 c else em (callF P (k + 1)) (.tup [.callc "_law_roll" [.ix (.var 1) (.con (.int 0))]]) env2 c) = _
    rw [cn, decide_eq_false (by simp [hj])]
    show em (callF P (k + 1)) (.tup [.callc "_law_roll" [.ix (.var 1) (.con (.int 0))]]) env2 (cup a1 b1) = _
    show (evs (callF P (k + 1)) 0 [_] env2 (cup a1 b1)).bind (fun xs c => Res.ok (0, PV.tup xs) c) = _
    rw [evs_one q2 (Nat.le_refl _)] <;> rfl
  · refine ⟨js, a1, b1, fin _ _ rfl ?_, ⟨hj, lenj, rgj, ascj⟩⟩
    show ((tst (lo AN (em (callF P (k + 1)) (.cmp .ne (.var 2) (.tup [])) env2 (cup a1 b1)))).bind fun r c => if r then em (callF P (k + 1)) (.var 2) env2 c else em (callF P (k + 1)) (.tup [.callc "_law_roll" [.ix (.var 1) (.con (.int 0))]]) env2 c) = _
    rw [cn, decide_eq_true hj]
    show em (callF P (k + 1)) (.var 2) env2 (cup a1 b1) = _
    rw [he2] <;> rfl
end PVL
end

section
set_option Elab.async false
set_option linter.all false
set_option maxRecDepth 100000
set_option maxHeartbeats 8000000
/-! PVM39: the law of idle strings, a turn. -/
namespace PVL
open PySem (Str)
def k40_law : Fn := ⟨"law", ["script", "cup", "turn", "figure", "seen", "floor", "due", "string", "tie", "far", "told", "setting", "other", "first", "second", "many", "chain", "joint", "at", "length"], 1, false, (some 1), 0, [
    .setc 1 (.call "_law_cup" [.var 0]),
    .for_ (.nm 2) .rng1 [.con (.int 6)] [.set 3 false (.callc "_law_figure" [.con (.int 8), .con (.int 6)]), .unp (.tup [.nm 4, .nm 5, .nm 6]) (.tup [.callc "_law_seen" [.var 3], .ix (.var 3) (.con (.int 3)), .tup []]), .for_ (.tup [.nm 7, .nm 8]) .enum [.ix (.var 3) (.con (.int 2))] [.set 9 false (.call "_law_from" [.var 3, .var 8]), .set 6 false (.op .add (.var 6) (.ife (.cmp .eq (.comp [17] (.nm 17) .seq [.var 4] [.cmp .lt (.get2 (.var 9) (.var 17) (.var 5)) (.var 5)] 0 (.var 17)) (.lst 0 [])) (.tup [.var 7]) (.tup [])))], .set 10 false (.call "idle_strings" [.var 3, .var 4]), .ife (.not (.call "_law_same" [.var 10, .var 6])) [.ret (.con (.bl false))] [], .set 11 false (.callc "_law_setting" [.var 3]), .set 12 false (.b1 .tuple (.comp [18, 19] (.tup [.nm 18, .nm 19]) .enum [.var 11] [] 0 (.ife (.cmp .isin (.var 18) (.var 6)) (.callc "_law_roll" [.op .add (.var 5) (.con (.int 1))]) (.var 19)))), .unp (.tup [.nm 13, .nm 14]) (.tup [.call "pose" [.var 3, .var 11], .call "pose" [.var 3, .var 12]]), .ife (.cmp .ne (.comp [17] (.nm 17) .seq [.var 4] [.cmp .ne (.ix (.var 13) (.var 17)) (.ix (.var 14) (.var 17))] 0 (.var 17)) (.lst 0 [])) [.ret (.con (.bl false))] []],
    .unp (.tup [.nm 15, .nm 5]) (.tup [.op .add (.con (.int 2)) (.callc "_law_roll" [.con (.int 7)]), .op .add (.con (.int 1)) (.callc "_law_roll" [.con (.int 7)])]),
    .set 16 false (.tup [.var 15, .b1 .tuple (.comp [18] (.nm 18) .rng1 [.op .sub (.var 15) (.con (.int 1))] [] 0 (.tup [.var 18, .op .add (.var 18) (.con (.int 1)), .con (.int 1)])), .tup [.op .sub (.var 15) (.con (.int 1)), .con (.int 0), .op .sub (.var 15) (.con (.int 1))], .var 5]),
    .set 6 false (.tup [.ife (.cmp .ge (.op .sub (.var 15) (.con (.int 1))) (.var 5)) (.tup [.con (.int 0), .con (.int 2)]) (.tup []), .ife (.cmp .ge (.op .sub (.var 15) (.con (.int 1))) (.var 5)) (.tup [.con (.int 1)]) (.tup [])]),
    .set 10 false (.tup [.call "idle_strings" [.var 16, .tup [.con (.int 0)]], .call "idle_strings" [.var 16, .tup [.op .sub (.var 15) (.con (.int 1))]], .call "idle_strings" [.var 16, .tup [.con (.int 0), .op .sub (.var 15) (.con (.int 1))]], .call "idle_strings" [.tup [.con (.int 2), .tup [], .tup [.con (.int 1)], .con (.int 1)], .tup [.con (.int 0)]]]),
    .ret (.call "_law_same" [.var 10, .op .add (.var 6) (.tup [.tup [], .tup [.con (.int 0)]])])]⟩
abbrev k40_body : List S := [.set 3 false (.callc "_law_figure" [.con (.int 8), .con (.int 6)]), .unp (.tup [.nm 4, .nm 5, .nm 6]) (.tup [.callc "_law_seen" [.var 3], .ix (.var 3) (.con (.int 3)), .tup []]), .for_ (.tup [.nm 7, .nm 8]) .enum [.ix (.var 3) (.con (.int 2))] [.set 9 false (.call "_law_from" [.var 3, .var 8]), .set 6 false (.op .add (.var 6) (.ife (.cmp .eq (.comp [17] (.nm 17) .seq [.var 4] [.cmp .lt (.get2 (.var 9) (.var 17) (.var 5)) (.var 5)] 0 (.var 17)) (.lst 0 [])) (.tup [.var 7]) (.tup [])))], .set 10 false (.call "idle_strings" [.var 3, .var 4]), .ife (.not (.call "_law_same" [.var 10, .var 6])) [.ret (.con (.bl false))] [], .set 11 false (.callc "_law_setting" [.var 3]), .set 12 false (.b1 .tuple (.comp [18, 19] (.tup [.nm 18, .nm 19]) .enum [.var 11] [] 0 (.ife (.cmp .isin (.var 18) (.var 6)) (.callc "_law_roll" [.op .add (.var 5) (.con (.int 1))]) (.var 19)))), .unp (.tup [.nm 13, .nm 14]) (.tup [.call "pose" [.var 3, .var 11], .call "pose" [.var 3, .var 12]]), .ife (.cmp .ne (.comp [17] (.nm 17) .seq [.var 4] [.cmp .ne (.ix (.var 13) (.var 17)) (.ix (.var 14) (.var 17))] 0 (.var 17)) (.lst 0 [])) [.ret (.con (.bl false))] []]
structure K40 (P : Prog) : Prop extends FigD P where
  idl : P.fn "idle_strings" = some f_idle_strings
  nse : P.fn "need_seen" = some f_need_seen
  fse : P.fn "fits_seen" = some f_fits_seen
  fj : P.fn "fits_joint" = some f_fits_joint
  rin : P.fn "reach_in" = some f_reach_in
  nf : P.fn "need_figure" = some f_need_figure
  po : P.fn "pose" = some f_pose
  ns : P.fn "need_set" = some f_need_set
  nst : P.fn "need_setting" = some f_need_setting
  fs : P.fn "fits_setting" = some f_fits_setting
  pin : P.fn "pose_in" = some f_pose_in
  pb : P.fn "pose_by" = some f_pose_by
  tb : P.fn "table_of" = some f_table_of
  cu : CupAt P
  ro : RollAt P
  so : P.fn "_law_some" = some f__law_some
  sa : P.fn "_law_same" = some f__law_same
  fi : P.fn "_law_figure" = some f__law_figure
  se : P.fn "_law_setting" = some f__law_setting
  lf : P.fn "_law_from" = some f__law_from
  lsn : P.fn "_law_seen" = some f__law_seen
/-! ### strings that are idle change no seen joint -/
theorem pose_at {f : Fig} (hf : f.Ok) {u : List Int} (hu : ∀ s ∈ u, 0 ≤ s) {j : Int} (j0 : 0 ≤ j) (j1 : j < f.n) : PVN.gt (f.pose u) j = PVN.minL (PVN.some_ f.tab (f.zs u) j ++ [f.fl]) := by
  rw [← hf.pose_tab hu]
  unfold PVN.poseT
  rw [PVN.gt_map j0 j1, show ((j.toNat : Nat) : Int) = j by omega]
theorem minL_le {A B : List Int} (ha : A ≠ []) (hb : B ≠ []) (h : ∀ y ∈ B, ∃ x ∈ A, x ≤ y) : PVN.minL A ≤ PVN.minL B := by
  obtain ⟨x, hx, hl⟩ := h _ (PVN.minL_spec hb).2
  exact Int.le_trans ((PVN.minL_spec ha).1 x hx) hl
theorem idle_le {f : Fig} (hf : f.Ok) {js u w : List Int} (hw : ∀ s ∈ w, 0 ≤ s) (hl : u.length = f.ts.length) (hlw : w.length = f.ts.length) (h : ∀ k : Nat, k < f.ts.length → PVN.gt w k = PVN.gt u k ∨ idleB f js (PVN.gt f.ts k) = true) {j : Int} (hj : j ∈ js) :
    PVN.minL (PVN.some_ f.tab (f.zs u) j ++ [f.fl]) ≤ PVN.minL (PVN.some_ f.tab (f.zs w) j ++ [f.fl]) := by
  refine minL_le (by simp) (by simp) fun y hy => ?_
  rcases List.mem_append.mp hy with q | q
  · unfold PVN.some_ at q
    rw [List.mem_filterMap] at q
    obtain ⟨z, hz, e⟩ := q
    obtain ⟨k, hk, ek⟩ := List.mem_iff_getElem.mp hz
    have hk' : k < f.ts.length ∧ k < w.length := by
      unfold Fig.zs at hk
      rw [List.length_zip] at hk
      omega
    have e1 : z = (f.ts[k], w[k]) := by rw [← ek]; exact List.getElem_zip
    have hku : k < u.length := by omega
    subst e1
    cases et : f.tab f.ts[k] j with
    | none => simp only [et] at e; cases e
    | some x =>
      simp only [et, Option.map_some, Option.some.injEq] at e
      rcases h k hk'.1 with g | g
      · rw [PVN.gt_get hk'.2, PVN.gt_get hku] at g
        refine ⟨y, List.mem_append_left _ ?_, Int.le_refl _⟩
        unfold PVN.some_
        rw [List.mem_filterMap]
        refine ⟨(f.ts[k], u[k]), ?_, by simp only [et, Option.map_some]; rw [← g, e]⟩
        unfold Fig.zs
        refine List.mem_iff_getElem.mpr ⟨k, by rw [List.length_zip]; omega, List.getElem_zip⟩
      · refine ⟨f.fl, List.mem_append_right _ (by simp), ?_⟩
        unfold idleB at g
        have g2 := of_decide_eq_true (List.all_eq_true.mp g j hj)
        rw [PVN.gt_get hk'.1] at g2
        unfold reachI at g2
        rw [et] at g2
        simp only at g2
        have := hw _ (List.getElem_mem hk'.2)
        split at g2 <;> omega
  · exact ⟨y, List.mem_append_right _ q, Int.le_refl _⟩
theorem idle_pose {f : Fig} (hf : f.Ok) {js u w : List Int} (hu : ∀ s ∈ u, 0 ≤ s) (hw : ∀ s ∈ w, 0 ≤ s) (hl : u.length = f.ts.length) (hlw : w.length = f.ts.length) (h : ∀ k : Nat, k < f.ts.length → PVN.gt w k = PVN.gt u k ∨ idleB f js (PVN.gt f.ts k) = true) {j : Int} (hj : j ∈ js) (j0 : 0 ≤ j) (j1 : j < f.n) : PVN.gt (f.pose u) j = PVN.gt (f.pose w) j := by
  rw [pose_at hf hu j0 j1, pose_at hf hw j0 j1]
  have e1 := idle_le hf (js := js) hw hl hlw h hj
  have e2 := idle_le hf (js := js) hu hlw hl (fun k hk => (h k hk).imp Eq.symm id) hj
  omega
/-! ### pieces -/
theorem eq_lst_nil (l : List Int) : cmp .eq (.lst (l.map PV.int)) (.lst []) = some (decide (l = [])) := by
  have e2 : eqv (.lst (l.map PV.int)) (.lst (([] : List Int).map PV.int)) = decide (l = []) := by unfold eqv; exact eqvL_ints l []
  have e1 : isData 60 (.lst (l.map PV.int)) = true := by unfold isData; exact isData_ints l _
  show (if isData 60 (.lst (l.map PV.int)) && isData 60 (.lst []) then some (eqv (.lst (l.map PV.int)) (.lst (([] : List Int).map PV.int))) else none) = _
  rw [e1, e2] <;> rfl
theorem isin_ints (x : Int) (l : List Int) : cmp .isin (.int x) (intsV l) = some (decide (x ∈ l)) := by
  have fl : (l.map PV.int).all flat = true := by rw [List.all_eq_true]; intro y hy; obtain ⟨i, _, rfl⟩ := List.mem_map.mp hy; rfl
  show (if flat (.int x) && (l.map PV.int).all flat then some ((l.map PV.int).any fun y => eqv y (.int x)) else none) = _
  rw [fl]
  show some ((l.map PV.int).any fun y => eqv y (.int x)) = _
  congr 1
  rw [Bool.eq_iff_iff, List.any_eq_true, decide_eq_true_iff]
  constructor
  · rintro ⟨y, hy, e⟩
    obtain ⟨i, hi, rfl⟩ := List.mem_map.mp hy
    have : i = x := by
      have e' : (i == x) = true := e
      exact eq_of_beq e'
    exact this ▸ hi
  · intro h
    exact ⟨.int x, List.mem_map.mpr ⟨x, h, rfl⟩, by show (x == x) = true; simp⟩
theorem em_noneT {call : CallF} {env : Env} {c : PV} {x t : Nat} {xs : List PV} {cd e : E} (hx : env[x]? = some (some ⟨0, .tup xs⟩)) (h : ∀ z ∈ xs, evc call [cd] ((env.set t none).set t (some ⟨0, z⟩)) c = .ok false c) :
    em call (.cmp .ne (.comp [t] (.nm t) .seq [.var x] [cd] 0 e) (.lst 0 [])) env c = .ok (0, .bl false) c := by
  have hsrc : evs call 1 [.var x] env c = .ok [.tup xs] c := by simp [em, evs, lo, Res.bind, hx]
  have q := comp_pure (call := call) (own := [t]) (tg := .nm t) (k := .seq) (srcs := [.var x]) (conds := [cd]) (d := 0) (elt := e) (env := env) (c := c) (fun _ => false) (fun z => z) hsrc (xs := xs) rfl fun z hz => ⟨_, rfl, h z hz, fun w => by cases w⟩
  rw [filter_nil (fun _ _ => rfl)] at q
  simp [em, evs, lo, hi, Res.bind, Res.of, cmp, isData, isDataL, eqv, eqvL, ↓q]
theorem st_unp3 {call : CallF} {fr : List Str} {env : Env} {c c1 c2 c3 : PV} {a b d : E} {i j k : Nat} {x y z : PV} (ha : em call a env c = .ok (0, x) c1) (hb : em call b env c1 = .ok (0, y) c2) (hd : em call d env c2 = .ok (0, z) c3) : evS call fr (.unp (.tup [.nm i, .nm j, .nm k]) (.tup [a, b, d])) env c = .nx (((env.set i (some ⟨0, x⟩)).set j (some ⟨0, y⟩)).set k (some ⟨0, z⟩)) c3 := by
  have e : em call (.tup [a, b, d]) env c = .ok (0, .tup [x, y, z]) c3 := by
    show (evs call 0 [a, b, d] env c).bind (fun xs c => Res.ok (0, PV.tup xs) c) = _
    rw [evs_three ha hb hd] <;> rfl
  show (ev call (.tup [a, b, d]) env c).out _ = _
  rw [ev_of e] <;> rfl
def E40 (S s2 s3 s4 s5 s6 s7 s8 s9 s10 s11 s12 s13 s14 : Option Slot) : Env := [S, none, s2, s3, s4, s5, s6, s7, s8, s9, s10, s11, s12, s13, s14, none, none, none, none, none]
/-- the idle ones of the first strings -/
def idleN (f : Fig) (js : List Int) (i : Nat) : List Int := ((List.range i).filter fun (k : Nat) => idleB f js (PVN.gt f.ts k)).map fun (k : Nat) => (k : Int)
theorem idleN_succ (f : Fig) (js : List Int) (i : Nat) : idleN f js (i + 1) = idleN f js i ++ (if idleB f js (PVN.gt f.ts i) then [(i : Int)] else []) := by
  unfold idleN
  rw [List.range_succ, List.filter_append, List.map_append]
  congr 1
  rw [List.filter_cons]
  split <;> rfl
theorem idleN_mem {f : Fig} {js : List Int} {i k : Nat} : (k : Int) ∈ idleN f js i ↔ k < i ∧ idleB f js (PVN.gt f.ts k) = true := by
  unfold idleN
  rw [List.mem_map]
  constructor
  · rintro ⟨m, hm, e⟩
    have : m = k := by omega
    subst this
    have := List.mem_filter.mp hm
    exact ⟨List.mem_range.mp this.1, this.2⟩
  · rintro ⟨h1, h2⟩
    exact ⟨k, List.mem_filter.mpr ⟨List.mem_range.mpr h1, h2⟩, rfl⟩
section
variable {P : Prog} (D : K40 P)
include D
theorem k40_turn (S s2 s3 s4 s5 s6 s7 s8 s9 s10 s11 s12 s13 s14 : Option Slot) (a b : Int) : ∃ env' c', evB (callF P 39) P.fr k40_body (E40 S s2 s3 s4 s5 s6 s7 s8 s9 s10 s11 s12 s13 s14) (cup a b) = .nx env' c' ∧ IsCup c' ∧ ∃ s3 s4 s5 s6 s7 s8 s9 s10 s11 s12 s13 s14, env' = E40 S s2 s3 s4 s5 s6 s7 s8 s9 s10 s11 s12 s13 s14 := by
  obtain ⟨v, a1, b1, q1, hv, _⟩ := law_figure_ok D.fi D.so D.ro 36 (most := 8) (strings := 6) (by omega) (by omega) (by omega) (by omega) a b
  obtain ⟨f, rfl, hf⟩ := fig_of hv
  have n1 := hf.n1; have n8 := hf.n8; have f1 := hf.f1; have f30 := hf.f30; have t6 := hf.t6
  refine exB_step (st_set (em_callc rfl q1)) ?_
  obtain ⟨js, a2, b2, q2, sn⟩ := law_seen_ok D.lsn D.ro 37 hf a1 b1
  refine exB_step (st_unp3 (x := intsV js) (y := .int f.fl) (z := .tup []) (c1 := cup a2 b2) (c2 := cup a2 b2) (c3 := cup a2 b2) (em_callc (c' := cup a1 b1) rfl q2) rfl rfl) ?_
  obtain ⟨E, hE⟩ : ∃ E : Option Slot → Option Slot → Option Slot → Option Slot → Env, E = fun s6 s7 s8 s9 => E40 S s2 (some ⟨0, f.v⟩) (some ⟨0, intsV js⟩) (some ⟨0, .int f.fl⟩) s6 s7 s8 s9 s10 s11 s12 s13 s14 := ⟨_, rfl⟩
  show ∃ env' c', evB _ _ _ (E40 S s2 (some ⟨0, f.v⟩) (some ⟨0, intsV js⟩) (some ⟨0, .int f.fl⟩) (some ⟨0, .tup []⟩) s7 s8 s9 s10 s11 s12 s13 s14) (cup a2 b2) = _ ∧ _
  -- what is due
  obtain ⟨env', c', e3, rfl, t7, t8, t9, rfl⟩ := forL_inv (tg := .tup [.nm 7, .nm 8]) (f := fun env c => evB (callF P 39) P.fr [.set 9 false (.call "_law_from" [.var 3, .var 8]), .set 6 false (.op .add (.var 6) (.ife (.cmp .eq (.comp [17] (.nm 17) .seq [.var 4] [.cmp .lt (.get2 (.var 9) (.var 17) (.var 5)) (.var 5)] 0 (.var 17)) (.lst 0 [])) (.tup [.var 7]) (.tup [])))] env c)
    (I := fun i env c' => c' = cup a2 b2 ∧ ∃ s7 s8 s9, env = E (some ⟨0, intsV (idleN f js i)⟩) s7 s8 s9) ((List.range f.ts.length).map fun (k : Nat) => prV ((k : Int), PVN.gt f.ts k)) 0 (E (some ⟨0, .tup []⟩) s7 s8 s9) (cup a2 b2) (by
    intro i x env c' hx ⟨ec, s7, s8, s9, he⟩
    subst ec he
    have hi' : i < f.ts.length := by
      have := (List.getElem?_eq_some_iff.mp hx).1
      simpa using this
    have ex : x = prV ((i : Int), PVN.gt f.ts i) := by
      rw [List.getElem?_map, List.getElem?_range hi'] at hx
      exact (Option.some.inj hx).symm
    subst ex
    obtain ⟨t, ht⟩ : ∃ t, t = PVN.gt f.ts i := ⟨_, rfl⟩
    have g : 0 ≤ t ∧ t < f.n := by rw [ht]; exact gt_mem (p := fun t => 0 ≤ t ∧ t < f.n) hf.tie (by omega) (by omega)
    rw [← ht]
    rw [Nat.zero_add]
    obtain ⟨kvs, p1, hF⟩ := law_from_ok D.lf 38 hf g.1 g.2
    obtain ⟨W, hW⟩ : ∃ W, W = PV.dct false kvs := ⟨_, rfl⟩
    obtain ⟨env1, he1⟩ : ∃ env1, env1 = E (some ⟨0, intsV (idleN f js i)⟩) (some ⟨0, .int (i : Int)⟩) (some ⟨0, .int t⟩) s9 := ⟨_, rfl⟩
    obtain ⟨env2, he2⟩ : ∃ env2, env2 = E (some ⟨0, intsV (idleN f js i)⟩) (some ⟨0, .int (i : Int)⟩) (some ⟨0, .int t⟩) (some ⟨0, W⟩) := ⟨_, rfl⟩
    refine ⟨env1, E (some ⟨0, intsV (idleN f js (i + 1))⟩) (some ⟨0, .int (i : Int)⟩) (some ⟨0, .int t⟩) (some ⟨0, W⟩), cup a2 b2, by rw [he1, hE] <;> rfl, ?_, rfl, _, _, _, rfl⟩
    have s1 := st_set (fr := P.fr) (i := 9) (em_call1 (call := callF P 39) (f := "_law_from") (as := [.var 3, .var 8]) (env := env1) (c := cup a2 b2) (c' := cup a2 b2) (xs := [f.v, .int t]) (by rw [he1, hE] <;> rfl) p1)
    rw [← hW, show env1.set 9 (some ⟨0, W⟩) = env2 by rw [he1, he2, hE] <;> rfl] at s1
    obtain ⟨pj, hpj⟩ : ∃ pj : Int → Bool, pj = fun j => decide ((if PVN.gt (f.from_ t) j < MM then PVN.gt (f.from_ t) j else f.fl) < f.fl) := ⟨_, rfl⟩
    have v4 : env2[4]? = some (some ⟨0, intsV js⟩) := by rw [he2, hE] <;> rfl
    have q := comp_pure (call := callF P 39) (own := [17]) (tg := .nm 17) (k := .seq) (srcs := [.var 4]) (conds := [.cmp .lt (.get2 (.var 9) (.var 17) (.var 5)) (.var 5)]) (d := 0) (elt := .var 17) (env := env2) (c := cup a2 b2) (fun z => match z with | .int j => pj j | _ => false) (fun z => z) (ss := [intsV js]) (xs := js.map PV.int) (by simp [em, evs, lo, Res.bind, v4]) rfl fun z hz => by
      obtain ⟨j, hj, rfl⟩ := List.mem_map.mp hz
      have rj := sn.range j hj
      obtain ⟨env3, he3⟩ : ∃ env3, env3 = (env2.set 17 none).set 17 (some ⟨0, .int j⟩) := ⟨_, rfl⟩
      refine ⟨env3, by rw [he3] <;> rfl, ?_, fun _ => by rw [he3, he2, hE] <;> rfl⟩
      have gv : getV W (.int j) (.int f.fl) = some (.int (if PVN.gt (f.from_ t) j < MM then PVN.gt (f.from_ t) j else f.fl)) := by
        rw [hW]
        show (keyIn false (.int j)).map (fun q => (dget kvs q).getD (.int f.fl)) = _
        have kx : keyIn false (.int j) = some (ik j) := rfl
        rw [kx, Option.map_some, hF.at_ j rj.1 rj.2]
        by_cases c1 : PVN.gt (f.from_ t) j < MM
        · rw [if_pos c1, if_pos c1] <;> rfl
        · rw [if_neg c1, if_neg c1] <;> rfl
      have iw : isDct W = some () := by rw [hW] <;> rfl
      have w9 : env3[9]? = some (some ⟨0, W⟩) := by rw [he3, he2, hE] <;> rfl
      have w17 : env3[17]? = some (some ⟨0, .int j⟩) := by rw [he3, he2, hE] <;> rfl
      have w5 : env3[5]? = some (some ⟨0, .int f.fl⟩) := by rw [he3, he2, hE] <;> rfl
      have gg : em (callF P 39) (.get2 (.var 9) (.var 17) (.var 5)) env3 (cup a2 b2) = .ok (0, .int (if PVN.gt (f.from_ t) j < MM then PVN.gt (f.from_ t) j else f.fl)) (cup a2 b2) := by
        simp only [em, w9, w17, w5, lo_ok, Nat.zero_le, Nat.le_refl, if_true, bind_ok, iw, gv, of_some, hi_ok]
      have lt : cmp .lt (.int (if PVN.gt (f.from_ t) j < MM then PVN.gt (f.from_ t) j else f.fl)) (.int f.fl) = some (pj j) := by rw [hpj] <;> rfl
      have cc : em (callF P 39) (.cmp .lt (.get2 (.var 9) (.var 17) (.var 5)) (.var 5)) env3 (cup a2 b2) = .ok (0, .bl (pj j)) (cup a2 b2) := by
        show hi ((lo AN (em (callF P 39) (.get2 (.var 9) (.var 17) (.var 5)) env3 (cup a2 b2))).bind fun x c => (lo AN (em (callF P 39) (.var 5) env3 c)).bind fun y c => .of ((PVL.cmp .lt x y).map .bl) c) = _
        rw [gg]
        have e5 : em (callF P 39) (.var 5) env3 (cup a2 b2) = .ok (0, .int f.fl) (cup a2 b2) := by simp only [em, w5]
        show hi ((Res.ok (PV.int (if PVN.gt (f.from_ t) j < MM then PVN.gt (f.from_ t) j else f.fl)) (cup a2 b2)).bind fun x c => (lo AN (em (callF P 39) (.var 5) env3 c)).bind fun y c => .of ((PVL.cmp .lt x y).map .bl) c) = _
        rw [bind_ok, e5]
        show hi ((Res.ok (PV.int f.fl) (cup a2 b2)).bind fun y c => .of ((PVL.cmp .lt _ y).map .bl) c) = _
        rw [bind_ok, lt] <;> rfl
      show tst (lo AN (em (callF P 39) _ env3 (cup a2 b2))) = _
      rw [cc] <;> rfl
    rw [List.filter_map, List.map_id'' (fun _ => rfl)] at q
    have q' : em (callF P 39) (.comp [17] (.nm 17) .seq [.var 4] [.cmp .lt (.get2 (.var 9) (.var 17) (.var 5)) (.var 5)] 0 (.var 17)) env2 (cup a2 b2) = .ok (0, .lst ((js.filter pj).map PV.int)) (cup a2 b2) := q
    have be : decide (js.filter pj = []) = idleB f js t := by
      unfold idleB
      rw [Bool.eq_iff_iff, decide_eq_true_iff, List.filter_eq_nil_iff, List.all_eq_true]
      have key : ∀ j ∈ js, (¬ pj j = true) ↔ decide (reachI f t j = f.fl) = true := fun j hj => by
        have rj := sn.range j hj
        have := from_reach hf g.1 g.2 rj.1 rj.2
        rw [hpj]
        simp only [decide_eq_true_eq]
        rw [this]
        exact Decidable.not_not
      exact ⟨fun h j hj => (key j hj).mp (h j hj), fun h j hj => (key j hj).mpr (h j hj)⟩
    have v7 : em (callF P 39) (.tup [.var 7]) env2 (cup a2 b2) = .ok (0, intsV [(i : Int)]) (cup a2 b2) := by rw [he2, hE] <;> rfl
    have e6 : em (callF P 39) (.ife (.cmp .eq (.comp [17] (.nm 17) .seq [.var 4] [.cmp .lt (.get2 (.var 9) (.var 17) (.var 5)) (.var 5)] 0 (.var 17)) (.lst 0 [])) (.tup [.var 7]) (.tup [])) env2 (cup a2 b2) = .ok (0, intsV (if idleB f js t then [(i : Int)] else [])) (cup a2 b2) := by
      have cq : em (callF P 39) (.cmp .eq (.comp [17] (.nm 17) .seq [.var 4] [.cmp .lt (.get2 (.var 9) (.var 17) (.var 5)) (.var 5)] 0 (.var 17)) (.lst 0 [])) env2 (cup a2 b2) = .ok (0, .bl (idleB f js t)) (cup a2 b2) := by
        show hi ((lo AN (em (callF P 39) (.comp [17] (.nm 17) .seq [.var 4] [.cmp .lt (.get2 (.var 9) (.var 17) (.var 5)) (.var 5)] 0 (.var 17)) env2 (cup a2 b2))).bind fun x c => (lo AN (em (callF P 39) (.lst 0 []) env2 c)).bind fun y c => .of ((PVL.cmp .eq x y).map .bl) c) = _
        rw [q']
        show hi ((Res.ok (PV.lst ((js.filter pj).map PV.int)) (cup a2 b2)).bind fun x c => (Res.ok (PV.lst []) c).bind fun y c => .of ((PVL.cmp .eq x y).map .bl) c) = _
        rw [bind_ok, bind_ok, eq_lst_nil, be] <;> rfl
      show ((tst (lo AN (em (callF P 39) (.cmp .eq _ _) env2 (cup a2 b2)))).bind fun r c => if r then em (callF P 39) (.tup [.var 7]) env2 c else em (callF P 39) (.tup []) env2 c) = _
      rw [cq]
      show (if idleB f js t then em (callF P 39) (.tup [.var 7]) env2 (cup a2 b2) else em (callF P 39) (.tup []) env2 (cup a2 b2)) = _
      cases idleB f js t with
      | true => exact v7
      | false => rfl
    have e7 : em (callF P 39) (.op .add (.var 6) (.ife (.cmp .eq (.comp [17] (.nm 17) .seq [.var 4] [.cmp .lt (.get2 (.var 9) (.var 17) (.var 5)) (.var 5)] 0 (.var 17)) (.lst 0 [])) (.tup [.var 7]) (.tup []))) env2 (cup a2 b2) = .ok (0, intsV (idleN f js (i + 1))) (cup a2 b2) := by
      have e6' : em (callF P 39) (.var 6) env2 (cup a2 b2) = .ok (0, intsV (idleN f js i)) (cup a2 b2) := by rw [he2, hE] <;> rfl
      show hi ((lo 1 (em (callF P 39) (.var 6) env2 (cup a2 b2))).bind fun x c => (lo 1 (em (callF P 39) (.ife _ _ _) env2 c)).bind fun y c => .of (op2 .add x y) c) = _
      rw [e6', lo_ok, if_pos (by omega), bind_ok, e6, lo_ok, if_pos (by omega), bind_ok]
      have ad : op2 .add (intsV (idleN f js i)) (intsV (if idleB f js t then [(i : Int)] else [])) = some (intsV (idleN f js (i + 1))) := by
        show (if (List.map PV.int (idleN f js i)).length + (List.map PV.int (if idleB f js t then [(i : Int)] else [])).length ≤ SZ then some (PV.tup (List.map PV.int (idleN f js i) ++ List.map PV.int (if idleB f js t then [(i : Int)] else []))) else none) = _
        have l1 : (idleN f js i).length ≤ i := by
          unfold idleN
          rw [List.length_map]
          exact Nat.le_trans (List.length_filter_le ..) (by rw [List.length_range]; exact Nat.le_refl _)
        rw [if_pos (by rw [List.length_map, List.length_map]; unfold SZ; split <;> simp <;> omega)]
        rw [idleN_succ, ← ht]
        unfold intsV
        rw [List.map_append]
      rw [ad] <;> rfl
    have s2' := st_set (fr := P.fr) (i := 6) e7
    rw [evB_cons, s1, obind_nx, evB_cons, s2', obind_nx, he2, hE] <;> rfl) ⟨rfl, s7, s8, s9, by rw [hE] <;> rfl⟩
  rw [List.length_map, List.length_range, Nat.zero_add] at e3
  have e3' : evS (callF P 39) P.fr (.for_ (.tup [.nm 7, .nm 8]) .enum [.ix (.var 3) (.con (.int 2))] [.set 9 false (.call "_law_from" [.var 3, .var 8]), .set 6 false (.op .add (.var 6) (.ife (.cmp .eq (.comp [17] (.nm 17) .seq [.var 4] [.cmp .lt (.get2 (.var 9) (.var 17) (.var 5)) (.var 5)] 0 (.var 17)) (.lst 0 [])) (.tup [.var 7]) (.tup [])))]) (E40 S s2 (some ⟨0, f.v⟩) (some ⟨0, intsV js⟩) (some ⟨0, .int f.fl⟩) (some ⟨0, .tup []⟩) s7 s8 s9 s10 s11 s12 s13 s14) (cup a2 b2) = .nx (E (some ⟨0, intsV (idleN f js f.ts.length)⟩) t7 t8 t9) (cup a2 b2) := by
    rw [st_for (vs := [.tup (f.ts.map PV.int)]) (xs := (List.range f.ts.length).map fun (k : Nat) => prV ((k : Int), PVN.gt f.ts k)) rfl (by show some _ = _; rw [enum_ints]), ← e3, hE]
  refine exB_step e3' ?_
  rw [hE]
  clear e3' e3 hE E
  show ∃ env' c', evB _ _ _ (E40 S s2 (some ⟨0, f.v⟩) (some ⟨0, intsV js⟩) (some ⟨0, .int f.fl⟩) (some ⟨0, intsV (idleN f js f.ts.length)⟩) t7 t8 t9 s10 s11 s12 s13 s14) (cup a2 b2) = _ ∧ _
  have il : (idleN f js f.ts.length).length ≤ 6 := by
    unfold idleN
    rw [List.length_map]
    exact Nat.le_trans (List.length_filter_le ..) (by rw [List.length_range]; exact t6)
  have q4 : callF P 39 "idle_strings" [f.v, intsV js] .non = .ok (intsV (idleN f js f.ts.length)) .non := idle_strings_ok D.toFigD D.idl D.nf D.nse D.fse D.fj D.rin D.tb 34 hf sn
  refine exB_step (st_set (em_call1 (xs := [f.v, intsV js]) rfl q4)) ?_
  show ∃ env' c', evB _ _ _ (E40 S s2 (some ⟨0, f.v⟩) (some ⟨0, intsV js⟩) (some ⟨0, .int f.fl⟩) (some ⟨0, intsV (idleN f js f.ts.length)⟩) t7 t8 t9 (some ⟨0, intsV (idleN f js f.ts.length)⟩) s11 s12 s13 s14) (cup a2 b2) = _ ∧ _
  have q5 := same_ok D.sa 1 37 (intsV (idleN f js f.ts.length)) (plain_ints _ (by omega))
  have e5 : em (callF P 39) (.not (.call "_law_same" [.var 10, .var 6])) (E40 S s2 (some ⟨0, f.v⟩) (some ⟨0, intsV js⟩) (some ⟨0, .int f.fl⟩) (some ⟨0, intsV (idleN f js f.ts.length)⟩) t7 t8 t9 (some ⟨0, intsV (idleN f js f.ts.length)⟩) s11 s12 s13 s14) (cup a2 b2) = .ok (0, .bl false) (cup a2 b2) := by
    have w := em_call1 (call := callF P 39) (f := "_law_same") (as := [.var 10, .var 6]) (env := E40 S s2 (some ⟨0, f.v⟩) (some ⟨0, intsV js⟩) (some ⟨0, .int f.fl⟩) (some ⟨0, intsV (idleN f js f.ts.length)⟩) t7 t8 t9 (some ⟨0, intsV (idleN f js f.ts.length)⟩) s11 s12 s13 s14) (c := cup a2 b2) (c' := cup a2 b2) (xs := [intsV (idleN f js f.ts.length), intsV (idleN f js f.ts.length)]) rfl q5
    show hi ((PVL.tst (lo AN (em (callF P 39) (.call "_law_same" _) _ (cup a2 b2)))).bind _) = _
    rw [w] <;> rfl
  refine exB_step (st_pass_if e5 (by omega) rfl) ?_
  -- settings
  obtain ⟨xs1, a3, b3, p1, hxl1, hx1⟩ := law_setting_ok D.se D.so D.ro 36 (.int f.n) (.tup (f.ls.map l3V)) (f.ts.map PV.int) f.fl hf.f1 hf.f30 (by rw [List.length_map]; exact hf.t6) a2 b2
  rw [List.length_map] at hxl1
  obtain ⟨u, rfl, hu⟩ := ints_of (ts := xs1) (p := fun i => 0 ≤ i ∧ i ≤ f.fl) hx1
  rw [List.length_map] at hxl1
  refine exB_step (st_set (em_callc (c' := cup a2 b2) rfl p1)) ?_
  obtain ⟨env1, he1⟩ : ∃ env1, env1 = E40 S s2 (some ⟨0, f.v⟩) (some ⟨0, intsV js⟩) (some ⟨0, .int f.fl⟩) (some ⟨0, intsV (idleN f js f.ts.length)⟩) t7 t8 t9 (some ⟨0, intsV (idleN f js f.ts.length)⟩) (some ⟨0, intsV u⟩) s12 s13 s14 := ⟨_, rfl⟩
  show ∃ env' c', evB _ _ _ (E40 S s2 (some ⟨0, f.v⟩) (some ⟨0, intsV js⟩) (some ⟨0, .int f.fl⟩) (some ⟨0, intsV (idleN f js f.ts.length)⟩) t7 t8 t9 (some ⟨0, intsV (idleN f js f.ts.length)⟩) (some ⟨0, intsV u⟩) s12 s13 s14) (cup a3 b3) = _ ∧ _
  rw [← he1]
  have hsrc : evs (callF P 39) 1 [.var 11] env1 (cup a3 b3) = .ok [intsV u] (cup a3 b3) := by rw [he1] <;> rfl
  obtain ⟨ys, c4, q6, ⟨a4, b4, rfl⟩, hR⟩ := comp_draw (call := callF P 39) (own := [18, 19]) (tg := .tup [.nm 18, .nm 19]) (k := .enum) (d := 0) (elt := .ife (.cmp .isin (.var 18) (.var 6)) (.callc "_law_roll" [.op .add (.var 5) (.con (.int 1))]) (.var 19)) (I := IsCup) (R := fun x y => ∃ (k : Nat) (z : Int), x = prV ((k : Int), PVN.gt u k) ∧ k < u.length ∧ y = .int z ∧ (0 ≤ z ∧ z ≤ f.fl) ∧ (z = PVN.gt u k ∨ idleB f js (PVN.gt f.ts k) = true)) (xs := (List.range u.length).map fun (k : Nat) => prV ((k : Int), PVN.gt u k)) hsrc (by show some _ = _; rw [enum_ints]) ⟨a3, b3, rfl⟩ (fun x hx c hc => by
    obtain ⟨a, b, rfl⟩ := hc
    obtain ⟨k, hk, rfl⟩ := List.mem_map.mp hx
    have hk' := List.mem_range.mp hk
    obtain ⟨env2, he2⟩ : ∃ env2, env2 = ((env1.set 19 none).set 18 none |>.set 18 (some ⟨0, .int (k : Int)⟩)).set 19 (some ⟨0, .int (PVN.gt u k)⟩) := ⟨_, rfl⟩
    have v18 : em (callF P 39) (.var 18) env2 (cup a b) = .ok (0, .int (k : Int)) (cup a b) := by rw [he2, he1] <;> rfl
    have v6 : em (callF P 39) (.var 6) env2 (cup a b) = .ok (0, intsV (idleN f js f.ts.length)) (cup a b) := by rw [he2, he1] <;> rfl
    have v19 : em (callF P 39) (.var 19) env2 (cup a b) = .ok (0, .int (PVN.gt u k)) (cup a b) := by rw [he2, he1] <;> rfl
    have v5 : em (callF P 39) (.op .add (.var 5) (.con (.int 1))) env2 (cup a b) = .ok (0, .int (f.fl + 1)) (cup a b) := by rw [he2, he1] <;> rfl
    have cc : em (callF P 39) (.cmp .isin (.var 18) (.var 6)) env2 (cup a b) = .ok (0, .bl (decide ((k : Int) ∈ idleN f js f.ts.length))) (cup a b) := by
      show hi ((lo AN (em (callF P 39) (.var 18) env2 (cup a b))).bind fun x c => (lo AN (em (callF P 39) (.var 6) env2 c)).bind fun y c => .of ((PVL.cmp .isin x y).map .bl) c) = _
      rw [v18]
      show hi ((Res.ok (PV.int (k : Int)) (cup a b)).bind fun x c => (lo AN (em (callF P 39) (.var 6) env2 c)).bind fun y c => .of ((PVL.cmp .isin x y).map .bl) c) = _
      rw [bind_ok, v6]
      show hi ((Res.ok (intsV (idleN f js f.ts.length)) (cup a b)).bind fun y c => .of ((PVL.cmp .isin _ y).map .bl) c) = _
      rw [bind_ok, isin_ints] <;> rfl
    have ife : em (callF P 39) (.ife (.cmp .isin (.var 18) (.var 6)) (.callc "_law_roll" [.op .add (.var 5) (.con (.int 1))]) (.var 19)) env2 (cup a b) = if decide ((k : Int) ∈ idleN f js f.ts.length) then em (callF P 39) (.callc "_law_roll" [.op .add (.var 5) (.con (.int 1))]) env2 (cup a b) else em (callF P 39) (.var 19) env2 (cup a b) := by
      show ((tst (lo AN (em (callF P 39) (.cmp .isin (.var 18) (.var 6)) env2 (cup a b)))).bind fun r c => if r then em (callF P 39) (.callc "_law_roll" [.op .add (.var 5) (.con (.int 1))]) env2 c else em (callF P 39) (.var 19) env2 c) = _
      rw [cc] <;> rfl
    have ru : 0 ≤ PVN.gt u k ∧ PVN.gt u k ≤ f.fl := gt_mem (p := fun d => 0 ≤ d ∧ d ≤ f.fl) hu (by omega) (by omega)
    by_cases hm : (k : Int) ∈ idleN f js f.ts.length
    · obtain ⟨r, a5, b5, q7, r0, r1⟩ := em_roll D.ro (n := 38) v5 (by omega) (by omega)
      refine ⟨env2, .int r, cup a5 b5, by rw [he2] <;> rfl, ev_of (ife.trans ?_), ⟨a5, b5, rfl⟩, k, r, rfl, hk', rfl, by omega, .inr (idleN_mem.mp hm).2⟩
      rw [decide_eq_true hm]
      exact q7
    · refine ⟨env2, .int (PVN.gt u k), cup a b, by rw [he2] <;> rfl, ev_of (ife.trans ?_), ⟨a, b, rfl⟩, k, PVN.gt u k, rfl, hk', rfl, ru, .inl rfl⟩
      rw [decide_eq_false hm]
      exact v19)
  obtain ⟨w, rfl, hw⟩ := ints_of (ts := ys) (p := fun i => 0 ≤ i ∧ i ≤ f.fl) (hR.right fun x y _ h => by obtain ⟨k, z, _, _, e, r, _⟩ := h; exact ⟨z, e, r⟩)
  have wl : w.length = u.length := by
    have := hR.length
    simpa using this.symm
  have wk : ∀ k : Nat, k < f.ts.length → PVN.gt w k = PVN.gt u k ∨ idleB f js (PVN.gt f.ts k) = true := fun k hk => by
    have at2 : ∀ {α β : Type} {R : α → β → Prop} {xs : List α} {ys : List β}, All2 R xs ys → ∀ i (h1 : i < xs.length) (h2 : i < ys.length), R xs[i] ys[i] := by
      intro α β R xs ys h
      induction h with
      | nil => intro i h1; exact absurd h1 (Nat.not_lt_zero _)
      | cons h t ih =>
        intro i h1 h2
        cases i with
        | zero => exact h
        | succ i => exact ih i (by simpa using h1) (by simpa using h2)
    have ku : k < u.length := by omega
    have kw : k < w.length := by omega
    obtain ⟨m, z, e1, _, e2, _, e4⟩ := at2 hR k (by simpa using ku) (by simpa using kw)
    rw [List.getElem_map, List.getElem_range] at e1
    rw [List.getElem_map] at e2
    unfold prV at e1
    simp only [PV.tup.injEq, List.cons.injEq, PV.int.injEq] at e1
    have em' : k = m := by omega
    subst em'
    injection e2 with e2
    rw [PVN.gt_get kw, e2]
    exact e4
  have q7 := em_b1 (f := .tuple) q6 (Nat.zero_le _) (y := intsV w) rfl
  refine exB_step (st_set q7) ?_
  obtain ⟨env3, he3⟩ : ∃ env3, env3 = E40 S s2 (some ⟨0, f.v⟩) (some ⟨0, intsV js⟩) (some ⟨0, .int f.fl⟩) (some ⟨0, intsV (idleN f js f.ts.length)⟩) t7 t8 t9 (some ⟨0, intsV (idleN f js f.ts.length)⟩) (some ⟨0, intsV u⟩) (some ⟨0, intsV w⟩) s13 s14 := ⟨_, rfl⟩
  rw [show env1.set 12 (some ⟨0, intsV w⟩) = env3 by rw [he1, he3] <;> rfl]
  have g1 := pose_ok D.toFigD D.po D.ns D.nf D.nst D.fs D.pin D.pb D.tb 33 hf hxl1 hu
  have g2 := pose_ok D.toFigD D.po D.ns D.nf D.nst D.fs D.pin D.pb D.tb 33 hf (ss := w) (by omega) hw
  refine exB_step (st_unp2 (em_call1 (c := cup a4 b4) (c' := cup a4 b4) (xs := [f.v, intsV u]) (by rw [he3] <;> rfl) g1) (em_call1 (c := cup a4 b4) (c' := cup a4 b4) (xs := [f.v, intsV w]) (by rw [he3] <;> rfl) g2)) ?_
  obtain ⟨env4, he4⟩ : ∃ env4, env4 = E40 S s2 (some ⟨0, f.v⟩) (some ⟨0, intsV js⟩) (some ⟨0, .int f.fl⟩) (some ⟨0, intsV (idleN f js f.ts.length)⟩) t7 t8 t9 (some ⟨0, intsV (idleN f js f.ts.length)⟩) (some ⟨0, intsV u⟩) (some ⟨0, intsV w⟩) (some ⟨0, intsV (f.pose u)⟩) (some ⟨0, intsV (f.pose w)⟩) := ⟨_, rfl⟩
  rw [show (env3.set 13 (some ⟨0, intsV (f.pose u)⟩)).set 14 (some ⟨0, intsV (f.pose w)⟩) = env4 by rw [he3, he4] <;> rfl]
  have hu0 : ∀ s ∈ u, 0 ≤ s := fun s h => (hu s h).1
  have hw0 : ∀ s ∈ w, 0 ≤ s := fun s h => (hw s h).1
  have h9 : em (callF P 39) (.cmp .ne (.comp [17] (.nm 17) .seq [.var 4] [.cmp .ne (.ix (.var 13) (.var 17)) (.ix (.var 14) (.var 17))] 0 (.var 17)) (.lst 0 [])) env4 (cup a4 b4) = .ok (0, .bl false) (cup a4 b4) := by
    refine em_noneT (xs := js.map PV.int) (by rw [he4] <;> rfl) fun z hz => ?_
    obtain ⟨j, hj, rfl⟩ := List.mem_map.mp hz
    have rj := sn.range j hj
    have ep := idle_pose hf (js := js) hu0 hw0 hxl1 (by omega) wk hj rj.1 rj.2
    have i1 : item (intsV (f.pose u)) (.int j) = some (.int (PVN.gt (f.pose w) j)) := by rw [← ep]; exact item_ints rj.1 (by rw [pose_len hf hu0]; exact rj.2)
    have i2 : item (intsV (f.pose w)) (.int j) = some (.int (PVN.gt (f.pose w) j)) := item_ints rj.1 (by rw [pose_len hf hw0]; exact rj.2)
    have dn : ∀ ds : List Int, ∀ k, downD k (intsV ds) = 0 := fun _ _ => rfl
    rw [he4]
    simp [E40, evc, em, lo, hi, tst, truth, Res.bind, Res.of, i1, i2, dn, cmp, isData, eqv]
  refine exB_step (st_pass_if h9 (by omega) rfl) ?_
  rw [he4]
  exact ⟨_, _, rfl, ⟨a4, b4, rfl⟩, _, _, _, _, _, _, _, _, _, _, _, _, rfl⟩
end
end PVL
end

section
set_option Elab.async false
set_option linter.all false
set_option maxRecDepth 100000
set_option maxHeartbeats 8000000
/-! PVM40: the law of idle strings, its end. -/
namespace PVL
open PySem (Str)
/-- idle, by the law's own way -/
def idleW (f : Fig) (js : List Int) (t : Int) : Bool := js.all fun j => !decide ((if PVN.gt (f.from_ t) j < MM then PVN.gt (f.from_ t) j else f.fl) < f.fl)
theorem idleW_eq {f : Fig} (hf : f.Ok) {js : List Int} (s : Seen f js) {t : Int} (t0 : 0 ≤ t) (t1 : t < f.n) : idleB f js t = idleW f js t := by
  unfold idleB idleW
  rw [Bool.eq_iff_iff, List.all_eq_true, List.all_eq_true]
  have key : ∀ j ∈ js, decide (reachI f t j = f.fl) = true ↔ (!decide ((if PVN.gt (f.from_ t) j < MM then PVN.gt (f.from_ t) j else f.fl) < f.fl)) = true := fun j hj => by
    have r := s.range j hj
    have := from_reach hf t0 t1 r.1 r.2
    rw [decide_eq_true_iff, Bool.not_eq_true', decide_eq_false_iff_not, this, Decidable.not_not]
  exact ⟨fun h j hj => (key j hj).mp (h j hj), fun h j hj => (key j hj).mpr (h j hj)⟩
def idleLW (f : Fig) (js : List Int) : List Int := ((List.range f.ts.length).filter fun (k : Nat) => idleW f js (PVN.gt f.ts k)).map fun (k : Nat) => (k : Int)
theorem idleLW_eq {f : Fig} (hf : f.Ok) {js : List Int} (s : Seen f js) : idleL f js = idleLW f js := by
  unfold idleL idleLW
  congr 1
  refine List.filter_congr fun k hk => ?_
  have hk' := List.mem_range.mp hk
  have g : 0 ≤ PVN.gt f.ts k ∧ PVN.gt f.ts k < f.n := gt_mem (p := fun t => 0 ≤ t ∧ t < f.n) hf.tie (by omega) (by omega)
  exact idleW_eq hf s g.1 g.2
def chainF (mo : Nat) (fl : Int) : Fig := ⟨mo, (List.range (mo - 1)).map fun (k : Nat) => ((k : Int), (k : Int) + 1, 1), [(mo : Int) - 1, 0, (mo : Int) - 1], fl⟩
def k40_chk (mo : Nat) (fl : Int) : Bool := fitsFigure (chainF mo fl).v && decide (idleLW (chainF mo fl) [0] = if fl ≤ (mo : Int) - 1 then [0, 2] else []) && decide (idleLW (chainF mo fl) [(mo : Int) - 1] = if fl ≤ (mo : Int) - 1 then [1] else []) && decide (idleLW (chainF mo fl) [0, (mo : Int) - 1] = [])
theorem k40_dec0 : ((([2, 3, 4, 5, 6, 7, 8] : List Nat).all fun mo => ([1, 2, 3, 4, 5, 6, 7] : List Int).all fun fl => k40_chk mo fl)) = true := by decide +kernel
abbrev loneF : Fig := ⟨2, [], [1], 1⟩
theorem k40_dec1 : (fitsFigure loneF.v && decide (idleLW loneF [0] = [0])) = true := by decide +kernel
abbrev k40_rest : List S := k40_law.body.drop 2
section
variable {P : Prog} (D : K40 P)
include D
theorem K40.idle {f : Fig} (hf : f.Ok) {js : List Int} (s : Seen f js) : callF P 39 "idle_strings" [f.v, intsV js] .non = .ok (intsV (idleLW f js)) .non := by
  rw [← idleLW_eq hf s]
  exact idle_strings_ok D.toFigD D.idl D.nf D.nse D.fse D.fj D.rin D.tb 34 hf s
theorem k40_fin (S s2 s3 s4 s5 s6 s7 s8 s9 s10 s11 s12 s13 s14 : Option Slot) (a b : Int) : ∃ c', evB (callF P 39) P.fr k40_rest (E40 S s2 s3 s4 s5 s6 s7 s8 s9 s10 s11 s12 s13 s14) (cup a b) = .ret (.bl true) c' := by
  obtain ⟨l, a1, b1, q1, l0, l1⟩ := em_roll D.ro (n := 38) (env := E40 S s2 s3 s4 s5 s6 s7 s8 s9 s10 s11 s12 s13 s14) (e := .con (.int 7)) (a := a) (b := b) (a1 := a) (b1 := b) (m := 7) rfl (by omega) (by omega)
  obtain ⟨l', a2, b2, q2, l2, l3⟩ := em_roll D.ro (n := 38) (env := E40 S s2 s3 s4 s5 s6 s7 s8 s9 s10 s11 s12 s13 s14) (e := .con (.int 7)) (a := a1) (b := b1) (a1 := a1) (b1 := b1) (m := 7) rfl (by omega) (by omega)
  obtain ⟨mo, hmo⟩ : ∃ mo : Nat, (mo : Int) = 2 + l := ⟨(2 + l).toNat, by omega⟩
  obtain ⟨fl, hfl⟩ : ∃ fl, fl = 1 + l' := ⟨_, rfl⟩
  have q1' : em (callF P 39) (.op .add (.con (.int 2)) (.callc "_law_roll" [.con (.int 7)])) (E40 S s2 s3 s4 s5 s6 s7 s8 s9 s10 s11 s12 s13 s14) (cup a b) = .ok (0, .int (mo : Int)) (cup a1 b1) := by
    rw [hmo]
    simp [em, lo, hi, Res.bind, Res.of, op2, ↓q1]
  have q2' : em (callF P 39) (.op .add (.con (.int 1)) (.callc "_law_roll" [.con (.int 7)])) (E40 S s2 s3 s4 s5 s6 s7 s8 s9 s10 s11 s12 s13 s14) (cup a1 b1) = .ok (0, .int fl) (cup a2 b2) := by
    rw [hfl]
    simp [em, lo, hi, Res.bind, Res.of, op2, ↓q2]
  have p1 := st_unp2 (fr := P.fr) (i := 15) (j := 5) q1' q2'
  have mm : mo ∈ ([2, 3, 4, 5, 6, 7, 8] : List Nat) := by
    have : mo = 2 ∨ mo = 3 ∨ mo = 4 ∨ mo = 5 ∨ mo = 6 ∨ mo = 7 ∨ mo = 8 := by omega
    simpa using this
  have fm : fl ∈ ([1, 2, 3, 4, 5, 6, 7] : List Int) := by
    have : fl = 1 ∨ fl = 2 ∨ fl = 3 ∨ fl = 4 ∨ fl = 5 ∨ fl = 6 ∨ fl = 7 := by omega
    simpa using this
  have dec := List.all_eq_true.mp (List.all_eq_true.mp k40_dec0 mo mm) fl fm
  unfold k40_chk at dec
  simp only [Bool.and_eq_true, decide_eq_true_eq] at dec
  obtain ⟨⟨⟨fA, d1⟩, d2⟩, d3⟩ := dec
  have dec1 := k40_dec1
  rw [Bool.and_eq_true, decide_eq_true_eq] at dec1
  have oA := Fig.Ok.of fA
  have oB := Fig.Ok.of dec1.1
  have m2 : 2 ≤ mo ∧ mo ≤ 8 := by omega
  have one' : ∀ (f : Fig) (x : Int), 1 ≤ f.n → 0 ≤ x → x < f.n → Seen f [x] := fun f x h1 h2 h3 => ⟨by simp, by simpa using h1, fun j hj => by
    have : j = x := by simpa using hj
    rw [this]
    exact ⟨h2, h3⟩, List.pairwise_singleton _ _⟩
  have sA : Seen (chainF mo fl) [0] := one' _ 0 (by show 1 ≤ mo; omega) (by omega) (by show (0 : Int) < mo; omega)
  have sB : Seen (chainF mo fl) [(mo : Int) - 1] := one' _ _ (by show 1 ≤ mo; omega) (by omega) (by show (mo : Int) - 1 < mo; omega)
  have sC : Seen (chainF mo fl) [0, (mo : Int) - 1] := ⟨by simp, by show 2 ≤ mo; omega, fun j hj => by
    have : j = 0 ∨ j = (mo : Int) - 1 := by simpa using hj
    show 0 ≤ j ∧ j < mo
    omega, by simp; omega⟩
  have sD : Seen loneF [0] := one' _ 0 (by show 1 ≤ 2; omega) (by omega) (by show (0 : Int) < (2 : Nat); omega)
  have c1 := D.idle oA sA
  have c2 := D.idle oA sB
  have c3 := D.idle oA sC
  have c4 := D.idle oB sD
  rw [d1] at c1
  rw [d2] at c2
  rw [d3] at c3
  rw [dec1.2] at c4
  refine ⟨cup a2 b2, ?_⟩
  rw [show k40_rest = _ :: _ from rfl, evB_cons, p1, obind_nx, evB_cons]
  obtain ⟨env1, he1⟩ : ∃ env1 : Env, env1 = [S, none, s2, s3, s4, some ⟨0, .int fl⟩, s6, s7, s8, s9, s10, s11, s12, s13, s14, some ⟨0, .int (mo : Int)⟩, none, none, none, none] := ⟨_, rfl⟩
  rw [show ((E40 S s2 s3 s4 s5 s6 s7 s8 s9 s10 s11 s12 s13 s14).set 15 (some ⟨0, .int (mo : Int)⟩)).set 5 (some ⟨0, .int fl⟩) = env1 by rw [he1] <;> rfl]
  -- the chain
  have z1 : em (callF P 39) (.op .sub (.var 15) (.con (.int 1))) env1 (cup a2 b2) = .ok (0, .int ((mo : Int) - 1)) (cup a2 b2) := by rw [he1] <;> rfl
  have z2 : em (callF P 39) (.b1 .tuple (.comp [18] (.nm 18) .rng1 [.op .sub (.var 15) (.con (.int 1))] [] 0 (.tup [.var 18, .op .add (.var 18) (.con (.int 1)), .con (.int 1)]))) env1 (cup a2 b2) = .ok (0, .tup ((chainF mo fl).ls.map l3V)) (cup a2 b2) := by
    refine em_b1 (comp_map (ss := [.int ((mo : Int) - 1)]) (xs := rng 0 (mo - 1)) (fun x => match x with | .int k => l3V (k, k + 1, 1) | _ => .non) (evs_one z1 (Nat.zero_le _)) (by rw [items1 (by omega) (by omega)]; congr 2; omega) fun x hx => ?_) (Nat.zero_le _) ?_
    · obtain ⟨k, hk, rfl⟩ := rng_mem hx
      refine ⟨_, rfl, ?_⟩
      rw [he1]
      simp [ev, em, evs, lo, hi, wipe, Res.bind, Res.of, op2, l3V]
    · unfold chainF
      rw [rng0, List.map_map, List.map_map] <;> rfl
  have z3 : em (callF P 39) (.tup [.op .sub (.var 15) (.con (.int 1)), .con (.int 0), .op .sub (.var 15) (.con (.int 1))]) env1 (cup a2 b2) = .ok (0, intsV [(mo : Int) - 1, 0, (mo : Int) - 1]) (cup a2 b2) := by
    show (evs (callF P 39) 0 [_, _, _] env1 (cup a2 b2)).bind (fun xs c => Res.ok (0, PV.tup xs) c) = _
    rw [evs_three (b := .con (.int 0)) (y := .int 0) z1 rfl z1] <;> rfl
  have z4 : em (callF P 39) (.tup [.var 15, .b1 .tuple (.comp [18] (.nm 18) .rng1 [.op .sub (.var 15) (.con (.int 1))] [] 0 (.tup [.var 18, .op .add (.var 18) (.con (.int 1)), .con (.int 1)])), .tup [.op .sub (.var 15) (.con (.int 1)), .con (.int 0), .op .sub (.var 15) (.con (.int 1))], .var 5]) env1 (cup a2 b2) = .ok (0, (chainF mo fl).v) (cup a2 b2) := by
    have f4 : ∀ {call : CallF} {env : Env} {c : PV} {e1 e2 e3 e4 : PVL.E} {x1 x2 x3 x4 : PV}, em call e1 env c = .ok (0, x1) c → em call e2 env c = .ok (0, x2) c → em call e3 env c = .ok (0, x3) c → em call e4 env c = .ok (0, x4) c → evs call 0 [e1, e2, e3, e4] env c = .ok [x1, x2, x3, x4] c := fun h1 h2 h3 h4 => by simp [evs, lo, Res.bind, h1, h2, h3, h4]
    show (evs (callF P 39) 0 [_, _, _, _] env1 (cup a2 b2)).bind (fun xs c => Res.ok (0, PV.tup xs) c) = _
    rw [f4 (e1 := .var 15) (e4 := .var 5) (x1 := .int (mo : Int)) (x4 := .int fl) (by rw [he1] <;> rfl) z2 z3 (by rw [he1] <;> rfl)] <;> rfl
  have p2 := st_set (fr := P.fr) (i := 16) z4
  rw [p2, obind_nx, evB_cons]
  obtain ⟨env2, he2⟩ : ∃ env2 : Env, env2 = [S, none, s2, s3, s4, some ⟨0, .int fl⟩, s6, s7, s8, s9, s10, s11, s12, s13, s14, some ⟨0, .int (mo : Int)⟩, some ⟨0, (chainF mo fl).v⟩, none, none, none] := ⟨_, rfl⟩
  rw [show env1.set 16 (some ⟨0, (chainF mo fl).v⟩) = env2 by rw [he1, he2] <;> rfl]
  -- due
  have ge : em (callF P 39) (.cmp .ge (.op .sub (.var 15) (.con (.int 1))) (.var 5)) env2 (cup a2 b2) = .ok (0, .bl (decide (fl ≤ (mo : Int) - 1))) (cup a2 b2) := by rw [he2] <;> rfl
  have ifs : ∀ (x y : List Int) (ex ey : PVL.E), em (callF P 39) ex env2 (cup a2 b2) = .ok (0, intsV x) (cup a2 b2) → em (callF P 39) ey env2 (cup a2 b2) = .ok (0, intsV y) (cup a2 b2) → em (callF P 39) (.ife (.cmp .ge (.op .sub (.var 15) (.con (.int 1))) (.var 5)) ex ey) env2 (cup a2 b2) = .ok (0, intsV (if fl ≤ (mo : Int) - 1 then x else y)) (cup a2 b2) := fun x y ex ey hx hy => by
    show ((tst (lo AN (em (callF P 39) (.cmp .ge _ _) env2 (cup a2 b2)))).bind fun r c => if r then em (callF P 39) ex env2 c else em (callF P 39) ey env2 c) = _
    rw [ge]
    show (if decide (fl ≤ (mo : Int) - 1) then em (callF P 39) ex env2 (cup a2 b2) else em (callF P 39) ey env2 (cup a2 b2)) = _
    by_cases c : fl ≤ (mo : Int) - 1
    · rw [decide_eq_true c, if_pos rfl, if_pos c]; exact hx
    · rw [decide_eq_false c, if_neg (by simp), if_neg c]; exact hy
  obtain ⟨x1, hx1⟩ : ∃ x1, x1 = intsV (if fl ≤ (mo : Int) - 1 then [0, 2] else []) := ⟨_, rfl⟩
  obtain ⟨x2, hx2⟩ : ∃ x2, x2 = intsV (if fl ≤ (mo : Int) - 1 then [1] else []) := ⟨_, rfl⟩
  have w1 := ifs [0, 2] [] (.tup [.con (.int 0), .con (.int 2)]) (.tup []) rfl rfl
  have w2 := ifs [1] [] (.tup [.con (.int 1)]) (.tup []) rfl rfl
  rw [← hx1] at w1 c1
  rw [← hx2] at w2 c2
  have p3 := st_set (fr := P.fr) (i := 6) (show em (callF P 39) (.tup [_, _]) env2 (cup a2 b2) = .ok (0, .tup [x1, x2]) (cup a2 b2) by
    show (evs (callF P 39) 0 [_, _] env2 (cup a2 b2)).bind (fun xs c => Res.ok (0, PV.tup xs) c) = _
    rw [evs_two w1 w2] <;> rfl)
  rw [p3, obind_nx, evB_cons]
  obtain ⟨env3, he3⟩ : ∃ env3 : Env, env3 = [S, none, s2, s3, s4, some ⟨0, .int fl⟩, some ⟨0, .tup [x1, x2]⟩, s7, s8, s9, s10, s11, s12, s13, s14, some ⟨0, .int (mo : Int)⟩, some ⟨0, (chainF mo fl).v⟩, none, none, none] := ⟨_, rfl⟩
  rw [show env2.set 6 (some ⟨0, .tup [x1, x2]⟩) = env3 by rw [he2, he3] <;> rfl]
  -- told
  have t1 := em_call1 (call := callF P 39) (f := "idle_strings") (as := [.var 16, .tup [.con (.int 0)]]) (env := env3) (c := cup a2 b2) (c' := cup a2 b2) (xs := [(chainF mo fl).v, intsV [0]]) (by rw [he3] <;> rfl) c1
  have t2 := em_call1 (call := callF P 39) (f := "idle_strings") (as := [.var 16, .tup [.op .sub (.var 15) (.con (.int 1))]]) (env := env3) (c := cup a2 b2) (c' := cup a2 b2) (xs := [(chainF mo fl).v, intsV [(mo : Int) - 1]]) (by rw [he3] <;> rfl) c2
  have t3 := em_call1 (call := callF P 39) (f := "idle_strings") (as := [.var 16, .tup [.con (.int 0), .op .sub (.var 15) (.con (.int 1))]]) (env := env3) (c := cup a2 b2) (c' := cup a2 b2) (xs := [(chainF mo fl).v, intsV [0, (mo : Int) - 1]]) (by rw [he3] <;> rfl) c3
  have t4 := em_call1 (call := callF P 39) (f := "idle_strings") (as := [.tup [.con (.int 2), .tup [], .tup [.con (.int 1)], .con (.int 1)], .tup [.con (.int 0)]]) (env := env3) (c := cup a2 b2) (c' := cup a2 b2) (xs := [loneF.v, intsV [0]]) rfl c4
  obtain ⟨T, hT⟩ : ∃ T : PV, T = .tup [x1, x2, intsV [], intsV [0]] := ⟨_, rfl⟩
  have f4 : ∀ {call : CallF} {env : Env} {c : PV} {e1 e2 e3 e4 : PVL.E} {x1 x2 x3 x4 : PV}, em call e1 env c = .ok (0, x1) c → em call e2 env c = .ok (0, x2) c → em call e3 env c = .ok (0, x3) c → em call e4 env c = .ok (0, x4) c → evs call 0 [e1, e2, e3, e4] env c = .ok [x1, x2, x3, x4] c := fun h1 h2 h3 h4 => by simp [evs, lo, Res.bind, h1, h2, h3, h4]
  have p4 := st_set (fr := P.fr) (i := 10) (show em (callF P 39) (.tup [_, _, _, _]) env3 (cup a2 b2) = .ok (0, T) (cup a2 b2) by
    show (evs (callF P 39) 0 [_, _, _, _] env3 (cup a2 b2)).bind (fun xs c => Res.ok (0, PV.tup xs) c) = _
    rw [f4 t1 t2 t3 t4, hT] <;> rfl)
  rw [p4, obind_nx, evB_cons]
  have pl : plainV 2 T := by
    rw [hT]
    refine ⟨by simp, fun x hx => ?_⟩
    simp only [List.mem_cons, List.not_mem_nil, or_false] at hx
    rcases hx with e | e | e | e <;> subst e
    · rw [hx1]; exact plain_ints _ (by split <;> simp)
    · rw [hx2]; exact plain_ints _ (by split <;> simp)
    · exact plain_ints _ (by simp)
    · exact plain_ints _ (by simp)
  have v10 : em (callF P 39) (.var 10) (env3.set 10 (some ⟨0, T⟩)) (cup a2 b2) = .ok (0, T) (cup a2 b2) := by rw [he3] <;> rfl
  have vd : em (callF P 39) (.op .add (.var 6) (.tup [.tup [], .tup [.con (.int 0)]])) (env3.set 10 (some ⟨0, T⟩)) (cup a2 b2) = .ok (0, T) (cup a2 b2) := by
    have e1 : em (callF P 39) (.var 6) (env3.set 10 (some ⟨0, T⟩)) (cup a2 b2) = .ok (0, .tup [x1, x2]) (cup a2 b2) := by rw [he3] <;> rfl
    have e2 : em (callF P 39) (.tup [.tup [], .tup [.con (.int 0)]]) (env3.set 10 (some ⟨0, T⟩)) (cup a2 b2) = .ok (0, .tup [intsV [], intsV [0]]) (cup a2 b2) := rfl
    show hi ((lo 1 (em (callF P 39) (.var 6) _ (cup a2 b2))).bind fun x c => (lo 1 (em (callF P 39) (.tup _) _ c)).bind fun y c => .of (op2 .add x y) c) = _
    rw [e1, lo_ok, if_pos (by omega), bind_ok, e2, lo_ok, if_pos (by omega), bind_ok]
    have ad : op2 .add (.tup [x1, x2]) (.tup [intsV [], intsV [0]]) = some T := by
      rw [hT]
      show (if [x1, x2].length + [intsV [], intsV [0]].length ≤ SZ then some (PV.tup ([x1, x2] ++ [intsV [], intsV [0]])) else none) = _
      rw [if_pos (by show 4 ≤ SZ; unfold SZ; omega)] <;> rfl
    rw [ad] <;> rfl
  rw [st_ret (em_call1 (evs_two v10 vd) (same_ok D.sa 2 36 T pl)), obind_ret]
end
theorem k40_plain {P : Prog} (D : K40 P) (hl : P.fn "law" = some k40_law) (ns : List Int) (h : ns.length ≤ 63) : ∃ c', callF P 40 "law" [.scr (ns.map PV.int)] .non = .ok (.bl true) c' := by
  rw [callF_at hl]
  obtain ⟨a, b, q0⟩ := cup_ok D.cu 38 ns h
  obtain ⟨S, hS⟩ : ∃ S : Option Slot, S = some ⟨0, .scr (ns.map PV.int)⟩ := ⟨_, rfl⟩
  obtain ⟨env', c', e1, ⟨a1, b1, rfl⟩, s2, s3, s4, s5, s6, s7, s8, s9, s10, s11, s12, s13, s14, rfl⟩ := forL_inv (tg := .nm 2) (f := fun env c => evB (callF P 39) P.fr k40_body env c) (I := fun _ env c => IsCup c ∧ ∃ s2 s3 s4 s5 s6 s7 s8 s9 s10 s11 s12 s13 s14, env = E40 S s2 s3 s4 s5 s6 s7 s8 s9 s10 s11 s12 s13 s14) (rng 0 6) 0 (E40 S none none none none none none none none none none none none none) (cup a b) (by
    intro i x env c hx ⟨⟨a, b, hc⟩, s2, s3, s4, s5, s6, s7, s8, s9, s10, s11, s12, s13, s14, he⟩
    subst hc he
    obtain ⟨env', c', e, h1, h2⟩ := k40_turn D S (some ⟨0, x⟩) s3 s4 s5 s6 s7 s8 s9 s10 s11 s12 s13 s14 a b
    exact ⟨_, env', c', rfl, e, h1, _, h2⟩) ⟨⟨a, b, rfl⟩, _, _, _, _, _, _, _, _, _, _, _, _, _, rfl⟩
  obtain ⟨c2, e2⟩ := k40_fin D S s2 s3 s4 s5 s6 s7 s8 s9 s10 s11 s12 s13 s14 a1 b1
  refine ⟨c2, ?_⟩
  unfold Fn.run
  rw [if_pos ⟨rfl, rfl⟩]
  have st0 : evS (callF P 39) P.fr (.setc 1 (.call "_law_cup" [.var 0])) (k40_law.start [.scr (ns.map PV.int)]) .non = .nx (E40 S none none none none none none none none none none none none none) (cup a b) := by
    rw [hS]
    simp at q0
    simp [E40, k40_law, Fn.start, evS, ev, em, evs, lo, hi, Res.bind, Res.of, Res.out, q0]
  show (match evB (callF P 39) P.fr (_ :: .for_ (.nm 2) .rng1 [.con (.int 6)] k40_body :: k40_rest) (k40_law.start [.scr (ns.map PV.int)]) .non with
    | .nx _ c => _
    | .ret v c => _
    | .exc e c => _
    | .stuck => _) = _
  rw [evB_cons, st0, obind_nx, evB_cons, st_for (vs := [.int 6]) (xs := rng 0 6) rfl rfl, e1, obind_nx, e2] <;> rfl
end PVL
end

section
set_option Elab.async false
set_option linter.all false
set_option maxRecDepth 100000
set_option maxHeartbeats 0
/-! the forms of the defs, printed by a program. -/
namespace Gk40
open PVL
abbrev WN : Nat := 1000000
def f_is_whole : Fn := ⟨"is_whole", ["value", "least", "most"], 3, false, none, 0, [
    .ret (.and (.isi .int (.var 0)) (.and (.not (.isi .bool (.var 0))) (.chain .le .le (.var 1) (.var 0) (.var 2))))]⟩
def f_is_tuple_of : Fn := ⟨"is_tuple_of", ["value", "least", "most"], 3, false, none, 0, [
    .ret (.and (.isi .tuple (.var 0)) (.chain .le .le (.var 1) (.b1 .len (.var 0)) (.var 2)))]⟩
def f_fits_limb : Fn := ⟨"fits_limb", ["joints", "value"], 2, false, none, 0, [
    .ife (.or (.not (.call "is_tuple_of" [.var 1, .con (.int 3), .con (.int 3)])) (.or (.not (.call "is_whole" [.ix (.var 1) (.con (.int 0)), .con (.int 0), .op .sub (.var 0) (.con (.int 1))])) (.not (.call "is_whole" [.ix (.var 1) (.con (.int 1)), .con (.int 0), .op .sub (.var 0) (.con (.int 1))])))) [.ret (.con (.bl false))] [],
    .ret (.and (.cmp .lt (.ix (.var 1) (.con (.int 0))) (.ix (.var 1) (.con (.int 1)))) (.call "is_whole" [.ix (.var 1) (.con (.int 2)), .con (.int 1), .gint "LENGTH" 9]))]⟩
def f_fits_figure : Fn := ⟨"fits_figure", ["value", "joints", "limbs", "ties", "floor", "limb", "one", "other", "joint"], 1, false, none, 0, [
    .ife (.or (.not (.call "is_tuple_of" [.var 0, .con (.int 4), .con (.int 4)])) (.or (.not (.call "is_whole" [.ix (.var 0) (.con (.int 0)), .con (.int 1), .gint "JOINTS" 8])) (.not (.call "is_whole" [.ix (.var 0) (.con (.int 3)), .con (.int 1), .gint "FLOOR" 30])))) [.ret (.con (.bl false))] [],
    .unp (.tup [.nm 1, .nm 2, .nm 3, .nm 4]) (.var 0),
    .ife (.or (.not (.call "is_tuple_of" [.var 2, .con (.int 0), .gint "LIMBS" 12])) (.not (.b1 .all (.comp [5] (.nm 5) .seq [.var 2] [] 0 (.call "fits_limb" [.var 1, .var 5]))))) [.ret (.con (.bl false))] [],
    .ife (.not (.b1 .all (.comp [6, 7] (.tup [.nm 6, .nm 7]) .zip [.var 2, .sl (.var 2) true false [.con (.int 1)]] [] 0 (.cmp .lt (.sl (.var 6) false true [.con (.int 2)]) (.sl (.var 7) false true [.con (.int 2)]))))) [.ret (.con (.bl false))] [],
    .ret (.and (.call "is_tuple_of" [.var 3, .con (.int 1), .gint "STRINGS" 6]) (.b1 .all (.comp [8] (.nm 8) .seq [.var 3] [] 0 (.call "is_whole" [.var 8, .con (.int 0), .op .sub (.var 1) (.con (.int 1))]))))]⟩
def f_need_figure : Fn := ⟨"need_figure", ["figure"], 1, false, none, 0, [
    .ife (.not (.call "fits_figure" [.var 0])) [.raise] []]⟩
def f_fits_joint : Fn := ⟨"fits_joint", ["figure", "value"], 2, false, none, 0, [
    .ret (.call "is_whole" [.var 1, .con (.int 0), .op .sub (.ix (.var 0) (.con (.int 0))) (.con (.int 1))])]⟩
def f_fits_setting : Fn := ⟨"fits_setting", ["figure", "value", "many", "one"], 2, false, none, 0, [
    .set 2 false (.b1 .len (.ix (.var 0) (.con (.int 2)))),
    .ret (.and (.call "is_tuple_of" [.var 1, .var 2, .var 2]) (.b1 .all (.comp [3] (.nm 3) .seq [.var 1] [] 0 (.call "is_whole" [.var 3, .con (.int 0), .ix (.var 0) (.con (.int 3))]))))]⟩
def f_need_setting : Fn := ⟨"need_setting", ["figure", "setting"], 2, false, none, 0, [
    .ife (.not (.call "fits_setting" [.var 0, .var 1])) [.raise] []]⟩
def f_need_set : Fn := ⟨"need_set", ["figure", "setting"], 2, false, none, 0, [
    .expr (.call "need_figure" [.var 0]),
    .expr (.call "need_setting" [.var 0, .var 1])]⟩
def f_table_of : Fn := ⟨"table_of", ["figure", "many", "rows", "one", "other", "length", "by", "far"], 1, false, none, 0, [
    .set 1 false (.ix (.var 0) (.con (.int 0))),
    .set 2 true (.comp [3] (.nm 3) .rng1 [.var 1] [] 1 (.comp [4] (.nm 4) .rng1 [.var 1] [] 0 (.ife (.cmp .eq (.var 3) (.var 4)) (.con (.int 0)) (.con .non)))),
    .for_ (.tup [.nm 3, .nm 4, .nm 5]) .seq [.ix (.var 0) (.con (.int 1))] [.put2 2 [.var 3] (.var 4) 2 [.var 4] (.var 3) (.var 5)],
    .for_ (.nm 6) .rng1 [.var 1] [.for_ (.nm 3) .rng1 [.var 1] [.for_ (.nm 4) .rng1 [.var 1] [.ife (.and (.is true .non (.ix (.ix (.var 2) (.var 3)) (.var 6))) (.is true .non (.ix (.ix (.var 2) (.var 6)) (.var 4)))) [.set 7 false (.op .add (.ix (.ix (.var 2) (.var 3)) (.var 6)) (.ix (.ix (.var 2) (.var 6)) (.var 4))), .put 2 [.var 3] (.var 4) (.ife (.is false .non (.ix (.ix (.var 2) (.var 3)) (.var 4))) (.var 7) (.b2 .min (.var 7) (.ix (.ix (.var 2) (.var 3)) (.var 4))))] []]]],
    .frz 2,
    .ret (.var 2)]⟩
def f_pose_by : Fn := ⟨"pose_by", ["figure", "setting", "rows", "found", "joint", "some", "tie", "length"], 3, false, none, 0, [
    .set 3 true (.lst 0 []),
    .for_ (.nm 4) .rng1 [.ix (.var 0) (.con (.int 0))] [.set 5 false (.comp [6, 7] (.tup [.nm 6, .nm 7]) .zip [.ix (.var 0) (.con (.int 2)), .var 1] [.is true .non (.ix (.ix (.var 2) (.var 6)) (.var 4))] 0 (.op .add (.var 7) (.ix (.ix (.var 2) (.var 6)) (.var 4)))), .app 3 [] (.b1 .min (.op .add (.var 5) (.lst 0 [.ix (.var 0) (.con (.int 3))])))],
    .ret (.b1 .tuple (.var 3))]⟩
def f_pose_in : Fn := ⟨"pose_in", ["figure", "setting"], 2, false, none, 0, [
    .ret (.call "pose_by" [.var 0, .var 1, .call "table_of" [.var 0]])]⟩
def f_pose : Fn := ⟨"pose", ["figure", "setting"], 2, false, none, 0, [
    .expr (.call "need_set" [.var 0, .var 1]),
    .ret (.call "pose_in" [.var 0, .var 1])]⟩
def f_reach_in : Fn := ⟨"reach_in", ["figure", "rows", "floor", "tie", "far"], 1, false, none, 0, [
    .unp (.tup [.nm 1, .nm 2]) (.tup [.call "table_of" [.var 0], .ix (.var 0) (.con (.int 3))]),
    .ret (.comp [3] (.nm 3) .seq [.ix (.var 0) (.con (.int 2))] [] 0 (.comp [4] (.nm 4) .seq [.ix (.var 1) (.var 3)] [] 0 (.ife (.is false .non (.var 4)) (.var 2) (.b2 .min (.var 4) (.var 2)))))]⟩
def f_fits_seen : Fn := ⟨"fits_seen", ["figure", "value", "joint", "one", "other"], 2, false, none, 0, [
    .ife (.or (.not (.call "is_tuple_of" [.var 1, .con (.int 1), .ix (.var 0) (.con (.int 0))])) (.not (.b1 .all (.comp [2] (.nm 2) .seq [.var 1] [] 0 (.call "fits_joint" [.var 0, .var 2]))))) [.ret (.con (.bl false))] [],
    .ret (.b1 .all (.comp [3, 4] (.tup [.nm 3, .nm 4]) .zip [.var 1, .sl (.var 1) true false [.con (.int 1)]] [] 0 (.cmp .lt (.var 3) (.var 4))))]⟩
def f_need_seen : Fn := ⟨"need_seen", ["figure", "seen"], 2, false, none, 0, [
    .ife (.not (.call "fits_seen" [.var 0, .var 1])) [.raise] []]⟩
def f_idle_strings : Fn := ⟨"idle_strings", ["figure", "seen", "rows", "at", "row", "joint"], 2, false, none, 0, [
    .expr (.call "need_figure" [.var 0]),
    .expr (.call "need_seen" [.var 0, .var 1]),
    .set 2 false (.call "reach_in" [.var 0]),
    .ret (.b1 .tuple (.comp [3, 4] (.tup [.nm 3, .nm 4]) .enum [.var 2] [.b1 .all (.comp [5] (.nm 5) .seq [.var 1] [] 0 (.cmp .eq (.ix (.var 4) (.var 5)) (.ix (.var 0) (.con (.int 3)))))] 0 (.var 3)))]⟩
def f__law_cup : Fn := ⟨"_law_cup", ["script", "cell"], 1, false, none, 1, [
    .set 1 false (.b1 .abs (.ix (.op .add (.b1 .list (.var 0)) (.lst 0 [.con (.int 0)])) (.con (.int 0)))),
    .ret (.lst 0 [.ife (.cmp .ge (.var 1) (.op .pow (.con (.int 10)) (.con (.int 18)))) (.op .fdiv (.var 1) (.con (.int 67))) (.con (.int 0)), .op .add (.op .mod (.b1 .int (.op .add (.op .mul (.var 1) (.con (.int 293))) (.con (.int 4007)))) (.con (.int 2077502341))) (.con (.int 149))])]⟩
def f__law_roll : Fn := ⟨"_law_roll", ["cup", "many", "found", "deep"], 2, true, (some 0), 0, [
    .ife (.cmp .gt (.cel 0) (.con (.int 0))) [.set 2 false (.op .mod (.b1 .int (.cel 0)) (.var 1)), .cput 0 (.op .fdiv (.cel 0) (.var 1)), .ret (.var 2)] [],
    .cput 1 (.op .mod (.b1 .int (.op .add (.op .mul (.cel 1) (.con (.int 30859))) (.con (.int 7867)))) (.con (.int 2147483399))),
    .set 3 false (.op .mod (.b1 .int (.op .mul (.cel 1) (.op .add (.cel 1) (.con (.int 223))))) (.con (.int 2147483563))),
    .ret (.op .mod (.b1 .int (.op .fdiv (.var 3) (.con (.int 797)))) (.var 1))]⟩
def f__law_some : Fn := ⟨"_law_some", ["cup", "things"], 2, true, (some 0), 0, [
    .ret (.ix (.var 1) (.callc "_law_roll" [.b1 .len (.var 1)]))]⟩
def f__law_same : Fn := ⟨"_law_same", ["told", "due", "at"], 2, false, none, 0, [
    .ife (.isi .tuple (.var 1)) [.ife (.or (.not (.isi .tuple (.var 0))) (.cmp .ne (.b1 .len (.var 0)) (.b1 .len (.var 1)))) [.ret (.con (.bl false))] [], .ret (.b1 .all (.comp [2] (.nm 2) .rng1 [.b1 .len (.var 1)] [] 0 (.call "_law_same" [.ix (.var 0) (.var 2), .ix (.var 1) (.var 2)])))] [],
    .ife (.is false .non (.var 1)) [.ret (.is false .non (.var 0))] [],
    .ife (.isi .bool (.var 1)) [.ret (.ife (.var 1) (.is false .tt (.var 0)) (.is false .ff (.var 0)))] [],
    .ife (.isi .int (.var 1)) [.ret (.and (.isi .int (.var 0)) (.and (.not (.isi .bool (.var 0))) (.cmp .eq (.b1 .int (.var 0)) (.var 1))))] [],
    .ret (.and (.isi .str (.var 0)) (.cmp .eq (.b1 .str (.var 0)) (.var 1)))]⟩
def f__law_figure : Fn := ⟨"_law_figure", ["cup", "most", "strings", "joints", "known", "joint", "turn", "one", "other", "limbs", "ties", "pair"], 3, true, (some 0), 0, [
    .set 3 false (.op .add (.con (.int 1)) (.callc "_law_roll" [.var 1])),
    .set 4 true (.dct0 true),
    .for_ (.nm 5) .rng2 [.con (.int 1), .var 3] [.ife (.cmp .gt (.callc "_law_roll" [.con (.int 7)]) (.con (.int 0))) [.put 4 [] (.tup [.callc "_law_roll" [.var 5], .var 5]) (.op .add (.con (.int 1)) (.callc "_law_roll" [.callc "_law_some" [.lst 0 [.con (.int 3), .con (.int 9)]]]))] []],
    .for_ (.nm 6) .rng1 [.ife (.cmp .gt (.var 3) (.con (.int 2))) (.callc "_law_roll" [.con (.int 4)]) (.con (.int 0))] [.par [7, 8] [.callc "_law_roll" [.var 3], .callc "_law_roll" [.var 3]], .ife (.and (.cmp .lt (.var 7) (.var 8)) (.cmp .lt (.b1 .len (.var 4)) (.con (.int 12)))) [.put 4 [] (.tup [.var 7, .var 8]) (.op .add (.con (.int 1)) (.callc "_law_roll" [.con (.int 9)]))] []],
    .set 9 false (.b1 .tuple (.comp [11] (.nm 11) .seq [.b1 .sorted (.var 4)] [] 0 (.op .add (.var 11) (.tup [.ix (.var 4) (.var 11)])))),
    .set 10 false (.b1 .tuple (.comp [6] (.nm 6) .rng1 [.op .add (.con (.int 1)) (.callc "_law_roll" [.var 2])] [] 0 (.callc "_law_roll" [.var 3]))),
    .ret (.tup [.var 3, .var 9, .var 10, .callc "_law_some" [.lst 0 [.con (.int 1), .con (.int 4), .con (.int 9), .con (.int 15), .con (.int 22), .con (.int 30)]]])]⟩
def f__law_setting : Fn := ⟨"_law_setting", ["cup", "figure", "floor", "tie"], 2, true, (some 0), 0, [
    .set 2 false (.ix (.var 1) (.con (.int 3))),
    .ret (.b1 .tuple (.comp [3] (.nm 3) .seq [.ix (.var 1) (.con (.int 2))] [] 0 (.callc "_law_some" [.lst 0 [.var 2, .con (.int 0), .callc "_law_roll" [.op .add (.var 2) (.con (.int 1))], .callc "_law_roll" [.op .add (.var 2) (.con (.int 1))], .callc "_law_roll" [.op .add (.var 2) (.con (.int 1))]]])))]⟩
def f__law_from : Fn := ⟨"_law_from", ["figure", "joint", "found", "turn", "one", "other", "length", "begin", "end"], 2, false, none, 0, [
    .set 2 true (.dct1 (.var 1) (.con (.int 0))),
    .for_ (.nm 3) .rng1 [.ix (.var 0) (.con (.int 0))] [.for_ (.tup [.nm 4, .nm 5, .nm 6]) .seq [.ix (.var 0) (.con (.int 1))] [.for_ (.tup [.nm 7, .nm 8]) .seq [.tup [.tup [.var 4, .var 5], .tup [.var 5, .var 4]]] [.ife (.and (.cmp .isin (.var 7) (.var 2)) (.cmp .lt (.op .add (.ix (.var 2) (.var 7)) (.var 6)) (.get2 (.var 2) (.var 8) (.op .pow (.con (.int 10)) (.con (.int 6)))))) [.put 2 [] (.var 8) (.op .add (.ix (.var 2) (.var 7)) (.var 6))] []]]],
    .frz 2,
    .ret (.var 2)]⟩
def f__law_near_figure : Fn := ⟨"_law_near_figure", ["cup", "figure", "joints", "limbs", "ties", "floor", "way", "at", "one", "other", "length", "rest", "limb"], 2, true, (some 0), 0, [
    .unp (.tup [.nm 2, .nm 3, .nm 4, .nm 5]) (.var 1),
    .par [6, 7] [.callc "_law_roll" [.con (.int 6)], .callc "_law_roll" [.b2 .max (.con (.int 1)) (.b1 .len (.var 3))]],
    .ife (.and (.cmp .lt (.var 6) (.con (.int 2))) (.cmp .ne (.var 3) (.tup []))) [.unp (.tup [.nm 8, .nm 9, .nm 10]) (.ix (.var 3) (.var 7)), .ret (.tup [.var 2, .op .add (.op .add (.sl (.var 3) false true [.var 7]) (.tup [.tup [.var 8, .var 9, .b2 .min (.con (.int 9)) (.op .add (.op .add (.var 10) (.con (.int 1))) (.callc "_law_roll" [.con (.int 2)]))]])) (.sl (.var 3) true false [.op .add (.var 7) (.con (.int 1))]), .var 4, .var 5])] [],
    .ife (.cmp .eq (.var 6) (.con (.int 2))) [.ret (.tup [.var 2, .op .add (.sl (.var 3) false true [.var 7]) (.sl (.var 3) true false [.op .add (.var 7) (.con (.int 1))]), .var 4, .var 5])] [],
    .ife (.and (.cmp .eq (.var 6) (.con (.int 3))) (.and (.cmp .gt (.var 2) (.con (.int 1))) (.cmp .lt (.b1 .len (.var 3)) (.con (.int 12))))) [.unp (.tup [.nm 8, .nm 9]) (.tup [.callc "_law_roll" [.op .sub (.var 2) (.con (.int 1))], .op .sub (.var 2) (.con (.int 1))]), .set 11 false (.b1 .tuple (.comp [12] (.nm 12) .seq [.var 3] [.cmp .ne (.sl (.var 12) false true [.con (.int 2)]) (.tup [.var 8, .var 9])] 0 (.var 12))), .ret (.tup [.var 2, .b1 .tuple (.b1 .sorted (.op .add (.var 11) (.tup [.tup [.var 8, .var 9, .op .add (.con (.int 1)) (.callc "_law_roll" [.con (.int 9)])]]))), .var 4, .var 5])] [],
    .ret (.ife (.cmp .eq (.var 6) (.con (.int 4))) (.tup [.var 2, .var 3, .rev (.var 4) [], .var 5]) (.var 1))]⟩
def f__law_seen : Fn := ⟨"_law_seen", ["cup", "figure", "found", "joint"], 2, true, (some 0), 0, [
    .set 2 false (.b1 .tuple (.comp [3] (.nm 3) .rng1 [.ix (.var 1) (.con (.int 0))] [.cmp .eq (.callc "_law_roll" [.con (.int 2)]) (.con (.int 0))] 0 (.var 3))),
    .ret (.ife (.cmp .ne (.var 2) (.tup [])) (.var 2) (.tup [.callc "_law_roll" [.ix (.var 1) (.con (.int 0))]]))]⟩
def f_law : Fn := ⟨"law", ["script", "cup", "turn", "figure", "seen", "floor", "due", "string", "tie", "far", "told", "setting", "other", "first", "second", "many", "chain", "joint", "at", "length"], 1, false, (some 1), 0, [
    .setc 1 (.call "_law_cup" [.var 0]),
    .for_ (.nm 2) .rng1 [.con (.int 6)] [.set 3 false (.callc "_law_figure" [.con (.int 8), .con (.int 6)]), .unp (.tup [.nm 4, .nm 5, .nm 6]) (.tup [.callc "_law_seen" [.var 3], .ix (.var 3) (.con (.int 3)), .tup []]), .for_ (.tup [.nm 7, .nm 8]) .enum [.ix (.var 3) (.con (.int 2))] [.set 9 false (.call "_law_from" [.var 3, .var 8]), .set 6 false (.op .add (.var 6) (.ife (.cmp .eq (.comp [17] (.nm 17) .seq [.var 4] [.cmp .lt (.get2 (.var 9) (.var 17) (.var 5)) (.var 5)] 0 (.var 17)) (.lst 0 [])) (.tup [.var 7]) (.tup [])))], .set 10 false (.call "idle_strings" [.var 3, .var 4]), .ife (.not (.call "_law_same" [.var 10, .var 6])) [.ret (.con (.bl false))] [], .set 11 false (.callc "_law_setting" [.var 3]), .set 12 false (.b1 .tuple (.comp [18, 19] (.tup [.nm 18, .nm 19]) .enum [.var 11] [] 0 (.ife (.cmp .isin (.var 18) (.var 6)) (.callc "_law_roll" [.op .add (.var 5) (.con (.int 1))]) (.var 19)))), .unp (.tup [.nm 13, .nm 14]) (.tup [.call "pose" [.var 3, .var 11], .call "pose" [.var 3, .var 12]]), .ife (.cmp .ne (.comp [17] (.nm 17) .seq [.var 4] [.cmp .ne (.ix (.var 13) (.var 17)) (.ix (.var 14) (.var 17))] 0 (.var 17)) (.lst 0 [])) [.ret (.con (.bl false))] []],
    .unp (.tup [.nm 15, .nm 5]) (.tup [.op .add (.con (.int 2)) (.callc "_law_roll" [.con (.int 7)]), .op .add (.con (.int 1)) (.callc "_law_roll" [.con (.int 7)])]),
    .set 16 false (.tup [.var 15, .b1 .tuple (.comp [18] (.nm 18) .rng1 [.op .sub (.var 15) (.con (.int 1))] [] 0 (.tup [.var 18, .op .add (.var 18) (.con (.int 1)), .con (.int 1)])), .tup [.op .sub (.var 15) (.con (.int 1)), .con (.int 0), .op .sub (.var 15) (.con (.int 1))], .var 5]),
    .set 6 false (.tup [.ife (.cmp .ge (.op .sub (.var 15) (.con (.int 1))) (.var 5)) (.tup [.con (.int 0), .con (.int 2)]) (.tup []), .ife (.cmp .ge (.op .sub (.var 15) (.con (.int 1))) (.var 5)) (.tup [.con (.int 1)]) (.tup [])]),
    .set 10 false (.tup [.call "idle_strings" [.var 16, .tup [.con (.int 0)]], .call "idle_strings" [.var 16, .tup [.op .sub (.var 15) (.con (.int 1))]], .call "idle_strings" [.var 16, .tup [.con (.int 0), .op .sub (.var 15) (.con (.int 1))]], .call "idle_strings" [.tup [.con (.int 2), .tup [], .tup [.con (.int 1)], .con (.int 1)], .tup [.con (.int 0)]]]),
    .ret (.call "_law_same" [.var 10, .op .add (.var 6) (.tup [.tup [], .tup [.con (.int 0)]])])]⟩
def gis : List (PySem.Str × Int) := [("JOINTS", 8), ("LIMBS", 12), ("STRINGS", 6), ("LENGTH", 9), ("FLOOR", 30)]
def free : List PySem.Str := ["len", "abs", "all", "min", "max", "sorted", "list", "tuple", "int", "str", "range", "zip", "enumerate", "isinstance", "bool"]
def P : Prog := ⟨[f_is_whole, f_is_tuple_of, f_fits_limb, f_fits_figure, f_need_figure, f_fits_joint, f_fits_setting, f_need_setting, f_need_set, f_table_of, f_pose_by, f_pose_in, f_pose, f_reach_in, f_fits_seen, f_need_seen, f_idle_strings, f__law_cup, f__law_roll, f__law_some, f__law_same, f__law_figure, f__law_setting, f__law_from, f__law_near_figure, f__law_seen, f_law], ["_law_cup"]⟩
end Gk40
end

section
set_option Elab.async false
set_option linter.all false
set_option maxRecDepth 100000
set_option maxHeartbeats 0
namespace Gk40
open PySem PySem.Spec PyProof.Rows L2
def top (i : Nat) : Stmt := PySem.Challenge.pw_strunglimbs_k40_whole_idle_strings_and_s.main.body.getD i (.Pass ⟨0, 0, 0, 0⟩)
def mk (i : Nat) (x : Str) : He.DefD := ⟨(x, none), x, x, defArgs (top i), defBody (top i), defScope (top i), [], []⟩
def ds : List He.DefD := [mk 11 "is_whole", mk 12 "is_tuple_of", mk 13 "fits_limb", mk 14 "fits_figure", mk 15 "need_figure", mk 16 "fits_joint", mk 17 "fits_setting", mk 18 "need_setting", mk 19 "need_set", mk 20 "table_of", mk 22 "pose_by", mk 23 "pose_in", mk 24 "pose", mk 26 "reach_in", mk 27 "fits_seen", mk 28 "need_seen", mk 30 "idle_strings", mk 32 "_law_cup", mk 33 "_law_roll", mk 34 "_law_some", mk 35 "_law_same", mk 36 "_law_figure", mk 37 "_law_setting", mk 38 "_law_from", mk 39 "_law_near_figure", mk 40 "_law_seen", mk 41 "law"]
theorem ok : PVL.okD P gis free P.fns ds = true := by decide +kernel
theorem nd : (P.fns.map (·.name)).Nodup := by decide +kernel
def lo0 : List Str := ["__name__", "LimbError", "InvalidFigure", "InvalidSetting", "InvalidSight", "JOINTS", "LIMBS", "STRINGS", "LENGTH", "FLOOR", "is_whole", "is_tuple_of", "fits_limb", "fits_figure", "need_figure", "fits_joint", "fits_setting", "need_setting", "need_set", "table_of", "pose_by", "pose_in", "pose", "reach_in", "fits_seen", "need_seen", "idle_strings", "_law_cup", "_law_roll", "_law_some"]
def lo1 : List Str := ["_law_same", "_law_figure", "_law_setting", "_law_from", "_law_near_figure", "_law_seen"]
def lo : List Str := lo0 ++ lo1
abbrev fa : List He.Fa := PVL.fas P gis free ++ []
abbrev R : PySem.W.OpenRow := PySem.W.OpenLaw.row PySem.Challenge.rw_strunglimbs_k40_whole_idle_strings_and_s
abbrev hk : PySem.W.Hook := He.hookD 3 fa ds
def ob (s : PySem.W.SharedT) : He.AlD := He.obsDG 3 fa ds (HandSHeadRun.getT s)
theorem ob_eq (s : PySem.W.SharedT) : ob s = hk.obs s.abs := He.obsDG_eq (HandSHeadRun.getT_eq s)
theorem run (w : World) : HandSHeadRun.RunEq R (PySem.W.view R.prog [41]) hk ob 6000 lo w := by
  intro os
  kernel_rfl
end Gk40
end

section
set_option Elab.async false
set_option linter.all false
set_option maxRecDepth 100000
set_option maxHeartbeats 0
theorem Gk40.d0 : PVL.FigD Gk40.P := by constructor <;> kernel_rfl
theorem Gk40.dd : PVL.K40 Gk40.P := { Gk40.d0 with
  idl := by kernel_rfl
  nse := by kernel_rfl
  fse := by kernel_rfl
  fj := by kernel_rfl
  rin := by kernel_rfl
  nf := by kernel_rfl
  po := by kernel_rfl
  ns := by kernel_rfl
  nst := by kernel_rfl
  fs := by kernel_rfl
  pin := by kernel_rfl
  pb := by kernel_rfl
  tb := by kernel_rfl
  cu := ⟨67, 293, 4007, 2077502341, 149, by decide, by kernel_rfl⟩
  ro := ⟨30859, 7867, 2147483399, 223, 2147483563, 797, by decide, by kernel_rfl⟩
  so := by kernel_rfl
  sa := by kernel_rfl
  fi := by kernel_rfl
  se := by kernel_rfl
  lf := by kernel_rfl
  lsn := by kernel_rfl }
theorem Gk40.plain : ∀ ns : List Int, ns.length ≤ 63 → ∃ c', PVL.callF Gk40.P (39 + 1) Gk40.f_law.name [.scr (ns.map PVL.PV.int)] .non = .ok (.bl true) c' :=
  fun ns h => PVL.k40_plain Gk40.dd (by kernel_rfl) ns h
open PySem PySem.W PySem.Calls PyProof.Rows
theorem PySem.Challenge.cw_strunglimbs_k40_whole_idle_strings_and_s_holds : PySem.Challenge.rw_strunglimbs_k40_whole_idle_strings_and_s.Holds := by
  w_on; o_law
  refine HandSHeadRun.head_any (r := OpenLaw.row PySem.Challenge.rw_strunglimbs_k40_whole_idle_strings_and_s) (q := view (OpenLaw.row PySem.Challenge.rw_strunglimbs_k40_whole_idle_strings_and_s).prog [41]) (H := Gk40.hk) (ob := Gk40.ob) (M := 6000) (loose := Gk40.lo) (d := HandSHeadRun.topDef (OpenLaw.row PySem.Challenge.rw_strunglimbs_k40_whole_idle_strings_and_s).prog 41) (kwd := []) Gk40.ob_eq
    (by kernel_rfl) (fun s => by kernel_rfl) Gk40.run (by kernel_rfl) (by kernel_rfl) (by kernel_rfl) (by rfl) (by first | assumption | decide +kernel) (by decide +kernel) ⟨rfl, rfl, rfl, rfl, rfl, by decide +kernel⟩ ?hw ?hc
  case hw => w_witness2
  case hc =>
    refine L2.walk_ofE (l := PySem.Challenge.rw_strunglimbs_k40_whole_idle_strings_and_s) (n := 63) (k := 40) (x := "script") (CX := L2.CX0) rfl (by decide) (by kernel_rfl) ⟨rfl, by decide, by decide⟩ ?F (fun _ _ _ _ z => z)
    intro w mg fa h Y G hmg0
    obtain ⟨K, KX, c⟩ := Y
    have hmg : mg ("law" : PySem.Str) = some (.ref fa) := by
      have e : (HandSHeadRun.topDef (OpenLaw.row PySem.Challenge.rw_strunglimbs_k40_whole_idle_strings_and_s).prog 41).name = ("law" : PySem.Str) := by kernel_rfl
      rw [← e]
      exact hmg0
    obtain ⟨fd, sp, h1, h2, h3⟩ := PVL.law_F (Pr := (PySem.Challenge.rw_strunglimbs_k40_whole_idle_strings_and_s).prog) (w := w) (n := 39) Gk40.nd Gk40.ok (lf := Gk40.f_law) (List.mem_of_getElem? (i := 26) rfl) rfl rfl rfl Gk40.plain KX G c hmg
    exact ⟨K, fd, sp, KX, h1, h2, h3⟩
end
