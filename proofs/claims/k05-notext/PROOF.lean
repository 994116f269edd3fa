import PyProof.Rows.All
import PySem.Challenge.RW_fewboxes_k05_no_formulas_text
import Wide.All
import OpenK.AllK
import Wide.FinOn
import HandS.ForMost
import HandS.ForExc
import HandS.TupAny
import HandS.Wide
import HandS.IsInst
import HandS.Deep
import HandS.More
import PySem.PyData
import HandS.RaiseMore
import HandS.Conv
import HandS.Codes
import KE.DataMinMax
import HandS.Flow
import HandS.CallSlots
import HandS.ExcCtx
import HandS.SuiteRaise
import HandS.Iter
import HandS.Zip
import HandS.Comp
import HandS.Small
import HandS.ExcOwn
import HandS.TryOnly
import HandS.ExcIs
import HandS.DeepEq
import KE.GoesMore
import KE.GoesEnum
import HandS.SortKw
import HandS.Strs
import HandS.SetFor
import HandS.Set
import KE.SortKeyHeap
import KE.DataFind
import HandS.WordsExc
import HandS.Ends
set_option Elab.async false
set_option linter.all false
set_option maxRecDepth 100000
set_option autoImplicit false
/-! A small language of values, and what its programs answer. -/
namespace Dl

/-- a text by its codes -/
abbrev T := List Nat
inductive D where
  | non | bl (b : Bool) | int (i : Int) | str (s : T)
  | tup (xs : List D) | lst (xs : List D)
  | scr (ns : List Int)
  | dic (kvs : List (T × D)) | dit (kvs : List (List Int × D))
  | kd (kvs : List (T × T))

/-- a value at hand: shared, a list or dict of one's own, the list that a caller lends, an error -/
inductive DV where
  | sh (d : D) | ol (ds : List D) | op (ds : List D) | od (kvs : List (T × D)) | ot (kvs : List (List Int × D)) | ex (c : Nat)

abbrev DEnv := List (Option DV)
inductive Res (α : Type) where
  | ok (a : α) (e : DEnv) | er (c : Nat) (e : DEnv) | st
def Res.bd {α β : Type} (r : Res α) (f : α → DEnv → Res β) : Res β := match r with
  | .ok a e => f a e
  | .er c e => .er c e
  | .st => .st
def Res.of {α : Type} (o : Option α) (e : DEnv) : Res α := match o with
  | some a => .ok a e
  | none => .st
theorem bd_ok {α β : Type} (a : α) (e : DEnv) (f : α → DEnv → Res β) : (Res.ok a e).bd f = f a e := rfl
theorem bd_er {α β : Type} (c : Nat) (e : DEnv) (f : α → DEnv → Res β) : (Res.er c e).bd f = .er c e := rfl
theorem bd_st {α β : Type} (f : α → DEnv → Res β) : (Res.st).bd f = .st := rfl
theorem bd_bd {α β γ : Type} (r : Res α) (f : α → DEnv → Res β) (g : β → DEnv → Res γ) : (r.bd f).bd g = r.bd fun a e => (f a e).bd g := by cases r <;> rfl
theorem of_none {α : Type} (e : DEnv) : Res.of (none : Option α) e = .st := rfl
theorem of_some {α : Type} (a : α) (e : DEnv) : Res.of (some a) e = .ok a e := rfl

def DV.toD : DV → Option D
  | .sh d => some d
  | .ol ds => some (.lst ds)
  | .od kvs => some (.dic kvs)
  | .ot kvs => some (.dit kvs)
  | .op _ => none
  | .ex _ => none
def Res.val (r : Res DV) : Res D := r.bd fun v e => .of v.toD e
theorem val_bd {α : Type} (r : Res α) (f : α → DEnv → Res DV) : (r.bd f).val = r.bd fun a e => (f a e).val := by cases r <;> rfl
/-- a name read as a value: what was one's own is shared from now on -/
def rd (i : Nat) (env : DEnv) : Res DV := match env[i]? with
  | some (some (.sh d)) => .ok (.sh d) env
  | some (some (.ol ds)) => .ok (.sh (.lst ds)) (env.set i (some (.sh (.lst ds))))
  | some (some (.od kvs)) => .ok (.sh (.dic kvs)) (env.set i (some (.sh (.dic kvs))))
  | some (some (.ot kvs)) => .ok (.sh (.dit kvs)) (env.set i (some (.sh (.dit kvs))))
  | _ => .st
/-- a name read for a moment -/
def bor (i : Nat) (env : DEnv) : Res D := match env[i]? with
  | some (some (.sh d)) => .ok d env
  | some (some (.ol ds)) => .ok (.lst ds) env
  | some (some (.op ds)) => .ok (.lst ds) env
  | some (some (.od kvs)) => .ok (.dic kvs) env
  | some (some (.ot kvs)) => .ok (.dit kvs) env
  | _ => .st

inductive BOp where
  | add | sub | mul | fdiv | mod | pow
inductive COp where
  | eq | ne | nes | lt | le | gt | ge | inn | nin | isN | notN
inductive Ty where
  | int | bool | str | list | tuple
inductive Bi where
  | len | int | str | max | min | list | tuple | dict | lrange | sset | srtl | lset
inductive Me where
  | join | index | split | get

inductive E where
  | var (i : Nat)
  | lit (d : D)
  | bin (o : BOp) (a b : E)
  | neg (a : E)
  | cmp (o : COp) (a b : E)
  | chain (o p : COp) (a b c : E)
  | chain3 (o p q : COp) (a b c d : E)
  | and (a b : E) | or (a b : E) | not (a : E)
  | tup (es : List E) | lst (es : List E)
  | sub (a b : E)
  | slice (a : E) (lo hi : Option E)
  | call (f : Nat) (es : List E)
  | cio (f i : Nat) (xs ys : List E)
  | ciL (f : Nat) (xs es ys : List E)
  | addv (j : Nat) (b : E)
  | bi (f : Bi) (es : List E)
  | meth (m : Me) (o : E) (es : List E)
  | isi (a : E) (t : Ty)
  | isx (i : Nat) (c : Nat)
  | comp (s : Nat) (it : E) (cond : Option E) (elt : E)
  | compE (s : Nat) (it elt : E)
  | dict (ks : List T) (vs : List E) | ditn
  | range (es : List E) | enum (e : E) | zip (a b : E) | zips (a b : E)

inductive S where
  | pass
  | set (i : Nat) (e : E)
  | unp (is : List Nat) (e : E)
  | par (i j : Nat) (a b : E)
  | sti (i : Nat) (k e : E)
  | app (i : Nat) (e : E)
  | appc (f : Nat) (es : List E) (e : E)
  | rem (i : Nat) (e : E)
  | ex (e : E)
  | ife (c : E) (t f : List S)
  | whl (c : E) (b : List S)
  | for1 (i : Nat) (it : E) (b : List S)
  | forN (is : List Nat) (it : E) (b : List S)
  | ret (e : E) | retN
  | rai (c : Nat)
  | try_ (b : List S) (c : Nat) (n : Option Nat) (h : List S)
  | tryR (b : List S) (c d : Nat)

/-! ### the operations -/
def szL : Nat := 16777216
def sIx (n d : Nat) : Option Int → Nat
  | none => d
  | some v => if v < 0 then (v + (n : Int)).toNat else min v.toNat n
def cut {α : Type} (xs : List α) (lo hi : Option Int) : List α := (xs.drop (sIx xs.length 0 lo)).take (sIx xs.length xs.length hi - sIx xs.length 0 lo)
def ixN (n : Nat) (i : Int) : Option Nat := if 0 ≤ i then (if i < n then some i.toNat else none) else if -(n : Int) ≤ i then some (i + n).toNat else none
def atI {α : Type} (xs : List α) (i : Int) : Option α := (ixN xs.length i).bind fun j => xs[j]?
def look {κ α : Type} [DecidableEq κ] (k : κ) : List (κ × α) → Option α
  | [] => none
  | (a, v) :: r => if a = k then some v else look k r
def put {κ α : Type} [DecidableEq κ] (k : κ) (v : α) (kvs : List (κ × α)) : List (κ × α) := if kvs.any (fun kv => decide (kv.1 = k)) = true then kvs.map (fun kv => if kv.1 = k then (kv.1, v) else kv) else kvs ++ [(k, v)]
def rep {α : Type} (k : Nat) (xs : List α) : List α := (List.replicate k xs).flatten
def joinL (S : T) : List T → T
  | [] => []
  | [x] => x
  | x :: y :: r => x ++ (S ++ joinL S (y :: r))
def b2i (b : Bool) : Int := if b then 1 else 0

mutual
def eqD : D → D → Bool
  | .non, b => (match b with | .non => true | _ => false)
  | .bl x, b => (match b with | .bl y => x == y | .int j => (if x then (1 : Int) else 0) == j | _ => false)
  | .int i, b => (match b with | .bl y => i == (if y then (1 : Int) else 0) | .int j => i == j | _ => false)
  | .str x, b => (match b with | .str y => x == y | _ => false)
  | .tup xs, b => (match b with | .tup ys => eqDs xs ys | _ => false)
  | .lst xs, b => (match b with | .lst ys => eqDs xs ys | _ => false)
  | .scr _, _ => false
  | .dic _, _ => false
  | .dit _, _ => false
  | .kd _, _ => false
def eqDs : List D → List D → Bool
  | [], ys => ys.isEmpty
  | x :: xs, ys => (match ys with | y :: ys => eqD x y && eqDs xs ys | [] => false)
end
mutual
/-- a value that == may walk: n deep at most -/
def okD : D → Nat → Bool
  | .non, _ => true
  | .bl _, _ => true
  | .int _, _ => true
  | .str s, _ => s.all (· < 1114112)
  | .tup xs, n => (match n with | 0 => false | n + 1 => okDs xs n)
  | .lst xs, n => (match n with | 0 => false | n + 1 => okDs xs n)
  | .scr _, _ => false
  | .dic _, _ => false
  | .dit _, _ => false
  | .kd _, _ => false
def okDs : List D → Nat → Bool
  | [], _ => true
  | x :: r, n => okD x n && okDs r n
end
def eqV (a b : D) : Option Bool := if okD a 64 && okD b 64 then some (eqD a b) else none

def addD : D → D → Option DV
  | .int i, .int j => some (.sh (.int (i + j)))
  | .str x, .str y => if x.length + y.length ≤ szL then some (.sh (.str (x ++ y))) else none
  | .tup x, .tup y => if x.length + y.length ≤ szL then some (.sh (.tup (x ++ y))) else none
  | .lst x, .lst y => if x.length + y.length ≤ szL then some (.ol (x ++ y)) else none
  | _, _ => none
def mulOk (i j : Int) : Bool := decide (-(2 ^ 64) < i ∧ i < 2 ^ 64) || decide (-(2 ^ 64) < j ∧ j < 2 ^ 64) || decide (i.natAbs.log2 + j.natAbs.log2 < 1000000)
def mulD : D → D → Option DV
  | .int i, .int j => if mulOk i j then some (.sh (.int (i * j))) else none
  | .lst x, .int k => if -(2 ^ 63) ≤ k ∧ k < 2 ^ 63 ∧ x.length * k.toNat ≤ szL then some (.ol (rep k.toNat x)) else none
  | .str x, .int k => if -(2 ^ 63) ≤ k ∧ k < 2 ^ 63 ∧ x.length * k.toNat ≤ szL then some (.sh (.str (rep k.toNat x))) else none
  | _, _ => none
def binD : BOp → D → D → Option DV
  | .add, a, b => addD a b
  | .sub, .int i, .int j => some (.sh (.int (i - j)))
  | .mul, a, b => mulD a b
  | .fdiv, .int i, .int j => if 0 < j ∧ j < 2 ^ 64 then some (.sh (.int (i / j))) else none
  | .mod, .int i, .int j => if 0 < j then some (.sh (.int (i % j))) else none
  | .pow, .int i, .int j => if 0 ≤ j ∧ j ≤ 1000000 ∧ i.natAbs < 2 ^ 64 then some (.sh (.int (i ^ j.toNat))) else none
  | _, _, _ => none
def inD (a : D) : D → Option Bool
  | .str y => (match a with | .str [c] => some (y.contains c) | _ => none)
  | .lst ys => if okD a 63 && okD (.lst ys) 64 then some (ys.any fun z => eqD z a) else none
  | .dic kvs => (match a with | .str k => some (look k kvs).isSome | _ => none)
  | .kd kvs => (match a with | .str k => some (look k kvs).isSome | _ => none)
  | _ => none
/-- alike: of small depth, or dicts of such -/
def elV (a : D) : Option D → Bool
  | some b => okD a 20 && okD b 20 && eqD a b
  | none => false
def elD (a b : D) : Bool := match a, b with
  | .dic ks, .dic ls => decide (ks.length = ls.length) && ks.all fun kv => elV kv.2 (look kv.1 ls)
  | a, b => okD a 20 && okD b 20 && eqD a b
def elDs : List D → List D → Bool
  | [], ys => ys.isEmpty
  | x :: xs, ys => (match ys with | y :: ys => elD x y && elDs xs ys | [] => false)
def nesD (a b : D) : Option Bool := match eqV a b with
  | some r => some (!r)
  | none => (match a, b with
    | .lst xs, .lst ys => if elDs xs ys then some false else none
    | _, _ => none)
def isNon : D → Bool
  | .non => true
  | _ => false
def cmpD : COp → D → D → Option Bool
  | .eq, a, b => eqV a b
  | .ne, a, b => (eqV a b).map (!·)
  | .nes, a, b => nesD a b
  | .lt, .int i, .int j => some (decide (i < j))
  | .le, .int i, .int j => some (decide (i ≤ j))
  | .gt, .int i, .int j => some (decide (j < i))
  | .ge, .int i, .int j => some (decide (j ≤ i))
  | .inn, a, b => inD a b
  | .nin, a, b => (inD a b).map (!·)
  | .isN, a, _ => some (isNon a)
  | .notN, a, _ => some (!isNon a)
  | _, _, _ => none
def truth : D → Option Bool
  | .bl b => some b
  | .lst xs => some (!xs.isEmpty)
  | _ => none
def intOf : D → Option Int
  | .int i => some i
  | _ => none
def intsD : List D → Option (List Int)
  | [] => some []
  | .int i :: r => (intsD r).map (i :: ·)
  | _ :: _ => none
def strsD : List D → Option (List T)
  | [] => some []
  | .str i :: r => (strsD r).map (i :: ·)
  | _ :: _ => none
def subD : D → D → Option D
  | .lst xs, .int i => atI xs i
  | .tup xs, .int i => atI xs i
  | .scr xs, .int i => (atI xs i).map .int
  | .str x, .int i => if x.length ≤ szL then (atI x i).map fun c => .str [c] else none
  | .dic kvs, .str k => look k kvs
  | .kd kvs, .str k => (look k kvs).map .str
  | .dit kvs, .tup ks => (intsD ks).bind fun k => look k kvs
  | _, _ => none
def sliceD : D → Option Int → Option Int → Option DV
  | .lst xs, lo, hi => some (.ol (cut xs lo hi))
  | .tup xs, lo, hi => some (.sh (.tup (cut xs lo hi)))
  | .str x, lo, hi => if x.length ≤ szL then some (.sh (.str (cut x lo hi))) else none
  | _, _, _ => none
def maxL : List Int → Option Int
  | [] => none
  | x :: r => some (r.foldl (fun a b => if b > a then b else a) x)
def minL : List Int → Option Int
  | [] => none
  | x :: r => some (r.foldl (fun a b => if b < a then b else a) x)
def numT (i : Int) : T := (toString i).toList.map Char.toNat
def digV (l : T) : Int := l.foldl (fun (a : Int) (c : Nat) => a * 10 + ((c : Int) - 48)) (0 : Int)
mutual
/-- no list in it, nor a dict -/
def noL : D → Bool
  | .non => true
  | .bl _ => true
  | .int _ => true
  | .str _ => true
  | .tup xs => noLs xs
  | _ => false
def noLs : List D → Bool
  | [] => true
  | x :: r => noL x && noLs r
end
/-- whole numbers in their order, each once -/
def insU (k : Int) : List Int → List Int
  | [] => [k]
  | x :: r => if k < x then k :: x :: r else if k = x then x :: r else x :: insU k r
def sortU (l : List Int) : List Int := l.foldr insU []
/-- how many texts there are, each once -/
def dnL (l : List T) : List T := l.foldl (fun a x => if x ∈ a then a else a ++ [x]) []
def dnT (l : List T) : Nat := (dnL l).length
def tlen : D → Nat
  | .tup xs => xs.length
  | _ => 0
def isTp : D → Bool
  | .tup _ => true
  | _ => false
/-- tuples, long ones first -/
def srtL (xs : List D) : List D := xs.mergeSort fun a b => decide (tlen b ≤ tlen a)
def biD : Bi → List D → Option DV
  | .len, [.str x] => if x.length ≤ szL then some (.sh (.int x.length)) else none
  | .len, [.lst x] => some (.sh (.int x.length))
  | .len, [.tup x] => some (.sh (.int x.length))
  | .len, [.scr x] => some (.sh (.int x.length))
  | .int, [.int i] => some (.sh (.int i))
  | .int, [.bl b] => some (.sh (.int (if b then 1 else 0)))
  | .int, [.str x] => if x ≠ [] ∧ x.length ≤ 640 ∧ x.all (fun c => decide (48 ≤ c) && decide (c ≤ 57)) then some (.sh (.int (digV x))) else none
  | .str, [.int i] => if i.natAbs < 2 ^ 64 then some (.sh (.str (numT i))) else none
  | .str, [.str x] => some (.sh (.str x))
  | .max, [.int i, .int j] => some (.sh (.int (if j > i then j else i)))
  | .min, [.int i, .int j] => some (.sh (.int (if j < i then j else i)))
  | .max, [.lst xs] => (intsD xs).bind fun l => (maxL l).map fun m => .sh (.int m)
  | .min, [.lst xs] => (intsD xs).bind fun l => (minL l).map fun m => .sh (.int m)
  | .max, [.tup xs] => (intsD xs).bind fun l => (maxL l).map fun m => .sh (.int m)
  | .min, [.tup xs] => (intsD xs).bind fun l => (minL l).map fun m => .sh (.int m)
  | .list, [.lst xs] => some (.ol xs)
  | .list, [.tup xs] => some (.ol xs)
  | .tuple, [.lst xs] => some (.sh (.tup xs))
  | .tuple, [.tup xs] => some (.sh (.tup xs))
  | .dict, [.dic kvs] => some (.od kvs)
  | .sset, [.lst xs] => (intsD xs).bind fun l => if l.length < 4000 ∧ (sortU l).length < 64 then some (.ol ((sortU l).map .int)) else none
  | .lset, [.lst xs] => (strsD xs).bind fun l => if l.length < 4000 then some (.sh (.int (dnT l))) else none
  | .srtl, [.lst xs] => if xs.all isTp then some (.ol (srtL xs)) else none
  | .lrange, [.int n] => if -10000 < n ∧ n < 10000 then some (.ol ((List.range n.toNat).map fun (k : Nat) => D.int (k : Int))) else none
  | _, _ => none
/-- the first place of an item -/
def fstIx (a : D) : List D → Nat → Option Nat
  | [], _ => none
  | x :: r, n => if eqD x a then some n else fstIx a r (n + 1)
def pre (S l : T) : Bool := l.take S.length == S
def spl (S : T) : Nat → T → T → List T
  | _, acc, [] => [acc]
  | 0, acc, c :: r => if pre S (c :: r) then acc :: spl S (S.length - 1) [] r else spl S 0 (acc ++ [c]) r
  | k + 1, acc, _ :: r => spl S k acc r
def totL (S : T) : List T → Nat
  | [] => 0
  | x :: r => x.length + S.length + totL S r
def meD : Me → D → List D → Option DV
  | .join, .str s, [.lst xs] => (strsD xs).bind fun l => if totL s l ≤ szL then some (.sh (.str (joinL s l))) else none
  | .index, .lst xs, [a] => if okD a 63 && okD (.lst xs) 64 then (fstIx a xs 0).map fun j => .sh (.int j) else none
  | .split, .str x, [.str s] => if s ≠ [] ∧ s.all (· < 256) ∧ x.length + 2 ≤ szL then some (.ol ((spl s 0 [] x).map .str)) else none
  | .get, .dic kvs, [.str k, .str d] => some (.sh ((look k kvs).getD (.str d)))
  | _, _, _ => none
def meT : Me → D → Bool
  | .join, .str _ => true
  | .split, .str _ => true
  | .index, .lst _ => true
  | .get, .dic _ => true
  | _, _ => false
def isiD : D → Ty → Option Bool
  | .non, _ => some false
  | .bl _, .int => some true
  | .bl _, .bool => some true
  | .bl _, _ => some false
  | .int _, .int => some true
  | .int _, _ => some false
  | .str _, .str => some true
  | .str _, _ => some false
  | .tup _, .tuple => some true
  | .tup _, _ => some false
  | .lst _, .list => some true
  | .lst _, _ => some false
  | _, _ => none
def itemsD : D → Option (List D)
  | .lst xs => some xs
  | .tup xs => some xs
  | .str x => some (x.map fun c => .str [c])
  | _ => none
def lstOf : D → Option (List D)
  | .lst xs => some xs
  | _ => none
def zipOf : D → D → Option (List D)
  | .lst xs, .lst ys => some ((xs.zip ys).map fun p => .tup [p.1, p.2])
  | .tup xs, .tup ys => some ((xs.zip ys).map fun p => .tup [p.1, p.2])
  | _, _ => none
def zipSOf : D → D → Option (List D)
  | .lst xs, .str l => some ((xs.zip (l.map fun c => D.str [c])).map fun p => .tup [p.1, p.2])
  | .tup xs, .str l => some ((xs.zip (l.map fun c => D.str [c])).map fun p => .tup [p.1, p.2])
  | _, _ => none
def enumL : List D → Nat → List D
  | [], _ => []
  | x :: r, n => .tup [.int (n : Int), x] :: enumL r (n + 1)
/-- the class c is x or under it: 0 FewError, 8 ValueError, 1 to 7 those right under FewError -/
def subC (c x : Nat) : Bool := c == x || x == 0 || x == 8

def rngD : List D → Option (List D)
  | [.int n] => if -(2 ^ 62) ≤ n ∧ n < 2 ^ 62 then some ((List.range n.toNat).map fun (k : Nat) => D.int (k : Int)) else none
  | [.int a, .int b] => if -(2 ^ 62) ≤ a ∧ a < 2 ^ 62 ∧ -(2 ^ 62) ≤ b ∧ b < 2 ^ 62 then some ((List.range (b - a).toNat).map fun (k : Nat) => D.int (a + (k : Int))) else none
  | [.int a, .int b, .int c] => if -(2 ^ 62) ≤ a ∧ a < 2 ^ 62 ∧ -(2 ^ 62) ≤ b ∧ b < 2 ^ 62 ∧ c = -1 then some ((List.range (a - b).toNat).map fun (k : Nat) => D.int (a - (k : Int))) else none
  | _ => none
/-! ### what expressions answer -/
inductive FR where
  | ok (v : DV) | er (c : Nat) | st
inductive FI where
  | ok (v : DV) (ps : List D) | st
structure Tab where
  fn : Nat → List D → FR
  io : Nat → List D → List D → List D → FI

def isVar : E → Option Nat
  | .var i => some i
  | _ => none
/-- an expression for a moment: a name is borrowed -/
def brw (e : E) (r : Res DV) (env : DEnv) : Res D := match isVar e with
  | some i => bor i env
  | none => r.val
def DV.own : DV → Bool
  | .sh _ => false
  | .ex _ => false
  | _ => true
/-- what a comprehension's name was before it, not one's own -/
def slotN (env : DEnv) (s : Nat) : Option (Option DV) := match env[s]? with
  | some (some u) => if u.own then none else some (some u)
  | some none => some none
  | none => none
def compL (s : Nat) (c : DEnv → Res Bool) (el : DEnv → Res D) : List D → DEnv → Res (List D)
  | [], env => .ok [] env
  | x :: r, env => (c (env.set s (some (.sh x)))).bd fun b env => if b then (el env).bd fun y env => (compL s c el r env).bd fun ys env => .ok (y :: ys) env else compL s c el r env
def FR.res (r : FR) (env : DEnv) : Res DV := match r with
  | .ok v => .ok v env
  | .er c => .er c env
  | .st => .st
def boolOf : D → Option Bool
  | .bl b => some b
  | _ => none
def blR (r : Res DV) : Res Bool := r.val.bd fun x env => .of (boolOf x) env
def noEr {α : Type} (r : Res α) : Res α := match r with
  | .er _ _ => .st
  | r => r
def rsE {α : Type} (s : Nat) (o : Option DV) (r : Res α) : Res α := match r with
  | .er c env => .er c (env.set s o)
  | r => r
def isOl (env : DEnv) (i : Nat) : Bool := match env[i]? with
  | some (some (.ol _)) => true
  | _ => false
def isOp (env : DEnv) (i : Nat) : Bool := match env[i]? with
  | some (some (.op _)) => true
  | _ => false
mutual
def ev (G : Tab) : E → DEnv → Res DV
  | .var i, env => rd i env
  | .lit d, env => .ok (.sh d) env
  | .bin o a b, env => (brw a (ev G a env) env).bd fun x env => (brw b (ev G b env) env).bd fun y env => .of (binD o x y) env
  | .neg a, env => (ev G a env).val.bd fun x env => .of ((intOf x).map fun i => .sh (.int (-i))) env
  | .cmp o a b, env => (brw a (ev G a env) env).bd fun x env => (brw b (ev G b env) env).bd fun y env => .of ((cmpD o x y).map fun k => .sh (.bl k)) env
  | .chain o p a b c, env => (brw a (ev G a env) env).bd fun x env => (brw b (ev G b env) env).bd fun y env => (Res.of (cmpD o x y) env).bd fun k env =>
      if k then (brw c (ev G c env) env).bd fun z env => .of ((cmpD p y z).map fun k => .sh (.bl k)) env else .ok (.sh (.bl false)) env
  | .chain3 o p q a b c d, env => (brw a (ev G a env) env).bd fun x env => (brw b (ev G b env) env).bd fun y env => (Res.of (cmpD o x y) env).bd fun k env =>
      if k then (brw c (ev G c env) env).bd fun z env => (Res.of (cmpD p y z) env).bd fun k env =>
        if k then (brw d (ev G d env) env).bd fun w env => .of ((cmpD q z w).map fun k => .sh (.bl k)) env else .ok (.sh (.bl false)) env
      else .ok (.sh (.bl false)) env
  | .and a b, env => (blR (ev G a env)).bd fun k env => if k then (blR (ev G b env)).bd fun k env => .ok (.sh (.bl k)) env else .ok (.sh (.bl false)) env
  | .or a b, env => (blR (ev G a env)).bd fun k env => if k then .ok (.sh (.bl true)) env else (blR (ev G b env)).bd fun k env => .ok (.sh (.bl k)) env
  | .not a, env => (brw a (ev G a env) env).bd fun x env => .of ((truth x).map fun k => .sh (.bl (!k))) env
  | .tup es, env => (evs G es env).bd fun xs env => if xs.length ≤ szL then .ok (.sh (.tup xs)) env else .st
  | .lst es, env => (evs G es env).bd fun xs env => if xs.length ≤ szL then .ok (.ol xs) env else .st
  | .sub a b, env => (brw a (ev G a env) env).bd fun x env => (ev G b env).val.bd fun y env => .of ((subD x y).map .sh) env
  | .slice a lo hi, env => (brw a (ev G a env) env).bd fun x env => (evo G lo env).bd fun l env => (evo G hi env).bd fun h env => .of (sliceD x l h) env
  | .call f es, env => (evs G es env).bd fun xs env => (G.fn f xs).res env
  | .cio f i xs ys, env => ((evs G xs env).bd fun dx env => if isOp env i then (evs G ys env).bd fun dy env => .ok (dx, dy) env else .st).bd fun d env => (match env[i]? with
      | some (some (.op ps)) => (match G.io f d.1 ps d.2 with
        | .ok v qs => .ok v (env.set i (some (.op qs)))
        | .st => .st)
      | _ => .st)
  | .ciL f xs es ys, env => ((evs G xs env).bd fun dx env => (evs G es env).bd fun ps env => if ps.length ≤ szL then (evs G ys env).bd fun dy env => .ok ((dx, ps), dy) env else .st).bd fun d env => (match G.io f d.1.1 d.1.2 d.2 with
        | .ok v _ => .ok v env
        | .st => .st)
  | .addv j b, env => if isOl env j then (ev G b env).val.bd fun y env => (match env[j]? with
      | some (some (.ol xs)) => .of (addD (.lst xs) y) env
      | _ => .st) else .st
  | .bi f es, env => (evb G es env).bd fun xs env => .of (biD f xs) env
  | .meth m o es, env => (brw o (ev G o env) env).bd fun x env => if meT m x then (evb G es env).bd fun xs env => .of (meD m x xs) env else .st
  | .isi a t, env => (brw a (ev G a env) env).bd fun x env => .of ((isiD x t).map fun k => .sh (.bl k)) env
  | .isx i c, env => match env[i]? with
      | some (some (.ex d)) => .ok (.sh (.bl (subC d c))) env
      | _ => .st
  | .comp s it cond elt, env => (brw it (ev G it env) env).bd fun d env => (Res.of (itemsD d) env).bd fun xs env => (Res.of (slotN env s) env).bd fun o env =>
      (noEr (compL s (match cond with
        | some c => fun env => (brw c (ev G c env) env).bd fun x env => .of (truth x) env
        | none => fun env => .ok true env) (fun env => (ev G elt env).val) xs (env.set s none))).bd fun ys env' =>
      if ys.length ≤ szL then .ok (.ol ys) (env'.set s o) else .st
  | .compE s it elt, env => (brw it (ev G it env) env).bd fun d env => (Res.of (itemsD d) env).bd fun xs env => (Res.of (slotN env s) env).bd fun o env =>
      if xs.length ≤ szL then (rsE s o (compL s (fun env => .ok true env) (fun env => (ev G elt env).val) xs (env.set s none))).bd fun ys env' => .ok (.ol ys) (env'.set s o) else .st
  | .dict ks vs, env => (evs G vs env).bd fun xs env => if ks.length = xs.length ∧ ks.length ≤ 15 ∧ ks.Nodup then .ok (.od (ks.zip xs)) env else .st
  | .ditn, env => .ok (.ot []) env
  | .range es, env => (evs G es env).bd fun xs env => .of ((rngD xs).map fun l => .sh (.lst l)) env
  | .enum a, env => (ev G a env).val.bd fun x env => .of ((lstOf x).map fun xs => .sh (.lst (enumL xs 0))) env
  | .zip a b, env => (ev G a env).val.bd fun x env => (ev G b env).val.bd fun y env => .of ((zipOf x y).map fun l => .sh (.lst l)) env
  | .zips a b, env => (ev G a env).val.bd fun x env => (ev G b env).val.bd fun y env => .of ((zipSOf x y).map fun l => .sh (.lst l)) env
def evs (G : Tab) : List E → DEnv → Res (List D)
  | [], env => .ok [] env
  | e :: r, env => (ev G e env).val.bd fun x env => (evs G r env).bd fun xs env => .ok (x :: xs) env
/-- arguments of a built-in: names are borrowed -/
def evb (G : Tab) : List E → DEnv → Res (List D)
  | [], env => .ok [] env
  | e :: r, env => (brw e (ev G e env) env).bd fun x env => (evb G r env).bd fun xs env => .ok (x :: xs) env
def evo (G : Tab) : Option E → DEnv → Res (Option Int)
  | none, env => .ok none env
  | some e, env => (ev G e env).val.bd fun x env => .of ((intOf x).map some) env
end
def tst (G : Tab) (e : E) (env : DEnv) : Res Bool := (brw e (ev G e env) env).bd fun x env => .of (truth x) env

/-! ### what statements do -/
inductive SR where
  | nx (e : DEnv) | rt (v : DV) (e : DEnv) | er (c : Nat) (e : DEnv) | st
def SR.bd (r : SR) (f : DEnv → SR) : SR := match r with
  | .nx e => f e
  | r => r
def Res.s {α : Type} (r : Res α) (f : α → DEnv → SR) : SR := match r with
  | .ok a e => f a e
  | .er c e => .er c e
  | .st => .st
def forL (step : D → DEnv → SR) : List D → DEnv → SR
  | [], env => .nx env
  | x :: r, env => (step x env).bd fun env => forL step r env
def whileL (c : DEnv → Res Bool) (b : DEnv → SR) : Nat → DEnv → SR
  | 0, _ => .st
  | n + 1, env => (c env).s fun k env => if k then (b env).bd fun env => whileL c b n env else .nx env
def setAll : List Nat → List D → DEnv → Option DEnv
  | [], [], env => some env
  | i :: is, x :: xs, env => setAll is xs (env.set i (some (.sh x)))
  | _, _, _ => none
def unpD (is : List Nat) (d : D) (env : DEnv) : Option DEnv := match d with
  | .tup xs => setAll is xs env
  | _ => none
def stiD (v : DV) (k : D) (x : D) : Option DV := match v, k with
  | .ol ds, .int i => (ixN ds.length i).map fun j => .ol (ds.set j x)
  | .op ds, .int i => (ixN ds.length i).map fun j => .op (ds.set j x)
  | .od kvs, .str s => if kvs.length < szL then some (.od (put s x kvs)) else none
  | .ot kvs, .tup ks => if kvs.length < szL then (intsD ks).map fun k => .ot (put k x kvs) else none
  | _, _ => none
def appD (v : DV) (x : D) : Option DV := match v with
  | .ol ds => if ds.length < szL then some (.ol (ds ++ [x])) else none
  | _ => none
def remD (v : DV) (x : D) : Option DV := match v with
  | .ol ds => if okD x 63 && okD (.lst ds) 64 then (fstIx x ds 0).map fun j => .ol (ds.eraseIdx j) else none
  | _ => none
/-- a change of one's own thing at the place i -/
def upS (i : Nat) (f : DV → Option DV) (env : DEnv) : SR := match env[i]? with
  | some (some v) => (match f v with
    | some w => .nx (env.set i (some w))
    | none => .st)
  | _ => .st
def moved (e : E) (r : Res DV) (env : DEnv) : Res DV := match isVar e with
  | some i => (match env[i]? with
    | some (some (.ol ds)) => .ok (.ol ds) (env.set i none)
    | _ => r)
  | none => r
def noEx : DEnv → Bool
  | [] => true
  | some (.ex _) :: _ => false
  | _ :: r => noEx r
def isOw (env : DEnv) (i : Nat) : Bool := match env[i]? with
  | some (some v) => v.own
  | _ => false
def catchS (c : Nat) (n : Option Nat) (h : DEnv → SR) (r : SR) : SR := match r with
  | .er d env => if subC d c then if noEx env then (match n with
      | some i => (match h (env.set i (some (.ex d))) with
        | .nx e => if noEx (e.set i none) then .nx (e.set i none) else .st
        | .rt v e => if noEx (e.set i none) then .rt v (e.set i none) else .st
        | _ => .st)
      | none => (match h env with
        | .nx e => if noEx e then .nx e else .st
        | .rt v e => if noEx e then .rt v e else .st
        | _ => .st)) else .st else .er d env
  | r => r
/-- exceptions under c are turned to d -/
def catchR (c d : Nat) (r : SR) : SR := match r with
  | .er e env => if subC e c then .er d env else .er e env
  | r => r
def whF : Nat := 5000
mutual
def exS (G : Tab) : S → DEnv → SR
  | .pass, env => .nx env
  | .set i e, env => (ev G e env).s fun v env => .nx (env.set i (some v))
  | .unp is e, env => (ev G e env).val.s fun d env => (match unpD is d env with
      | some env => .nx env
      | none => .st)
  | .par i j a b, env => (ev G a env).val.s fun x env => (ev G b env).val.s fun y env => .nx ((env.set i (some (.sh x))).set j (some (.sh y)))
  | .sti i k e, env => (ev G e env).val.s fun x env => if isOw env i then (ev G k env).val.s fun k env => upS i (fun v => stiD v k x) env else .st
  | .app i e, env => if isOl env i then (ev G e env).val.s fun x env => upS i (fun v => appD v x) env else .st
  | .appc f es e, env => (evs G es env).s fun xs env => if noLs xs then (match G.fn f xs with
      | .ok v => (match v.toD with
        | some (.lst ds) => (ev G e env).val.s fun _ env => if ds.length < szL then .nx env else .st
        | _ => .st)
      | .er c => .er c env
      | .st => .st) else .st
  | .rem i e, env => if isOl env i then (ev G e env).val.s fun x env => upS i (fun v => remD v x) env else .st
  | .ex e, env => (ev G e env).s fun _ env => .nx env
  | .ife c t f, env => (tst G c env).s fun b env => if b then exB G t env else exB G f env
  | .whl c b, env => whileL (tst G c) (exB G b) whF env
  | .for1 i it b, env => (ev G it env).val.s fun d env => (match itemsD d with
      | some xs => forL (fun x env => exB G b (env.set i (some (.sh x)))) xs env
      | none => .st)
  | .forN is it b, env => (ev G it env).val.s fun d env => (match itemsD d with
      | some xs => forL (fun x env => (match unpD is x env with
        | some env => exB G b env
        | none => .st)) xs env
      | none => .st)
  | .ret e, env => (moved e (ev G e env) env).s fun v env => .rt v env
  | .retN, env => .rt (.sh .non) env
  | .rai c, env => .er c env
  | .try_ b c n h, env => catchS c n (exB G h) (exB G b env)
  | .tryR b c d, env => catchR c d (exB G b env)
def exB (G : Tab) : List S → DEnv → SR
  | [], env => .nx env
  | s :: r, env => (exS G s env).bd fun env => exB G r env
end

/-! ### defs -/
structure Def where
  np : Nat
  nl : Nat
  body : List S
  io : Option Nat
def env0 (d : Def) (ds : List D) : DEnv := ds.map (fun x => some (.sh x)) ++ List.replicate (d.nl - ds.length) none
def SR.fr (r : SR) : FR := match r with
  | .nx _ => .ok (.sh .non)
  | .rt v _ => .ok v
  | .er c _ => .er c
  | .st => .st
def DV.plain : DV → Bool
  | .sh _ => true
  | .ol _ => true
  | _ => false
def FR.pl (r : FR) : FR := match r with
  | .ok v => if v.plain then .ok v else .st
  | r => r
def run (G : Tab) (d : Def) (ds : List D) : FR := if ds.length = d.np ∧ d.io = none then ((exB G d.body (env0 d ds)).fr).pl else .st
def runI (G : Tab) (d : Def) (xs ps ys : List D) : FI := if xs.length + 1 + ys.length = d.np ∧ d.io = some xs.length then
    (match exB G d.body (((xs ++ D.non :: ys).map (fun x => some (DV.sh x)) ++ List.replicate (d.nl - d.np) none).set xs.length (some (.op ps))) with
    | .rt v env => if v.plain then (match env[xs.length]? with
      | some (some (.op qs)) => .ok v qs
      | _ => .st) else .st
    | _ => .st) else .st
def env0I (d : Def) (xs ps ys : List D) : DEnv := ((xs ++ D.non :: ys).map (fun x => some (DV.sh x)) ++ List.replicate (d.nl - d.np) none).set xs.length (some (.op ps))
def tabOf (P : List (Nat × Def)) : Nat → Tab
  | 0 => ⟨fun _ _ => .st, fun _ _ _ _ => .st⟩
  | k + 1 => ⟨fun f ds => match look f P with
      | some d => run (tabOf P k) d ds
      | none => .st, fun f xs ps ys => match look f P with
      | some d => runI (tabOf P k) d xs ps ys
      | none => .st⟩
end Dl

namespace Dl
open PySem L2
def sT (l : T) : Str := ⟨l.toArray⟩
theorem sT_len (l : T) : (sT l).length = l.length := by simp [sT, Str.length]
theorem sT_tl (l : T) : (sT l).cps.toList = l := rfl
theorem sT_inj {l m : T} (h : sT l = sT m) : l = m := by
  have := congrArg (fun x : Str => x.cps.toList) h
  exact this
theorem sT_app (l m : T) : sT l ++ sT m = sT (l ++ m) := by
  show Str.append _ _ = _
  simp [Str.append, sT]
theorem sT_of (x : Str) : sT x.cps.toList = x := by cases x; rfl

/-! ### a dict of texts that the module's top has made -/
def KDict (K : PySem.W.Frag) (w : World) (a : Addr) (kvs : List (T × T)) : Prop :=
  (a == sysModules) = false ∧ ∃ vb : List (Key × Value), (∀ k : T, match look k kvs with
    | some v => ∃ u, valueAt vb (Sum.inr (sT k)) = some u ∧ RelV (.str (sT v)) u
    | none => valueAt vb (Sum.inr (sT k)) = none) ∧ ∀ (P : Program) (h : Heap), K.In h → h.DictOf (mixKind P w) a vb
/-! ### what stands in a heap -/
mutual
inductive Rep (K : PySem.W.Frag) (w : World) (S : Hp) : V → D → Prop
  | non : Rep K w S .non .non
  | bl (b : Bool) : Rep K w S (.bl b) (.bl b)
  | int (i : Int) : Rep K w S (.int i) (.int i)
  | str (l : T) : Rep K w S (.str (sT l)) (.str l)
  | tup {a : Addr} {vs : List V} {ds : List D} : S a = some (.tup vs) → Reps K w S vs ds → Rep K w S (.ref a) (.tup ds)
  | lst {a : Addr} {vs : List V} {ds : List D} : S a = some (.lst vs) → Reps K w S vs ds → Rep K w S (.ref a) (.lst ds)
  | scr {a : Addr} {ns : List Int} : SqL K S a (ns.map V.int) → Rep K w S (.ref a) (.scr ns)
  | dic {a : Addr} {ks : List (Key × V)} {kvs : List (T × D)} : S a = some (.dK ks) → RepK K w S ks kvs → Rep K w S (.ref a) (.dic kvs)
  | dit {a : Addr} {ks : List (List Key × V)} {kvs : List (List Int × D)} : S a = some (.dT ks) → RepT K w S ks kvs → Rep K w S (.ref a) (.dit kvs)
  | kd {a : Addr} {kvs : List (T × T)} : KDict K w a kvs → Rep K w S (.ref a) (.kd kvs)
inductive Reps (K : PySem.W.Frag) (w : World) (S : Hp) : List V → List D → Prop
  | nil : Reps K w S [] []
  | cons {v : V} {vs : List V} {d : D} {ds : List D} : Rep K w S v d → Reps K w S vs ds → Reps K w S (v :: vs) (d :: ds)
inductive RepK (K : PySem.W.Frag) (w : World) (S : Hp) : List (Key × V) → List (T × D) → Prop
  | nil : RepK K w S [] []
  | cons {v : V} {k : T} {ks : List (Key × V)} {d : D} {ds : List (T × D)} : Rep K w S v d → RepK K w S ks ds → RepK K w S ((Sum.inr (sT k), v) :: ks) ((k, d) :: ds)
inductive RepT (K : PySem.W.Frag) (w : World) (S : Hp) : List (List Key × V) → List (List Int × D) → Prop
  | nil : RepT K w S [] []
  | cons {v : V} {k : List Int} {ks : List (List Key × V)} {d : D} {ds : List (List Int × D)} : Rep K w S v d → RepT K w S ks ds → RepT K w S ((k.map Sum.inl, v) :: ks) ((k, d) :: ds)
end
section
variable {K : PySem.W.Frag} {w : World} {S S' H H' : Hp}
theorem seq_mono {a : Addr} {xs : List V} (e : Same S S') (h : SqL K S a xs) : SqL K S' a xs := e.seq h
mutual
theorem Rep.mono (e : Same S S') : ∀ (v : V) (d : D), Rep K w S v d → Rep K w S' v d
  | _, .non, h => by cases h; exact .non
  | _, .bl b, h => by cases h; exact .bl b
  | _, .int i, h => by cases h; exact .int i
  | _, .str s, h => by cases h; exact .str s
  | _, .tup ds, h => by
    cases h with
    | tup h1 h2 => exact .tup (e _ _ h1) (Reps.mono e _ ds h2)
  | _, .lst ds, h => by
    cases h with
    | lst h1 h2 => exact .lst (e _ _ h1) (Reps.mono e _ ds h2)
  | _, .scr ns, h => by
    cases h with
    | scr h1 => exact .scr (e.seq h1)
  | _, .dic kvs, h => by
    cases h with
    | dic h1 h2 => exact .dic (e _ _ h1) (RepK.mono e _ kvs h2)
  | _, .dit kvs, h => by
    cases h with
    | dit h1 h2 => exact .dit (e _ _ h1) (RepT.mono e _ kvs h2)
  | _, .kd kvs, h => by
    cases h with
    | kd h1 => exact .kd h1
theorem Reps.mono (e : Same S S') : ∀ (vs : List V) (ds : List D), Reps K w S vs ds → Reps K w S' vs ds
  | _, [], h => by cases h; exact .nil
  | _, d :: ds, h => by
    cases h with
    | cons h1 h2 => exact .cons (Rep.mono e _ d h1) (Reps.mono e _ ds h2)
theorem RepK.mono (e : Same S S') : ∀ (vs : List (Key × V)) (ds : List (T × D)), RepK K w S vs ds → RepK K w S' vs ds
  | _, [], h => by cases h; exact .nil
  | _, (k, d) :: ds, h => by
    cases h with
    | cons h1 h2 => exact .cons (Rep.mono e _ d h1) (RepK.mono e _ ds h2)
theorem RepT.mono (e : Same S S') : ∀ (vs : List (List Key × V)) (ds : List (List Int × D)), RepT K w S vs ds → RepT K w S' vs ds
  | _, [], h => by cases h; exact .nil
  | _, (k, d) :: ds, h => by
    cases h with
    | cons h1 h2 => exact .cons (Rep.mono e _ d h1) (RepT.mono e _ ds h2)
end
theorem Reps.length : ∀ {vs : List V} {ds : List D}, Reps K w S vs ds → vs.length = ds.length
  | _, _, .nil => rfl
  | _, _, .cons _ r => by rw [List.length_cons, List.length_cons, Reps.length r]
theorem Reps.app : ∀ {vs us : List V} {ds es : List D}, Reps K w S vs ds → Reps K w S us es → Reps K w S (vs ++ us) (ds ++ es)
  | _, _, _, _, .nil, h => h
  | _, _, _, _, .cons r t, h => .cons r (Reps.app t h)
theorem Reps.get : ∀ {vs : List V} {ds : List D} {i : Nat} {d : D}, Reps K w S vs ds → ds[i]? = some d → ∃ v, vs[i]? = some v ∧ Rep K w S v d
  | _, _, _, _, .nil, e => by simp at e
  | _, _, 0, _, .cons r _, e => by simp at e; subst e; exact ⟨_, rfl, r⟩
  | _, _, i + 1, d, .cons _ t, e => by
    obtain ⟨u, h1, h2⟩ := Reps.get (i := i) (d := d) t (by simpa using e)
    exact ⟨u, by simpa using h1, h2⟩
theorem Reps.getV : ∀ {vs : List V} {ds : List D} {i : Nat} {v : V}, Reps K w S vs ds → vs[i]? = some v → ∃ d, ds[i]? = some d ∧ Rep K w S v d
  | _, _, _, _, .nil, e => by simp at e
  | _, _, 0, _, .cons r _, e => by simp at e; subst e; exact ⟨_, rfl, r⟩
  | _, _, i + 1, d, .cons _ t, e => by
    obtain ⟨u, h1, h2⟩ := Reps.getV (i := i) (v := d) t (by simpa using e)
    exact ⟨u, by simpa using h1, h2⟩
theorem Reps.take : ∀ {vs : List V} {ds : List D} (n : Nat), Reps K w S vs ds → Reps K w S (vs.take n) (ds.take n)
  | _, _, 0, _ => .nil
  | _, _, _ + 1, .nil => .nil
  | _, _, n + 1, .cons r t => .cons r (Reps.take n t)
theorem Reps.drop : ∀ {vs : List V} {ds : List D} (n : Nat), Reps K w S vs ds → Reps K w S (vs.drop n) (ds.drop n)
  | _, _, 0, r => r
  | _, _, _ + 1, .nil => .nil
  | _, _, n + 1, .cons _ t => Reps.drop n t
theorem Reps.set {x : V} {d : D} (r : Rep K w S x d) : ∀ {vs : List V} {ds : List D} (i : Nat), Reps K w S vs ds → Reps K w S (vs.set i x) (ds.set i d)
  | _, _, _, .nil => .nil
  | _, _, 0, .cons _ t => .cons r t
  | _, _, i + 1, .cons q t => .cons q (Reps.set r i t)
theorem Reps.erase : ∀ {vs : List V} {ds : List D} (i : Nat), Reps K w S vs ds → Reps K w S (vs.eraseIdx i) (ds.eraseIdx i)
  | _, _, _, .nil => .nil
  | _, _, 0, .cons _ t => t
  | _, _, i + 1, .cons q t => .cons q (Reps.erase i t)
theorem Reps.rep {vs : List V} {ds : List D} (h : Reps K w S vs ds) : ∀ k : Nat, Reps K w S (List.replicate k vs).flatten (List.replicate k ds).flatten
  | 0 => .nil
  | k + 1 => by
    rw [List.replicate_succ, List.replicate_succ, List.flatten_cons, List.flatten_cons]
    exact h.app (h.rep k)
theorem Reps.one {v : V} {d : D} (h : Rep K w S v d) : Reps K w S [v] [d] := .cons h .nil
end

/-! ### the state -/
/-- what is fixed while a body runs -/
structure Pm where
  K : PySem.W.Frag
  w : World
  H0 : Hp
  S0 : Hp
  aP : Addr
  XC : Addr → Nat → Prop
  cv : Nat → Value
abbrev Pm.Rep (P : Pm) (S : Hp) : V → D → Prop := Dl.Rep P.K P.w S
abbrev Pm.Reps (P : Pm) (S : Hp) : List V → List D → Prop := Dl.Reps P.K P.w S

/-- what a thing of one's own is at its address -/
def OwnAt (P : Pm) (H S : Hp) (a : Addr) : DV → Prop
  | .ol ds => ∃ vs, H a = some (.lst vs) ∧ P.Reps S vs ds
  | .op ds => ∃ vs, H a = some (.lst vs) ∧ P.Reps S vs ds
  | .od kvs => ∃ ks, H a = some (.dK ks) ∧ RepK P.K P.w S ks kvs
  | .ot kvs => ∃ ks, H a = some (.dT ks) ∧ RepT P.K P.w S ks kvs
  | _ => False
def SlotR (P : Pm) (H S : Hp) (v : V) : DV → Prop
  | .sh d => P.Rep S v d
  | .ex c => ∃ a, v = .ref a ∧ P.XC a c
  | .op ds => v = .ref P.aP ∧ P.H0 P.aP = none ∧ S P.aP = none ∧ OwnAt P H S P.aP (.op ds)
  | u => ∃ a, v = .ref a ∧ P.H0 a = none ∧ S a = none ∧ OwnAt P H S a u
theorem SlotR.ol_mk {P : Pm} {H S : Hp} {a : Addr} {vs : List V} {ds : List D} (h0 : P.H0 a = none) (hS : S a = none) (h : H a = some (.lst vs)) (r : P.Reps S vs ds) : SlotR P H S (.ref a) (.ol ds) := ⟨a, rfl, h0, hS, vs, h, r⟩
/-- of a thing of one's own: its address -/
theorem SlotR.own {P : Pm} {H S : Hp} {v : V} {u : DV} (h : SlotR P H S v u) (o : u.own = true) : ∃ a, v = .ref a ∧ P.H0 a = none ∧ S a = none ∧ OwnAt P H S a u := by
  cases u with
  | sh d => cases o
  | ex c => cases o
  | op ds => exact ⟨P.aP, h⟩
  | ol ds => exact h
  | od kvs => exact h
  | ot kvs => exact h
theorem OwnAt.ex {P : Pm} {H S : Hp} {a : Addr} {u : DV} (h : OwnAt P H S a u) : ∃ o, H a = some o := by
  cases u with
  | sh d => exact h.elim
  | ex c => exact h.elim
  | op ds => obtain ⟨vs, e, _⟩ := h; exact ⟨_, e⟩
  | ol ds => obtain ⟨vs, e, _⟩ := h; exact ⟨_, e⟩
  | od kvs => obtain ⟨vs, e, _⟩ := h; exact ⟨_, e⟩
  | ot kvs => obtain ⟨vs, e, _⟩ := h; exact ⟨_, e⟩
theorem OwnAt.mono {P : Pm} {H S H' S' : Hp} {a : Addr} {u : DV} (e : Same S S') (ha : ∀ o, H a = some o → H' a = some o) (h : OwnAt P H S a u) : OwnAt P H' S' a u := by
  cases u with
  | sh d => exact h.elim
  | ex c => exact h.elim
  | op ds => obtain ⟨vs, q, r⟩ := h; exact ⟨_, ha _ q, Reps.mono e _ _ r⟩
  | ol ds => obtain ⟨vs, q, r⟩ := h; exact ⟨_, ha _ q, Reps.mono e _ _ r⟩
  | od kvs => obtain ⟨vs, q, r⟩ := h; exact ⟨_, ha _ q, RepK.mono e _ _ r⟩
  | ot kvs => obtain ⟨vs, q, r⟩ := h; exact ⟨_, ha _ q, RepT.mono e _ _ r⟩

/-- no place of one's own is at a -/
def NotSlot (σ : L2.St) (env : DEnv) (a : Addr) : Prop := ∀ (i : Nat) (u : DV), env[i]? = some (some u) → u.own = true → σ[i]? ≠ some (some (V.ref a))
structure StOk (P : Pm) (σ : L2.St) (env : DEnv) (H S : Hp) : Prop where
  sub : Same S H
  base : Same P.H0 H
  s0 : Same P.S0 S
  fr : ∀ a o, S a = some o → P.S0 a = none → P.H0 a = none
  sl : ∀ (i : Nat) (u : DV), env[i]? = some (some u) → ∃ v, σ[i]? = some (some v) ∧ SlotR P H S v u
  ds : ∀ (i j : Nat) (u v : DV) (a : Addr), env[i]? = some (some u) → u.own = true → env[j]? = some (some v) → v.own = true → σ[i]? = some (some (V.ref a)) → σ[j]? = some (some (V.ref a)) → i = j
  ln : σ.length = env.length
/-- a value's standing -/
def ValR (P : Pm) (σ : L2.St) (env : DEnv) (H S : Hp) (v : V) : DV → Prop
  | .sh d => P.Rep S v d
  | .ex _ => False
  | .op _ => False
  | u => ∃ a, v = .ref a ∧ P.H0 a = none ∧ S a = none ∧ OwnAt P H S a u ∧ NotSlot σ env a
theorem ValR.own {P : Pm} {σ : L2.St} {env : DEnv} {H S : Hp} {v : V} {u : DV} (h : ValR P σ env H S v u) (o : u.own = true) : ∃ a, v = .ref a ∧ P.H0 a = none ∧ S a = none ∧ OwnAt P H S a u ∧ NotSlot σ env a := by
  cases u with
  | sh d => cases o
  | ex c => cases o
  | op ds => exact h.elim
  | ol ds => exact h
  | od kvs => exact h
  | ot kvs => exact h
/-- from here to there nothing that stood is changed -/
structure Ext (H S H' S' : Hp) : Prop where
  h : Same H H'
  s : Same S S'
theorem Ext.refl (H S : Hp) : Ext H S H S := ⟨Same.refl _, Same.refl _⟩
theorem Ext.trans {H S H1 S1 H2 S2 : Hp} (a : Ext H S H1 S1) (b : Ext H1 S1 H2 S2) : Ext H S H2 S2 := ⟨a.h.trans b.h, a.s.trans b.s⟩
theorem none_of_same {H H' : Hp} (e : Same H H') {a : Addr} (h : H' a = none) : H a = none := e.free h
section
variable {P : Pm} {σ : L2.St} {env : DEnv} {H S H' S' : Hp}
/-- the heaps grow by new things -/
theorem StOk.ext (h : StOk P σ env H S) (eh : Same H H') (es : Same S S') (sub : Same S' H') (nw : ∀ a o, S' a = some o → S a = none → H a = none) : StOk P σ env H' S' where
  sub := sub
  base := h.base.trans eh
  s0 := h.s0.trans es
  fr := fun a o e1 e0 => by
    cases q : S a with
    | none => exact h.base.free (nw a o e1 q)
    | some u => exact h.fr a u q e0
  sl := fun i u e => by
    obtain ⟨v, e1, r⟩ := h.sl i u e
    refine ⟨v, e1, ?_⟩
    have keep : ∀ a w, S a = none → OwnAt P H S a w → S' a = none ∧ OwnAt P H' S' a w := fun a w n q => by
      obtain ⟨o, ho⟩ := q.ex
      refine ⟨?_, q.mono es (eh a)⟩
      cases z : S' a with
      | none => rfl
      | some o' => rw [nw a o' z n] at ho; cases ho
    cases u with
    | sh d => exact Rep.mono es _ _ r
    | ex c => exact r
    | op ds => obtain ⟨e1, e2, e3, q⟩ := r; obtain ⟨k1, k2⟩ := keep _ _ e3 q; exact ⟨e1, e2, k1, k2⟩
    | ol ds => obtain ⟨a, e1, e2, e3, q⟩ := r; obtain ⟨k1, k2⟩ := keep _ _ e3 q; exact ⟨a, e1, e2, k1, k2⟩
    | od ds => obtain ⟨a, e1, e2, e3, q⟩ := r; obtain ⟨k1, k2⟩ := keep _ _ e3 q; exact ⟨a, e1, e2, k1, k2⟩
    | ot ds => obtain ⟨a, e1, e2, e3, q⟩ := r; obtain ⟨k1, k2⟩ := keep _ _ e3 q; exact ⟨a, e1, e2, k1, k2⟩
  ds := h.ds
  ln := h.ln
theorem same_upd {H : Hp} {p : Addr} {o : HO} (h : H p = none) : Same H (upd H p o) := fun b x e => by
  rw [upd_ne (ne_of_none e h)]
  exact e
theorem same_upd2 {S H : Hp} {p : Addr} {o : HO} (e : Same S H) (h : S p = none) : Same (upd S p o) (upd H p o) := fun b x q => by
  by_cases hb : b = p
  · subst hb
    rw [upd_same] at q ⊢
    exact q
  · rw [upd_ne hb] at q ⊢
    exact e _ _ q
/-- a new shared thing at p -/
theorem StOk.new (h : StOk P σ env H S) {p : Addr} {o : HO} (np : H p = none) : StOk P σ env (upd H p o) (upd S p o) :=
  have sp : S p = none := h.sub.free np
  h.ext (same_upd np) (same_upd sp) (same_upd2 h.sub sp) fun a o' e n => by
    by_cases ha : a = p
    · subst ha; exact np
    · rw [upd_ne ha, n] at e; cases e
theorem Ext.new {H S : Hp} {p : Addr} {o : HO} (np : H p = none) (sp : S p = none) : Ext H S (upd H p o) (upd S p o) := ⟨same_upd np, same_upd sp⟩
/-- a new thing of one's own at p, not shared -/
theorem StOk.newO (h : StOk P σ env H S) {p : Addr} {o : HO} (np : H p = none) : StOk P σ env (upd H p o) S :=
  h.ext (same_upd np) (Same.refl _) (fun a x e => same_upd np a x (h.sub a x e)) fun a o' e n => by rw [n] at e; cases e
theorem StOk.notSlot (h : StOk P σ env H S) {p : Addr} (np : H p = none) : NotSlot σ env p := fun i u e o z => by
  obtain ⟨v, e1, r⟩ := h.sl i u e
  obtain ⟨a, rfl, _, _, q⟩ := r.own o
  rw [z] at e1
  cases e1
  obtain ⟨x, hx⟩ := q.ex
  rw [np] at hx; cases hx
theorem StOk.h0 (h : StOk P σ env H S) {p : Addr} (np : H p = none) : P.H0 p = none := h.base.free np
theorem StOk.s0n (h : StOk P σ env H S) {p : Addr} (np : H p = none) : S p = none := h.sub.free np
/-- a thing of one's own at a becomes shared: the object there goes into S -/
theorem StOk.shareAt (h : StOk P σ env H S) {a : Addr} {o : HO} (h0 : P.H0 a = none) (hS : S a = none) (ha : H a = some o) (ns : NotSlot σ env a) : StOk P σ env H (upd S a o) := by
  have es : Same S (upd S a o) := same_upd hS
  refine ⟨fun b x q => ?_, h.base, h.s0.trans es, fun b x q e0 => ?_, fun i u e => ?_, h.ds, h.ln⟩
  · by_cases hb : b = a
    · subst hb; rw [upd_same] at q; cases q; exact ha
    · rw [upd_ne hb] at q; exact h.sub _ _ q
  · by_cases hb : b = a
    · subst hb; exact h0
    · rw [upd_ne hb] at q; exact h.fr b x q e0
  · obtain ⟨v, e1, r⟩ := h.sl i u e
    refine ⟨v, e1, ?_⟩
    have ne : ∀ b, u.own = true → v = .ref b → b ≠ a := fun b hu hv z => ns i u e hu (by rw [e1, hv, z])
    have keep : ∀ b w, b ≠ a → S b = none → OwnAt P H S b w → upd S a o b = none ∧ OwnAt P H (upd S a o) b w := fun b w nb n q => ⟨by rw [upd_ne nb]; exact n, q.mono es fun _ z => z⟩
    cases u with
    | sh d => exact Rep.mono es _ _ r
    | ex c => exact r
    | op ds => obtain ⟨f1, f2, f3, q⟩ := r; obtain ⟨k1, k2⟩ := keep _ _ (ne _ rfl f1) f3 q; exact ⟨f1, f2, k1, k2⟩
    | ol ds => obtain ⟨b, f1, f2, f3, q⟩ := r; obtain ⟨k1, k2⟩ := keep _ _ (ne _ rfl f1) f3 q; exact ⟨b, f1, f2, k1, k2⟩
    | od ds => obtain ⟨b, f1, f2, f3, q⟩ := r; obtain ⟨k1, k2⟩ := keep _ _ (ne _ rfl f1) f3 q; exact ⟨b, f1, f2, k1, k2⟩
    | ot ds => obtain ⟨b, f1, f2, f3, q⟩ := r; obtain ⟨k1, k2⟩ := keep _ _ (ne _ rfl f1) f3 q; exact ⟨b, f1, f2, k1, k2⟩
/-- a thing that no place of one's own is, changed -/
theorem StOk.mut (h : StOk P σ env H S) {a : Addr} {o : HO} (h0 : P.H0 a = none) (hS : S a = none) (ns : NotSlot σ env a) : StOk P σ env (upd H a o) S := by
  refine ⟨fun b x q => ?_, fun b x q => ?_, h.s0, h.fr, fun i u e => ?_, h.ds, h.ln⟩
  · rw [upd_ne (ne_of_none q hS)]; exact h.sub _ _ q
  · rw [upd_ne (ne_of_none q h0)]; exact h.base _ _ q
  · obtain ⟨v, e1, r⟩ := h.sl i u e
    refine ⟨v, e1, ?_⟩
    have ne : ∀ b, u.own = true → v = .ref b → b ≠ a := fun b hu hv z => ns i u e hu (by rw [e1, hv, z])
    have keep : ∀ b w, b ≠ a → OwnAt P H S b w → OwnAt P (upd H a o) S b w := fun b w nb q => q.mono (Same.refl _) fun x z => by rw [upd_ne nb]; exact z
    cases u with
    | sh d => exact r
    | ex c => exact r
    | op ds => obtain ⟨f1, f2, f3, q⟩ := r; exact ⟨f1, f2, f3, keep _ _ (ne _ rfl f1) q⟩
    | ol ds => obtain ⟨b, f1, f2, f3, q⟩ := r; exact ⟨b, f1, f2, f3, keep _ _ (ne _ rfl f1) q⟩
    | od ds => obtain ⟨b, f1, f2, f3, q⟩ := r; exact ⟨b, f1, f2, f3, keep _ _ (ne _ rfl f1) q⟩
    | ot ds => obtain ⟨b, f1, f2, f3, q⟩ := r; exact ⟨b, f1, f2, f3, keep _ _ (ne _ rfl f1) q⟩
/-- what an own thing is as data -/
def ownHO (H : Hp) (a : Addr) : HO := (H a).getD (.lst [])
theorem OwnAt.rep {a : Addr} {u : DV} {d : D} (hS : S a = none) (q : OwnAt P H S a u) (hd : u.toD = some d) : ∃ o, H a = some o ∧ P.Rep (upd S a o) (.ref a) d := by
  cases u with
  | sh d => exact q.elim
  | ex c => exact q.elim
  | op ds => cases hd
  | ol ds =>
    cases hd
    obtain ⟨vs, e, r⟩ := q
    exact ⟨_, e, .lst upd_same (Reps.mono (same_upd hS) _ _ r)⟩
  | od kvs =>
    cases hd
    obtain ⟨vs, e, r⟩ := q
    exact ⟨_, e, .dic upd_same (RepK.mono (same_upd hS) _ _ r)⟩
  | ot kvs =>
    cases hd
    obtain ⟨vs, e, r⟩ := q
    exact ⟨_, e, .dit upd_same (RepT.mono (same_upd hS) _ _ r)⟩
/-- a value, shared -/
theorem ValR.share {v : V} {u : DV} {d : D} (h : StOk P σ env H S) (r : ValR P σ env H S v u) (hd : u.toD = some d) : ∃ S', Same S S' ∧ StOk P σ env H S' ∧ P.Rep S' v d := by
  cases ho : u.own with
  | false =>
    cases u with
    | sh e => cases hd; exact ⟨S, Same.refl _, h, r⟩
    | ex c => cases hd
    | op ds => cases ho
    | ol ds => cases ho
    | od ds => cases ho
    | ot ds => cases ho
  | true =>
    obtain ⟨a, rfl, h0, hS, q, ns⟩ := r.own ho
    obtain ⟨o, ha, rp⟩ := q.rep hS hd
    exact ⟨upd S a o, same_upd hS, h.shareAt h0 hS ha ns, rp⟩
/-- a slot is given a value -/
theorem StOk.setV {v : V} {u : DV} (h : StOk P σ env H S) (r : ValR P σ env H S v u) (i : Nat) : StOk P (σ.set i (some v)) (env.set i (some u)) H S := by
  have key : ∀ j k u' v' a, (env.set i (some u))[j]? = some (some u') → u'.own = true → (env.set i (some u))[k]? = some (some v') → v'.own = true → (σ.set i (some v))[j]? = some (some (V.ref a)) → (σ.set i (some v))[k]? = some (some (V.ref a)) → i = j → i ≠ k → False := by
    intro j k u' v' a e1 o1 e2 o2 s1 s2 hj hk
    subst hj
    rw [List.getElem?_set_ne hk] at e2 s2
    have hl : i < env.length := by
      by_cases hl : i < env.length
      · exact hl
      · rw [List.getElem?_eq_none (by simpa using hl)] at e1; cases e1
    rw [List.getElem?_set_self hl] at e1
    cases e1
    rw [List.getElem?_set_self (by rw [h.ln]; exact hl)] at s1
    cases s1
    obtain ⟨b, hb, _, _, _, ns⟩ := r.own o1
    cases hb
    exact ns k v' e2 o2 s2
  refine ⟨h.sub, h.base, h.s0, h.fr, fun j w e => ?_, fun j k u' v' a e1 o1 e2 o2 s1 s2 => ?_, by rw [List.length_set, List.length_set]; exact h.ln⟩
  · by_cases hj : i = j
    · subst hj
      by_cases hl : i < env.length
      · rw [List.getElem?_set_self hl] at e
        cases e
        refine ⟨v, by rw [List.getElem?_set_self (by rw [h.ln]; exact hl)], ?_⟩
        cases u with
        | sh d => exact r
        | ex c => exact r.elim
        | op ds => exact r.elim
        | ol ds => obtain ⟨a, f1, f2, f3, q, _⟩ := r; exact ⟨a, f1, f2, f3, q⟩
        | od ds => obtain ⟨a, f1, f2, f3, q, _⟩ := r; exact ⟨a, f1, f2, f3, q⟩
        | ot ds => obtain ⟨a, f1, f2, f3, q, _⟩ := r; exact ⟨a, f1, f2, f3, q⟩
      · rw [List.getElem?_eq_none (by simpa using hl)] at e; cases e
    · rw [List.getElem?_set_ne hj] at e ⊢
      exact h.sl j w e
  · by_cases hj : i = j
    · by_cases hk : i = k
      · omega
      · exact (key j k u' v' a e1 o1 e2 o2 s1 s2 hj hk).elim
    · by_cases hk : i = k
      · exact (key k j v' u' a e2 o2 e1 o1 s2 s1 hk hj).elim
      · rw [List.getElem?_set_ne hj] at e1 s1
        rw [List.getElem?_set_ne hk] at e2 s2
        exact h.ds j k u' v' a e1 o1 e2 o2 s1 s2
/-- a slot is forgotten -/
theorem StOk.clr (h : StOk P σ env H S) (i : Nat) (x : Option V) : StOk P (σ.set i x) (env.set i none) H S := by
  have ne : ∀ j (u : DV), (env.set i none)[j]? = some (some u) → i ≠ j ∧ env[j]? = some (some u) := fun j u e => by
    by_cases hj : i = j
    · subst hj
      by_cases hl : i < env.length
      · rw [List.getElem?_set_self hl] at e; cases e
      · rw [List.getElem?_eq_none (by simpa using hl)] at e; cases e
    · rw [List.getElem?_set_ne hj] at e; exact ⟨hj, e⟩
  refine ⟨h.sub, h.base, h.s0, h.fr, fun j w e => ?_, fun j k u' v' a e1 o1 e2 o2 s1 s2 => ?_, by rw [List.length_set, List.length_set]; exact h.ln⟩
  · obtain ⟨hj, e⟩ := ne j w e
    rw [List.getElem?_set_ne hj]
    exact h.sl j w e
  · obtain ⟨hj, e1⟩ := ne j _ e1
    obtain ⟨hk, e2⟩ := ne k _ e2
    rw [List.getElem?_set_ne hj] at s1
    rw [List.getElem?_set_ne hk] at s2
    exact h.ds j k u' v' a e1 o1 e2 o2 s1 s2
/-- a slot's thing of one's own becomes shared -/
theorem StOk.shareSlot (h : StOk P σ env H S) {i : Nat} {u : DV} {d : D} (e : env[i]? = some (some u)) (ho : u.own = true) (hd : u.toD = some d) :
    ∃ v S', σ[i]? = some (some v) ∧ Same S S' ∧ StOk P σ (env.set i (some (.sh d))) H S' ∧ P.Rep S' v d := by
  obtain ⟨v, e1, r⟩ := h.sl i u e
  obtain ⟨a, rfl, h0, hS, q⟩ := r.own ho
  obtain ⟨o, ha, rp⟩ := q.rep hS hd
  have h1 := h.clr i (some (.ref a))
  have ns : NotSlot (σ.set i (some (.ref a))) (env.set i none) a := fun j w f1 f2 f3 => by
    by_cases hj : i = j
    · subst hj
      by_cases hl : i < env.length
      · rw [List.getElem?_set_self hl] at f1; cases f1
      · rw [List.getElem?_eq_none (by simpa using hl)] at f1; cases f1
    · rw [List.getElem?_set_ne hj] at f1 f3
      exact hj (h.ds i j u w a e ho f1 f2 e1 f3)
  have h2 := h1.shareAt h0 hS ha ns
  have h3 := h2.setV (v := .ref a) (u := .sh d) rp i
  rw [List.set_set, List.set_set] at h3
  have hi : i < σ.length := by
    by_cases hl : i < σ.length
    · exact hl
    · rw [List.getElem?_eq_none (by simpa using hl)] at e1; cases e1
  have e2 : σ.set i (some (.ref a)) = σ := by
    apply List.ext_getElem?
    intro j
    by_cases hj : i = j
    · subst hj; rw [List.getElem?_set_self hi, e1]
    · rw [List.getElem?_set_ne hj]
  rw [e2] at h3
  exact ⟨.ref a, _, e1, same_upd hS, h3, rp⟩
end
end Dl

namespace Dl
open PySem L2
abbrev LSt := L2.St
/-! ### what a reading must reach, by what the semantics answers -/
section
variable {α β γ δ : Type}
def RG (P : Pm) (W : WX) (σ : LSt) (R : α → β → DEnv → Hp → Hp → Prop) (H S : Hp) (Q : β → Hp → Prop) (r : Res α) : Prop := match r with
  | .ok u env => ∀ x H' S', Ext H S H' S' → StOk P σ env H' S' → R u x env H' S' → Q x H'
  | .er c env => ∀ H' S', Ext H S H' S' → StOk P σ env H' S' → W (P.cv c) none σ H'
  | .st => False
variable {P : Pm} {W : WX} {σ : LSt} {H S H' S' : Hp}
theorem RG.shift {R : α → β → DEnv → Hp → Hp → Prop} {Q : β → Hp → Prop} {r : Res α} (h : RG P W σ R H S Q r) (e : Ext H S H' S') : RG P W σ R H' S' Q r := by
  cases r with
  | ok u env => exact fun x H1 S1 e1 => h x H1 S1 (e.trans e1)
  | er c env => exact fun H1 S1 e1 => h H1 S1 (e.trans e1)
  | st => exact h
theorem RG.bind {R : α → β → DEnv → Hp → Hp → Prop} {R2 : γ → δ → DEnv → Hp → Hp → Prop} {Q' : β → Hp → Prop} {Q : δ → Hp → Prop} {fa : Res α} {k : α → DEnv → Res γ} (h : RG P W σ R2 H S Q (fa.bd k))
    (hk : ∀ u env x H' S', Ext H S H' S' → StOk P σ env H' S' → R u x env H' S' → RG P W σ R2 H' S' Q (k u env) → Q' x H') : RG P W σ R H S Q' fa := by
  cases fa with
  | ok u env => exact fun x H1 S1 e1 ok1 r1 => hk u env x H1 S1 e1 ok1 r1 (RG.shift h e1)
  | er c env => exact h
  | st => exact h
/-- the end -/
theorem RG.now {R : α → β → DEnv → Hp → Hp → Prop} {Q : β → Hp → Prop} {u : α} {env : DEnv} {x : β} (h : RG P W σ R H S Q (.ok u env)) (ok : StOk P σ env H S) (r : R u x env H S) : Q x H := h x H S (Ext.refl _ _) ok r
theorem RG.at_ {R : α → β → DEnv → Hp → Hp → Prop} {Q : β → Hp → Prop} {u : α} {env : DEnv} {x : β} (h : RG P W σ R H S Q (.ok u env)) (e : Ext H S H' S') (ok : StOk P σ env H' S') (r : R u x env H' S') : Q x H' := h x H' S' e ok r

/-- a reading does what the semantics says -/
def Ev (P : Pm) (W : WX) (t : LSt → Hp → (β → Hp → Prop) → Prop) (R : LSt → α → β → DEnv → Hp → Hp → Prop) (f : DEnv → Res α) : Prop :=
  ∀ (σ : LSt) (env : DEnv) (H S : Hp) (Q : β → Hp → Prop), StOk P σ env H S → RG P W σ (R σ) H S Q (f env) → t σ H Q
end
/-- a borrowed value -/
inductive BorR (P : Pm) (H S : Hp) : V → D → Prop
  | rep {v : V} {d : D} : P.Rep S v d → BorR P H S v d
  | lst {a : Addr} {vs : List V} {ds : List D} : H a = some (.lst vs) → P.Reps S vs ds → BorR P H S (.ref a) (.lst ds)
  | dic {a : Addr} {ks : List (Key × V)} {kvs : List (T × D)} : H a = some (.dK ks) → RepK P.K P.w S ks kvs → BorR P H S (.ref a) (.dic kvs)
  | dit {a : Addr} {ks : List (List Key × V)} {kvs : List (List Int × D)} : H a = some (.dT ks) → RepT P.K P.w S ks kvs → BorR P H S (.ref a) (.dit kvs)
theorem BorR.mono {P : Pm} {H S H' S' : Hp} (e : Ext H S H' S') {v : V} {d : D} (h : BorR P H S v d) : BorR P H' S' v d := by
  cases h with
  | rep r => exact .rep (Rep.mono e.s _ _ r)
  | lst h1 r => exact .lst (e.h _ _ h1) (Reps.mono e.s _ _ r)
  | dic h1 r => exact .dic (e.h _ _ h1) (RepK.mono e.s _ _ r)
  | dit h1 r => exact .dit (e.h _ _ h1) (RepT.mono e.s _ _ r)
theorem BorR.toLst {P : Pm} {H S : Hp} (sub : Same S H) {v : V} {ds : List D} (h : BorR P H S v (.lst ds)) : ∃ a vs, v = .ref a ∧ H a = some (.lst vs) ∧ P.Reps S vs ds := by
  cases h with
  | rep r =>
    cases r with
    | lst h1 h2 => exact ⟨_, _, rfl, sub _ _ h1, h2⟩
  | lst h1 r => exact ⟨_, _, rfl, h1, r⟩
theorem BorR.toTup {P : Pm} {H S : Hp} (sub : Same S H) {v : V} {ds : List D} (h : BorR P H S v (.tup ds)) : ∃ a vs, v = .ref a ∧ H a = some (.tup vs) ∧ S a = some (.tup vs) ∧ P.Reps S vs ds := by
  cases h with
  | rep r =>
    cases r with
    | tup h1 h2 => exact ⟨_, _, rfl, sub _ _ h1, h1, h2⟩
theorem BorR.toInt {P : Pm} {H S : Hp} {v : V} {i : Int} (h : BorR P H S v (.int i)) : v = .int i := by
  cases h with
  | rep r => cases r; rfl
theorem BorR.toBl {P : Pm} {H S : Hp} {v : V} {i : Bool} (h : BorR P H S v (.bl i)) : v = .bl i := by
  cases h with
  | rep r => cases r; rfl
theorem BorR.toStr {P : Pm} {H S : Hp} {v : V} {i : T} (h : BorR P H S v (.str i)) : v = .str (sT i) := by
  cases h with
  | rep r => cases r; rfl
theorem BorR.toNon {P : Pm} {H S : Hp} {v : V} (h : BorR P H S v .non) : v = .non := by
  cases h with
  | rep r => cases r; rfl

abbrev RV (P : Pm) : LSt → DV → V → DEnv → Hp → Hp → Prop := fun σ u x env H S => ValR P σ env H S x u
abbrev RD (P : Pm) : LSt → D → V → DEnv → Hp → Hp → Prop := fun _ d x _ _ S => P.Rep S x d
abbrev RB (P : Pm) : LSt → D → V → DEnv → Hp → Hp → Prop := fun _ d x _ H S => BorR P H S x d
abbrev RA (P : Pm) : LSt → List D → List V → DEnv → Hp → Hp → Prop := fun _ d x _ _ S => P.Reps S x d
abbrev RT : LSt → Bool → Bool → DEnv → Hp → Hp → Prop := fun _ d x _ _ _ => x = d
abbrev RO : LSt → Option Int → Option Int → DEnv → Hp → Hp → Prop := fun _ d x _ _ _ => x = d
inductive Bors (P : Pm) (H S : Hp) : List V → List D → Prop
  | nil : Bors P H S [] []
  | cons {v : V} {vs : List V} {d : D} {ds : List D} : BorR P H S v d → Bors P H S vs ds → Bors P H S (v :: vs) (d :: ds)
theorem Bors.mono {P : Pm} {H S H' S' : Hp} (e : Ext H S H' S') : ∀ {v : List V} {d : List D}, Bors P H S v d → Bors P H' S' v d
  | _, _, .nil => .nil
  | _, _, .cons a b => .cons (a.mono e) (Bors.mono e b)
abbrev RBs (P : Pm) : LSt → List D → List V → DEnv → Hp → Hp → Prop := fun _ d x _ H S => Bors P H S x d

/-! ### what an expression does -/
structure Cn where
  X : Cx
  W : WX
  P : Pm
  G : Tab
def SE (C : Cn) (e : Expr) (m : E) : Prop := ∃ t, PE C.X e t ∧ Ev C.P C.W t (RV C.P) (ev C.G m)
def SD (C : Cn) (e : Expr) (m : E) : Prop := ∃ t, PE C.X e t ∧ Ev C.P C.W t (RD C.P) fun env => (ev C.G m env).val
def SBo (C : Cn) (e : Expr) (m : E) : Prop := ∃ t, PE C.X e t ∧ Ev C.P C.W t (RB C.P) fun env => brw m (ev C.G m env) env
def SA (C : Cn) (es : List Expr) (ms : List E) : Prop := ∃ t, PA C.X es t ∧ Ev C.P C.W t (RA C.P) (evs C.G ms)
def SAb (C : Cn) (es : List Expr) (ms : List E) : Prop := ∃ t, PA C.X es t ∧ Ev C.P C.W t (RBs C.P) (evb C.G ms)
def ST (C : Cn) (e : Expr) (m : E) : Prop := ∃ t, PT C.X e t ∧ Ev C.P C.W t RT (tst C.G m)
def SO (C : Cn) (e : Option Expr) (m : Option E) : Prop := ∃ t, PO C.X e t ∧ Ev C.P C.W t RO (evo C.G m)
theorem SE.d {C : Cn} {e : Expr} {m : E} (h : SE C e m) : SD C e m := by
  obtain ⟨t, hp, he⟩ := h
  refine ⟨t, hp, fun σ env H S Q ok q => he σ env H S Q ok (RG.bind (R2 := RD C.P σ) (Q := Q) q fun u env' x H' S' e' ok' r q' => ?_)⟩
  cases hd : u.toD with
  | none => rw [hd] at q'; exact q'.elim
  | some d =>
    rw [hd] at q'
    obtain ⟨S'', es, ok'', rp⟩ := ValR.share ok' r hd
    exact RG.at_ q' ⟨Same.refl _, es⟩ ok'' rp
theorem SE.b {C : Cn} {e : Expr} {m : E} (h : SE C e m) (hm : isVar m = none) : SBo C e m := by
  obtain ⟨t, hp, he⟩ := h.d
  refine ⟨t, hp, fun σ env H S Q ok q => he σ env H S Q ok ?_⟩
  have e1 : brw m (ev C.G m env) env = (ev C.G m env).val := by
    unfold brw
    rw [hm]
  have q : RG C.P C.W σ (RB C.P σ) H S Q (brw m (ev C.G m env) env) := q
  rw [e1] at q
  show RG C.P C.W σ (RD C.P σ) H S Q (ev C.G m env).val
  revert q
  cases (ev C.G m env).val with
  | ok u env' => exact fun q x H' S' e ok' r => q x H' S' e ok' (.rep r)
  | er c env' => exact fun q => q
  | st => exact fun q => q

/-! ### laid things -/
section
variable {P : Pm} {W : WX} {σ : LSt} {H S : Hp} {Q : VK} {env : DEnv}
theorem RG.newO {u : DV} {o : HO} {p : Addr} (q : RG P W σ (RV P σ) H S Q (.ok u env)) (ok : StOk P σ env H S) (np : H p = none) (hu : OwnAt P (upd H p o) S p u) (ho : u.own = true) (hn : ∀ ds, u ≠ .op ds) : Q (.ref p) (upd H p o) := by
  refine q _ _ S ⟨same_upd np, Same.refl _⟩ (ok.newO np) ?_
  have g : ∃ a, V.ref p = .ref a ∧ P.H0 a = none ∧ S a = none ∧ OwnAt P (upd H p o) S a u ∧ NotSlot σ env a := ⟨p, rfl, ok.h0 np, ok.s0n np, hu, ok.notSlot np⟩
  cases u with
  | sh d => cases ho
  | ex c => cases ho
  | op ds => exact (hn ds rfl).elim
  | ol ds => exact g
  | od ds => exact g
  | ot ds => exact g
theorem RG.newL {ds : List D} {vs : List V} {p : Addr} (q : RG P W σ (RV P σ) H S Q (.ok (.ol ds) env)) (ok : StOk P σ env H S) (np : H p = none) (r : P.Reps S vs ds) : Q (.ref p) (upd H p (.lst vs)) :=
  RG.newO q ok np ⟨vs, upd_same, r⟩ rfl (fun _ z => nomatch z)
theorem RG.newT {ds : List D} {vs : List V} {p : Addr} (q : RG P W σ (RV P σ) H S Q (.ok (.sh (.tup ds)) env)) (ok : StOk P σ env H S) (np : H p = none) (r : P.Reps S vs ds) : Q (.ref p) (upd H p (.tup vs)) :=
  have sp := ok.s0n np
  q _ _ (upd S p (.tup vs)) (Ext.new np sp) (ok.new np) (Rep.tup upd_same (Reps.mono (same_upd sp) _ _ r))
end
theorem szL_eq : szL = sizeLine := by rw [sizeLine_eq]; rfl
theorem le_szL {n : Nat} (h : n ≤ szL) : n ≤ sizeLine := by rw [← szL_eq]; exact h

/-! ### the operations, by values -/
section
variable {P : Pm} {W : WX} {σ : LSt} {H S : Hp} {Q : VK} {env : DEnv} {x y : V} {a b : D}
/-- two-place operations: what the reading of a rule asks -/
def OpS (P : Pm) (r : R2) (f : D → D → Option DV) : Prop := ∀ (W : WX) (σ : LSt) (env : DEnv) (H S : Hp) (Q : VK) (x y : V) (a b : D), StOk P σ env H S → BorR P H S x a → BorR P H S y b → RG P W σ (RV P σ) H S Q (.of (f a b) env) → r x y H Q
/-- comparisons -/
def CmpS (P : Pm) (r : R2) (f : D → D → Option Bool) : Prop := ∀ (H S : Hp) (Q : VK) (x y : V) (a b : D) (k : Bool), Same S H → BorR P H S x a → BorR P H S y b → f a b = some k → Q (.bl k) H → r x y H Q
end

def rAddAll (K : PySem.W.Frag) : R2 := fun x y H Q => (∃ i j, x = .int i ∧ y = .int j ∧ Q (.int (i + j)) H) ∨ (∃ i j, x = .str i ∧ y = .str j ∧ i.length + j.length ≤ sizeLine ∧ Q (.str (i ++ j)) H) ∨ rCatA K x y H Q ∨ rCat x y H Q
theorem op_addAll {X : Cx} : OpR X (binaryOp .Add) (rAddAll X.K) := OpR.or op_add (OpR.or op_add_str (OpR.or op_catA op_cat))
theorem add_S {P : Pm} : OpS P (rAddAll P.K) addD := by
  intro W σ env H S Q x y a b ok hx hy q
  have bad : ∀ {A : Prop}, RG P W σ (RV P σ) H S Q (.of none env) → A := fun z => z.elim
  cases a with
  | int i =>
    cases b with
    | int j =>
      exact .inl ⟨i, j, hx.toInt, hy.toInt, RG.now q ok (.int _)⟩
    | _ => exact bad q
  | str l =>
    cases b with
    | str m =>
      simp only [addD] at q
      split at q
      · rename_i hz
        refine .inr (.inl ⟨sT l, sT m, hx.toStr, hy.toStr, ?_, ?_⟩)
        · rw [sT_len, sT_len]; exact le_szL hz
        · rw [sT_app]; exact RG.now q ok (.str _)
      · exact bad q
    | _ => exact bad q
  | tup ds =>
    cases b with
    | tup es =>
      simp only [addD] at q
      split at q
      · rename_i hz
        obtain ⟨p, vs, rfl, h1, s1, r1⟩ := hx.toTup ok.sub
        obtain ⟨p', us, rfl, h2, s2, r2⟩ := hy.toTup ok.sub
        refine .inr (.inr (.inl ⟨p, p', vs, us, rfl, rfl, .inl (.inl h1), .inl (.inl h2), ?_, fun e => ?_, fun _ e => ?_, fun _ _ t nt => ?_⟩))
        · rw [r1.length, r2.length]; exact le_szL hz
        · subst e
          cases r1
          exact RG.now q ok (.tup s2 r2)
        · subst e
          cases r2
          rw [List.append_nil] at q
          exact RG.now q ok (.tup s1 r1)
        · exact RG.newT q ok nt (r1.app r2)
      · exact bad q
    | _ => exact bad q
  | lst ds =>
    cases b with
    | lst es =>
      simp only [addD] at q
      split at q
      · rename_i hz
        obtain ⟨p, vs, rfl, h1, r1⟩ := hx.toLst ok.sub
        obtain ⟨p', us, rfl, h2, r2⟩ := hy.toLst ok.sub
        refine .inr (.inr (.inr ⟨p, p', vs, us, rfl, rfl, h1, h2, ?_, fun t nt => ?_⟩))
        · rw [r1.length, r2.length]; exact le_szL hz
        · exact RG.newL q ok nt (r1.app r2)
      · exact bad q
    | _ => exact bad q
  | _ => cases b <;> exact bad q
theorem sub_S {P : Pm} : OpS P (rI0 fun i j => .int (i - j)) (binD .sub) := by
  intro W σ env H S Q x y a b ok hx hy q
  cases a with
  | int i =>
    cases b with
    | int j => exact ⟨i, j, hx.toInt, hy.toInt, RG.now q ok (.int _)⟩
    | _ => exact q.elim
  | _ => cases b <;> exact q.elim
theorem fdiv_S {P : Pm} : OpS P (rI CDivW fun i j => .int (i / j)) (binD .fdiv) := by
  intro W σ env H S Q x y a b ok hx hy q
  cases a with
  | int i =>
    cases b with
    | int j =>
      simp only [binD] at q
      split at q
      · rename_i hc
        exact ⟨i, j, hx.toInt, hy.toInt, wide_div hc.1 (b := 64) (by have := hc.1; have := hc.2; omega) (by decide) (by decide), RG.now q ok (.int _)⟩
      · exact q.elim
    | _ => exact q.elim
  | _ => cases b <;> exact q.elim
theorem mod_S {P : Pm} : OpS P (rI (fun _ j => 0 < j) fun i j => .int (i % j)) (binD .mod) := by
  intro W σ env H S Q x y a b ok hx hy q
  cases a with
  | int i =>
    cases b with
    | int j =>
      simp only [binD] at q
      split at q
      · rename_i hc
        exact ⟨i, j, hx.toInt, hy.toInt, hc, RG.now q ok (.int _)⟩
      · exact q.elim
    | _ => exact q.elim
  | _ => cases b <;> exact q.elim
theorem pow_S {P : Pm} : OpS P (rI CPow fun i j => .int (i ^ j.toNat)) (binD .pow) := by
  intro W σ env H S Q x y a b ok hx hy q
  cases a with
  | int i =>
    cases b with
    | int j =>
      simp only [binD] at q
      split at q
      · rename_i hc
        exact ⟨i, j, hx.toInt, hy.toInt, hc, RG.now q ok (.int _)⟩
      · exact q.elim
    | _ => exact q.elim
  | _ => cases b <;> exact q.elim
end Dl

namespace Dl
open PySem L2
/-! ### products -/
theorem mulOk_ok {i j : Int} (h : mulOk i j = true) : PySem.IntMulOk i j := by
  unfold mulOk at h
  simp only [Bool.or_eq_true, decide_eq_true_eq] at h
  rcases h with (h | h) | h
  · exact CMul.ok (.inl h)
  · exact CMul.ok (.inr h)
  · exact CMulW.ok h
theorem flat_rep (x : Array Nat) : ∀ k : Nat, ∀ acc : Array Nat, (List.replicate k x).foldl (· ++ ·) acc = (acc.toList ++ (List.replicate k x.toList).flatten).toArray
  | 0, acc => by simp
  | k + 1, acc => by
    rw [List.replicate_succ, List.foldl_cons, flat_rep x k, List.replicate_succ, List.flatten_cons]
    simp
theorem txt_mul (x : T) (n : Int) : PySem.Txt.mul (sT x) n = sT (rep n.toNat x) := by
  unfold PySem.Txt.mul
  by_cases h : n < 1
  · rw [if_pos h]
    have e : n.toNat = 0 := by omega
    rw [e]
    rfl
  · rw [if_neg h]
    split
    · rename_i h2
      rw [Bool.or_eq_true] at h2
      rcases h2 with h2 | h2
      · have e : n = 1 := by simpa using h2
        subst e
        simp [rep]
      · have e : x = [] := by
          have : (sT x).length = 0 := by simpa using h2
          rw [sT_len] at this
          exact List.eq_nil_of_length_eq_zero this
        subst e
        simp [rep]
    · unfold sT rep
      rw [flat_rep]
      simp
def rMulAll : R2 := fun x y H Q => (∃ i j, x = .int i ∧ y = .int j ∧ mulOk i j = true ∧ Q (.int (i * j)) H) ∨ (∃ (l : T) (k : Int), x = .str (sT l) ∧ y = .int k ∧ -(2 ^ 63) ≤ k ∧ k < 2 ^ 63 ∧ l.length * k.toNat ≤ sizeLine ∧ Q (.str (sT (rep k.toNat l))) H) ∨ rRep x y H Q
theorem op_mulS {X : Cx} : OpR X (binaryOp .Mult) (fun x y H Q => ∃ (l : T) (k : Int), x = .str (sT l) ∧ y = .int k ∧ -(2 ^ 63) ≤ k ∧ k < 2 ^ 63 ∧ l.length * k.toNat ≤ sizeLine ∧ Q (.str (sT (rep k.toNat l))) H) := by
  intro pins s σ H x y v u Q I rx ry h
  obtain ⟨l, k, rfl, rfl, h1, h2, hz, q⟩ := h
  obtain ⟨t, rfl⟩ := rx
  obtain ⟨t', rfl⟩ := ry
  have hs := sizeLine_eq
  have hprod : ((sT l).length * k.toNat) ≤ 16777216 := by rw [sT_len]; omega
  refine SB.mul ⟨?_, fun h1' _ => ?_, fun h1' _ => ?_⟩ fun t' k' => ?_
  · have a1 : ¬ k < -(2 ^ 63 : Int) := by omega
    have a2 : ¬ k ≥ (2 ^ 63 : Int) := by omega
    rw [decide_eq_false a1, decide_eq_false a2]; rfl
  · have hpos : 0 < k := by omega
    have e : (((sT l).length * k.toNat : Nat) : Int) = ((sT l).length : Int) * k := by
      rw [Int.natCast_mul, Int.toNat_of_nonneg (by omega)]
    have h3 : ((sT l).length : Int) * k ≤ 2 ^ 63 - 1 := by rw [← e]; omega
    have h4 : ((sT l).length : Int) ≤ (2 ^ 63 - 1) / k := (Int.le_ediv_iff_mul_le hpos).mpr h3
    omega
  · unfold PySem.Builtin.Str.tooLong
    first
      | (apply decide_eq_false; omega)
      | (simp; omega)
  · rw [txt_mul]
    exact ⟨.str (sT (rep k.toNat l)), H, I.tok k', ⟨_, rfl⟩, q⟩
theorem op_mulAll {X : Cx} : OpR X (binaryOp .Mult) rMulAll := OpR.or (opI fun _ _ _ _ _ _ _ hc q => PyProof.Rows.mul_int q (mulOk_ok hc)) (OpR.or op_mulS op_rep)
theorem mul_S {P : Pm} : OpS P rMulAll mulD := by
  intro W σ env H S Q x y a b ok hx hy q
  cases a with
  | int i =>
    cases b with
    | int j =>
      simp only [mulD] at q
      split at q
      · rename_i hc
        exact .inl ⟨i, j, hx.toInt, hy.toInt, hc, RG.now q ok (.int _)⟩
      · exact q.elim
    | _ => exact q.elim
  | str l =>
    cases b with
    | int j =>
      simp only [mulD] at q
      split at q
      · rename_i hc
        exact .inr (.inl ⟨l, j, hx.toStr, hy.toInt, hc.1, hc.2.1, le_szL hc.2.2, RG.now q ok (.str _)⟩)
      · exact q.elim
    | _ => exact q.elim
  | lst l =>
    cases b with
    | int j =>
      simp only [mulD] at q
      split at q
      · rename_i hc
        obtain ⟨p, vs, rfl, h1, r1⟩ := hx.toLst ok.sub
        exact .inr (.inr ⟨p, j, vs, rfl, hy.toInt, h1, hc.1, hc.2.1, by rw [r1.length]; exact le_szL hc.2.2, fun t nt => RG.newL q ok nt (Reps.rep r1 _)⟩)
      · exact q.elim
    | _ => exact q.elim
  | _ => cases b <;> exact q.elim

/-! ### data -/
mutual
def toP : D → PyData
  | .non => .none
  | .bl b => .bool b
  | .int i => .int i
  | .str s => .str (sT s)
  | .tup xs => .tuple (toPs xs)
  | .lst xs => .list (toPs xs)
  | .scr _ => .none
  | .dic _ => .none
  | .dit _ => .none
  | .kd _ => .none
def toPs : List D → List PyData
  | [] => []
  | x :: r => toP x :: toPs r
end
theorem toPs_map : ∀ l : List D, toPs l = l.map toP
  | [] => by simp only [toPs, List.map_nil]
  | x :: r => by simp only [toPs, List.map_cons, toPs_map r]
mutual
theorem okD_lay : ∀ (d : D) (n : Nat), okD d n = true → (toP d).canLay0 = true ∧ (toP d).depth ≤ n
  | .non, n, _ => ⟨by simp only [toP, PyData.canLay0], by simp only [toP, PyData.depth]; omega⟩
  | .bl b, n, _ => ⟨by simp only [toP, PyData.canLay0], by simp only [toP, PyData.depth]; omega⟩
  | .int i, n, _ => ⟨by simp only [toP, PyData.canLay0], by simp only [toP, PyData.depth]; omega⟩
  | .str s, n, h => by
    simp only [okD] at h
    refine ⟨?_, by simp only [toP, PyData.depth]; omega⟩
    simp only [toP, PyData.canLay0, PyData.strOk, sT]
    rw [List.all_toArray]
    exact h
  | .tup xs, 0, h => by simp only [okD] at h; cases h
  | .tup xs, n + 1, h => by
    simp only [okD] at h
    obtain ⟨h1, h2⟩ := okDs_lay xs n h
    exact ⟨by simp only [toP, PyData.canLay0]; exact h1, by simp only [toP, PyData.depth]; omega⟩
  | .lst xs, 0, h => by simp only [okD] at h; cases h
  | .lst xs, n + 1, h => by
    simp only [okD] at h
    obtain ⟨h1, h2⟩ := okDs_lay xs n h
    exact ⟨by simp only [toP, PyData.canLay0]; exact h1, by simp only [toP, PyData.depth]; omega⟩
  | .scr _, n, h => by simp only [okD] at h; cases h
  | .dic _, n, h => by simp only [okD] at h; cases h
  | .dit _, n, h => by simp only [okD] at h; cases h
  | .kd _, n, h => by simp only [okD] at h; cases h
theorem okDs_lay : ∀ (d : List D) (n : Nat), okDs d n = true → PyData.canLayAll0 (toPs d) = true ∧ PyData.depthAll (toPs d) ≤ n
  | [], n, _ => ⟨by simp only [toPs, PyData.canLayAll0], by simp only [toPs, PyData.depthAll]; omega⟩
  | x :: r, n, h => by
    simp only [okDs, Bool.and_eq_true] at h
    obtain ⟨a1, a2⟩ := okD_lay x n h.1
    obtain ⟨b1, b2⟩ := okDs_lay r n h.2
    refine ⟨?_, ?_⟩
    · simp only [toPs, PyData.canLayAll0, a1, b1, Bool.and_self]
    · simp only [toPs, PyData.depthAll]
      omega
end
theorem okD_shaped {d : D} (h : okD d 64 = true) : SeqAt.shaped (toP d) = true := by
  obtain ⟨h1, h2⟩ := okD_lay d 64 h
  unfold SeqAt.shaped
  rw [h1, decide_eq_true h2]
  rfl
theorem okD_mono : ∀ (n : Nat), ∀ d : D, okD d 63 = true → (toP d).depth ≤ 63 := fun _ d h => (okD_lay d 63 h).2
mutual
theorem rep_dp {K : PySem.W.Frag} {w : World} {S H : Hp} (sub : Same S H) : ∀ (d : D) (n : Nat) (v : V), okD d n = true → Rep K w S v d → Dp K H v (toP d)
  | .non, _, _, _, r => by cases r; simp only [toP]; exact .non
  | .bl b, _, _, _, r => by cases r; simp only [toP]; exact .bl b
  | .int i, _, _, _, r => by cases r; simp only [toP]; exact .int i
  | .str s, _, _, _, r => by cases r; simp only [toP]; exact .str _
  | .tup xs, 0, _, h, _ => by simp only [okD] at h; cases h
  | .tup xs, n + 1, _, h, r => by
    simp only [okD] at h
    cases r with
    | tup h1 h2 => simp only [toP]; exact .tup (.inl (.inl (sub _ _ h1))) (reps_dp sub xs n _ h h2)
  | .lst xs, 0, _, h, _ => by simp only [okD] at h; cases h
  | .lst xs, n + 1, _, h, r => by
    simp only [okD] at h
    cases r with
    | lst h1 h2 => simp only [toP]; exact .lst (.inl (.inl (sub _ _ h1))) (reps_dp sub xs n _ h h2)
  | .scr _, _, _, h, _ => by simp only [okD] at h; cases h
  | .dic _, _, _, h, _ => by simp only [okD] at h; cases h
  | .dit _, _, _, h, _ => by simp only [okD] at h; cases h
  | .kd _, _, _, h, _ => by simp only [okD] at h; cases h
theorem reps_dp {K : PySem.W.Frag} {w : World} {S H : Hp} (sub : Same S H) : ∀ (d : List D) (n : Nat) (v : List V), okDs d n = true → Reps K w S v d → DpAll K H v (toPs d)
  | [], _, _, _, r => by cases r; simp only [toPs]; exact .nil
  | x :: t, n, _, h, r => by
    simp only [okDs, Bool.and_eq_true] at h
    cases r with
    | cons h1 h2 => simp only [toPs]; exact .cons (rep_dp sub x n _ h.1 h1) (reps_dp sub t n _ h.2 h2)
end
theorem bor_dp {P : Pm} {S H : Hp} (sub : Same S H) {d : D} {n : Nat} {v : V} (h : okD d n = true) (r : BorR P H S v d) : Dp P.K H v (toP d) := by
  cases r with
  | rep r => exact rep_dp sub d n v h r
  | lst h1 r =>
    cases n with
    | zero => simp only [okD] at h; cases h
    | succ n =>
      simp only [okD] at h
      simp only [toP]
      exact .lst (.inl (.inl h1)) (reps_dp sub _ n _ h r)
  | dic h1 r => simp only [okD] at h; cases h
  | dit h1 r => simp only [okD] at h; cases h
theorem beq_sT (s l : T) : (sT s == sT l) = (s == l) := by
  rw [Bool.eq_iff_iff]
  constructor
  · intro h
    have := sT_inj (eq_of_beq h)
    rw [this]
    exact beq_self_eq_true _
  · intro h
    rw [eq_of_beq h]
    exact beq_self_eq_true _
mutual
theorem eqD_eqv : ∀ (a b : D) (n m : Nat), okD a n = true → okD b m = true → PyData.eqv (toP a) (toP b) = eqD a b
  | .non, b, n, m, _, hb => by
    cases b with
    | scr _ => simp only [okD] at hb; cases hb
    | dic _ => simp only [okD] at hb; cases hb
    | dit _ => simp only [okD] at hb; cases hb
    | kd _ => simp only [okD] at hb; cases hb
    | _ => simp only [toP, PyData.eqv, eqD]
  | .bl x, b, n, m, _, hb => by
    cases b with
    | scr _ => simp only [okD] at hb; cases hb
    | dic _ => simp only [okD] at hb; cases hb
    | dit _ => simp only [okD] at hb; cases hb
    | kd _ => simp only [okD] at hb; cases hb
    | _ => simp only [toP, PyData.eqv, eqD]
  | .int x, b, n, m, _, hb => by
    cases b with
    | scr _ => simp only [okD] at hb; cases hb
    | dic _ => simp only [okD] at hb; cases hb
    | dit _ => simp only [okD] at hb; cases hb
    | kd _ => simp only [okD] at hb; cases hb
    | _ => simp only [toP, PyData.eqv, eqD]
  | .str x, b, n, m, _, hb => by
    cases b with
    | scr _ => simp only [okD] at hb; cases hb
    | dic _ => simp only [okD] at hb; cases hb
    | dit _ => simp only [okD] at hb; cases hb
    | kd _ => simp only [okD] at hb; cases hb
    | str y => simp only [toP, PyData.eqv, eqD, beq_sT]
    | _ => simp only [toP, PyData.eqv, eqD]
  | .tup xs, b, 0, m, h, hb => by simp only [okD] at h; cases h
  | .tup xs, b, n + 1, m, h, hb => by
    simp only [okD] at h
    cases b with
    | scr _ => simp only [okD] at hb; cases hb
    | dic _ => simp only [okD] at hb; cases hb
    | dit _ => simp only [okD] at hb; cases hb
    | kd _ => simp only [okD] at hb; cases hb
    | tup ys =>
      cases m with
      | zero => simp only [okD] at hb; cases hb
      | succ m =>
        simp only [okD] at hb
        simp only [toP, PyData.eqv, eqD]
        exact eqDs_eqv xs ys n m h hb
    | _ => simp only [toP, PyData.eqv, eqD]
  | .lst xs, b, 0, m, h, hb => by simp only [okD] at h; cases h
  | .lst xs, b, n + 1, m, h, hb => by
    simp only [okD] at h
    cases b with
    | scr _ => simp only [okD] at hb; cases hb
    | dic _ => simp only [okD] at hb; cases hb
    | dit _ => simp only [okD] at hb; cases hb
    | kd _ => simp only [okD] at hb; cases hb
    | lst ys =>
      cases m with
      | zero => simp only [okD] at hb; cases hb
      | succ m =>
        simp only [okD] at hb
        simp only [toP, PyData.eqv, eqD]
        exact eqDs_eqv xs ys n m h hb
    | _ => simp only [toP, PyData.eqv, eqD]
  | .scr _, _, n, _, h, _ => by simp only [okD] at h; cases h
  | .dic _, _, n, _, h, _ => by simp only [okD] at h; cases h
  | .dit _, _, n, _, h, _ => by simp only [okD] at h; cases h
  | .kd _, _, n, _, h, _ => by simp only [okD] at h; cases h
theorem eqDs_eqv : ∀ (a b : List D) (n m : Nat), okDs a n = true → okDs b m = true → PyData.eqvAll (toPs a) (toPs b) = eqDs a b
  | [], b, n, m, _, hb => by
    cases b with
    | nil => simp only [toPs, PyData.eqvAll, eqDs, List.isEmpty_nil]
    | cons y r => simp only [toPs, PyData.eqvAll, eqDs, List.isEmpty_cons]
  | x :: xs, b, n, m, h, hb => by
    simp only [okDs, Bool.and_eq_true] at h
    cases b with
    | nil => simp only [toPs, PyData.eqvAll, eqDs]
    | cons y r =>
      simp only [okDs, Bool.and_eq_true] at hb
      simp only [toPs, PyData.eqvAll, eqDs]
      rw [eqD_eqv x y n m h.1 hb.1, eqDs_eqv xs r n m h.2 hb.2]
end
/-! ### comparisons -/
theorem eq_S {P : Pm} : CmpS P (rEqD P.K) (cmpD .eq) := by
  intro H S Q x y a b k sub hx hy e q
  simp only [cmpD, eqV] at e
  split at e
  · rename_i h
    rw [Bool.and_eq_true] at h
    cases e
    exact ⟨toP a, toP b, bor_dp sub h.1 hx, bor_dp sub h.2 hy, okD_shaped h.1, okD_shaped h.2, by rw [eqD_eqv a b 64 64 h.1 h.2]; exact q⟩
  · cases e
theorem ne_S {P : Pm} : CmpS P (rNeD P.K) (cmpD .ne) := by
  intro H S Q x y a b k sub hx hy e q
  simp only [cmpD, eqV] at e
  split at e
  · rename_i h
    rw [Bool.and_eq_true] at h
    cases e
    exact ⟨toP a, toP b, bor_dp sub h.1 hx, bor_dp sub h.2 hy, okD_shaped h.1, okD_shaped h.2, by rw [eqD_eqv a b 64 64 h.1 h.2]; exact q⟩
  · cases e
theorem cmpI_S {P : Pm} {o : COp} {g : Int → Int → Bool} (h : ∀ a b k, cmpD o a b = some k → ∃ i j, a = .int i ∧ b = .int j ∧ k = g i j) : CmpS P (rI0 fun i j => .bl (g i j)) (cmpD o) := by
  intro H S Q x y a b k sub hx hy e q
  obtain ⟨i, j, rfl, rfl, rfl⟩ := h a b k e
  exact ⟨i, j, hx.toInt, hy.toInt, q⟩
theorem cmpI_of {o : COp} {g : Int → Int → Bool} (h1 : ∀ i j, cmpD o (.int i) (.int j) = some (g i j)) (h2 : ∀ a b, (∀ i j, ¬ (a = .int i ∧ b = .int j)) → cmpD o a b = none) : ∀ a b k, cmpD o a b = some k → ∃ i j, a = .int i ∧ b = .int j ∧ k = g i j := by
  intro a b k e
  by_cases h : ∃ i j, a = .int i ∧ b = .int j
  · obtain ⟨i, j, rfl, rfl⟩ := h
    rw [h1] at e
    exact ⟨i, j, rfl, rfl, (Option.some.inj e).symm⟩
  · rw [h2 a b fun i j z => h ⟨i, j, z⟩] at e
    cases e
theorem lt_S {P : Pm} : CmpS P (rI0 fun i j => .bl (decide (i < j))) (cmpD .lt) := cmpI_S (g := fun i j => decide (i < j)) (cmpI_of (fun _ _ => rfl) fun a b h => by
  cases a <;> cases b <;> first | rfl | exact (h _ _ ⟨rfl, rfl⟩).elim)
theorem le_S {P : Pm} : CmpS P (rI0 fun i j => .bl (decide (i ≤ j))) (cmpD .le) := cmpI_S (g := fun i j => decide (i ≤ j)) (cmpI_of (fun _ _ => rfl) fun a b h => by
  cases a <;> cases b <;> first | rfl | exact (h _ _ ⟨rfl, rfl⟩).elim)
theorem gt_S {P : Pm} : CmpS P (rI0 fun i j => .bl (decide (j < i))) (cmpD .gt) := cmpI_S (g := fun i j => decide (j < i)) (cmpI_of (fun _ _ => rfl) fun a b h => by
  cases a <;> cases b <;> first | rfl | exact (h _ _ ⟨rfl, rfl⟩).elim)
theorem ge_S {P : Pm} : CmpS P (rI0 fun i j => .bl (decide (j ≤ i))) (cmpD .ge) := cmpI_S (g := fun i j => decide (j ≤ i)) (cmpI_of (fun _ _ => rfl) fun a b h => by
  cases a <;> cases b <;> first | rfl | exact (h _ _ ⟨rfl, rfl⟩).elim)
theorem isNon_of {P : Pm} {H S : Hp} {x : V} {a : D} (h : BorR P H S x a) : decide (x = .non) = isNon a := by
  cases h with
  | rep r => cases r <;> simp [isNon]
  | lst h1 r => simp [isNon]
  | dic h1 r => simp [isNon]
  | dit h1 r => simp [isNon]
theorem isN_S {P : Pm} : ∀ (H S : Hp) (Q : VK) (x : V) (a : D) (k : Bool), BorR P H S x a → isNon a = k → Q (.bl k) H → Q (.bl (decide (x = .non))) H := by
  intro H S Q x a k hx e q
  rw [isNon_of hx, e]
  exact q
/-! x in y -/
def rInK (neg : Bool) (K : PySem.W.Frag) (w : World) : R2 := fun x y H Q => ∃ (a : Addr) (kvs : List (T × T)) (k : T), x = .str (sT k) ∧ y = .ref a ∧ KDict K w a kvs ∧ Q (.bl (neg.xor (look k kvs).isSome)) H
def rInAll (neg : Bool) (K : PySem.W.Frag) (w : World) : R2 := fun x y H Q => (∃ (c : Nat) (z : Str), x = .str ⟨#[c]⟩ ∧ y = .str z ∧ Q (.bl (neg.xor (decide (c ∈ z.cps.toList)))) H) ∨
  (∃ d ds, Dp K H x d ∧ Dp K H y (.list ds) ∧ SeqAt.shaped d = true ∧ SeqAt.shaped (.list ds) = true ∧ Q (.bl (neg.xor (ds.any fun z => PyData.eqv z d))) H) ∨
  (∃ (a : Addr) (o : Option V), y = .ref a ∧ DGet H a x o ∧ Q (.bl (neg.xor o.isSome)) H) ∨ rInK neg K w x y H Q
theorem op_dIn {X : Cx} (hu : X.A.units + 1 < cLine) : OpR X (compareOp .In) (fun x y H Q => ∃ (a : Addr) (o : Option V), y = .ref a ∧ DGet H a x o ∧ Q (.bl o.isSome) H) := by
  intro pins s σ H x y v u Q I rx ry h
  obtain ⟨a, o, rfl, g, q⟩ := h
  cases ry
  exact d_in hu I g rx fun s' I' => ⟨.bl _, H, I', rfl, q⟩
theorem op_dNotIn {X : Cx} (hu : X.A.units + 1 < cLine) : OpR X (compareOp .NotIn) (fun x y H Q => ∃ (a : Addr) (o : Option V), y = .ref a ∧ DGet H a x o ∧ Q (.bl (!o.isSome)) H) := by
  intro pins s σ H x y v u Q I rx ry h
  obtain ⟨a, o, rfl, g, q⟩ := h
  cases ry
  exact d_notIn hu I g rx fun s' I' => ⟨.bl _, H, I', rfl, q⟩
theorem kd_some {vb : List (Key × Value)} {kvs : List (T × T)} {k : T} (h : match look k kvs with
    | some v => ∃ u, valueAt vb (Sum.inr (sT k)) = some u ∧ RelV (.str (sT v)) u
    | none => valueAt vb (Sum.inr (sT k)) = none) : (valueAt vb (Sum.inr (sT k))).isSome = (look k kvs).isSome := by
  cases e : look k kvs with
  | none => rw [e] at h; rw [h]; rfl
  | some v => rw [e] at h; obtain ⟨u, hu, _⟩ := h; rw [hu]; rfl
theorem op_inK {X : Cx} : OpR X (compareOp .In) (rInK false X.K X.w) := by
  intro pins s σ H x y v u Q I rx ry ⟨a, kvs, k, ex, ey, ⟨z, vb, rel, dd⟩, q⟩
  subst ex ey
  cases ry
  refine wpAny_in_of (kV_is (k := Sum.inr (sT k)) rx) z (dd X.prog _ I.kIn).mapOf ?_
  rw [kd_some (rel k)]
  exact ⟨.bl _, H, I.tok _, rfl, by rw [Bool.false_xor] at q; exact q⟩
theorem op_notInK {X : Cx} : OpR X (compareOp .NotIn) (rInK true X.K X.w) := by
  intro pins s σ H x y v u Q I rx ry ⟨a, kvs, k, ex, ey, ⟨z, vb, rel, dd⟩, q⟩
  subst ex ey
  cases ry
  refine wpAny_notIn_of (kV_is (k := Sum.inr (sT k)) rx) z (dd X.prog _ I.kIn).mapOf ?_
  rw [kd_some (rel k)]
  exact ⟨.bl _, H, I.tok _, rfl, by rw [Bool.true_xor] at q; exact q⟩
theorem op_inAll {X : Cx} (hu : X.A.units + 65 < cLine) : OpR X (compareOp .In) (rInAll false X.K X.w) := by
  have h := OpR.or (X := X) op_in_sign (OpR.or (op_inD hu) (OpR.or (op_dIn (by omega)) op_inK))
  intro pins s σ H x y v u Q I rx ry q
  refine h pins s σ H x y v u Q I rx ry ?_
  rcases q with ⟨c, z, e1, e2, q⟩ | ⟨d, ds, e1, e2, e3, e4, q⟩ | ⟨a, o, e1, e2, q⟩ | q
  · exact .inl ⟨c, z, e1, e2, by rw [Bool.false_xor] at q; exact q⟩
  · exact .inr (.inl ⟨d, ds, e1, e2, e3, e4, by rw [Bool.false_xor] at q; exact q⟩)
  · exact .inr (.inr (.inl ⟨a, o, e1, e2, by rw [Bool.false_xor] at q; exact q⟩))
  · exact .inr (.inr (.inr q))
theorem op_notInAll {X : Cx} (hu : X.A.units + 65 < cLine) : OpR X (compareOp .NotIn) (rInAll true X.K X.w) := by
  have h := OpR.or (X := X) op_notIn_sign (OpR.or (op_notInD hu) (OpR.or (op_dNotIn (by omega)) op_notInK))
  intro pins s σ H x y v u Q I rx ry q
  refine h pins s σ H x y v u Q I rx ry ?_
  rcases q with ⟨c, z, e1, e2, q⟩ | ⟨d, ds, e1, e2, e3, e4, q⟩ | ⟨a, o, e1, e2, q⟩ | q
  · exact .inl ⟨c, z, e1, e2, by rw [Bool.true_xor] at q; exact q⟩
  · exact .inr (.inl ⟨d, ds, e1, e2, e3, e4, by rw [Bool.true_xor] at q; exact q⟩)
  · exact .inr (.inr (.inl ⟨a, o, e1, e2, by rw [Bool.true_xor] at q; exact q⟩))
  · exact .inr (.inr (.inr q))
theorem look_rep {K : PySem.W.Frag} {w : World} {S : Hp} (k : T) : ∀ {ks : List (Key × V)} {kvs : List (T × D)}, RepK K w S ks kvs → (match look k kvs with | some d => ∃ v, valV ks (Sum.inr (sT k)) = some v ∧ Rep K w S v d | none => valV ks (Sum.inr (sT k)) = none)
  | _, _, .nil => by simp only [look]; exact valV_nil
  | _, _, .cons (k := k') r t => by
    by_cases h : k' = k
    · subst h
      simp only [look, if_pos]
      exact ⟨_, valV_pos rfl, r⟩
    · have ne : ¬ (Sum.inr (sT k') : Key) = Sum.inr (sT k) := fun e => h (sT_inj (Sum.inr.inj e))
      simp only [look, if_neg h]
      have ih := look_rep k t
      rw [valV_neg ne]
      exact ih
theorem look_some {K : PySem.W.Frag} {w : World} {S : Hp} {k : T} {ks : List (Key × V)} {kvs : List (T × D)} (r : RepK K w S ks kvs) : (valV ks (Sum.inr (sT k))).isSome = (look k kvs).isSome := by
  have h := look_rep k r
  cases e : look k kvs with
  | none => rw [e] at h; rw [h]; rfl
  | some d => rw [e] at h; obtain ⟨v, hv, _⟩ := h; rw [hv]; rfl
theorem BorR.toDic {P : Pm} {H S : Hp} (sub : Same S H) {v : V} {ds : List (T × D)} (h : BorR P H S v (.dic ds)) : ∃ a ks, v = .ref a ∧ H a = some (.dK ks) ∧ RepK P.K P.w S ks ds := by
  cases h with
  | rep r =>
    cases r with
    | dic h1 h2 => exact ⟨_, _, rfl, sub _ _ h1, h2⟩
  | dic h1 r => exact ⟨_, _, rfl, h1, r⟩
theorem BorR.toDit {P : Pm} {H S : Hp} (sub : Same S H) {v : V} {ds : List (List Int × D)} (h : BorR P H S v (.dit ds)) : ∃ a ks, v = .ref a ∧ H a = some (.dT ks) ∧ RepT P.K P.w S ks ds := by
  cases h with
  | rep r =>
    cases r with
    | dit h1 h2 => exact ⟨_, _, rfl, sub _ _ h1, h2⟩
  | dit h1 r => exact ⟨_, _, rfl, h1, r⟩
theorem any_eqv {a : D} {n : Nat} (ha : okD a n = true) : ∀ (ys : List D) (m : Nat), okDs ys m = true → ((toPs ys).any fun z => PyData.eqv z (toP a)) = ys.any fun z => eqD z a
  | [], m, _ => rfl
  | y :: r, m, h => by
    simp only [okDs, Bool.and_eq_true] at h
    simp only [toPs, List.any_cons]
    rw [eqD_eqv y a m n h.1 ha, any_eqv ha r m h.2]
theorem okD_up : ∀ {d : D}, okD d 63 = true → SeqAt.shaped (toP d) = true := fun {d} h => by
  obtain ⟨h1, h2⟩ := okD_lay d 63 h
  unfold SeqAt.shaped
  rw [h1, decide_eq_true (by omega)]
  rfl
theorem in_gen {P : Pm} (neg : Bool) {H S : Hp} {Q : VK} {x y : V} {a b : D} {k : Bool} (sub : Same S H) (hx : BorR P H S x a) (hy : BorR P H S y b) (e : inD a b = some k) (q : Q (.bl (neg.xor k)) H) : rInAll neg P.K P.w x y H Q := by
  cases b with
  | str z =>
    simp only [inD] at e
    split at e
    · rename_i c
      cases e
      refine .inl ⟨c, sT z, hx.toStr, hy.toStr, ?_⟩
      rw [sT_tl]
      have : decide (c ∈ z) = z.contains c := by rw [Bool.eq_iff_iff]; simp
      rw [this]
      exact q
    · cases e
  | lst ys =>
    simp only [inD] at e
    split at e
    · rename_i h
      rw [Bool.and_eq_true] at h
      cases e
      have h2 : okDs ys 63 = true := by have := h.2; simp only [okD] at this; exact this
      have hd := bor_dp sub h.2 hy
      have hs := okD_shaped h.2
      simp only [toP] at hd hs
      exact .inr (.inl ⟨toP a, toPs ys, bor_dp sub h.1 hx, hd, okD_up h.1, hs, by rw [any_eqv h.1 ys 63 h2]; exact q⟩)
    · cases e
  | dic kvs =>
    simp only [inD] at e
    split at e
    · rename_i s
      cases e
      obtain ⟨p, ks, rfl, h1, r1⟩ := hy.toDic sub
      have hxs := hx.toStr
      subst hxs
      exact .inr (.inr (.inl ⟨p, _, rfl, DGet.k (k := Sum.inr (sT s)) h1, by rw [look_some r1]; exact q⟩))
    · cases e
  | kd kvs =>
    simp only [inD] at e
    split at e
    · rename_i s
      cases e
      cases hy with
      | rep r =>
        cases r with
        | kd h1 => exact .inr (.inr (.inr ⟨_, kvs, s, hx.toStr, rfl, h1, q⟩))
    · cases e
  | _ => cases e
theorem in_S {P : Pm} : CmpS P (rInAll false P.K P.w) (cmpD .inn) := by
  intro H S Q x y a b k sub hx hy e q
  exact in_gen false sub hx hy e (by rw [Bool.false_xor]; exact q)
theorem nin_S {P : Pm} : CmpS P (rInAll true P.K P.w) (cmpD .nin) := by
  intro H S Q x y a b k sub hx hy e q
  simp only [cmpD, Option.map_eq_some_iff] at e
  obtain ⟨j, e, rfl⟩ := e
  exact in_gen true sub hx hy e (by rw [Bool.true_xor]; exact q)
end Dl

namespace Dl
open PySem L2
/-! ### subscripts and slices -/
theorem reps_atI {K : PySem.W.Frag} {w : World} {S : Hp} {vs : List V} {ds : List D} (r : Reps K w S vs ds) {i : Int} {d : D} (h : Dl.atI ds i = some d) : ∃ v, L2.atI vs i = some v ∧ Rep K w S v d := by
  unfold Dl.atI at h
  rw [Option.bind_eq_some_iff] at h
  obtain ⟨j, hj, h⟩ := h
  obtain ⟨v, hv, rv⟩ := r.get h
  refine ⟨v, ?_, rv⟩
  unfold L2.atI
  have e : L2.ixN vs.length i = some j := by rw [r.length]; exact hj
  rw [e]
  exact hv
theorem look_repT {K : PySem.W.Frag} {w : World} {S : Hp} (k : List Int) : ∀ {ks : List (List Key × V)} {kvs : List (List Int × D)}, RepT K w S ks kvs → (match look k kvs with | some d => ∃ v, valV ks (k.map Sum.inl) = some v ∧ Rep K w S v d | none => valV ks (k.map Sum.inl) = none)
  | _, _, .nil => by simp only [look]; exact valV_nil
  | _, _, .cons (k := k') r t => by
    by_cases h : k' = k
    · subst h
      simp only [look, if_pos]
      exact ⟨_, valV_pos rfl, r⟩
    · have ne : ¬ (k'.map Sum.inl : List Key) = k.map Sum.inl := fun e => h (List.map_inj_right (fun a b q => Sum.inl.inj q) |>.mp e)
      simp only [look, if_neg h]
      have ih := look_repT k t
      rw [valV_neg ne]
      exact ih
theorem reps_ints {K : PySem.W.Frag} {w : World} {S : Hp} : ∀ {ds : List D} {ns : List Int} {vs : List V}, intsD ds = some ns → Reps K w S vs ds → vs = ns.map V.int
  | [], ns, vs, h, r => by
    cases r
    simp only [intsD, Option.some.injEq] at h
    subst h
    rfl
  | d :: ds, ns, vs, h, r => by
    cases d with
    | int i =>
      simp only [intsD, Option.map_eq_some_iff] at h
      obtain ⟨m, hm, rfl⟩ := h
      cases r with
      | cons r1 r2 =>
        cases r1
        rw [reps_ints hm r2]
        rfl
    | _ => simp only [intsD] at h; cases h
theorem reps_strs {K : PySem.W.Frag} {w : World} {S : Hp} : ∀ {ds : List D} {ns : List T} {vs : List V}, strsD ds = some ns → Reps K w S vs ds → vs = (ns.map sT).map V.str
  | [], ns, vs, h, r => by
    cases r
    simp only [strsD, Option.some.injEq] at h
    subst h
    rfl
  | d :: ds, ns, vs, h, r => by
    cases d with
    | str i =>
      simp only [strsD, Option.map_eq_some_iff] at h
      obtain ⟨m, hm, rfl⟩ := h
      cases r with
      | cons r1 r2 =>
        cases r1
        rw [reps_strs hm r2]
        rfl
    | _ => simp only [strsD] at h; cases h
def rIxDict : R2 := fun x y H Q => ∃ a v, x = .ref a ∧ DGet H a y (some v) ∧ Q v H
theorem ix_dict {X : Cx} (hu : X.A.units + 1 < cLine) : IxR X rIxDict := by
  intro value slice pins s σ H x y v u Q I rx ry h hs
  obtain ⟨a, z, rfl, g, q⟩ := h
  cases rx
  exact PyProof.Rows.tail_any (dict_typeIs I g) slot_dict_getitem.lookup (d_getItem hu I g ry fun w' s' I' r' => ⟨z, H, I', r', q⟩) hs
def rIxK (K : PySem.W.Frag) (w : World) : R2 := fun x y H Q => ∃ (a : Addr) (kvs : List (T × T)) (k v : T), x = .ref a ∧ y = .str (sT k) ∧ KDict K w a kvs ∧ look k kvs = some v ∧ Q (.str (sT v)) H
theorem ix_kd {X : Cx} : IxR X (rIxK X.K X.w) := by
  intro value slice pins s σ H x y v u Q I rx ry ⟨a, kvs, k, z, ex, ey, ⟨hz, vb, rel, dd⟩, lk, q⟩ hs
  subst ex ey
  cases rx
  have rel := rel k
  rw [lk] at rel
  obtain ⟨u', hu, ru⟩ := rel
  have da := dd X.prog _ I.kIn
  exact PyProof.Rows.tail_any da.typeIs slot_dict_getitem.lookup (wpAny_getItem_of (kV_is (k := Sum.inr (sT k)) ry) da.mapOf hu ⟨_, H, I.tok _, ru, q⟩) hs
def rIxAll (K : PySem.W.Frag) (w : World) : R2 := fun x y H Q => rIx K x y H Q ∨ rIxDict x y H Q ∨ rIxK K w x y H Q
theorem ix_all {X : Cx} (hu : X.A.units + 1 < cLine) : IxR X (rIxAll X.K X.w) := IxR.or ix_seq (IxR.or (ix_dict hu) ix_kd)
def SubS (P : Pm) (r : R2) : Prop := ∀ (W : WX) (σ : LSt) (env : DEnv) (H S : Hp) (Q : VK) (x y : V) (a b : D), StOk P σ env H S → BorR P H S x a → P.Rep S y b → RG P W σ (RV P σ) H S Q (.of ((subD a b).map .sh) env) → r x y H Q
theorem sub_all {P : Pm} : SubS P (rIxAll P.K P.w) := by
  intro W σ env H S Q x y a b ok hx hy q
  cases e : subD a b with
  | none => rw [e] at q; exact q.elim
  | some d =>
    rw [e] at q
    have fin : ∀ {v : V}, P.Rep S v d → Q v H := fun r => RG.now q ok r
    cases a with
    | lst ds =>
      cases b with
      | int i =>
        cases hy
        obtain ⟨p, vs, rfl, h1, r1⟩ := hx.toLst ok.sub
        obtain ⟨v, hv, rv⟩ := reps_atI r1 e
        exact .inl (.inl ⟨p, vs, i, v, rfl, rfl, .inl (.inl h1), hv, fin rv⟩)
      | _ => cases e
    | tup ds =>
      cases b with
      | int i =>
        cases hy
        obtain ⟨p, vs, rfl, h1, _, r1⟩ := hx.toTup ok.sub
        obtain ⟨v, hv, rv⟩ := reps_atI r1 e
        exact .inl (.inr (.inl ⟨p, vs, i, v, rfl, rfl, .inl (.inl h1), hv, fin rv⟩))
      | _ => cases e
    | scr ns =>
      cases b with
      | int i =>
        cases hy
        cases hx with
        | rep r =>
          cases r with
          | @scr p _ h1 =>
            simp only [subD, Option.map_eq_some_iff] at e
            obtain ⟨n, hn, rfl⟩ := e
            refine .inl (.inl ⟨p, ns.map V.int, i, .int n, rfl, rfl, seq_mono ok.sub h1, ?_, fin (.int _)⟩)
            unfold Dl.atI at hn
            rw [Option.bind_eq_some_iff] at hn
            obtain ⟨j, hj, hn⟩ := hn
            unfold L2.atI
            have e1 : L2.ixN (ns.map V.int).length i = some j := by rw [List.length_map]; exact hj
            rw [e1]
            show (ns.map V.int)[j]? = _
            rw [List.getElem?_map, hn]
            rfl
      | _ => cases e
    | str l =>
      cases b with
      | int i =>
        cases hy
        simp only [subD] at e
        split at e
        · rename_i hz
          rw [Option.map_eq_some_iff] at e
          obtain ⟨c, hc, rfl⟩ := e
          exact .inl (.inr (.inr ⟨sT l, i, c, hx.toStr, rfl, by rw [sT_len]; exact le_szL hz, hc, fin (.str [c])⟩))
        · cases e
      | _ => cases e
    | dic kvs =>
      cases b with
      | str k =>
        cases hy
        obtain ⟨p, ks, rfl, h1, r1⟩ := hx.toDic ok.sub
        have h := look_rep k r1
        have e' : look k kvs = some d := e
        rw [e'] at h
        obtain ⟨v, hv, rv⟩ := h
        exact .inr (.inl ⟨p, v, rfl, by rw [← hv]; exact DGet.k (k := Sum.inr (sT k)) h1, fin rv⟩)
      | _ => cases e
    | kd kvs =>
      cases b with
      | str k =>
        cases hy
        simp only [subD, Option.map_eq_some_iff] at e
        obtain ⟨v, lk, rfl⟩ := e
        cases hx with
        | rep r =>
          cases r with
          | kd h1 => exact .inr (.inr ⟨_, kvs, k, v, rfl, rfl, h1, lk, fin (.str v)⟩)
      | _ => cases e
    | dit kvs =>
      cases b with
      | tup ks =>
        obtain ⟨p, kk, rfl, h1, r1⟩ := hx.toDit ok.sub
        simp only [subD, Option.bind_eq_some_iff] at e
        obtain ⟨k, hk, e⟩ := e
        have h := look_repT k r1
        rw [e] at h
        obtain ⟨v, hv, rv⟩ := h
        cases hy with
        | tup h2 r2 =>
          have e2 := reps_ints hk r2
          subst e2
          refine .inr (.inl ⟨p, v, rfl, ?_, fin rv⟩)
          rw [← hv]
          refine DGet.t (k := k.map Sum.inl) h1 ?_
          rw [List.map_map]
          exact ok.sub _ _ h2
      | _ => cases e
    | _ => cases b <;> cases e
def rSlAll (K : PySem.W.Frag) : V → Option Int → Option Int → Hp → VK → Prop := fun x lo hi H Q => rSlL K x lo hi H Q ∨ rSlA K x lo hi H Q ∨ rSlS x lo hi H Q
theorem sl_all {X : Cx} : SlR X (rSlAll X.K) := SlR.or sl_list (SlR.or sl_tupA sl_str)
theorem reps_cut {K : PySem.W.Frag} {w : World} {S : Hp} {vs : List V} {ds : List D} (r : Reps K w S vs ds) (lo hi : Option Int) : Reps K w S (cutV vs lo hi) (cut ds lo hi) := by
  have e : cutV vs lo hi = cut vs lo hi := rfl
  rw [e]
  unfold cut
  rw [r.length]
  exact (r.drop _).take _
theorem slice_all {P : Pm} {W : WX} {σ : LSt} {env : DEnv} {H S : Hp} {Q : VK} {x : V} {a : D} {lo hi : Option Int} (ok : StOk P σ env H S) (hx : BorR P H S x a) (q : RG P W σ (RV P σ) H S Q (.of (sliceD a lo hi) env)) : rSlAll P.K x lo hi H Q := by
  cases a with
  | lst ds =>
    obtain ⟨p, vs, rfl, h1, r1⟩ := hx.toLst ok.sub
    exact .inl ⟨p, vs, rfl, .inl (.inl h1), fun t nt => RG.newL q ok nt (reps_cut r1 lo hi)⟩
  | tup ds =>
    obtain ⟨p, vs, rfl, h1, h2, r1⟩ := hx.toTup ok.sub
    refine .inr (.inl ⟨p, vs, rfl, .inl (.inl h1), fun hw => ?_, fun _ t nt => RG.newT q ok nt (reps_cut r1 lo hi)⟩)
    have e : cut ds lo hi = ds := by
      have hl := r1.length
      unfold cut
      have e1 : sIx ds.length 0 lo = 0 := by rw [← hl]; exact hw.1
      have e2 : sIx ds.length ds.length hi = ds.length := by rw [← hl]; exact hw.2
      rw [e1, e2]
      simp
    simp only [sliceD, e] at q
    exact RG.now q ok (.tup h2 r1)
  | str l =>
    simp only [sliceD] at q
    split at q
    · rename_i hz
      refine .inr (.inr ⟨sT l, hx.toStr, by rw [sT_len]; exact le_szL hz, ?_⟩)
      have e : cutS (sT l) lo hi = sT (cut l lo hi) := by
        unfold cutS cut sT
        simp only [Str.length, List.size_toArray, List.toList_toArray]
        rfl
      rw [e]
      exact RG.now q ok (.str _)
    · exact q.elim
  | _ => exact q.elim

/-! ### built-ins by their names -/
def CallS (P : Pm) (f : Bi) (r : List V → Hp → VK → Prop) : Prop := ∀ (W : WX) (σ : LSt) (env : DEnv) (H S : Hp) (Q : VK) (xs : List V) (ds : List D), StOk P σ env H S → Bors P H S xs ds → RG P W σ (RV P σ) H S Q (.of (biD f ds) env) → r xs H Q
theorem bors1 {P : Pm} {H S : Hp} {xs : List V} {d : D} (h : Bors P H S xs [d]) : ∃ x, xs = [x] ∧ BorR P H S x d := by
  cases h with
  | cons a b => cases b; exact ⟨_, rfl, a⟩
theorem bors2 {P : Pm} {H S : Hp} {xs : List V} {d e : D} (h : Bors P H S xs [d, e]) : ∃ x y, xs = [x, y] ∧ BorR P H S x d ∧ BorR P H S y e := by
  cases h with
  | cons a b =>
    cases b with
    | cons c b => cases b; exact ⟨_, _, rfl, a, c⟩
theorem len_S {P : Pm} : CallS P .len (fun xs H Q => ∃ x n, xs = [x] ∧ LenV P.K x H n ∧ Q (.int n) H) := by
  intro W σ env H S Q xs ds ok hx q
  match ds, hx, q with
  | [.str l], hx, q =>
    obtain ⟨x, rfl, bx⟩ := bors1 hx
    simp only [biD] at q
    split at q
    · rename_i hz
      rw [bx.toStr]
      exact ⟨_, l.length, rfl, ⟨by rw [sT_len]; exact le_szL hz, (sT_len l).symm⟩, RG.now q ok (.int _)⟩
    · exact q.elim
  | [.lst l], hx, q =>
    obtain ⟨x, rfl, bx⟩ := bors1 hx
    obtain ⟨p, vs, rfl, h1, r1⟩ := bx.toLst ok.sub
    exact ⟨_, l.length, rfl, .inl ⟨vs, .inl (.inl h1), r1.length.symm⟩, RG.now q ok (.int _)⟩
  | [.tup l], hx, q =>
    obtain ⟨x, rfl, bx⟩ := bors1 hx
    obtain ⟨p, vs, rfl, h1, _, r1⟩ := bx.toTup ok.sub
    exact ⟨_, l.length, rfl, .inr ⟨vs, .inl (.inl h1), r1.length.symm⟩, RG.now q ok (.int _)⟩
  | [.scr l], hx, q =>
    obtain ⟨x, rfl, bx⟩ := bors1 hx
    cases bx with
    | rep r =>
      cases r with
      | @scr p _ h1 => exact ⟨_, l.length, rfl, .inl ⟨_, seq_mono ok.sub h1, (List.length_map _).symm⟩, RG.now q ok (.int _)⟩
  | [], hx, q => exact q.elim
  | [.non], hx, q => exact q.elim
  | [.bl _], hx, q => exact q.elim
  | [.int _], hx, q => exact q.elim
  | [.dic _], hx, q => exact q.elim
  | [.dit _], hx, q => exact q.elim
  | d :: _ :: _, hx, q => cases d <;> exact q.elim
def rIntAll : List V → Hp → VK → Prop := fun xs H Q => ((∃ i, xs = [.int i] ∧ Q (.int i) H) ∨ ∃ k, xs = [.bl k] ∧ Q (.int (if k then 1 else 0)) H) ∨ ∃ a n, xs = [.str a] ∧ PySem.intText? a = some n ∧ a.length ≤ 640 ∧ Q (.int n) H
theorem call_intAll {X : Cx} : CallR X (.type "int") rIntAll := CallR.or call_int1 call_int_str
theorem dig_eq (l : T) (h : l.all (fun c => decide (48 ≤ c) && decide (c ≤ 57)) = true) : digV l = ((NumText.digitsVal l : Nat) : Int) := by
  unfold digV
  have h' : NumText.AllDigits l := by
    first
      | exact (fun c hc => by
          have z : (decide (48 ≤ c) && decide (c ≤ 57)) = true := List.all_eq_true.mp h c hc
          rw [Bool.and_eq_true, decide_eq_true_eq, decide_eq_true_eq] at z
          exact z)
      | exact h
  exact TL.fold_digits l 0 h'
theorem int_S2 {P : Pm} : CallS P .int rIntAll := by
  intro W σ env H S Q xs ds ok hx q
  match ds, hx, q with
  | [.int i], hx, q =>
    obtain ⟨x, rfl, bx⟩ := bors1 hx
    rw [bx.toInt]
    exact .inl (.inl ⟨i, rfl, RG.now q ok (.int _)⟩)
  | [.bl i], hx, q =>
    obtain ⟨x, rfl, bx⟩ := bors1 hx
    rw [bx.toBl]
    exact .inl (.inr ⟨i, rfl, RG.now q ok (.int _)⟩)
  | [.str l], hx, q =>
    obtain ⟨x, rfl, bx⟩ := bors1 hx
    rw [bx.toStr]
    simp only [biD] at q
    split at q
    · rename_i hz
      refine .inr ⟨sT l, _, rfl, SX.int_S hz.2.2 hz.1 (by have := hz.2.1; omega), by rw [sT_len]; exact hz.2.1, ?_⟩
      rw [← dig_eq l hz.2.2]
      exact RG.now q ok (.int _)
    · exact q.elim
  | [], hx, q => exact q.elim
  | [.non], hx, q => exact q.elim
  | [.lst _], hx, q => exact q.elim
  | [.tup _], hx, q => exact q.elim
  | [.scr _], hx, q => exact q.elim
  | [.dic _], hx, q => exact q.elim
  | [.dit _], hx, q => exact q.elim
  | d :: _ :: _, hx, q => cases d <;> exact q.elim
def rStrAll : List V → Hp → VK → Prop := fun xs H Q => (∃ i, xs = [.int i] ∧ i.natAbs.log2 < 1920 ∧ Q (.str (toString i)) H) ∨ ∃ a, xs = [.str a] ∧ Q (.str a) H
theorem call_strAll {X : Cx} : CallR X (.type "str") rStrAll := CallR.or call_str_int SkE.call_str_str
theorem num_sT (i : Int) : Str.ofString (toString i) = sT (numT i) := by
  refine TL.ext_tl ?_
  rw [TL.tl_ofString]
  rfl
theorem str_S {P : Pm} : CallS P .str rStrAll := by
  intro W σ env H S Q xs ds ok hx q
  match ds, hx, q with
  | [.int i], hx, q =>
    obtain ⟨x, rfl, bx⟩ := bors1 hx
    rw [bx.toInt]
    simp only [biD] at q
    split at q
    · rename_i hz
      refine .inl ⟨i, rfl, ?_, ?_⟩
      · by_cases h0 : i.natAbs = 0
        · rw [h0]; decide
        · have : i.natAbs.log2 < 64 := (Nat.log2_lt h0).mpr hz
          omega
      · rw [num_sT]
        exact RG.now q ok (.str _)
    · exact q.elim
  | [.str i], hx, q =>
    obtain ⟨x, rfl, bx⟩ := bors1 hx
    rw [bx.toStr]
    exact .inr ⟨_, rfl, RG.now q ok (.str _)⟩
  | [], hx, q => exact q.elim
  | [.non], hx, q => exact q.elim
  | [.bl _], hx, q => exact q.elim
  | [.lst _], hx, q => exact q.elim
  | [.tup _], hx, q => exact q.elim
  | [.scr _], hx, q => exact q.elim
  | [.dic _], hx, q => exact q.elim
  | [.dit _], hx, q => exact q.elim
  | d :: _ :: _, hx, q => cases d <;> exact q.elim
/-! max, min -/
theorem fold_mem {f : Int → Int → Int} (hf : ∀ a b, f a b = a ∨ f a b = b) : ∀ (r : List Int) (x : Int), r.foldl f x ∈ x :: r
  | [], x => by simp
  | y :: r, x => by
    rw [List.foldl_cons]
    have h := fold_mem hf r (f x y)
    rcases hf x y with e | e
    · rw [e] at h ⊢
      rcases List.mem_cons.mp h with h | h
      · rw [h]; simp
      · exact List.mem_cons_of_mem _ (List.mem_cons_of_mem _ h)
    · rw [e] at h ⊢
      exact List.mem_cons_of_mem _ h
theorem fold_max : ∀ (r : List Int) (x : Int), x ≤ r.foldl (fun a b => if b > a then b else a) x ∧ ∀ y ∈ r, y ≤ r.foldl (fun a b => if b > a then b else a) x
  | [], x => ⟨Int.le_refl _, fun y h => by cases h⟩
  | z :: r, x => by
    rw [List.foldl_cons]
    obtain ⟨h1, h2⟩ := fold_max r (if z > x then z else x)
    refine ⟨?_, fun y hy => ?_⟩
    · refine Int.le_trans ?_ h1
      split <;> omega
    · rcases List.mem_cons.mp hy with rfl | hy
      · refine Int.le_trans ?_ h1
        split <;> omega
      · exact h2 y hy
theorem fold_min : ∀ (r : List Int) (x : Int), r.foldl (fun a b => if b < a then b else a) x ≤ x ∧ ∀ y ∈ r, r.foldl (fun a b => if b < a then b else a) x ≤ y
  | [], x => ⟨Int.le_refl _, fun y h => by cases h⟩
  | z :: r, x => by
    rw [List.foldl_cons]
    obtain ⟨h1, h2⟩ := fold_min r (if z < x then z else x)
    refine ⟨?_, fun y hy => ?_⟩
    · refine Int.le_trans h1 ?_
      split <;> omega
    · rcases List.mem_cons.mp hy with rfl | hy
      · refine Int.le_trans h1 ?_
        split <;> omega
      · exact h2 y hy
theorem maxL_uniq {l : List Int} {m n : Int} (e : maxL l = some m) (h1 : n ∈ l) (h2 : ∀ y ∈ l, y ≤ n) : n = m := by
  cases l with
  | nil => cases e
  | cons x r =>
    simp only [maxL, Option.some.injEq] at e
    have hm := fold_mem (f := fun a b => if b > a then b else a) (fun a b => by by_cases h : b > a <;> simp [h]) r x
    obtain ⟨g1, g2⟩ := fold_max r x
    rw [e] at hm g1 g2
    have a1 := h2 m hm
    have a2 : n ≤ m := by
      rcases List.mem_cons.mp h1 with rfl | h
      · exact g1
      · exact g2 n h
    omega
theorem minL_uniq {l : List Int} {m n : Int} (e : minL l = some m) (h1 : n ∈ l) (h2 : ∀ y ∈ l, n ≤ y) : n = m := by
  cases l with
  | nil => cases e
  | cons x r =>
    simp only [minL, Option.some.injEq] at e
    have hm := fold_mem (f := fun a b => if b < a then b else a) (fun a b => by by_cases h : b < a <;> simp [h]) r x
    obtain ⟨g1, g2⟩ := fold_min r x
    rw [e] at hm g1 g2
    have a1 := h2 m hm
    have a2 : m ≤ n := by
      rcases List.mem_cons.mp h1 with rfl | h
      · exact g1
      · exact g2 n h
    omega
end Dl

namespace Dl
open PySem L2
/-! ### max and min of a tuple of ints -/
theorem maxD_int (n : Int) : ∀ ns : List Int, PySem.W.maxD (.int n) (ns.map .int) = .int (ns.foldl max n) := by
  first
    | exact PySem.W.maxD_ints n
    | skip
theorem alike_ints (ns : List Int) : PySem.W.AlikeAll (ns.map PyData.int) := by
  refine ⟨fun x hx y hy => ?_, fun x hx => ?_⟩
  · obtain ⟨a, _, rfl⟩ := List.mem_map.mp hx
    obtain ⟨b, _, rfl⟩ := List.mem_map.mp hy
    simp only [PySem.W.alike]
  · obtain ⟨a, _, rfl⟩ := List.mem_map.mp hx
    intro h; cases h
theorem depth_ints : ∀ ns : List Int, PyData.depthAll (ns.map PyData.int) = 0
  | [] => by simp only [List.map_nil, PyData.depthAll]
  | n :: r => by simp only [List.map_cons, PyData.depthAll, PyData.depth, depth_ints r]; rfl
theorem reads_ints {h : Heap} : ∀ {us : List Value} {ns : List Int}, Vals (ns.map V.int) us → ∃ as, ReadsAll h us (ns.map PyData.int) as
  | _, [], r => by cases r; exact ⟨_, ReadsAll.nil⟩
  | _, n :: ns, r => by
    cases r with
    | cons r1 r2 =>
      obtain ⟨t, rfl⟩ := r1
      obtain ⟨as, h⟩ := reads_ints (h := h) r2
      exact ⟨_, ReadsAll.cons (Reads.int n t) h⟩
theorem fold_maxI (ns : List Int) (n : Int) : ns.foldl max n ∈ n :: ns ∧ ∀ y ∈ n :: ns, y ≤ ns.foldl max n := by
  have h1 := fold_mem (f := max) (fun a b => by omega) ns n
  refine ⟨h1, ?_⟩
  have key : ∀ (ns : List Int) (n : Int), n ≤ ns.foldl max n ∧ ∀ y ∈ ns, y ≤ ns.foldl max n := by
    intro ns
    induction ns with
    | nil => intro n; exact ⟨Int.le_refl _, fun y h => by cases h⟩
    | cons z r ih =>
      intro n
      rw [List.foldl_cons]
      obtain ⟨a, b⟩ := ih (max n z)
      refine ⟨by omega, fun y hy => ?_⟩
      rcases List.mem_cons.mp hy with rfl | hy
      · omega
      · exact b y hy
  intro y hy
  rcases List.mem_cons.mp hy with rfl | hy
  · exact (key ns _).1
  · exact (key ns n).2 y hy
theorem fold_minI (ns : List Int) (n : Int) : ns.foldl min n ∈ n :: ns ∧ ∀ y ∈ n :: ns, ns.foldl min n ≤ y := by
  have h1 := fold_mem (f := min) (fun a b => by omega) ns n
  refine ⟨h1, ?_⟩
  have key : ∀ (ns : List Int) (n : Int), ns.foldl min n ≤ n ∧ ∀ y ∈ ns, ns.foldl min n ≤ y := by
    intro ns
    induction ns with
    | nil => intro n; exact ⟨Int.le_refl _, fun y h => by cases h⟩
    | cons z r ih =>
      intro n
      rw [List.foldl_cons]
      obtain ⟨a, b⟩ := ih (min n z)
      refine ⟨by omega, fun y hy => ?_⟩
      rcases List.mem_cons.mp hy with rfl | hy
      · omega
      · exact b y hy
  intro y hy
  rcases List.mem_cons.mp hy with rfl | hy
  · exact (key ns _).1
  · exact (key ns n).2 y hy
def rMaxT (K : PySem.W.Frag) : List V → Hp → VK → Prop := fun vs H Q => ∃ (a : Addr) (ns : List Int), vs = [V.ref a] ∧ SqT K H a (ns.map V.int) ∧ 0 < ns.length ∧ ∀ m, m ∈ ns → (∀ y, y ∈ ns → y ≤ m) → Q (.int m) H
def rMinT (K : PySem.W.Frag) : List V → Hp → VK → Prop := fun vs H Q => ∃ (a : Addr) (ns : List Int), vs = [V.ref a] ∧ SqT K H a (ns.map V.int) ∧ 0 < ns.length ∧ ∀ m, m ∈ ns → (∀ y, y ∈ ns → m ≤ y) → Q (.int m) H
section
variable {X : Cx}
theorem cr_maxT (hc : X.calm = true) (hu : X.A.units + 1 < cLine) : CallR X (.builtin "max") (rMaxT X.K) := by
  intro pins s σ H vs us Q I r h
  obtain ⟨a, ns, rfl, hs, hne, q⟩ := h
  obtain ⟨its, rv, hl, _⟩ := I.tuple hs
  rw [Vals.ref1 r]
  cases ns with
  | nil => cases hne
  | cons n ns =>
    obtain ⟨as, hr⟩ := reads_ints (h := s.heap) rv
    refine PySem.W.max_tuple_data (as := as) (I.ok.hd hc) hl hr (alike_ints (n :: ns)) ?_ fun i v h' tk bs hv hrd hk => ?_
    · rw [show (PyData.int n :: ns.map PyData.int) = (n :: ns).map PyData.int from rfl, depth_ints]; omega
    · rw [maxD_int] at hrd
      obtain ⟨t, rfl⟩ : ∃ t, v = Value.int (ns.foldl max n) t := by
        cases hrd with
        | int i t => exact ⟨_, rfl⟩
      obtain ⟨h1, h2⟩ := fold_maxI ns n
      exact ⟨.int _, H, I.kept hk, ⟨_, rfl⟩, q _ h1 h2⟩
theorem cr_minT (hc : X.calm = true) (hu : X.A.units + 1 < cLine) : CallR X (.builtin "min") (rMinT X.K) := by
  intro pins s σ H vs us Q I r h
  obtain ⟨a, ns, rfl, hs, hne, q⟩ := h
  obtain ⟨its, rv, hl, _⟩ := I.tuple hs
  rw [Vals.ref1 r]
  cases ns with
  | nil => cases hne
  | cons n ns =>
    obtain ⟨as, hr⟩ := reads_ints (h := s.heap) rv
    refine PySem.W.min_tuple_data (as := as) (I.ok.hd hc) hl hr (alike_ints (n :: ns)) ?_ fun i v h' tk bs hv hrd hk => ?_
    · rw [show (PyData.int n :: ns.map PyData.int) = (n :: ns).map PyData.int from rfl, depth_ints]; omega
    · rw [PySem.W.minD_ints] at hrd
      obtain ⟨t, rfl⟩ : ∃ t, v = Value.int (ns.foldl min n) t := by
        cases hrd with
        | int i t => exact ⟨_, rfl⟩
      obtain ⟨h1, h2⟩ := fold_minI ns n
      exact ⟨.int _, H, I.kept hk, ⟨_, rfl⟩, q _ h1 h2⟩
end
def rMaxAll (K : PySem.W.Frag) : List V → Hp → VK → Prop := fun xs H Q => ((∃ i j, xs = [.int i, .int j] ∧ Q (.int (if j > i then j else i)) H) ∨ rMax K xs H Q) ∨ rMaxT K xs H Q
def rMinAll (K : PySem.W.Frag) : List V → Hp → VK → Prop := fun xs H Q => ((∃ i j, xs = [.int i, .int j] ∧ Q (.int (if j < i then j else i)) H) ∨ rMin K xs H Q) ∨ rMinT K xs H Q
theorem call_maxAll {X : Cx} (hc : X.calm = true) (hu : X.A.units + 1 < cLine) : CallR X (.builtin "max") (rMaxAll X.K) := CallR.or (CallR.or (call_max2 hc) (cr_max hc)) (cr_maxT hc hu)
theorem call_minAll {X : Cx} (hc : X.calm = true) (hu : X.A.units + 1 < cLine) : CallR X (.builtin "min") (rMinAll X.K) := CallR.or (CallR.or (call_min2 hc) (cr_min hc)) (cr_minT hc hu)
theorem intsD_ne {l : List Int} {m : Int} (h : maxL l = some m) : 0 < l.length := by
  cases l with
  | nil => cases h
  | cons x r => exact Nat.succ_pos _
theorem intsD_ne' {l : List Int} {m : Int} (h : minL l = some m) : 0 < l.length := by
  cases l with
  | nil => cases h
  | cons x r => exact Nat.succ_pos _
theorem max_Sq {P : Pm} : CallS P .max (rMaxAll P.K) := by
  intro W σ env H S Q xs ds ok hx q
  match ds, hx, q with
  | [.int i, .int j], hx, q =>
    obtain ⟨x, y, rfl, bx, by_⟩ := bors2 hx
    rw [bx.toInt, by_.toInt]
    exact .inl (.inl ⟨i, j, rfl, RG.now q ok (.int _)⟩)
  | [.lst l], hx, q =>
    obtain ⟨x, rfl, bx⟩ := bors1 hx
    obtain ⟨p, vs, rfl, h1, r1⟩ := bx.toLst ok.sub
    cases e : biD .max [.lst l] with
    | none => rw [e] at q; exact q.elim
    | some u =>
      rw [e] at q
      simp only [biD, Option.bind_eq_some_iff, Option.map_eq_some_iff] at e
      obtain ⟨ns, e1, m, e2, rfl⟩ := e
      have e3 := reps_ints e1 r1
      subst e3
      refine .inl (.inr ⟨p, ns, rfl, .inl (.inl h1), intsD_ne e2, fun n hn hle => ?_⟩)
      rw [maxL_uniq e2 hn hle]
      exact RG.now q ok (.int _)
  | [.tup l], hx, q =>
    obtain ⟨x, rfl, bx⟩ := bors1 hx
    obtain ⟨p, vs, rfl, h1, _, r1⟩ := bx.toTup ok.sub
    cases e : biD .max [.tup l] with
    | none => rw [e] at q; exact q.elim
    | some u =>
      rw [e] at q
      simp only [biD, Option.bind_eq_some_iff, Option.map_eq_some_iff] at e
      obtain ⟨ns, e1, m, e2, rfl⟩ := e
      have e3 := reps_ints e1 r1
      subst e3
      refine .inr ⟨p, ns, rfl, .inl (.inl h1), intsD_ne e2, fun n hn hle => ?_⟩
      rw [maxL_uniq e2 hn hle]
      exact RG.now q ok (.int _)
  | [], hx, q => exact q.elim
  | [.non], hx, q => exact q.elim
  | [.bl _], hx, q => exact q.elim
  | [.int _], hx, q => exact q.elim
  | [.str _], hx, q => exact q.elim
  | [.scr _], hx, q => exact q.elim
  | [.dic _], hx, q => exact q.elim
  | [.dit _], hx, q => exact q.elim
  | d :: e :: f :: r, hx, q => cases d <;> cases e <;> exact q.elim
  | [d, e], hx, q =>
    cases d with
    | int i =>
      cases e with
      | int j =>
        obtain ⟨x, y, rfl, bx, by_⟩ := bors2 hx
        rw [bx.toInt, by_.toInt]
        exact .inl (.inl ⟨i, j, rfl, RG.now q ok (.int _)⟩)
      | _ => exact q.elim
    | _ => exact q.elim
theorem min_Sq {P : Pm} : CallS P .min (rMinAll P.K) := by
  intro W σ env H S Q xs ds ok hx q
  match ds, hx, q with
  | [.lst l], hx, q =>
    obtain ⟨x, rfl, bx⟩ := bors1 hx
    obtain ⟨p, vs, rfl, h1, r1⟩ := bx.toLst ok.sub
    cases e : biD .min [.lst l] with
    | none => rw [e] at q; exact q.elim
    | some u =>
      rw [e] at q
      simp only [biD, Option.bind_eq_some_iff, Option.map_eq_some_iff] at e
      obtain ⟨ns, e1, m, e2, rfl⟩ := e
      have e3 := reps_ints e1 r1
      subst e3
      refine .inl (.inr ⟨p, ns, rfl, .inl (.inl h1), intsD_ne' e2, fun n hn hle => ?_⟩)
      rw [minL_uniq e2 hn hle]
      exact RG.now q ok (.int _)
  | [.tup l], hx, q =>
    obtain ⟨x, rfl, bx⟩ := bors1 hx
    obtain ⟨p, vs, rfl, h1, _, r1⟩ := bx.toTup ok.sub
    cases e : biD .min [.tup l] with
    | none => rw [e] at q; exact q.elim
    | some u =>
      rw [e] at q
      simp only [biD, Option.bind_eq_some_iff, Option.map_eq_some_iff] at e
      obtain ⟨ns, e1, m, e2, rfl⟩ := e
      have e3 := reps_ints e1 r1
      subst e3
      refine .inr ⟨p, ns, rfl, .inl (.inl h1), intsD_ne' e2, fun n hn hle => ?_⟩
      rw [minL_uniq e2 hn hle]
      exact RG.now q ok (.int _)
  | [], hx, q => exact q.elim
  | [.non], hx, q => exact q.elim
  | [.bl _], hx, q => exact q.elim
  | [.int _], hx, q => exact q.elim
  | [.str _], hx, q => exact q.elim
  | [.scr _], hx, q => exact q.elim
  | [.dic _], hx, q => exact q.elim
  | [.dit _], hx, q => exact q.elim
  | d :: e :: f :: r, hx, q => cases d <;> cases e <;> exact q.elim
  | [d, e], hx, q =>
    cases d with
    | int i =>
      cases e with
      | int j =>
        obtain ⟨x, y, rfl, bx, by_⟩ := bors2 hx
        rw [bx.toInt, by_.toInt]
        exact .inl (.inl ⟨i, j, rfl, RG.now q ok (.int _)⟩)
      | _ => exact q.elim
    | _ => exact q.elim
/-! ### list(..), tuple(..), dict(..) -/
theorem list_S {P : Pm} : CallS P .list (fun xs H Q => ∃ p ys, xs = [.ref p] ∧ (SqL P.K H p ys ∨ SqT P.K H p ys) ∧ ∀ l, H l = none → Q (.ref l) (upd H l (.lst ys))) := by
  intro W σ env H S Q xs ds ok hx q
  match ds, hx, q with
  | [.lst l], hx, q =>
    obtain ⟨x, rfl, bx⟩ := bors1 hx
    obtain ⟨p, vs, rfl, h1, r1⟩ := bx.toLst ok.sub
    exact ⟨p, vs, rfl, .inl (.inl (.inl h1)), fun t nt => RG.newL q ok nt r1⟩
  | [.tup l], hx, q =>
    obtain ⟨x, rfl, bx⟩ := bors1 hx
    obtain ⟨p, vs, rfl, h1, _, r1⟩ := bx.toTup ok.sub
    exact ⟨p, vs, rfl, .inr (.inl (.inl h1)), fun t nt => RG.newL q ok nt r1⟩
  | [], hx, q => exact q.elim
  | [.non], hx, q => exact q.elim
  | [.bl _], hx, q => exact q.elim
  | [.int _], hx, q => exact q.elim
  | [.str _], hx, q => exact q.elim
  | [.scr _], hx, q => exact q.elim
  | [.dic _], hx, q => exact q.elim
  | [.dit _], hx, q => exact q.elim
  | d :: _ :: _, hx, q => cases d <;> exact q.elim
theorem tuple_S {P : Pm} : CallS P .tuple (fun xs H Q => ∃ p ys, xs = [.ref p] ∧ ((SqL P.K H p ys ∧ ∀ l, H l = none → Q (.ref l) (upd H l (.tup ys))) ∨ (SqT P.K H p ys ∧ Q (.ref p) H))) := by
  intro W σ env H S Q xs ds ok hx q
  match ds, hx, q with
  | [.lst l], hx, q =>
    obtain ⟨x, rfl, bx⟩ := bors1 hx
    obtain ⟨p, vs, rfl, h1, r1⟩ := bx.toLst ok.sub
    exact ⟨p, vs, rfl, .inl ⟨.inl (.inl h1), fun t nt => RG.newT q ok nt r1⟩⟩
  | [.tup l], hx, q =>
    obtain ⟨x, rfl, bx⟩ := bors1 hx
    obtain ⟨p, vs, rfl, h1, h2, r1⟩ := bx.toTup ok.sub
    exact ⟨p, vs, rfl, .inr ⟨.inl (.inl h1), RG.now q ok (.tup h2 r1)⟩⟩
  | [], hx, q => exact q.elim
  | [.non], hx, q => exact q.elim
  | [.bl _], hx, q => exact q.elim
  | [.int _], hx, q => exact q.elim
  | [.str _], hx, q => exact q.elim
  | [.scr _], hx, q => exact q.elim
  | [.dic _], hx, q => exact q.elim
  | [.dit _], hx, q => exact q.elim
  | d :: _ :: _, hx, q => cases d <;> exact q.elim
theorem dict_S {P : Pm} : CallS P .dict (fun xs H Q => ∃ (a : Addr) (kvs : List (Key × V)), xs = [.ref a] ∧ Rd H a (.dK kvs) ∧ ∀ p, H p = none → Q (.ref p) (upd H p (.dK kvs))) := by
  intro W σ env H S Q xs ds ok hx q
  match ds, hx, q with
  | [.dic l], hx, q =>
    obtain ⟨x, rfl, bx⟩ := bors1 hx
    obtain ⟨p, vs, rfl, h1, r1⟩ := bx.toDic ok.sub
    exact ⟨p, vs, rfl, .inl h1, fun t nt => RG.newO q ok nt ⟨vs, upd_same, r1⟩ rfl (fun _ z => nomatch z)⟩
  | [], hx, q => exact q.elim
  | [.non], hx, q => exact q.elim
  | [.bl _], hx, q => exact q.elim
  | [.int _], hx, q => exact q.elim
  | [.str _], hx, q => exact q.elim
  | [.scr _], hx, q => exact q.elim
  | [.lst _], hx, q => exact q.elim
  | [.tup _], hx, q => exact q.elim
  | [.dit _], hx, q => exact q.elim
  | d :: _ :: _, hx, q => cases d <;> exact q.elim
/-! ### methods -/
def MethS (P : Pm) (m : Me) (r : V → List V → Hp → VK → Prop) : Prop := ∀ (W : WX) (σ : LSt) (env : DEnv) (H S : Hp) (Q : VK) (x : V) (d : D) (xs : List V) (ds : List D), StOk P σ env H S → BorR P H S x d → Bors P H S xs ds → RG P W σ (RV P σ) H S Q (.of (meD m d ds) env) → r x xs H Q
theorem totL_eq (s : T) : ∀ l : List T, ((l.map sT).map (·.length)).sum + (l.map sT).length * (sT s).length = totL s l
  | [] => by simp [totL]
  | x :: r => by
    have ih := totL_eq s r
    simp only [List.map_cons, List.sum_cons, List.length_cons, totL]
    rw [← ih, sT_len, sT_len, Nat.add_mul]
    omega
theorem joinL_eq (s : T) : ∀ l : List T, TL.joinL s l = joinL s l
  | [] => rfl
  | [x] => rfl
  | x :: y :: r => by
    show x ++ (s ++ TL.joinL s (y :: r)) = x ++ (s ++ joinL s (y :: r))
    rw [joinL_eq s (y :: r)]
theorem map_tl (l : List T) : (l.map sT).map TL.tl = l := by
  rw [List.map_map]
  exact List.map_id l
theorem join_sT (s : T) (l : List T) : Txt.join (sT s) (l.map sT) = sT (joinL s l) := by
  rw [TL.join_eq]
  refine TL.ext_tl ?_
  rw [TL.tl_join, map_tl, ← joinL_eq]
  rfl
theorem spl_eq (s : T) : ∀ (l : T) (k : Nat) (acc : T), TL.spl s k acc l = spl s k acc l
  | [], k, acc => by cases k <;> rfl
  | c :: r, 0, acc => by
    show (if TL.pre s (c :: r) = true then acc :: TL.spl s (s.length - 1) [] r else TL.spl s 0 (acc ++ [c]) r) = (if pre s (c :: r) = true then acc :: spl s (s.length - 1) [] r else spl s 0 (acc ++ [c]) r)
    rw [spl_eq s r, spl_eq s r]
    rfl
  | c :: r, k + 1, acc => by
    show TL.spl s k acc r = spl s k acc r
    exact spl_eq s r k acc
theorem split_sT (s l : T) (hs : s ≠ []) (hk : s.all (· < 256) = true) : Txt.split (sT l) (sT s) = (spl s 0 [] l).map sT := by
  have h := TL.split_spl (sT l) (sT s) hs (TL.kind_ok (by show (List.toArray s).all _ = true; rw [List.all_toArray]; exact hk))
  refine TL.map_tl_inj ?_
  rw [h, List.map_map]
  show TL.spl s 0 [] l = _
  rw [spl_eq]
  exact (List.map_id _).symm
theorem join_S {P : Pm} : MethS P .join (fun x xs H Q => ∃ a p, ∃ ys : List Str, x = .str a ∧ xs = [.ref p] ∧ (SqL P.K H p (ys.map V.str) ∨ SqT P.K H p (ys.map V.str)) ∧
    (ys.map (·.length)).sum + ys.length * a.length ≤ 16777216 ∧ Q (.str (Txt.join a ys)) H) := by
  intro W σ env H S Q x d xs ds ok hx hxs q
  cases d with
  | str s =>
    match ds, hxs, q with
    | [.lst l], hxs, q =>
      obtain ⟨y, rfl, by_⟩ := bors1 hxs
      obtain ⟨p, vs, rfl, h1, r1⟩ := by_.toLst ok.sub
      cases e : strsD l with
      | none => simp only [meD, e, Option.bind_none] at q; exact q.elim
      | some ts =>
        simp only [meD, e, Option.bind_some] at q
        split at q
        · rename_i hz
          have e3 := reps_strs e r1
          subst e3
          refine ⟨sT s, p, ts.map sT, hx.toStr, rfl, .inl (.inl (.inl h1)), ?_, ?_⟩
          · rw [totL_eq]; exact hz
          · rw [join_sT]; exact RG.now q ok (.str _)
        · exact q.elim
    | [], hxs, q => exact q.elim
    | [.non], hx, q => exact q.elim
    | [.bl _], hx, q => exact q.elim
    | [.int _], hx, q => exact q.elim
    | [.str _], hx, q => exact q.elim
    | [.scr _], hx, q => exact q.elim
    | [.dic _], hx, q => exact q.elim
    | [.tup _], hx, q => exact q.elim
    | [.dit _], hx, q => exact q.elim
    | d :: _ :: _, hx, q => cases d <;> exact q.elim
  | _ => exact q.elim
theorem fstIx_spec {a : D} : ∀ (xs : List D) (n j : Nat), fstIx a xs n = some j → n ≤ j ∧ ∃ z, xs[j - n]? = some z ∧ eqD z a = true ∧ ∀ m z', m < j - n → xs[m]? = some z' → eqD z' a = false
  | [], n, j, h => by cases h
  | x :: r, n, j, h => by
    simp only [fstIx] at h
    split at h
    · rename_i hx
      cases h
      exact ⟨Nat.le_refl _, x, by simp, hx, fun m z' hm => by omega⟩
    · rename_i hx
      obtain ⟨h1, z, h2, h3, h4⟩ := fstIx_spec r (n + 1) j h
      refine ⟨by omega, z, ?_, h3, fun m z' hm hz => ?_⟩
      · rw [show j - n = (j - (n + 1)) + 1 by omega, List.getElem?_cons_succ]; exact h2
      · cases m with
        | zero => simp at hz; subst hz; simpa using hx
        | succ m => rw [List.getElem?_cons_succ] at hz; exact h4 m z' (by omega) hz
theorem toPs_get {xs : List D} {j : Nat} {z : D} (h : xs[j]? = some z) : (toPs xs)[j]? = some (toP z) := by
  rw [toPs_map, List.getElem?_map, h]; rfl
theorem toPs_getD {xs : List D} {j : Nat} {z' : PyData} (h : (toPs xs)[j]? = some z') : ∃ z, xs[j]? = some z ∧ z' = toP z := by
  rw [toPs_map, List.getElem?_map, Option.map_eq_some_iff] at h
  obtain ⟨z, h1, h2⟩ := h
  exact ⟨z, h1, h2.symm⟩
theorem okDs_get : ∀ {xs : List D} {n j : Nat} {z : D}, okDs xs n = true → xs[j]? = some z → okD z n = true
  | [], _, _, _, _, h => by simp at h
  | x :: r, n, 0, z, h, e => by simp at e; subst e; simp only [okDs, Bool.and_eq_true] at h; exact h.1
  | x :: r, n, j + 1, z, h, e => by simp only [okDs, Bool.and_eq_true] at h; exact okDs_get h.2 (by simpa using e)
theorem index_S {P : Pm} : MethS P .index (rIndexD P.K) := by
  intro W σ env H S Q x d xs ds ok hx hxs q
  cases d with
  | lst l =>
    match ds, hxs, q with
    | [a], hxs, q =>
      obtain ⟨y, rfl, by_⟩ := bors1 hxs
      simp only [meD] at q
      split at q
      · rename_i hz
        rw [Bool.and_eq_true] at hz
        cases e : fstIx a l 0 with
        | none => rw [e] at q; exact q.elim
        | some j =>
          rw [e] at q
          obtain ⟨_, z, h2, h3, h4⟩ := fstIx_spec l 0 j e
          obtain ⟨p, vs, rfl, h1, r1⟩ := hx.toLst ok.sub
          have hl : okDs l 63 = true := by have := hz.2; simp only [okD] at this; exact this
          have hd := bor_dp ok.sub hz.2 (BorR.lst h1 r1)
          have hs := okD_shaped hz.2
          simp only [toP] at hd hs
          refine ⟨p, y, toP a, toPs l, j, toP z, rfl, rfl, hd, bor_dp ok.sub hz.1 by_, hs, okD_up hz.1, toPs_get h2, ?_, fun m z' hm hz' => ?_, RG.now q ok (.int _)⟩
          · rw [eqD_eqv z a 63 63 (okDs_get hl h2) hz.1]; exact h3
          · obtain ⟨z2, g1, rfl⟩ := toPs_getD hz'
            rw [eqD_eqv z2 a 63 63 (okDs_get hl g1) hz.1]
            exact h4 m z2 hm g1
      · exact q.elim
    | [], hxs, q => exact q.elim
    | _ :: _ :: _, hx, q => exact q.elim
  | _ => exact q.elim
theorem split_S {P : Pm} : MethS P .split (fun x xs H Q => ∃ a b, x = .str a ∧ xs = [.str b] ∧ (b.length == 0) = false ∧ a.length + 2 ≤ sizeLine ∧ rNewStrs (Txt.split a b) H Q) := by
  intro W σ env H S Q x d xs ds ok hx hxs q
  cases d with
  | str l =>
    match ds, hxs, q with
    | [.str s], hxs, q =>
      obtain ⟨y, rfl, by_⟩ := bors1 hxs
      rw [by_.toStr]
      simp only [meD] at q
      split at q
      · rename_i hz
        refine ⟨sT l, sT s, hx.toStr, rfl, ?_, by rw [sT_len]; exact le_szL hz.2.2, ?_⟩
        · rw [sT_len]
          cases s with
          | nil => exact (hz.1 rfl).elim
          | cons c r => rfl
        · rw [split_sT s l hz.1 hz.2.1]
          intro p np
          refine RG.newL q ok np ?_
          rw [List.map_map]
          have key : ∀ ts : List T, P.Reps S (ts.map (V.str ∘ sT)) (ts.map .str) := by
            intro ts
            induction ts with
            | nil => exact .nil
            | cons t r ih => exact .cons (.str _) ih
          exact key _
      · exact q.elim
    | [], hxs, q => exact q.elim
    | [.non], hx, q => exact q.elim
    | [.bl _], hx, q => exact q.elim
    | [.int _], hx, q => exact q.elim
    | [.lst _], hx, q => exact q.elim
    | [.scr _], hx, q => exact q.elim
    | [.dic _], hx, q => exact q.elim
    | [.tup _], hx, q => exact q.elim
    | [.dit _], hx, q => exact q.elim
    | d :: _ :: _, hx, q => cases d <;> exact q.elim
  | _ => exact q.elim
def rGetD : V → List V → Hp → VK → Prop := fun x xs H Q => ∃ a y z o, x = .ref a ∧ xs = [y, z] ∧ DGet H a y o ∧ Q (o.getD z) H
theorem mt_getD {X : Cx} (hu : X.A.units + 1 < cLine) : MtR X "dict.get" rGetD := by
  intro pins s σ H x xs v us Q I rx rs h
  obtain ⟨a, y, z, o, rfl, rfl, g, q⟩ := h
  obtain ⟨u1, u2, rfl, r1, r2⟩ := vals2 rs
  cases rx
  exact d_get2 hu I g r1 r2 fun w' s' I' r' => ⟨_, H, I', r', q⟩
theorem BorR.back {P : Pm} {σ : LSt} {env : DEnv} {H S : Hp} {z : V} {e : D} (h : BorR P H S z e) (hk : okD e 64 = true) (ne : ∀ xs, e ≠ .lst xs) : P.Rep S z e := by
  cases h with
  | rep r => exact r
  | lst g1 r => exact (ne _ rfl).elim
  | dic g1 r => simp only [okD] at hk; cases hk
  | dit g1 r => simp only [okD] at hk; cases hk
theorem get_S {P : Pm} : MethS P .get rGetD := by
  intro W σ env H S Q x d xs ds ok hx hxs q
  cases d with
  | dic kvs =>
    match ds, hxs, q with
    | [], hxs, q => exact q.elim
    | [d], hxs, q => cases d <;> exact q.elim
    | d :: e :: f :: r, hx, q => cases d <;> cases e <;> exact q.elim
    | [d, e], hxs, q =>
      cases d with
      | str k =>
        cases e with
        | str e =>
          obtain ⟨y, z, rfl, by_, bz⟩ := bors2 hxs
          obtain ⟨p, ks, rfl, h1, r1⟩ := hx.toDic ok.sub
          have hy := by_.toStr
          have hz := bz.toStr
          subst hy hz
          refine ⟨p, _, _, _, rfl, rfl, DGet.k (k := Sum.inr (sT k)) h1, ?_⟩
          have h := look_rep k r1
          simp only [meD] at q
          cases el : look k kvs with
          | none =>
            rw [el] at h q
            rw [h]
            exact RG.now q ok (.str _)
          | some d2 =>
            rw [el] at h q
            obtain ⟨v, hv, rv⟩ := h
            rw [hv]
            exact RG.now q ok rv
        | _ => exact q.elim
      | _ => exact q.elim
  | _ => exact q.elim
end Dl

namespace Dl
open PySem L2
/-! ### rules for expressions -/
theorem tst_eq {G : Tab} {m : E} {env : DEnv} (hm : isVar m = none) : tst G m env = (ev G m env).val.bd fun x env => .of (truth x) env := by
  unfold tst brw
  rw [hm]
theorem blR_tst {G : Tab} {m : E} {env env1 : DEnv} {k : Bool} (h : blR (ev G m env) = .ok k env1) : tst G m env = .ok k env1 := by
  cases hm : isVar m with
  | none =>
    rw [tst_eq hm]
    unfold blR at h
    cases e : (ev G m env).val with
    | ok x env2 =>
      rw [e] at h
      simp only [bd_ok] at h ⊢
      cases x <;> simp only [boolOf, of_none, of_some, Res.ok.injEq] at h <;> first | (obtain ⟨rfl, rfl⟩ := h; rfl) | cases h
    | er c env2 => rw [e] at h; cases h
    | st => rw [e] at h; cases h
  | some i =>
    have em : m = .var i := by
      cases m <;> simp only [isVar, Option.some.injEq] at hm <;> first | (subst hm; rfl) | cases hm
    subst em
    simp only [ev, blR, Res.val, rd] at h
    simp only [tst, brw, isVar, bor]
    cases e : env[i]? with
    | none => rw [e] at h; cases h
    | some o =>
      cases o with
      | none => rw [e] at h; cases h
      | some u =>
        rw [e] at h
        cases u with
        | sh d =>
          simp only [bd_ok, DV.toD, of_some] at h ⊢
          cases d <;> simp only [boolOf, of_none, of_some, Res.ok.injEq] at h <;> first | (obtain ⟨rfl, rfl⟩ := h; rfl) | cases h
        | ol ds => simp only [bd_ok, DV.toD, of_some, boolOf, of_none] at h; cases h
        | op ds => cases h
        | od ds => simp only [bd_ok, DV.toD, of_some, boolOf, of_none] at h; cases h
        | ot ds => simp only [bd_ok, DV.toD, of_some, boolOf, of_none] at h; cases h
        | ex c => cases h
theorem blR_er {G : Tab} {m : E} {env env1 : DEnv} {c : Nat} (h : blR (ev G m env) = .er c env1) : tst G m env = .er c env1 := by
  cases hm : isVar m with
  | none =>
    rw [tst_eq hm]
    unfold blR at h
    cases e : (ev G m env).val with
    | ok x env2 =>
      rw [e] at h
      simp only [bd_ok] at h
      cases x <;> cases h
    | er c env2 => rw [e] at h; exact h
    | st => rw [e] at h; cases h
  | some i =>
    have em : m = .var i := by
      cases m <;> simp only [isVar, Option.some.injEq] at hm <;> first | (subst hm; rfl) | cases hm
    subst em
    simp only [ev, blR, Res.val, rd] at h
    cases e : env[i]? with
    | none => rw [e] at h; cases h
    | some o =>
      cases o with
      | none => rw [e] at h; cases h
      | some u =>
        rw [e] at h
        cases u with
        | sh d =>
          simp only [bd_ok, DV.toD, of_some] at h
          cases d <;> cases h
        | ol ds => simp only [bd_ok, DV.toD, of_some, boolOf, of_none] at h; cases h
        | op ds => cases h
        | od ds => simp only [bd_ok, DV.toD, of_some, boolOf, of_none] at h; cases h
        | ot ds => simp only [bd_ok, DV.toD, of_some, boolOf, of_none] at h; cases h
        | ex c => cases h
section
variable {C : Cn} {a b c d e : Expr} {ma mb mc md m : E} {pos : Pos}
/-- a test that the semantics asks as a bool -/
theorem RG.tst {P : Pm} {W : WX} {σ : LSt} {G : Tab} {env : DEnv} {H S : Hp} {γ δ : Type} {R2 : γ → δ → DEnv → Hp → Hp → Prop} {Q' : Bool → Hp → Prop} {Q : δ → Hp → Prop} {k : Bool → DEnv → Res γ} (h : RG P W σ R2 H S Q ((blR (ev G m env)).bd k))
    (hk : ∀ u env H' S', Ext H S H' S' → StOk P σ env H' S' → RG P W σ R2 H' S' Q (k u env) → Q' u H') : RG P W σ (RT σ) H S Q' (tst G m env) := by
  cases e : blR (ev G m env) with
  | ok u env1 =>
    rw [blR_tst e]
    rw [e] at h
    exact fun x H1 S1 e1 ok1 r1 => by cases r1; exact hk _ env1 H1 S1 e1 ok1 (RG.shift h e1)
  | er c env1 => rw [blR_er e]; rw [e] at h; exact h
  | st => rw [e] at h; exact h.elim
/-- .. as a value -/
theorem RG.blv {P : Pm} {W : WX} {σ : LSt} {env : DEnv} {H S : Hp} {Q : VK} {r : Res DV} (h : RG P W σ (RV P σ) H S Q ((blR r).bd fun k env => .ok (.sh (.bl k)) env)) : RG P W σ (RV P σ) H S Q r := by
  cases r with
  | ok u env1 =>
    cases u with
    | sh d =>
      cases d with
      | bl k => exact h
      | _ => exact h.elim
    | ol ds => exact h.elim
    | op ds => exact h.elim
    | od ds => exact h.elim
    | ot ds => exact h.elim
    | ex c => exact h.elim
  | er c env1 => exact h
  | st => exact h
theorem RG.blvB {P : Pm} {W : WX} {σ : LSt} {env : DEnv} {H S : Hp} {γ δ : Type} {R2 : γ → δ → DEnv → Hp → Hp → Prop} {Q' : VK} {Q : δ → Hp → Prop} {r : Res DV} {k : Bool → DEnv → Res γ} (h : RG P W σ R2 H S Q ((blR r).bd k))
    (hk : ∀ u env H' S', Ext H S H' S' → StOk P σ env H' S' → RG P W σ R2 H' S' Q (k u env) → Q' (.bl u) H') : RG P W σ (RV P σ) H S Q' r := by
  cases r with
  | ok u env1 =>
    cases u with
    | sh d =>
      cases d with
      | bl k => exact fun x H1 S1 e1 ok1 r1 => by cases r1; exact hk _ env1 H1 S1 e1 ok1 (RG.shift h e1)
      | _ => exact h.elim
    | ol ds => exact h.elim
    | op ds => exact h.elim
    | od ds => exact h.elim
    | ot ds => exact h.elim
    | ex c => exact h.elim
  | er c env1 => exact h
  | st => exact h

theorem se_op {op : Operator} {o : BOp} {r : R2} (ho : OpR C.X (binaryOp op) r) (hs : OpS C.P r (binD o)) (ha : SBo C a ma) (hb : SBo C b mb) : SE C (.BinOp a op b pos) (.bin o ma mb) := by
  obtain ⟨ta, pa, ea⟩ := ha
  obtain ⟨tb, pb, eb⟩ := hb
  refine ⟨tOp r ta tb, pe_op ho pa pb, fun σ env H S Q ok q => ?_⟩
  simp only [ev] at q
  refine ea σ env H S _ ok (RG.bind q fun da env1 x H1 S1 e1 ok1 r1 q1 => ?_)
  refine eb σ env1 H1 S1 _ ok1 (RG.bind q1 fun db env2 y H2 S2 e2 ok2 r2 q2 => ?_)
  exact hs C.W σ env2 H2 S2 Q x y da db ok2 (r1.mono e2) r2 q2
theorem se_neg (ha : SD C a ma) : SE C (.UnaryOp .USub a pos) (.neg ma) := by
  obtain ⟨ta, pa, ea⟩ := ha
  refine ⟨_, pe_un un_neg pa, fun σ env H S Q ok q => ?_⟩
  simp only [ev] at q
  refine ea σ env H S _ ok (RG.bind q fun da env1 x H1 S1 e1 ok1 r1 q1 => ?_)
  cases da with
  | int i => cases r1; exact ⟨i, rfl, RG.now q1 ok1 (.int _)⟩
  | _ => exact q1.elim
/-- a comparison by its rule -/
theorem se_cmp {op : CmpOp} {o : COp} {r : R2} (ho : OpR C.X (compareOp op) r) (hs : CmpS C.P r (cmpD o)) (ha : SBo C a ma) (hb : SBo C b mb) (hm : behindInMarks op b = false) : SE C (.Compare a [op] [b] pos) (.cmp o ma mb) := by
  obtain ⟨ta, pa, ea⟩ := ha
  obtain ⟨tb, pb, eb⟩ := hb
  refine ⟨tOp r ta tb, pe_cmpR ho pa pb hm, fun σ env H S Q ok q => ?_⟩
  simp only [ev] at q
  refine ea σ env H S _ ok (RG.bind q fun da env1 x H1 S1 e1 ok1 r1 q1 => ?_)
  refine eb σ env1 H1 S1 _ ok1 (RG.bind q1 fun db env2 y H2 S2 e2 ok2 r2 q2 => ?_)
  cases e : cmpD o da db with
  | none => rw [e] at q2; exact q2.elim
  | some k =>
    rw [e] at q2
    exact hs H2 S2 Q x y da db k ok2.sub (r1.mono e2) r2 e (RG.now q2 ok2 (.bl k))
theorem st_cmp {op : CmpOp} {o : COp} {r : R2} (ho : OpR C.X (compareOp op) r) (hs : CmpS C.P r (cmpD o)) (ha : SBo C a ma) (hb : SBo C b mb) (hm : behindInMarks op b = false) : ST C (.Compare a [op] [b] pos) (.cmp o ma mb) := by
  obtain ⟨ta, pa, ea⟩ := ha
  obtain ⟨tb, pb, eb⟩ := hb
  refine ⟨_, pt_cmpR ho pa pb hm, fun σ env H S Q ok q => ?_⟩
  simp only [tst_eq (m := .cmp o ma mb) rfl, ev, Res.val, bd_bd] at q
  refine ea σ env H S _ ok (RG.bind q fun da env1 x H1 S1 e1 ok1 r1 q1 => ?_)
  refine eb σ env1 H1 S1 _ ok1 (RG.bind q1 fun db env2 y H2 S2 e2 ok2 r2 q2 => ?_)
  cases e : cmpD o da db with
  | none => rw [e] at q2; exact q2.elim
  | some k =>
    rw [e] at q2
    exact hs H2 S2 _ x y da db k ok2.sub (r1.mono e2) r2 e ⟨k, rfl, RG.now q2 ok2 rfl⟩
theorem se_chain {op op' : CmpOp} {o o' : COp} {r r' : R2} (ho : OpR C.X (compareOp op) r) (hs : CmpS C.P r (cmpD o)) (ho' : OpR C.X (compareOp op') r') (hs' : CmpS C.P r' (cmpD o')) (ha : SBo C a ma) (hb : SBo C b mb) (hc : SBo C c mc)
    (hm : lastMarks [op, op'] [b, c] = false) : SE C (.Compare a [op, op'] [b, c] pos) (.chain o o' ma mb mc) := by
  obtain ⟨ta, pa, ea⟩ := ha
  obtain ⟨tb, pb, eb⟩ := hb
  obtain ⟨tc, pc, ec⟩ := hc
  refine ⟨_, pe_chain ho ho' pa pb pc hm, fun σ env H S Q ok q => ?_⟩
  simp only [ev] at q
  refine ea σ env H S _ ok (RG.bind q fun da env1 x H1 S1 e1 ok1 r1 q1 => ?_)
  refine eb σ env1 H1 S1 _ ok1 (RG.bind q1 fun db env2 y H2 S2 e2 ok2 r2 q2 => ?_)
  cases e : cmpD o da db with
  | none => rw [e] at q2; exact q2.elim
  | some k =>
    rw [e] at q2
    simp only [of_some, bd_ok] at q2
    refine hs H2 S2 _ x y da db k ok2.sub (r1.mono e2) r2 e ⟨k, rfl, ?_⟩
    cases k with
    | false => exact RG.now q2 ok2 (.bl _)
    | true =>
      refine ec σ env2 H2 S2 _ ok2 (RG.bind q2 fun dc env3 z H3 S3 e3 ok3 r3 q3 => ?_)
      cases e' : cmpD o' db dc with
      | none => rw [e'] at q3; exact q3.elim
      | some k' =>
        rw [e'] at q3
        exact hs' H3 S3 Q y z db dc k' ok3.sub (r2.mono e3) r3 e' (RG.now q3 ok3 (.bl k'))
theorem st_chain {op op' : CmpOp} {o o' : COp} {r r' : R2} (ho : OpR C.X (compareOp op) r) (hs : CmpS C.P r (cmpD o)) (ho' : OpR C.X (compareOp op') r') (hs' : CmpS C.P r' (cmpD o')) (ha : SBo C a ma) (hb : SBo C b mb) (hc : SBo C c mc)
    (hm : lastMarks [op, op'] [b, c] = false) : ST C (.Compare a [op, op'] [b, c] pos) (.chain o o' ma mb mc) := by
  obtain ⟨ta, pa, ea⟩ := ha
  obtain ⟨tb, pb, eb⟩ := hb
  obtain ⟨tc, pc, ec⟩ := hc
  refine ⟨_, pt_chain ho ho' pa pb pc hm, fun σ env H S Q ok q => ?_⟩
  simp only [tst_eq (m := .chain o o' ma mb mc) rfl, ev, Res.val, bd_bd] at q
  refine ea σ env H S _ ok (RG.bind q fun da env1 x H1 S1 e1 ok1 r1 q1 => ?_)
  refine eb σ env1 H1 S1 _ ok1 (RG.bind q1 fun db env2 y H2 S2 e2 ok2 r2 q2 => ?_)
  cases e : cmpD o da db with
  | none => rw [e] at q2; exact q2.elim
  | some k =>
    rw [e] at q2
    simp only [of_some, bd_ok] at q2
    refine hs H2 S2 _ x y da db k ok2.sub (r1.mono e2) r2 e ⟨k, rfl, ?_⟩
    cases k with
    | false => exact ⟨false, rfl, RG.now q2 ok2 rfl⟩
    | true =>
      simp only [if_true, bd_bd] at q2
      refine ec σ env2 H2 S2 _ ok2 (RG.bind q2 fun dc env3 z H3 S3 e3 ok3 r3 q3 => ?_)
      cases e' : cmpD o' db dc with
      | none => rw [e'] at q3; exact q3.elim
      | some k' =>
        rw [e'] at q3
        exact hs' H3 S3 _ y z db dc k' ok3.sub (r2.mono e3) r3 e' ⟨k', rfl, RG.now q3 ok3 rfl⟩
theorem se_isN {j : Nat} {p' : Pos} (ha : SBo C a ma) : SE C (.Compare a [.Is] [.Constant .none j p'] pos) (.cmp .isN ma (.lit .non)) := by
  obtain ⟨ta, pa, ea⟩ := ha
  refine ⟨_, pe_cmp (pc_isN pa) rfl, fun σ env H S Q ok q => ?_⟩
  simp only [ev] at q
  refine ea σ env H S _ ok (RG.bind q fun da env1 x H1 S1 e1 ok1 r1 q1 => ?_)
  simp only [brw, isVar, Res.val, bd_ok, DV.toD, of_some, cmpD, Option.map_some] at q1
  exact isN_S H1 S1 Q x da _ r1 rfl (RG.now q1 ok1 (.bl _))
theorem se_notN {j : Nat} {p' : Pos} (ha : SBo C a ma) : SE C (.Compare a [.IsNot] [.Constant .none j p'] pos) (.cmp .notN ma (.lit .non)) := by
  obtain ⟨ta, pa, ea⟩ := ha
  refine ⟨_, pe_cmp (pc_notN pa) rfl, fun σ env H S Q ok q => ?_⟩
  simp only [ev] at q
  refine ea σ env H S _ ok (RG.bind q fun da env1 x H1 S1 e1 ok1 r1 q1 => ?_)
  simp only [brw, isVar, Res.val, bd_ok, DV.toD, of_some, cmpD, Option.map_some] at q1
  show Q (.bl (!decide (x = .non))) H1
  rw [isNon_of r1]
  exact RG.now q1 ok1 (.bl _)
theorem st_isN {j : Nat} {p' : Pos} (ha : SBo C a ma) : ST C (.Compare a [.Is] [.Constant .none j p'] pos) (.cmp .isN ma (.lit .non)) := by
  obtain ⟨ta, pa, ea⟩ := ha
  refine ⟨_, pt_cmp (pc_isN pa) rfl, fun σ env H S Q ok q => ?_⟩
  simp only [tst_eq (m := .cmp .isN ma (.lit .non)) rfl, ev, Res.val, bd_bd] at q
  refine ea σ env H S _ ok (RG.bind q fun da env1 x H1 S1 e1 ok1 r1 q1 => ?_)
  simp only [brw, isVar, Res.val, bd_ok, DV.toD, of_some, cmpD, Option.map_some, truth] at q1
  exact ⟨_, rfl, by rw [isNon_of r1]; exact RG.now q1 ok1 rfl⟩
theorem st_notN {j : Nat} {p' : Pos} (ha : SBo C a ma) : ST C (.Compare a [.IsNot] [.Constant .none j p'] pos) (.cmp .notN ma (.lit .non)) := by
  obtain ⟨ta, pa, ea⟩ := ha
  refine ⟨_, pt_cmp (pc_notN pa) rfl, fun σ env H S Q ok q => ?_⟩
  simp only [tst_eq (m := .cmp .notN ma (.lit .non)) rfl, ev, Res.val, bd_bd] at q
  refine ea σ env H S _ ok (RG.bind q fun da env1 x H1 S1 e1 ok1 r1 q1 => ?_)
  simp only [brw, isVar, Res.val, bd_ok, DV.toD, of_some, cmpD, Option.map_some, truth] at q1
  exact ⟨_, rfl, by rw [isNon_of r1]; exact RG.now q1 ok1 rfl⟩
/-! tests from values -/
theorem trul_of {P : Pm} {σ : LSt} {env : DEnv} {H S : Hp} {x : V} {d : D} {k : Bool} (ok : StOk P σ env H S) (r : BorR P H S x d) (e : truth d = some k) : TruV P.K x H k := by
  cases d with
  | bl b => rw [r.toBl]; cases e; rfl
  | lst ds =>
    obtain ⟨p, vs, rfl, h1, r1⟩ := r.toLst ok.sub
    cases e
    refine .inl ⟨vs, .inl (.inl h1), ?_⟩
    cases r1 <;> rfl
  | _ => cases e
theorem st_truth (hK : C.X.K = C.P.K) (ha : SBo C a ma) (he : ∀ whole, isTrue a C.X.env whole = (do let v ← whole; standAt a.pos; holding [v] (truthy v))) : ST C a ma := by
  obtain ⟨ta, pa, ea⟩ := ha
  refine ⟨_, pt_truth pa he, fun σ env H S Q ok q => ?_⟩
  refine ea σ env H S _ ok (RG.bind q fun da env1 x H1 S1 e1 ok1 r1 q1 => ?_)
  cases e : truth da with
  | none => rw [e] at q1; exact q1.elim
  | some k =>
    rw [e] at q1
    refine ⟨k, ?_, RG.now q1 ok1 rfl⟩
    rw [hK]
    exact trul_of ok1 r1 e
theorem se_not (hK : C.X.K = C.P.K) (ha : SBo C a ma) : SE C (.UnaryOp .Not a pos) (.not ma) := by
  obtain ⟨ta, pa, ea⟩ := ha
  refine ⟨_, pe_notT pa, fun σ env H S Q ok q => ?_⟩
  simp only [ev] at q
  refine ea σ env H S _ ok (RG.bind q fun da env1 x H1 S1 e1 ok1 r1 q1 => ?_)
  cases e : truth da with
  | none => rw [e] at q1; exact q1.elim
  | some k =>
    rw [e] at q1
    refine ⟨k, ?_, RG.now q1 ok1 (.bl _)⟩
    rw [hK]
    exact trul_of ok1 r1 e
theorem st_not (ha : ST C a ma) : ST C (.UnaryOp .Not a pos) (.not ma) := by
  obtain ⟨ta, pa, ea⟩ := ha
  refine ⟨_, pt_not pa, fun σ env H S Q ok q => ?_⟩
  refine ea σ env H S _ ok ?_
  have e : tst C.G (.not ma) env = (tst C.G ma env).bd fun k env => .ok (!k) env := by
    rw [tst_eq (m := .not ma) rfl]
    simp only [ev, Res.val, bd_bd]
    unfold tst
    rw [bd_bd]
    congr 1
    funext x env1
    cases truth x <;> rfl
  rw [e] at q
  exact RG.bind q fun k env1 k' H1 S1 e1 ok1 r1 q1 => by cases r1; exact RG.now q1 ok1 rfl
theorem se_and {rest : List Expr} (ha : SE C a ma) (hb : SE C (.BoolOp .And (b :: rest) pos) mb) : SE C (.BoolOp .And (a :: b :: rest) pos) (.and ma mb) := by
  obtain ⟨ta, pa, ea⟩ := ha
  obtain ⟨tb, pb, eb⟩ := hb
  refine ⟨_, pe_and pa pb, fun σ env H S Q ok q => ?_⟩
  simp only [ev] at q
  refine ea σ env H S _ ok (RG.blvB q (env := env) fun k env1 H1 S1 e1 ok1 q1 => ⟨k, rfl, ?_⟩)
  cases k with
  | true => exact eb σ env1 H1 S1 Q ok1 (RG.blv (env := env1) q1)
  | false => exact RG.now q1 ok1 (.bl _)
theorem se_or {rest : List Expr} (ha : SE C a ma) (hb : SE C (.BoolOp .Or (b :: rest) pos) mb) : SE C (.BoolOp .Or (a :: b :: rest) pos) (.or ma mb) := by
  obtain ⟨ta, pa, ea⟩ := ha
  obtain ⟨tb, pb, eb⟩ := hb
  refine ⟨_, pe_or pa pb, fun σ env H S Q ok q => ?_⟩
  simp only [ev] at q
  refine ea σ env H S _ ok (RG.blvB q (env := env) fun k env1 H1 S1 e1 ok1 q1 => ⟨k, rfl, ?_⟩)
  cases k with
  | false => exact eb σ env1 H1 S1 Q ok1 (RG.blv (env := env1) q1)
  | true => exact RG.now q1 ok1 (.bl _)
theorem se_one {op : PySem.BoolOp} (h : SE C a m) : SE C (.BoolOp op [a] pos) m := by
  obtain ⟨t, p, e⟩ := h
  exact ⟨t, pe_one p, e⟩
def SW (C : Cn) (e : Expr) (m : E) : Prop := ∃ t, PW C.X e t ∧ Ev C.P C.W t RT (tst C.G m)
theorem SW.t (h : SW C e m) : ST C e m := by
  obtain ⟨t, p, q⟩ := h
  exact ⟨t, p.pt, q⟩
theorem sw_one_and (h : ST C a m) : SW C (.BoolOp .And [a] pos) m := by
  obtain ⟨t, p, e⟩ := h
  exact ⟨t, pw_and1 p, e⟩
theorem sw_one_or (h : ST C a m) : SW C (.BoolOp .Or [a] pos) m := by
  obtain ⟨t, p, e⟩ := h
  exact ⟨t, pw_or1 p, e⟩
theorem sw_and {rest : List Expr} (ha : ST C a ma) (hb : SW C (.BoolOp .And (b :: rest) pos) mb) : SW C (.BoolOp .And (a :: b :: rest) pos) (.and ma mb) := by
  obtain ⟨ta, pa, ea⟩ := ha
  obtain ⟨tb, pb, eb⟩ := hb
  refine ⟨_, pw_and pa pb, fun σ env H S Q ok q => ?_⟩
  simp only [tst_eq (m := .and ma mb) rfl, ev, Res.val, bd_bd] at q
  refine ea σ env H S _ ok (RG.tst q fun k env1 H1 S1 e1 ok1 q1 => ?_)
  cases k with
  | true =>
    simp only [if_true, bd_bd] at q1
    exact eb σ env1 H1 S1 Q ok1 (RG.tst q1 fun k env2 H2 S2 e2 ok2 q2 => RG.now q2 ok2 rfl)
  | false => exact RG.now q1 ok1 rfl
theorem sw_or {rest : List Expr} (ha : ST C a ma) (hb : SW C (.BoolOp .Or (b :: rest) pos) mb) : SW C (.BoolOp .Or (a :: b :: rest) pos) (.or ma mb) := by
  obtain ⟨ta, pa, ea⟩ := ha
  obtain ⟨tb, pb, eb⟩ := hb
  refine ⟨_, pw_or pa pb, fun σ env H S Q ok q => ?_⟩
  simp only [tst_eq (m := .or ma mb) rfl, ev, Res.val, bd_bd] at q
  refine ea σ env H S _ ok (RG.tst q fun k env1 H1 S1 e1 ok1 q1 => ?_)
  cases k with
  | false =>
    simp only [Bool.false_eq_true, if_false, bd_bd] at q1
    exact eb σ env1 H1 S1 Q ok1 (RG.tst q1 fun k env2 H2 S2 e2 ok2 q2 => RG.now q2 ok2 rfl)
  | true => exact RG.now q1 ok1 rfl
/-! names, constants, displays -/
theorem se_var {i : Nat} {x : Str} (hN : C.X.N[i]? = some x) (hv : Vis C.X.env.scope x) (hd : (x == ("__debug__" : Str)) = false) (hcd : (x == ("__classdict__" : Str)) = false) : SE C (.Name x pos) (.var i) := by
  refine ⟨_, pe_var hN hv hd hcd, fun σ env H S Q ok q => ?_⟩
  simp only [ev, rd] at q
  cases e : env[i]? with
  | none => rw [e] at q; exact q.elim
  | some o =>
    cases o with
    | none => rw [e] at q; exact q.elim
    | some u =>
      rw [e] at q
      have own : ∀ d, u.own = true → u.toD = some d → RG C.P C.W σ (RV C.P σ) H S Q (.ok (.sh d) (env.set i (some (.sh d)))) → tVar i σ H Q := fun d ho hd q => by
        obtain ⟨v, S', e1, es, ok', r⟩ := ok.shareSlot e ho hd
        exact ⟨v, e1, RG.at_ q ⟨Same.refl _, es⟩ ok' r⟩
      cases u with
      | sh d =>
        obtain ⟨v, e1, r⟩ := ok.sl i _ e
        exact ⟨v, e1, RG.now q ok r⟩
      | ol ds => exact own _ rfl rfl q
      | od ds => exact own _ rfl rfl q
      | ot ds => exact own _ rfl rfl q
      | op ds => exact q.elim
      | ex c => exact q.elim
theorem sb_var {i : Nat} {x : Str} (hN : C.X.N[i]? = some x) (hv : Vis C.X.env.scope x) (hd : (x == ("__debug__" : Str)) = false) (hcd : (x == ("__classdict__" : Str)) = false) : SBo C (.Name x pos) (.var i) := by
  refine ⟨_, pe_var hN hv hd hcd, fun σ env H S Q ok q => ?_⟩
  simp only [brw, isVar, bor] at q
  cases e : env[i]? with
  | none => rw [e] at q; exact q.elim
  | some o =>
    cases o with
    | none => rw [e] at q; exact q.elim
    | some u =>
      rw [e] at q
      obtain ⟨v, e1, r⟩ := ok.sl i _ e
      refine ⟨v, e1, ?_⟩
      cases u with
      | sh d => exact RG.now q ok (.rep r)
      | ol ds =>
        obtain ⟨a, rfl, _, _, vs, h1, h2⟩ := r
        exact RG.now q ok (.lst h1 h2)
      | op ds =>
        obtain ⟨rfl, _, _, vs, h1, h2⟩ := r
        exact RG.now q ok (.lst h1 h2)
      | od ds =>
        obtain ⟨a, rfl, _, _, vs, h1, h2⟩ := r
        exact RG.now q ok (.dic h1 h2)
      | ot ds =>
        obtain ⟨a, rfl, _, _, vs, h1, h2⟩ := r
        exact RG.now q ok (.dit h1 h2)
      | ex c => exact q.elim
/-- a value that stands by itself -/
theorem se_lit {d : D} {v : V} (hp : PE C.X e (tC v)) (h : ∀ S, C.P.Rep S v d) : SE C e (.lit d) :=
  ⟨_, hp, fun σ env H S Q ok q => RG.now (x := v) q ok (h S)⟩
theorem sa_nil : SA C [] [] := ⟨_, pa_nil, fun σ env H S Q ok q => by simp only [evs] at q; exact RG.now q ok .nil⟩
theorem sa_cons {es : List Expr} {ms : List E} (ha : SD C a ma) (hr : SA C es ms) (hs : starEach (a :: es) C.X.env = (false, eval a C.X.env) :: starEach es C.X.env) : SA C (a :: es) (ma :: ms) := by
  obtain ⟨ta, pa, ea⟩ := ha
  obtain ⟨tr, pr, er⟩ := hr
  refine ⟨_, pa_cons pa pr hs, fun σ env H S Q ok q => ?_⟩
  simp only [evs] at q
  refine ea σ env H S _ ok (RG.bind q fun da env1 x H1 S1 e1 ok1 r1 q1 => ?_)
  refine er σ env1 H1 S1 _ ok1 (RG.bind q1 fun ds env2 xs H2 S2 e2 ok2 r2 q2 => ?_)
  exact RG.now q2 ok2 (.cons (Rep.mono e2.s _ _ r1) r2)
theorem sab_nil : SAb C [] [] := ⟨_, pa_nil, fun σ env H S Q ok q => by simp only [evb] at q; exact RG.now q ok .nil⟩
theorem sab_cons {es : List Expr} {ms : List E} (ha : SBo C a ma) (hr : SAb C es ms) (hs : starEach (a :: es) C.X.env = (false, eval a C.X.env) :: starEach es C.X.env) : SAb C (a :: es) (ma :: ms) := by
  obtain ⟨ta, pa, ea⟩ := ha
  obtain ⟨tr, pr, er⟩ := hr
  refine ⟨_, pa_cons pa pr hs, fun σ env H S Q ok q => ?_⟩
  simp only [evb] at q
  refine ea σ env H S _ ok (RG.bind q fun da env1 x H1 S1 e1 ok1 r1 q1 => ?_)
  refine er σ env1 H1 S1 _ ok1 (RG.bind q1 fun ds env2 xs H2 S2 e2 ok2 r2 q2 => ?_)
  exact RG.now q2 ok2 (.cons (r1.mono e2) r2)
theorem se_tup {es : List Expr} {ms : List E} {k : Nat} (h : SA C es ms) : SE C (.Tuple es k pos) (.tup ms) := by
  obtain ⟨t, p, e⟩ := h
  refine ⟨_, pe_tup p, fun σ env H S Q ok q => ?_⟩
  simp only [ev] at q
  refine e σ env H S _ ok (RG.bind q fun ds env1 xs H1 S1 e1 ok1 r1 q1 => ?_)
  split at q1
  · rename_i hz
    exact ⟨by rw [r1.length]; exact le_szL hz, fun p np => RG.newT q1 ok1 np r1⟩
  · exact q1.elim
theorem se_lst {es : List Expr} {ms : List E} (h : SA C es ms) : SE C (.List es pos) (.lst ms) := by
  obtain ⟨t, p, e⟩ := h
  refine ⟨_, pe_lst p, fun σ env H S Q ok q => ?_⟩
  simp only [ev] at q
  refine e σ env H S _ ok (RG.bind q fun ds env1 xs H1 S1 e1 ok1 r1 q1 => ?_)
  split at q1
  · rename_i hz
    exact ⟨by rw [r1.length]; exact le_szL hz, fun p np => RG.newL q1 ok1 np r1⟩
  · exact q1.elim
theorem se_ditn : SE C (.Dict [] [] pos) .ditn := ⟨_, pe_dnewT, fun σ env H S Q ok q => fun p np => RG.newO (u := .ot []) (by simp only [ev] at q; exact q) ok np ⟨[], upd_same, .nil⟩ rfl (fun _ z => nomatch z)⟩
theorem se_dict0 : SE C (.Dict [] [] pos) (.dict [] []) := ⟨_, pe_dnewK, fun σ env H S Q ok q => fun p np => RG.newO (u := .od []) (by simp only [ev, evs, bd_ok, List.length_nil, List.zip_nil_left] at q; exact q) ok np ⟨[], upd_same, .nil⟩ rfl (fun _ z => nomatch z)⟩
/-! subscripts -/
theorem se_sub (hK : C.X.K = C.P.K) (hw : C.X.w = C.P.w) (hu : C.X.A.units + 1 < cLine) (ha : SBo C a ma) (hb : SD C b mb) (hs : PlainIx b) : SE C (.Subscript a b pos) (.sub ma mb) := by
  obtain ⟨ta, pa, ea⟩ := ha
  obtain ⟨tb, pb, eb⟩ := hb
  refine ⟨_, pe_ix (ix_all hu) pa pb hs, fun σ env H S Q ok q => ?_⟩
  simp only [ev] at q
  refine ea σ env H S _ ok (RG.bind q fun da env1 x H1 S1 e1 ok1 r1 q1 => ?_)
  refine eb σ env1 H1 S1 _ ok1 (RG.bind q1 fun db env2 y H2 S2 e2 ok2 r2 q2 => ?_)
  rw [hK, hw]
  exact sub_all C.W σ env2 H2 S2 Q x y da db ok2 (r1.mono e2) r2 q2
theorem so_none : SO C none none := ⟨_, po_none, fun σ env H S Q ok q => by simp only [evo] at q; exact RG.now q ok rfl⟩
theorem so_some (h : SD C a m) : SO C (some a) (some m) := by
  obtain ⟨t, p, e⟩ := h
  refine ⟨_, po_some p, fun σ env H S Q ok q => ?_⟩
  simp only [evo] at q
  refine e σ env H S _ ok (RG.bind q fun da env1 x H1 S1 e1 ok1 r1 q1 => ?_)
  cases da with
  | int i => cases r1; exact ⟨i, rfl, RG.now q1 ok1 rfl⟩
  | _ => exact q1.elim
theorem se_slice {lo hi : Option Expr} {ml mh : Option E} {p2 : Pos} (hK : C.X.K = C.P.K) (ha : SBo C a ma) (hl : SO C lo ml) (hh : SO C hi mh) : SE C (.Subscript a (.Slice lo hi none p2) pos) (.slice ma ml mh) := by
  obtain ⟨ta, pa, ea⟩ := ha
  obtain ⟨tl, pl, el⟩ := hl
  obtain ⟨th, ph, eh⟩ := hh
  refine ⟨_, pe_slice sl_all pa pl ph, fun σ env H S Q ok q => ?_⟩
  simp only [ev] at q
  refine ea σ env H S _ ok (RG.bind q fun da env1 x H1 S1 e1 ok1 r1 q1 => ?_)
  refine el σ env1 H1 S1 _ ok1 (RG.bind q1 fun l env2 l' H2 S2 e2 ok2 r2 q2 => ?_)
  refine eh σ env2 H2 S2 _ ok2 (RG.bind q2 fun u env3 u' H3 S3 e3 ok3 r3 q3 => ?_)
  cases r2
  cases r3
  rw [hK]
  exact slice_all ok3 ((r1.mono e2).mono e3) q3
/-! built-ins by their names -/
theorem se_biB {x : Str} {id : String} {f : Bi} {r : List V → Hp → VK → Prop} {p : Pos} {es : List Expr} {me : E} {ms : List E} (hc : CallR C.X (.builtin id) r) (hs : CallS C.P f r) (hg : Gl C.X x) (hm : C.X.mg x = none) (hv : bootBuiltins x = some (.builtin id)) (ha : SAb C (a :: es) (me :: ms))
    (hn : x ≠ "__name__") (hdb : (x == ("__debug__" : Str)) = false) (he : starEach (a :: es) C.X.env = (false, eval a C.X.env) :: starEach es C.X.env) (hpl : (backTo pos (starEach es C.X.env)).any (·.1) = false) :
    SE C (.Call (.Name x p) (a :: es) [] pos) (.bi f (me :: ms)) := by
  obtain ⟨t, pt, et⟩ := ha
  refine ⟨_, pe_callB hc hg hm hv pt hn hdb he hpl, fun σ env H S Q ok q => ?_⟩
  simp only [ev] at q
  refine et σ env H S _ ok (RG.bind q fun ds env1 xs H1 S1 e1 ok1 r1 q1 => ?_)
  exact hs C.W σ env1 H1 S1 Q xs ds ok1 r1 q1
theorem se_biT {x : Str} {id : String} {f : Bi} {r : List V → Hp → VK → Prop} {p : Pos} {es : List Expr} {me : E} {ms : List E} (hc : CallR C.X (.type id) r) (hs : CallS C.P f r) (hg : Gl C.X x) (hm : C.X.mg x = none) (hv : bootBuiltins x = some (.type id)) (ha : SAb C (a :: es) (me :: ms))
    (hn : x ≠ "__name__") (hdb : (x == ("__debug__" : Str)) = false) (he : starEach (a :: es) C.X.env = (false, eval a C.X.env) :: starEach es C.X.env) (hpl : (backTo pos (starEach es C.X.env)).any (·.1) = false) :
    SE C (.Call (.Name x p) (a :: es) [] pos) (.bi f (me :: ms)) := by
  obtain ⟨t, pt, et⟩ := ha
  refine ⟨_, pe_callTy hc hg hm hv pt hn hdb he hpl, fun σ env H S Q ok q => ?_⟩
  simp only [ev] at q
  refine et σ env H S _ ok (RG.bind q fun ds env1 xs H1 S1 e1 ok1 r1 q1 => ?_)
  exact hs C.W σ env1 H1 S1 Q xs ds ok1 r1 q1
end
end Dl

namespace Dl
open PySem L2
/-! ### what a def promises, by its function on data -/
def RetR (K : PySem.W.Frag) (w : World) (H S' H' : Hp) (x : V) : DV → Prop
  | .sh d => Rep K w S' x d
  | .ol ds => ∃ a vs, x = .ref a ∧ H a = none ∧ S' a = none ∧ H' a = some (.lst vs) ∧ Reps K w S' vs ds
  | _ => False
structure Grow (H S H' S' : Hp) : Prop where
  ext : Ext H S H' S'
  sub : Same S' H'
  nw : ∀ a o, S' a = some o → S a = none → H a = none
def spR (K : PySem.W.Frag) (w : World) (cv : Nat → Value) (H S : Hp) (Q : VK) (E : XK) : FR → Prop
  | .ok v => ∀ x H' S', Grow H S H' S' → RetR K w H S' H' x v → Q x H'
  | .er c => ∀ H' S', Grow H S H' S' → E (cv c) none H'
  | .st => False
def spD (K : PySem.W.Frag) (w : World) (cv : Nat → Value) (n : Nat) (F : List D → FR) : Sp := fun vs H Q E => vs.length = n ∧ ∃ S ds, Same S H ∧ Reps K w S vs ds ∧ spR K w cv H S Q E (F ds)
section
variable {P : Pm} {W : WX} {σ : LSt} {env : DEnv} {H S H' S' : Hp}
theorem StOk.grow (ok : StOk P σ env H S) (g : Grow H S H' S') : StOk P σ env H' S' := ok.ext g.ext.h g.ext.s g.sub g.nw
/-- behind a call -/
theorem spR_of {Q : VK} {r : FR} (ok : StOk P σ env H S) (q : RG P W σ (RV P σ) H S Q (r.res env)) : spR P.K P.w P.cv H S Q (fun cls d H' => W cls d σ H') r := by
  cases r with
  | ok v =>
    intro x H' S' g rr
    refine RG.at_ q g.ext (ok.grow g) ?_
    cases v with
    | sh d => exact rr
    | ol ds =>
      obtain ⟨a, vs, rfl, h0, hS, ha, r⟩ := rr
      exact ⟨a, rfl, ok.h0 h0, hS, ⟨vs, ha, r⟩, ok.notSlot h0⟩
    | op ds => exact rr.elim
    | od ds => exact rr.elim
    | ot ds => exact rr.elim
    | ex c => exact rr.elim
  | er c => exact fun H' S' g => q H' S' g.ext (ok.grow g)
  | st => exact q.elim
end
section
variable {X : Cx} {CX : CXT} {k : Nat} {f : Addr} {fd : FuncData} {ps : List Str} {sp : Sp} {dvs : List V} {ds : List Value} {E : LSt → XK} {x : Str} {p pos : Pos}
theorem pe_callSD0 (F : FnOk X.prog X.w X.K X.mg X.base CX k f fd ps sp) (hr : Room k X.A) (hg : Gl X x) (hm : X.mg x = some (.ref f)) (hk : PySem.W.keepIn X.K (.ref f) = true) (hb : Binds X.K fd ps ds) (hd : Vals dvs ds) (hx : ∀ σ, PassesAt CX X σ (E σ))
    (hdb : (x == ("__debug__" : Str)) = false) : PE X (.Call (.Name x p) [] [] pos) (tCallSD sp dvs E tNil) := by
  refine ⟨fun pins s σ H Q I h => ?_⟩
  refine wpAny_Call_Name_kw (ld_glob I hg hm ?_ hdb)
  exact PySem.W.callWith_K0 I.kIn hk (run_fnSD (us := []) F hr hb hd (hx σ) I .nil h)
end
/-- defs whose exceptions may have a context -/
def hotB (x : Str) : Bool := x == ("read" : Str) || x == ("law" : Str)
def cxF (b : Bool) (P : Program) (w : World) : CXT := if b then L2.CX P w else L2N.CX P w
def PassF (C : Cn) (x : Str) : Prop := ∀ σ, PassesAt (cxF (hotB x) C.X.prog C.X.w) C.X σ (WE C.W σ)
theorem passF_of {C : Cn} {x : Str} (tk : L2N.Takes C.X C.W) (h : hotB x = true → L2.Takes C.X C.W) : PassF C x := fun σ => by
  unfold cxF
  split
  · rename_i hb
    exact passAt (h hb) σ
  · exact fun _ _ _ e s' I c => tk e s' (L2N.XE.of_call I (fun _ _ _ h => h) c)
/-- the def named x is the function f of data -/
def FunAt (C : Cn) (x : Str) (n : Nat) (F : List D → FR) : Prop := ∃ (k : Nat) (fa : Addr) (fd : FuncData) (ps : List Str), FnOk C.X.prog C.X.w C.X.K C.X.mg C.X.base (cxF (hotB x) C.X.prog C.X.w) k fa fd ps (spD C.P.K C.P.w C.P.cv n F) ∧ Room k C.X.A ∧
  C.X.mg x = some (.ref fa) ∧ PySem.W.keepIn C.X.K (.ref fa) = true ∧ Binds C.X.K fd ps []
theorem evs_len {G : Tab} : ∀ (ms : List E) (env : DEnv) (xs : List D) (env' : DEnv), evs G ms env = .ok xs env' → xs.length = ms.length := by
  intro ms
  induction ms with
  | nil => intro env xs env' e; simp only [evs] at e; cases e; rfl
  | cons m r ih =>
    intro env xs env' e
    simp only [evs] at e
    cases e1 : (ev G m env).val with
    | ok x env1 =>
      rw [e1, bd_ok] at e
      cases e2 : evs G r env1 with
      | ok ys env2 =>
        rw [e2, bd_ok] at e
        cases e
        simp [ih _ _ _ e2]
      | er c e3 => rw [e2] at e; cases e
      | st => rw [e2] at e; cases e
    | er c e3 => rw [e1] at e; cases e
    | st => rw [e1] at e; cases e
section
variable {C : Cn} {x : Str} {p pos : Pos} {a : Expr} {es : List Expr} {ma : E} {ms : List E} {f : Nat}
theorem se_call (F : FunAt C x (ms.length + 1) (C.G.fn f)) (tk : PassF C x) (hg : Gl C.X x) (hdb : (x == ("__debug__" : Str)) = false) (h : SA C (a :: es) (ma :: ms)) (he : starEach (a :: es) C.X.env = (false, eval a C.X.env) :: starEach es C.X.env) (hpl : (backTo pos (starEach es C.X.env)).any (·.1) = false) :
    SE C (.Call (.Name x p) (a :: es) [] pos) (.call f (ma :: ms)) := by
  obtain ⟨k, fa, fd, ps, FO, hr, hm, hk, hb⟩ := F
  obtain ⟨t, pt, et⟩ := h
  refine ⟨_, pe_callSD (E := WE C.W) FO hr hg hm hk hb .nil tk pt hdb he hpl, fun σ env H S Q ok q => ?_⟩
  simp only [ev] at q
  cases eA : evs C.G (ma :: ms) env with
  | ok ds env1 =>
    have hl := evs_len _ _ _ _ eA
    rw [eA, bd_ok] at q
    refine et σ env H S _ ok ?_
    rw [eA]
    intro xs H1 S1 e1 ok1 r1
    show spD _ _ _ _ _ (xs ++ []) H1 Q _
    rw [List.append_nil]
    refine ⟨by rw [r1.length, hl]; rfl, S1, ds, ok1.sub, r1, spR_of ok1 (RG.shift q e1)⟩
  | er c env1 =>
    rw [eA] at q
    refine et σ env H S _ ok ?_
    rw [eA]
    exact q
  | st => rw [eA] at q; exact q.elim
theorem se_call0 (F : FunAt C x 0 (C.G.fn f)) (tk : PassF C x) (hg : Gl C.X x) (hdb : (x == ("__debug__" : Str)) = false) : SE C (.Call (.Name x p) [] [] pos) (.call f []) := by
  obtain ⟨k, fa, fd, ps, FO, hr, hm, hk, hb⟩ := F
  refine ⟨_, pe_callSD0 (E := WE C.W) FO hr hg hm hk hb .nil tk hdb, fun σ env H S Q ok q => ?_⟩
  simp only [ev, evs, bd_ok] at q
  exact ⟨rfl, S, [], ok.sub, .nil, spR_of ok q⟩
/-! methods of built-in types -/
def meN : Me → String
  | .join => "str"
  | .split => "str"
  | .index => "list"
  | .get => "dict"
theorem meT_ty {P : Pm} {m : Me} {H S : Hp} {x : V} {d : D} (sub : Same S H) (h : meT m d = true) (r : BorR P H S x d) : tyV P.K (meN m) x H := by
  cases m <;> cases d <;> first | cases h | skip
  · rw [r.toStr]; rfl
  · obtain ⟨a, vs, rfl, h1, _⟩ := r.toLst sub
    exact .inl ⟨rfl, vs, .inl (.inl h1)⟩
  · rw [r.toStr]; rfl
  · obtain ⟨a, ks, rfl, h1, _⟩ := r.toDic sub
    exact .inr (.inr (.inl ⟨rfl, .inl ⟨ks, h1⟩⟩))
theorem se_meth {name : Str} {apos cpos : Pos} {o : Expr} {mo : E} {m : Me} {id : String} {r : V → List V → Hp → VK → Prop} (hK : C.X.K = C.P.K) (pa : PlainAttrs (meN m)) (slot : Slot (meN m) name id) (hty : typeOf (.builtin id) = pure (.type "method_descriptor")) (hm : MtR C.X id r) (hs : MethS C.P m r) (ho : SBo C o mo) (ha : SAb C (a :: es) (ma :: ms))
    (hbase : attributeBase o name C.X.env (eval o C.X.env) = eval o C.X.env)
    (hfew : ((backTo cpos (starEach (a :: es) C.X.env)).all (fun x => !x.1) && (backToKw cpos (keywordEach [] C.X.env)).all (fun x => x.1.isSome)
      && decide ((a :: es).length + ([] : List Keyword).length + (if ([] : List Keyword).isEmpty then 0 else 1) < 30)) = true)
    (hline : (apos.endLine == cpos.line) = true) (hst : starEach (a :: es) C.X.env = (false, eval a C.X.env) :: starEach es C.X.env) (hplain : (backTo cpos (starEach es C.X.env)).any (·.1) = false) :
    SE C (.Call (.Attribute o name apos) (a :: es) [] cpos) (.meth m mo (ma :: ms)) := by
  obtain ⟨to, po, eo⟩ := ho
  obtain ⟨t, pt, et⟩ := ha
  refine ⟨_, pe_bm pa slot hty hm po pt hbase hfew hline hst hplain, fun σ env H S Q ok q => ?_⟩
  simp only [ev] at q
  refine eo σ env H S _ ok (RG.bind q fun d env1 x H1 S1 e1 ok1 r1 q1 => ?_)
  split at q1
  · rename_i hT
    refine ⟨by rw [hK]; exact meT_ty ok1.sub hT r1, ?_⟩
    refine et σ env1 H1 S1 _ ok1 (RG.bind q1 fun ds env2 xs H2 S2 e2 ok2 r2 q2 => ?_)
    exact hs C.W σ env2 H2 S2 Q x d xs ds ok2 (r1.mono e2) r2 q2
  · exact q1.elim
/-! isinstance -/
def tyS : Ty → String
  | .int => "int"
  | .bool => "bool"
  | .str => "str"
  | .list => "list"
  | .tuple => "tuple"
theorem isi_ok {P : Pm} {H S : Hp} {x : V} {d : D} {t : Ty} {b : Bool} (sub : Same S H) (r : BorR P H S x d) (e : isiD d t = some b) : ∃ tv, TyX P.K H x tv ∧ PySem.W.kitOne P.K tv (.type (tyS t)) = some b := by
  cases d with
  | non => rw [r.toNon]; refine ⟨_, .base .non, ?_⟩; cases t <;> cases e <;> rfl
  | bl k => rw [r.toBl]; refine ⟨_, .base (.bl k), ?_⟩; cases t <;> cases e <;> rfl
  | int k => rw [r.toInt]; refine ⟨_, .base (.int k), ?_⟩; cases t <;> cases e <;> rfl
  | str k => rw [r.toStr]; refine ⟨_, .base (.str _), ?_⟩; cases t <;> cases e <;> rfl
  | tup ds => obtain ⟨a, vs, rfl, h1, _⟩ := r.toTup sub; refine ⟨_, .base (.tup h1), ?_⟩; cases t <;> cases e <;> rfl
  | lst ds => obtain ⟨a, vs, rfl, h1, _⟩ := r.toLst sub; refine ⟨_, .base (.lst h1), ?_⟩; cases t <;> cases e <;> rfl
  | scr ns => cases t <;> cases e
  | dic k => cases t <;> cases e
  | dit k => cases t <;> cases e
  | kd k => cases t <;> cases e
theorem se_isi {T : Str} {t : Ty} {p1 p2 : Pos} (hK : C.X.K = C.P.K) (hg : Gl C.X "isinstance") (hm : C.X.mg "isinstance" = none) (ha : SBo C a ma) (hgT : Gl C.X T) (hmT : C.X.mg T = none) (hvT : bootBuiltins T = some (.type (tyS t))) (hnT : T ≠ "__name__") (hdT : (T == ("__debug__" : Str)) = false)
    (h1 : starEach [a, .Name T p2] C.X.env = (false, eval a C.X.env) :: starEach [.Name T p2] C.X.env) :
    SE C (.Call (.Name "isinstance" p1) [a, .Name T p2] [] pos) (.isi ma t) := by
  obtain ⟨ta, pa, ea⟩ := ha
  refine ⟨_, pe_callB call_isi hg hm PyProof.Rows.boot_isinstance (pa_cons pa (pa_cons (pe_bltn (v := .ty (tyS t)) hgT hmT hvT rfl hnT hdT) pa_nil rfl) h1) (by decide) (by decide) h1 rfl, fun σ env H S Q ok q => ?_⟩
  simp only [ev] at q
  refine ea σ env H S _ ok (RG.bind q fun d env1 x H1 S1 e1 ok1 r1 q1 => ?_)
  cases e : isiD d t with
  | none => rw [e] at q1; exact q1.elim
  | some b =>
    rw [e] at q1
    obtain ⟨tv, ty, ke⟩ := isi_ok ok1.sub r1 e
    rw [← hK] at ty ke
    exact ⟨x, _, tv, _, b, rfl, .ty _, ty, ke, RG.now q1 ok1 (.bl b)⟩
end
end Dl

namespace Dl
open PySem L2
/-! ### what is walked -/
def Has (src : List (Addr × HO)) (H : Hp) : Prop := ∀ p ∈ src, H p.1 = some p.2
theorem Has.h1 {H : Hp} {p : Addr} {o : HO} {r : List (Addr × HO)} (h : Has ((p, o) :: r) H) : H p = some o := h (p, o) (by simp)
theorem Has.h2 {H : Hp} {p : Addr} {o : HO} {q : Addr × HO} {r : List (Addr × HO)} (h : Has (q :: (p, o) :: r) H) : H p = some o := h (p, o) (by simp)
theorem Has.mk1 {H : Hp} {p : Addr} {o : HO} (h : H p = some o) : Has [(p, o)] H := fun q hq => by
  simp only [List.mem_singleton] at hq; subst hq; exact h
theorem Has.mk2 {H : Hp} {p p' : Addr} {o o' : HO} (h : H p = some o) (h' : H p' = some o') : Has [(p, o), (p', o')] H := fun q hq => by
  rcases List.mem_cons.mp hq with rfl | hq
  · exact h
  · simp only [List.mem_singleton] at hq; subst hq; exact h'
theorem nil_has {H : Hp} : Has [] H := fun p hp => nomatch hp
structure ItS (P : Pm) (S1 : Hp) (J : It) (src : List (Addr × HO)) (ds : List D) : Prop where
  go : ∀ i H, i < ds.length → Has src H → J.go i H
  stop : ∀ H, Has src H → J.stop ds.length H
  yld : ∀ i d H S x H', ds[i]? = some d → Has src H → Same S1 S → Same S H → J.yld i H x H' → ∃ S', Grow H S H' S' ∧ P.Rep S' x d
theorem Grow.refl {H S : Hp} (sub : Same S H) : Grow H S H S := ⟨Ext.refl _ _, sub, fun a o e n => by rw [n] at e; cases e⟩
theorem Grow.new {H S : Hp} {p : Addr} {o : HO} (sub : Same S H) (np : H p = none) : Grow H S (upd H p o) (upd S p o) :=
  ⟨Ext.new np (sub.free np), same_upd2 sub (sub.free np), fun a o' e n => by
    by_cases ha : a = p
    · subst ha; exact np
    · rw [upd_ne ha, n] at e; cases e⟩
section
variable {P : Pm} {S : Hp} {a b : Addr} {vs us : List V} {ds es : List D}
theorem lt_of_get {α : Type} {l : List α} {i : Nat} (h : i < l.length) : ∃ x, l[i]? = some x := ⟨l[i], by simp [h]⟩
theorem its_list (r : P.Reps S vs ds) : ItS P S (Itl P.K a) [(a, .lst vs)] ds where
  go := fun i H h hs => by
    obtain ⟨x, hx⟩ := lt_of_get (l := vs) (by rw [r.length]; exact h)
    exact ⟨vs, x, .of (Has.h1 hs), hx⟩
  stop := fun H hs => ⟨vs, .of (Has.h1 hs), by rw [r.length]; exact Nat.le_refl _⟩
  yld := fun i d H S' x H' hd hs e1 sub y => by
    obtain ⟨rfl, y⟩ := y
    obtain ⟨v, hv, rv⟩ := Reps.get r hd
    have z := y vs (.of (Has.h1 hs))
    rw [hv] at z; cases z
    exact ⟨S', Grow.refl sub, Rep.mono e1 _ _ rv⟩
theorem its_tup (r : P.Reps S vs ds) : ItS P S (Itt P.K a) [(a, .tup vs)] ds where
  go := fun i H h hs => by
    obtain ⟨x, hx⟩ := lt_of_get (l := vs) (by rw [r.length]; exact h)
    exact ⟨vs, x, .of (Has.h1 hs), hx⟩
  stop := fun H hs => ⟨vs, .of (Has.h1 hs), by rw [r.length]; exact Nat.le_refl _⟩
  yld := fun i d H S' x H' hd hs e1 sub y => by
    obtain ⟨rfl, y⟩ := y
    obtain ⟨v, hv, rv⟩ := Reps.get r hd
    have z := y vs (.of (Has.h1 hs))
    rw [hv] at z; cases z
    exact ⟨S', Grow.refl sub, Rep.mono e1 _ _ rv⟩
theorem its_str {l : T} : ItS P S (Its (sT l)) [] (l.map fun c => D.str [c]) where
  go := fun i H h hs => by
    rw [List.length_map] at h
    show i < l.toArray.size
    simpa using h
  stop := fun H hs => by
    show l.toArray.size ≤ _
    simp
  yld := fun i d H S' x H' hd hs e1 sub y => by
    obtain ⟨rfl, c, hc, rfl⟩ := y
    have hc : l.toArray[i]? = some c := hc
    have hc : l[i]? = some c := by simpa using hc
    rw [List.getElem?_map, hc] at hd
    cases hd
    exact ⟨S', Grow.refl sub, .str [c]⟩
theorem its_range {lo : Int} {n : Nat} : ItS P S (Itr lo n) [] ((List.range n).map fun (k : Nat) => D.int (lo + (k : Int))) where
  go := fun i H h hs => by
    show i < n
    simpa using h
  stop := fun H hs => by show n ≤ _; simp
  yld := fun i d H S' x H' hd hs e1 sub y => by
    obtain ⟨rfl, rfl⟩ := y
    rw [List.getElem?_map] at hd
    cases e : (List.range n)[i]? with
    | none => rw [e] at hd; cases hd
    | some k =>
      rw [e] at hd
      cases hd
      have : k = i := by
        rw [List.getElem?_range] at e
        · cases e; rfl
        · by_cases h : i < n
          · exact h
          · rw [List.getElem?_eq_none (by simpa using h)] at e; cases e
      subst this
      exact ⟨S', Grow.refl sub, .int _⟩
theorem its_down {lo : Int} {n : Nat} : ItS P S (Itc lo (-1) n) [] ((List.range n).map fun (k : Nat) => D.int (lo - (k : Int))) where
  go := fun i H h hs => by
    show i < n
    simpa using h
  stop := fun H hs => by show n ≤ _; simp
  yld := fun i d H S' x H' hd hs e1 sub y => by
    obtain ⟨rfl, rfl⟩ := y
    rw [List.getElem?_map] at hd
    cases e : (List.range n)[i]? with
    | none => rw [e] at hd; cases hd
    | some k =>
      rw [e] at hd
      cases hd
      have : k = i := by
        rw [List.getElem?_range] at e
        · cases e; rfl
        · by_cases h : i < n
          · exact h
          · rw [List.getElem?_eq_none (by simpa using h)] at e; cases e
      subst this
      have e2 : lo + (k : Int) * -1 = lo - (k : Int) := by omega
      rw [e2]
      exact ⟨S', Grow.refl sub, .int _⟩
theorem enumL_len : ∀ (ds : List D) (n : Nat), (enumL ds n).length = ds.length
  | [], _ => rfl
  | d :: r, n => by simp [enumL, enumL_len r]
theorem enumL_get : ∀ (ds : List D) (n i : Nat) (d : D), (enumL ds n)[i]? = some d → ∃ x, ds[i]? = some x ∧ d = .tup [.int ((n + i : Nat) : Int), x]
  | [], _, _, _, h => by simp [enumL] at h
  | x :: r, n, 0, d, h => by simp [enumL] at h; exact ⟨x, rfl, h.symm⟩
  | x :: r, n, i + 1, d, h => by
    obtain ⟨y, h1, h2⟩ := enumL_get r (n + 1) i d (by simpa [enumL] using h)
    exact ⟨y, by simpa using h1, by rw [h2]; congr 3; congr 1; omega⟩
theorem pair_rep {S' H : Hp} {T0 : Addr} {x y : V} {d e : D} (sub : Same S' H) (np : H T0 = none) (rx : P.Rep S' x d) (ry : P.Rep S' y e) : P.Rep (upd S' T0 (.tup [x, y])) (.ref T0) (.tup [d, e]) :=
  have m := same_upd (o := HO.tup [x, y]) (sub.free np)
  .tup upd_same (.cons (Rep.mono m _ _ rx) (.cons (Rep.mono m _ _ ry) .nil))
theorem its_enum (r : P.Reps S vs ds) : ItS P S (Ite P.K a) [(a, .lst vs)] (enumL ds 0) where
  go := fun i H h hs => by
    rw [enumL_len] at h
    obtain ⟨x, hx⟩ := lt_of_get (l := vs) (by rw [r.length]; exact h)
    exact ⟨vs, x, .of (Has.h1 hs), hx⟩
  stop := fun H hs => ⟨vs, .of (Has.h1 hs), by rw [r.length, enumL_len]; exact Nat.le_refl _⟩
  yld := fun i d H S' x H' hd hs e1 sub y => by
    obtain ⟨T0, z, rfl, np, rfl, y⟩ := y
    obtain ⟨q, hq, rfl⟩ := enumL_get ds 0 i d hd
    obtain ⟨v, hv, rv⟩ := Reps.get r hq
    have z' := y vs (.of (Has.h1 hs))
    rw [hv] at z'; cases z'
    rw [Nat.zero_add]
    exact ⟨_, Grow.new sub np, pair_rep sub np (.int _) (Rep.mono e1 _ _ rv)⟩
def zipD (xs ys : List D) : List D := (xs.zip ys).map fun p => D.tup [p.1, p.2]
theorem zipD_get {xs ys : List D} {i : Nat} {d : D} (h : (zipD xs ys)[i]? = some d) : ∃ x y, xs[i]? = some x ∧ ys[i]? = some y ∧ d = .tup [x, y] := by
  unfold zipD at h
  rw [List.getElem?_map] at h
  cases e : (xs.zip ys)[i]? with
  | none => rw [e] at h; cases h
  | some p =>
    rw [e] at h
    cases h
    rw [List.getElem?_zip_eq_some] at e
    exact ⟨p.1, p.2, e.1, e.2, rfl⟩
theorem zipD_len {xs ys : List D} : (zipD xs ys).length = min xs.length ys.length := by simp [zipD]
theorem its_zip (r : P.Reps S vs ds) (r2 : P.Reps S us es) : ItS P S (Itz P.K a b) [(a, .lst vs), (b, .lst us)] (zipD ds es) where
  go := fun i H h hs => by
    rw [zipD_len] at h
    obtain ⟨x, hx⟩ := lt_of_get (l := vs) (i := i) (by rw [r.length]; omega)
    obtain ⟨y, hy⟩ := lt_of_get (l := us) (i := i) (by rw [r2.length]; omega)
    exact ⟨vs, us, x, y, .of (Has.h1 hs), .of (Has.h2 hs), hx, hy⟩
  stop := fun H hs => ⟨vs, us, .of (Has.h1 hs), .of (Has.h2 hs), by rw [r.length, r2.length, zipD_len]; omega⟩
  yld := fun i d H S' x H' hd hs e1 sub y => by
    obtain ⟨T0, p, q, rfl, np, rfl, y1, y2⟩ := y
    obtain ⟨d1, d2, h1, h2, rfl⟩ := zipD_get hd
    obtain ⟨v, hv, rv⟩ := Reps.get r h1
    obtain ⟨u, hu, ru⟩ := Reps.get r2 h2
    have z1 := y1 vs (.of (Has.h1 hs))
    have z2 := y2 us (.of (Has.h2 hs))
    rw [hv] at z1; cases z1
    rw [hu] at z2; cases z2
    exact ⟨_, Grow.new sub np, pair_rep sub np (Rep.mono e1 _ _ rv) (Rep.mono e1 _ _ ru)⟩
theorem its_zipT (r : P.Reps S vs ds) (r2 : P.Reps S us es) : ItS P S (RZ.ItzT P.K a b) [(a, .tup vs), (b, .tup us)] (zipD ds es) where
  go := fun i H h hs => by
    rw [zipD_len] at h
    obtain ⟨x, hx⟩ := lt_of_get (l := vs) (i := i) (by rw [r.length]; omega)
    obtain ⟨y, hy⟩ := lt_of_get (l := us) (i := i) (by rw [r2.length]; omega)
    exact ⟨vs, us, x, y, .of (Has.h1 hs), .of (Has.h2 hs), hx, hy⟩
  stop := fun H hs => ⟨vs, us, .of (Has.h1 hs), .of (Has.h2 hs), by rw [r.length, r2.length, zipD_len]; omega⟩
  yld := fun i d H S' x H' hd hs e1 sub y => by
    obtain ⟨T0, p, q, rfl, np, rfl, y1, y2⟩ := y
    obtain ⟨d1, d2, h1, h2, rfl⟩ := zipD_get hd
    obtain ⟨v, hv, rv⟩ := Reps.get r h1
    obtain ⟨u, hu, ru⟩ := Reps.get r2 h2
    have z1 := y1 vs (.of (Has.h1 hs))
    have z2 := y2 us (.of (Has.h2 hs))
    rw [hv] at z1; cases z1
    rw [hu] at z2; cases z2
    exact ⟨_, Grow.new sub np, pair_rep sub np (Rep.mono e1 _ _ rv) (Rep.mono e1 _ _ ru)⟩
end
/-- the iterator's standing; b: what is walked may be lent (a comprehension) -/
abbrev RI (P : Pm) (b : Bool) : LSt → List D → It → DEnv → Hp → Hp → Prop := fun _ ds J _ H S => ∃ src, Has src H ∧ (b = false → Has src S) ∧ ItS P S J src ds
def itR (b : Bool) (G : Tab) (m : E) (env : DEnv) : Res (List D) := (if b then brw m (ev G m env) env else (ev G m env).val).bd fun d env => Res.of (itemsD d) env
def SI (C : Cn) (b : Bool) (tg e : Expr) (m : E) : Prop := ∃ wi, PI C.X tg e wi ∧ Ev C.P C.W wi (RI C.P b) (itR b C.G m)

def iAny (K : PySem.W.Frag) (te : TE) : TI := fun σ H R => te σ H fun x H1 => (∃ a xs, x = .ref a ∧ SqL K H1 a xs ∧ R (Itl K a) H1) ∨ (∃ a xs, x = .ref a ∧ SqT K H1 a xs ∧ R (Itt K a) H1) ∨ ∃ l, x = .str l ∧ R (Its l) H1
theorem pi_any {X : Cx} {tg l : Expr} {tl : TE} (hl : PE X l tl) : PI X tg l (iAny X.K tl) := by
  refine ⟨fun pins s σ H R I h => ?_⟩
  refine thn (hl.run pins s σ H _ I h) fun v s1 ⟨x, H1, I1, r1, q1⟩ => ?_
  rcases q1 with ⟨a, xs, rfl, hq, q⟩ | ⟨a, xs, rfl, hq, q⟩ | ⟨y, rfl, q⟩
  · cases r1
    obtain ⟨its, rv, p, hz⟩ := I1.list hq
    refine wpAny_pyIter_list p.isList ?_
    exact pi_one (tk := s1.toks) I1 _ (turn_list a _) ⟨_, Heap.get?_push_size _ rfl, rfl, rfl⟩ q
  · cases r1
    obtain ⟨its, rv, p, hz⟩ := I1.tuple hq
    refine wpAny_pyIter_tuple (show s1.heap.IsTuple a its.toArray from p) ?_
    exact pi_one (tk := s1.toks) I1 _ (turn_tuple a _) ⟨_, Heap.get?_push_size _ rfl, rfl, rfl⟩ q
  · obtain ⟨t, rfl⟩ := r1
    cases ha : y.cps.all (· < 128)
    · exact wpAny_pyIter_wide ha (pi_one (tk := s1.toks) I1 _ (turn_str _ y t "str_iterator" (.inr rfl)) ⟨_, Heap.get?_push_size _ rfl, rfl, rfl⟩ q)
    · exact wpAny_pyIter_ascii ha (pi_one (tk := s1.toks) I1 _ (turn_str _ y t "str_ascii_iterator" (.inl rfl)) ⟨_, Heap.get?_push_size _ rfl, rfl, rfl⟩ q)
section
variable {C : Cn} {tg e a b c : Expr} {m ma mb mc : E} {p pos : Pos}
theorem any_of {P : Pm} {W : WX} {σ : LSt} {H S : Hp} {R : It → Hp → Prop} {env : DEnv} {x : V} {d : D} {k : Bool} (ok : StOk P σ env H S) (r : BorR P H S x d) (rs : k = false → P.Rep S x d) (q : RG P W σ (RI P k σ) H S R (Res.of (itemsD d) env)) :
    (∃ a xs, x = .ref a ∧ SqL P.K H a xs ∧ R (Itl P.K a) H) ∨ (∃ a xs, x = .ref a ∧ SqT P.K H a xs ∧ R (Itt P.K a) H) ∨ ∃ l, x = .str l ∧ R (Its l) H := by
  cases d with
  | lst ds =>
    obtain ⟨a, vs, rfl, h1, r1⟩ := r.toLst ok.sub
    refine .inl ⟨a, vs, rfl, .of h1, RG.now q ok ⟨[(a, .lst vs)], fun p hp => ?_, fun hk p hp => ?_, its_list r1⟩⟩
    · simp only [List.mem_singleton] at hp; subst hp; exact h1
    · simp only [List.mem_singleton] at hp; subst hp
      cases rs hk with
      | lst h3 h4 => have z := ok.sub _ _ h3; rw [h1] at z; cases z; exact h3
  | tup ds =>
    obtain ⟨a, vs, rfl, h1, hS, r1⟩ := r.toTup ok.sub
    refine .inr (.inl ⟨a, vs, rfl, .of h1, RG.now q ok ⟨[(a, .tup vs)], fun p hp => ?_, fun hk p hp => ?_, its_tup r1⟩⟩)
    · simp only [List.mem_singleton] at hp; subst hp; exact h1
    · simp only [List.mem_singleton] at hp; subst hp; exact hS
  | str l => exact .inr (.inr ⟨sT l, r.toStr, RG.now q ok ⟨[], nil_has, fun _ => nil_has, its_str⟩⟩)
  | _ => exact q.elim
theorem si_any (hK : C.X.K = C.P.K) (h : SBo C e m) : SI C true tg e m := by
  obtain ⟨t, pt, et⟩ := h
  refine ⟨_, pi_any pt, fun σ env H S R ok q => ?_⟩
  refine et σ env H S _ ok (RG.bind (fa := brw m (ev C.G m env) env) q fun d env1 x H1 S1 e1 ok1 r1 q1 => ?_)
  rw [hK]
  exact any_of (k := true) ok1 r1 (fun z => by cases z) q1
theorem si_anyF (hK : C.X.K = C.P.K) (h : SD C e m) : SI C false tg e m := by
  obtain ⟨t, pt, et⟩ := h
  refine ⟨_, pi_any pt, fun σ env H S R ok q => ?_⟩
  refine et σ env H S _ ok (RG.bind (fa := (ev C.G m env).val) q fun d env1 x H1 S1 e1 ok1 r1 q1 => ?_)
  rw [hK]
  exact any_of ok1 (.rep r1) (fun _ => r1) q1
theorem itR_nv {b : Bool} {G : Tab} {m : E} {env : DEnv} (hm : isVar m = none) : itR b G m env = (ev G m env).val.bd fun d env => Res.of (itemsD d) env := by
  cases b
  · rfl
  · show (brw m (ev G m env) env).bd _ = _
    unfold brw
    rw [hm]
theorem reps1 {P : Pm} {S : Hp} {vs : List V} {d : D} (r : P.Reps S vs [d]) : ∃ v, vs = [v] ∧ P.Rep S v d := by
  cases r with
  | cons a b => cases b; exact ⟨_, rfl, a⟩
theorem reps2 {P : Pm} {S : Hp} {vs : List V} {d e : D} (r : P.Reps S vs [d, e]) : ∃ v u, vs = [v, u] ∧ P.Rep S v d ∧ P.Rep S u e := by
  cases r with
  | cons a b =>
    obtain ⟨u, rfl, h⟩ := reps1 b
    exact ⟨_, u, rfl, a, h⟩
theorem reps3 {P : Pm} {S : Hp} {vs : List V} {d e f : D} (r : P.Reps S vs [d, e, f]) : ∃ v u w, vs = [v, u, w] ∧ P.Rep S v d ∧ P.Rep S u e ∧ P.Rep S w f := by
  cases r with
  | cons a b =>
    obtain ⟨u, w, rfl, h, h2⟩ := reps2 b
    exact ⟨_, u, w, rfl, a, h, h2⟩
theorem rep_int {P : Pm} {S : Hp} {v : V} {i : Int} (r : P.Rep S v (.int i)) : v = .int i := by cases r; rfl
theorem rngD_inv {xs l : List D} (h : rngD xs = some l) : (∃ n, xs = [.int n] ∧ (-(2 ^ 62) ≤ n ∧ n < 2 ^ 62) ∧ l = (List.range n.toNat).map fun (k : Nat) => D.int (k : Int)) ∨
    (∃ a b, xs = [.int a, .int b] ∧ (-(2 ^ 62) ≤ a ∧ a < 2 ^ 62 ∧ -(2 ^ 62) ≤ b ∧ b < 2 ^ 62) ∧ l = (List.range (b - a).toNat).map fun (k : Nat) => D.int (a + (k : Int))) ∨
    ∃ a b, xs = [.int a, .int b, .int (-1)] ∧ (-(2 ^ 62) ≤ a ∧ a < 2 ^ 62 ∧ -(2 ^ 62) ≤ b ∧ b < 2 ^ 62) ∧ l = (List.range (a - b).toNat).map fun (k : Nat) => D.int (a - (k : Int)) := by
  unfold rngD at h
  split at h
  · split at h
    · rename_i n hn
      cases h
      exact .inl ⟨n, rfl, hn, rfl⟩
    · cases h
  · split at h
    · rename_i a b hn
      cases h
      exact .inr (.inl ⟨a, b, rfl, hn, rfl⟩)
    · cases h
  · split at h
    · rename_i a b c hn
      cases h
      obtain ⟨h1, h2, h3, h4, rfl⟩ := hn
      exact .inr (.inr ⟨a, b, rfl, ⟨h1, h2, h3, h4⟩, rfl⟩)
    · cases h
  · cases h
/-- the three forms of range: what comes of the arguments -/
theorem rng_get {P : Pm} {W : WX} {G : Tab} {k : Bool} {ms : List E} {σ : LSt} {env : DEnv} {H S : Hp} {R : It → Hp → Prop} {Q' : List V → Hp → Prop} (q : RG P W σ (RI P k σ) H S R (itR k G (.range ms) env))
    (h : ∀ ds l env1 xs H1 S1, ds.length = ms.length → rngD ds = some l → StOk P σ env1 H1 S1 → P.Reps S1 xs ds → RG P W σ (RI P k σ) H1 S1 R (.ok l env1) → Q' xs H1) : RG P W σ (RA P σ) H S Q' (evs G ms env) := by
  rw [itR_nv rfl] at q
  simp only [ev, val_bd, bd_bd] at q
  cases eA : evs G ms env with
  | ok ds env1 =>
    rw [eA, bd_ok] at q
    intro xs H1 S1 e1 ok1 r1
    cases e : rngD ds with
    | none => rw [e] at q; exact q.elim
    | some l =>
      rw [e] at q
      exact h ds l env1 xs H1 S1 (evs_len _ _ _ _ eA) e ok1 r1 (RG.shift q e1)
  | er c env1 => rw [eA] at q; exact q
  | st => rw [eA] at q; exact q.elim
theorem si_rng1 {k : Bool} (hg : Gl C.X "range") (hm : C.X.mg "range" = none) (ha : SA C [a] [ma]) (hs : starEach [a] C.X.env = [(false, eval a C.X.env)]) : SI C k tg (.Call (.Name "range" p) [a] [] pos) (.range [ma]) := by
  obtain ⟨t, pt, et⟩ := ha
  refine ⟨_, pi_range1 hg hm pt hs, fun σ env H S R ok q => ?_⟩
  refine et σ env H S _ ok (rng_get q fun ds l env1 xs H1 S1 hl e ok1 r1 q1 => ?_)
  rcases rngD_inv e with ⟨n, rfl, hn, rfl⟩ | ⟨x, y, rfl, hn, rfl⟩ | ⟨x, y, rfl, hn, rfl⟩
  · obtain ⟨v, rfl, rv⟩ := reps1 r1
    cases rep_int rv
    refine ⟨n, rfl, hn.1, hn.2, RG.now q1 ok1 ⟨[], nil_has, fun _ => nil_has, ?_⟩⟩
    have e := its_range (P := C.P) (S := S1) (lo := 0) (n := n.toNat)
    simpa using e
  · cases hl
  · cases hl
theorem si_rng2 {k : Bool} (hg : Gl C.X "range") (hm : C.X.mg "range" = none) (ha : SA C [a, b] [ma, mb]) (hs : starEach [a, b] C.X.env = [(false, eval a C.X.env), (false, eval b C.X.env)]) (hs2 : starEach [b] C.X.env = [(false, eval b C.X.env)]) : SI C k tg (.Call (.Name "range" p) [a, b] [] pos) (.range [ma, mb]) := by
  obtain ⟨t, pt, et⟩ := ha
  refine ⟨_, pi_range2 hg hm pt hs hs2, fun σ env H S R ok q => ?_⟩
  refine et σ env H S _ ok (rng_get q fun ds l env1 xs H1 S1 hl e ok1 r1 q1 => ?_)
  rcases rngD_inv e with ⟨n, rfl, hn, rfl⟩ | ⟨x, y, rfl, hn, rfl⟩ | ⟨x, y, rfl, hn, rfl⟩
  · cases hl
  · obtain ⟨v, u, rfl, rv, ru⟩ := reps2 r1
    cases rep_int rv
    cases rep_int ru
    exact ⟨x, y, rfl, hn, RG.now q1 ok1 ⟨[], nil_has, fun _ => nil_has, its_range⟩⟩
  · cases hl
theorem si_rngD {k : Bool} (hg : Gl C.X "range") (hm : C.X.mg "range" = none) (ha : SA C [a, b, c] [ma, mb, mc]) (hs : starEach [a, b, c] C.X.env = (false, eval a C.X.env) :: starEach [b, c] C.X.env) (hpl : (backTo pos (starEach [b, c] C.X.env)).any (·.1) = false) : SI C k tg (.Call (.Name "range" p) [a, b, c] [] pos) (.range [ma, mb, mc]) := by
  obtain ⟨t, pt, et⟩ := ha
  refine ⟨_, pi_range3 hg hm pt hs hpl, fun σ env H S R ok q => ?_⟩
  refine et σ env H S _ ok (rng_get q fun ds l env1 xs H1 S1 hl e ok1 r1 q1 => ?_)
  rcases rngD_inv e with ⟨n, rfl, hn, rfl⟩ | ⟨x, y, rfl, hn, rfl⟩ | ⟨x, y, rfl, hn, rfl⟩
  · cases hl
  · cases hl
  · obtain ⟨v, u, w, rfl, rv, ru, rw⟩ := reps3 r1
    cases rep_int rv
    cases rep_int ru
    cases rep_int rw
    exact ⟨x, y, -1, _, rfl, .neg hn.1 hn.2.1 hn.2.2.1 hn.2.2.2, RG.now q1 ok1 ⟨[], nil_has, fun _ => nil_has, its_down⟩⟩
/-- .. and of enumerate and zip: names may be lent in a comprehension, not in a for loop -/
def enB (k : Bool) (G : Tab) (m : E) (env : DEnv) : Res D := if k then brw m (ev G m env) env else (ev G m env).val
theorem si_enum {es : List Expr} {kk : Nat} {tp : Pos} (hK : C.X.K = C.P.K) (hg : Gl C.X "enumerate") (hm : C.X.mg "enumerate" = none) (ha : SD C a ma) (hs : starEach [a] C.X.env = [(false, eval a C.X.env)]) : SI C false (.Tuple es kk tp) (.Call (.Name "enumerate" p) [a] [] pos) (.enum ma) := by
  obtain ⟨t, pt, et⟩ := ha
  refine ⟨_, pi_enum hg hm (pa_cons pt pa_nil hs) hs, fun σ env H S R ok q => ?_⟩
  rw [itR_nv rfl] at q
  simp only [ev, val_bd, bd_bd] at q
  refine et σ env H S _ ok (RG.bind (fa := (ev C.G ma env).val) q fun d env1 x H1 S1 e1 ok1 r1 q1 => ?_)
  cases d with
  | lst ds =>
    cases r1 with
    | lst h1 r1 =>
      rw [hK]
      refine ⟨_, _, rfl, .of (ok1.sub _ _ h1), RG.now (u := enumL ds 0) q1 ok1 ⟨_, fun p hp => ?_, fun _ p hp => ?_, its_enum r1⟩⟩
      · simp only [List.mem_singleton] at hp; subst hp; exact ok1.sub _ _ h1
      · simp only [List.mem_singleton] at hp; subst hp; exact h1
  | _ => exact q1.elim
theorem si_zip {es : List Expr} {kk : Nat} {tp : Pos} (hK : C.X.K = C.P.K) (hg : Gl C.X "zip") (hm : C.X.mg "zip" = none) (ha : SD C a ma) (hb : SD C b mb) (hs : starEach [a, b] C.X.env = (false, eval a C.X.env) :: starEach [b] C.X.env) (hs2 : starEach [b] C.X.env = [(false, eval b C.X.env)])
    (hpl : (backTo pos (starEach [b] C.X.env)).any (·.1) = false) : SI C false (.Tuple es kk tp) (.Call (.Name "zip" p) [a, b] [] pos) (.zip ma mb) := by
  obtain ⟨t, pt, et⟩ := ha
  obtain ⟨t2, pt2, et2⟩ := hb
  refine ⟨_, RZ.pi_zipA hg hm (pa_cons pt (pa_cons pt2 pa_nil hs2) hs) hs hpl, fun σ env H S R ok q => ?_⟩
  rw [itR_nv rfl] at q
  simp only [ev, val_bd, bd_bd] at q
  refine et σ env H S _ ok (RG.bind (fa := (ev C.G ma env).val) q fun d env1 x H1 S1 e1 ok1 r1 q1 => ?_)
  refine et2 σ env1 H1 S1 _ ok1 (RG.bind (fa := (ev C.G mb env1).val) q1 fun d2 env2 y H2 S2 e2 ok2 r2 q2 => ?_)
  have r1 := Rep.mono e2.s _ _ r1
  rw [hK]
  cases d with
  | lst ds =>
    cases d2 with
    | lst es =>
      cases r1 with
      | lst h1 r1 =>
        cases r2 with
        | lst h2 r2 =>
          refine ⟨_, _, _, _, rfl, .inl ⟨.of (ok2.sub _ _ h1), .of (ok2.sub _ _ h2), RG.now (u := zipD ds es) q2 ok2 ⟨_, fun p hp => ?_, fun _ p hp => ?_, its_zip r1 r2⟩⟩⟩
          · rcases List.mem_cons.mp hp with rfl | hp
            · exact ok2.sub _ _ h1
            · simp only [List.mem_singleton] at hp; subst hp; exact ok2.sub _ _ h2
          · rcases List.mem_cons.mp hp with rfl | hp
            · exact h1
            · simp only [List.mem_singleton] at hp; subst hp; exact h2
    | _ => exact q2.elim
  | tup ds =>
    cases d2 with
    | tup es =>
      cases r1 with
      | tup h1 r1 =>
        cases r2 with
        | tup h2 r2 =>
          refine ⟨_, _, _, _, rfl, .inr ⟨.of (ok2.sub _ _ h1), .of (ok2.sub _ _ h2), RG.now (u := zipD ds es) q2 ok2 ⟨_, fun p hp => ?_, fun _ p hp => ?_, its_zipT r1 r2⟩⟩⟩
          · rcases List.mem_cons.mp hp with rfl | hp
            · exact ok2.sub _ _ h1
            · simp only [List.mem_singleton] at hp; subst hp; exact ok2.sub _ _ h2
          · rcases List.mem_cons.mp hp with rfl | hp
            · exact h1
            · simp only [List.mem_singleton] at hp; subst hp; exact h2
    | _ => exact q2.elim
  | _ => exact q2.elim
end
end Dl

namespace Dl
open PySem L2
def Pm.at_ (P : Pm) (H0 : Hp) : Pm := { P with H0 := H0 }
section
variable {P : Pm} {σ : LSt} {env : DEnv} {H S : Hp} {Da : Addr} {o : HO}
theorem SlotR.pin {v : V} {u : DV} (h : SlotR P H S v u) (hn : u.own = true → v ≠ .ref Da) : SlotR (P.at_ (upd P.H0 Da o)) H S v u := by
  have k : ∀ a, v = .ref a → u.own = true → P.H0 a = none → upd P.H0 Da o a = none := fun a e hu h0 => by
    rw [upd_ne (fun z => hn hu (by rw [e, z]))]; exact h0
  cases u with
  | sh d => exact h
  | ex c => exact h
  | op ds => obtain ⟨e, h0, hS, vs, q⟩ := h; exact ⟨e, k _ e rfl h0, hS, vs, q⟩
  | ol ds => obtain ⟨a, e, h0, hS, vs, q⟩ := h; exact ⟨a, e, k _ e rfl h0, hS, vs, q⟩
  | od ds => obtain ⟨a, e, h0, hS, vs, q⟩ := h; exact ⟨a, e, k _ e rfl h0, hS, vs, q⟩
  | ot ds => obtain ⟨a, e, h0, hS, vs, q⟩ := h; exact ⟨a, e, k _ e rfl h0, hS, vs, q⟩
theorem upd_none {H : Hp} {a b : Addr} {o : HO} (h : upd H a o b = none) : b ≠ a ∧ H b = none := by
  by_cases hb : b = a
  · subst hb; rw [upd_same] at h; cases h
  · rw [upd_ne hb] at h; exact ⟨hb, h⟩
theorem SlotR.unpin {v : V} {u : DV} (h : SlotR (P.at_ (upd P.H0 Da o)) H S v u) : SlotR P H S v u ∧ (u.own = true → v ≠ .ref Da) := by
  cases u with
  | sh d => exact ⟨h, fun z => by cases z⟩
  | ex c => exact ⟨h, fun z => by cases z⟩
  | op ds =>
    obtain ⟨e, h0, hS, vs, q⟩ := h
    obtain ⟨n, h0⟩ := upd_none h0
    exact ⟨⟨e, h0, hS, vs, q⟩, fun _ z => n (V.ref.inj (e.symm.trans z))⟩
  | ol ds =>
    obtain ⟨a, e, h0, hS, vs, q⟩ := h
    obtain ⟨n, h0⟩ := upd_none h0
    exact ⟨⟨a, e, h0, hS, vs, q⟩, fun _ z => by rw [e] at z; cases z; exact n rfl⟩
  | od ds =>
    obtain ⟨a, e, h0, hS, vs, q⟩ := h
    obtain ⟨n, h0⟩ := upd_none h0
    exact ⟨⟨a, e, h0, hS, vs, q⟩, fun _ z => by rw [e] at z; cases z; exact n rfl⟩
  | ot ds =>
    obtain ⟨a, e, h0, hS, vs, q⟩ := h
    obtain ⟨n, h0⟩ := upd_none h0
    exact ⟨⟨a, e, h0, hS, vs, q⟩, fun _ z => by rw [e] at z; cases z; exact n rfl⟩
/-- the thing at Da may not be any slot's: it counts as old -/
theorem StOk.pin (h : StOk P σ env H S) (hS : S Da = none) (hH : H Da = some o) (ns : NotSlot σ env Da) : StOk (P.at_ (upd P.H0 Da o)) σ env H S := by
  refine ⟨h.sub, fun b x q => ?_, h.s0, fun a x q e0 => ?_, fun i u e => ?_, h.ds, h.ln⟩
  · have q : upd P.H0 Da o b = some x := q
    by_cases hb : b = Da
    · subst hb; rw [upd_same] at q; cases q; exact hH
    · rw [upd_ne hb] at q; exact h.base _ _ q
  · show upd P.H0 Da o a = none
    rw [upd_ne (ne_of_none q hS)]
    exact h.fr a x q e0
  · obtain ⟨v, e1, r⟩ := h.sl i u e
    exact ⟨v, e1, r.pin fun hu hv => ns i u e hu (by rw [e1, hv])⟩
theorem StOk.unpin (h : StOk (P.at_ (upd P.H0 Da o)) σ env H S) (h0 : P.H0 Da = none) (hS0 : P.S0 Da = none) : StOk P σ env H S ∧ NotSlot σ env Da ∧ S Da = none := by
  refine ⟨⟨h.sub, fun b x q => ?_, h.s0, fun a x q e0 => ?_, fun i u e => ?_, h.ds, h.ln⟩, fun i u e ho z => ?_, ?_⟩
  · exact h.base b x (show upd P.H0 Da o b = some x by rw [upd_ne (ne_of_none q h0)]; exact q)
  · exact (upd_none (h.fr a x q e0)).2
  · obtain ⟨v, e1, r⟩ := h.sl i u e
    exact ⟨v, e1, r.unpin.1⟩
  · obtain ⟨v, e1, r⟩ := h.sl i u e
    rw [z] at e1; cases e1
    exact r.unpin.2 ho rfl
  · cases q : S Da with
    | none => rfl
    | some x =>
      have z : upd P.H0 Da o Da = none := h.fr Da x q hS0
      rw [upd_same] at z; cases z
end
/-! ### canonical readings -/
abbrev W0 : WX := fun _ _ _ _ => False
def tDc (P : Pm) (G : Tab) (m : E) : TE := fun σ H Q => ∃ H0 env S, StOk (P.at_ H0) σ env H S ∧ RG (P.at_ H0) W0 σ (RD P σ) H S Q (ev G m env).val
def tTc (P : Pm) (G : Tab) (m : Option E) : TT := fun σ H Q => match m with
  | some m => ∃ H0 env S, StOk (P.at_ H0) σ env H S ∧ RG (P.at_ H0) W0 σ (RT σ) H S Q (tst G m env)
  | none => Q true H
/-- the block of a comprehension -/
abbrev Cn.blk (C : Cn) (s : Shared) (H : Hp) (scope : Scope) (cenv : Env) (fp : List Addr) (H0 : Hp) : Cn := ⟨C.X.blk s H scope cenv fp, W0, C.P.at_ H0, C.G⟩
theorem tDc_pe {C : Cn} {X : Cx} {e : Expr} {m : E} (h : ∀ H0, SD ⟨X, W0, C.P.at_ H0, C.G⟩ e m) : PE X e (tDc C.P C.G m) := by
  refine ⟨fun pins s σ H Q I ⟨H0, env, S, ok, q⟩ => ?_⟩
  obtain ⟨t, pt, et⟩ := h H0
  exact pt.run pins s σ H Q I (et σ env H S Q ok q)
theorem tTc_pt {C : Cn} {X : Cx} {e : Expr} {m : E} (h : ∀ H0, ST ⟨X, W0, C.P.at_ H0, C.G⟩ e m) : PT X e (tTc C.P C.G (some m)) := by
  refine ⟨fun pins s σ H Q I ⟨H0, env, S, ok, q⟩ => ?_⟩
  obtain ⟨t, pt, et⟩ := h H0
  exact pt.run pins s σ H Q I (et σ env H S Q ok q)
/-- what the semantics makes of a clause's test -/
def cndD (G : Tab) (m : Option E) : DEnv → Res Bool := match m with
  | some c => fun env => (brw c (ev G c env) env).bd fun x env => .of (truth x) env
  | none => fun env => .ok true env
theorem len_of_set {α : Type} {l : List α} {i : Nat} {a b : α} : (l.set i a).set i b = l.set i b := List.set_set ..
theorem compL_len {s : Nat} {c : DEnv → Res Bool} {el : DEnv → Res D} : ∀ (xs : List D) (env env' : DEnv) (ys : List D), compL s c el xs env = .ok ys env' → ys.length ≤ xs.length := by
  intro xs
  induction xs with
  | nil => intro env env' ys h; simp only [compL, Res.ok.injEq] at h; obtain ⟨rfl, _⟩ := h; exact Nat.le_refl _
  | cons x r ih =>
    intro env env' ys h
    simp only [compL] at h
    cases e1 : c (env.set s (some (.sh x))) with
    | ok b env1 =>
      rw [e1, bd_ok] at h
      cases b with
      | true =>
        simp only [if_true] at h
        cases e2 : el env1 with
        | ok y env2 =>
          rw [e2, bd_ok] at h
          cases e3 : compL s c el r env2 with
          | ok zs env3 =>
            rw [e3] at h
            cases h
            have := ih _ _ _ e3
            simp only [List.length_cons]; omega
          | er c2 env3 => rw [e3] at h; cases h
          | st => rw [e3] at h; cases h
        | er c2 env3 => rw [e2] at h; cases h
        | st => rw [e2] at h; cases h
      | false =>
        simp only [Bool.false_eq_true, if_false] at h
        have := ih _ _ _ h
        simp only [List.length_cons]; omega
    | er c2 env3 => rw [e1] at h; cases h
    | st => rw [e1] at h; cases h
/-- the loop: what must hold ahead of turn i -/
structure LcInv (C : Cn) (G : Tab) (s : Nat) (cnd : Option E) (elt : E) (σ : LSt) (H1 S1 : Hp) (Da : Addr) (src : List (Addr × HO)) (ds : List D) (tot : List D) (env' : DEnv) (i : Nat) (H : Hp) : Prop where
  ex : ∃ (env : DEnv) (S : Hp) (accV : List V) (accD ys : List D), compL s (cndD G cnd) (fun env => (ev G elt env).val) (ds.drop i) env = .ok ys env' ∧ H Da = some (.lst accV) ∧ C.P.Reps S accV accD ∧ accD ++ ys = tot ∧
    StOk C.P (σ.set s none) (env.set s none) H S ∧ NotSlot (σ.set s none) (env.set s none) Da ∧ S Da = none ∧ Ext H1 S1 H S
theorem lc_turns {C : Cn} {s : Nat} {cnd : Option E} {elt : E} {σ : LSt} {H1 S1 : Hp} {J : It} {src : List (Addr × HO)} {ds tot : List D} {env env' : DEnv} {Q : VK} {Da : Addr}
    (its : ItS C.P S1 J src ds) (hs : Has src H1) (ok : StOk C.P σ env H1 S1) (nD : H1 Da = none) (hsl : s < σ.length) (he : compL s (cndD C.G cnd) (fun env => (ev C.G elt env).val) ds (env.set s none) = .ok tot env') (hz : tot.length ≤ szL)
    (hq : ∀ vs H S, H Da = some (.lst vs) → C.P.Reps S vs tot → StOk C.P (σ.set s none) (env'.set s none) H S → NotSlot (σ.set s none) (env'.set s none) Da → S Da = none → Ext H1 S1 H S → Q (.ref Da) H) :
    ∃ W : Nat → Nat → Hp → Prop, (∃ m, W 0 m (upd H1 Da (.lst []))) ∧ ∀ i m H, W i m H →
      (J.stop i H ∧ Q (.ref Da) H) ∨ (J.go i H ∧ ∃ Nx : Hp → Prop, (∀ H', Nx H' → ∃ m', m' < m ∧ W (i + 1) m' H') ∧ ∀ x H', J.yld i H x H' → gName s x (wipe σ [s]) H' fun σ2 H2 => wipe σ2 [s] = wipe σ [s] ∧ tTc C.P C.G cnd σ2 H2 fun b H3 =>
        if b = true then tDc C.P C.G elt σ2 H3 fun y H4 => ∃ acc, H4 Da = some (.lst acc) ∧ acc.length < sizeLine ∧ Nx (upd H4 Da (.lst (acc ++ [y]))) else Nx H3) := by
  have h0 : C.P.H0 Da = none := ok.h0 nD
  have sD : S1 Da = none := ok.s0n nD
  have hS0 : C.P.S0 Da = none := ok.s0.free sD
  have srcNe : ∀ p ∈ src, p.1 ≠ Da := fun p hp z => by have q := hs p hp; rw [z, nD] at q; cases q
  have keep : ∀ {H H' : Hp}, Has src H → Same H H' → Has src H' := fun hh e p hp => e _ _ (hh p hp)
  refine ⟨fun i m H => m = ds.length - i ∧ i ≤ ds.length ∧ LcInv C C.G s cnd elt σ H1 S1 Da src ds tot env' i H, ⟨ds.length, by simp, Nat.zero_le _, env.set s none, S1, [], [], tot, he, upd_same, .nil, rfl, ?_, ?_, sD, ⟨same_upd nD, Same.refl _⟩⟩, ?_⟩
  · rw [len_of_set]
    exact (ok.newO nD).clr s none
  · rw [len_of_set]
    intro j u e ho z
    have hj : s ≠ j := fun hj => by
      subst hj
      by_cases hl : s < env.length
      · rw [List.getElem?_set_self hl] at e; cases e
      · rw [List.getElem?_eq_none (by simpa using hl)] at e; cases e
    rw [List.getElem?_set_ne hj] at e z
    exact ok.notSlot nD j u e ho z
  · rintro i m H ⟨rfl, hi, env1, S, accV, accD, ys, hc, hD, rA, htot, okS, ns, sDn, ex⟩
    have hsrc : Has src H := keep hs ex.h
    by_cases hlt : i < ds.length
    · refine .inr ⟨its.go i H hlt hsrc, fun H' => LcInv C C.G s cnd elt σ H1 S1 Da src ds tot env' (i + 1) H', fun H' q => ⟨ds.length - (i + 1), by omega, rfl, hlt, q⟩, fun x H' hy => ?_⟩
      obtain ⟨d, hd⟩ := lt_of_get hlt
      have hdr : ds.drop i = d :: ds.drop (i + 1) := by
        rw [List.drop_eq_getElem_cons hlt]
        congr 1
        rw [List.getElem?_eq_getElem hlt] at hd
        exact Option.some.inj hd
      obtain ⟨S', gr, rx⟩ := its.yld i d H S x H' hd hsrc ex.s okS.sub hy
      rw [hdr] at hc
      simp only [compL] at hc
      have hD' : H' Da = some (.lst accV) := gr.ext.h _ _ hD
      have sD' : S' Da = none := by
        cases q : S' Da with
        | none => rfl
        | some o => have z := gr.nw Da o q sDn; rw [hD] at z; cases z
      have ok1 := okS.grow gr
      -- the name takes the item
      have ok2 := ok1.setV (v := x) (u := .sh d) rx s
      rw [len_of_set, len_of_set] at ok2
      have ns2 : NotSlot (σ.set s (some x)) (env1.set s (some (.sh d))) Da := fun j u e ho z => by
        by_cases hj : s = j
        · subst hj
          by_cases hl : s < env1.length
          · rw [List.getElem?_set_self hl] at e; cases e; cases ho
          · rw [List.getElem?_eq_none (by simpa using hl)] at e; cases e
        · rw [List.getElem?_set_ne hj] at e z
          exact ns j u (by rw [List.getElem?_set_ne hj]; exact e) ho (by rw [List.getElem?_set_ne hj]; exact z)
      have okP := ok2.pin (o := .lst accV) sD' hD' ns2
      have hw : (wipe σ [s]).set s (some x) = σ.set s (some x) := by show (σ.set s none).set s (some x) = _; rw [len_of_set]
      unfold gName
      rw [hw]
      refine ⟨by show (σ.set s (some x)).set s none = σ.set s none; rw [len_of_set], ?_⟩
      -- behind a turn
      have fin : ∀ (env2 : DEnv) (H2 S2 : Hp) (ac : List V) (ad zs : List D), compL s (cndD C.G cnd) (fun env => (ev C.G elt env).val) (ds.drop (i + 1)) env2 = .ok zs env' → H2 Da = some (.lst ac) → C.P.Reps S2 ac ad → ad ++ zs = tot →
          StOk C.P (σ.set s (some x)) env2 H2 S2 → NotSlot (σ.set s (some x)) env2 Da → S2 Da = none → Ext H1 S1 H2 S2 → LcInv C C.G s cnd elt σ H1 S1 Da src ds tot env' (i + 1) H2 := fun env2 H2 S2 ac ad zs e1 e2 r2 et o2 n2 s2 x2 => by
        refine ⟨env2, S2, ac, ad, zs, e1, e2, r2, et, ?_, ?_, s2, x2⟩
        · have z := o2.clr s none
          rw [len_of_set] at z
          exact z
        · intro j u e ho z
          by_cases hj : s = j
          · subst hj
            by_cases hl : s < env2.length
            · rw [List.getElem?_set_self hl] at e; cases e
            · rw [List.getElem?_eq_none (by simpa using hl)] at e; cases e
          · rw [List.getElem?_set_ne hj] at e z
            exact n2 j u e ho (by rw [List.getElem?_set_ne hj]; exact z)
      have tail : ∀ (b : Bool) (env2 : DEnv) (H2 S2 : Hp), (if b = true then ((ev C.G elt env2).val.bd fun y env => (compL s (cndD C.G cnd) (fun env => (ev C.G elt env).val) (ds.drop (i + 1)) env).bd fun ys env => .ok (y :: ys) env) else compL s (cndD C.G cnd) (fun env => (ev C.G elt env).val) (ds.drop (i + 1)) env2) = .ok ys env' →
          Ext H' S' H2 S2 → StOk (C.P.at_ (upd C.P.H0 Da (.lst accV))) (σ.set s (some x)) env2 H2 S2 →
          (if b = true then tDc C.P C.G elt (σ.set s (some x)) H2 fun y H4 => ∃ acc, H4 Da = some (.lst acc) ∧ acc.length < sizeLine ∧ LcInv C C.G s cnd elt σ H1 S1 Da src ds tot env' (i + 1) (upd H4 Da (.lst (acc ++ [y]))) else LcInv C C.G s cnd elt σ H1 S1 Da src ds tot env' (i + 1) H2) := fun b env2 H2 S2 hb e2 o2 => by
        cases b with
        | false =>
          simp only [Bool.false_eq_true, if_false] at hb ⊢
          obtain ⟨o3, n3, s3⟩ := o2.unpin h0 hS0
          exact fin env2 H2 S2 accV accD ys hb (e2.h _ _ hD') (Reps.mono (gr.ext.s.trans e2.s) _ _ rA) htot o3 n3 s3 (ex.trans (gr.ext.trans e2))
        | true =>
          simp only [if_true] at hb ⊢
          refine ⟨_, env2, S2, o2, ?_⟩
          cases ee : (ev C.G elt env2).val with
          | ok y env3 =>
            rw [ee, bd_ok] at hb
            intro v H4 S4 e4 o4 r4
            obtain ⟨o5, n5, s5⟩ := o4.unpin h0 hS0
            cases ec : compL s (cndD C.G cnd) (fun env => (ev C.G elt env).val) (ds.drop (i + 1)) env3 with
            | ok zs env4 =>
              rw [ec, bd_ok] at hb
              cases hb
              have hD4 : H4 Da = some (.lst accV) := e4.h _ _ (e2.h _ _ hD')
              refine ⟨accV, hD4, ?_, ?_⟩
              · have hl := rA.length
                rw [← szL_eq]
                have : tot.length = accD.length + (zs.length + 1) := by rw [← htot]; simp
                omega
              · refine fin env3 _ S4 (accV ++ [v]) (accD ++ [y]) zs ec upd_same ((Reps.mono (gr.ext.s.trans (e2.s.trans e4.s)) _ _ rA).app (.one r4)) (by rw [List.append_assoc]; exact htot) (o5.mut h0 s5 n5) n5 s5 ?_
                have x4 := ex.trans (gr.ext.trans (e2.trans e4))
                refine ⟨fun b o q => ?_, x4.s⟩
                rw [upd_ne (ne_of_none q nD)]
                exact x4.h _ _ q
            | er c2 env4 => rw [ec] at hb; cases hb
            | st => rw [ec] at hb; cases hb
          | er c2 env3 => rw [ee] at hb; cases hb
          | st => rw [ee] at hb; cases hb
      cases cnd with
      | none =>
        simp only [cndD, bd_ok] at hc
        exact tail true _ H' S' hc (Ext.refl _ _) okP
      | some cm =>
        refine ⟨_, _, S', okP, ?_⟩
        change ((tst C.G cm (env1.set s (some (.sh d)))).bd _) = _ at hc
        cases et : tst C.G cm (env1.set s (some (.sh d))) with
        | ok b env2 =>
          rw [et, bd_ok] at hc
          intro b' H2 S2 e2 o2 rb
          cases rb
          exact tail b env2 H2 S2 hc e2 o2
        | er c2 env2 => rw [et] at hc; cases hc
        | st => rw [et] at hc; cases hc
    · have e : i = ds.length := by omega
      subst e
      rw [List.drop_length] at hc
      simp only [compL, Res.ok.injEq] at hc
      obtain ⟨rfl, rfl⟩ := hc
      rw [List.append_nil] at htot
      subst htot
      exact .inl ⟨its.stop H hsrc, hq accV H S hD rA okS ns sDn ex⟩
end Dl

namespace Dl
open PySem L2
section
variable {P : Pm} {σ : LSt} {env : DEnv} {H S H' S' : Hp}
/-- a slot that holds nothing of one's own is given -/
theorem StOk.setN {v : V} {u : DV} (h : StOk P σ env H S) (r : SlotR P H S v u) (hu : u.own = false) (i : Nat) : StOk P (σ.set i (some v)) (env.set i (some u)) H S := by
  have ne : ∀ j (w : DV), (env.set i (some u))[j]? = some (some w) → w.own = true → i ≠ j ∧ env[j]? = some (some w) := fun j w e ho => by
    by_cases hj : i = j
    · subst hj
      by_cases hl : i < env.length
      · rw [List.getElem?_set_self hl] at e; cases e; rw [hu] at ho; cases ho
      · rw [List.getElem?_eq_none (by simpa using hl)] at e; cases e
    · rw [List.getElem?_set_ne hj] at e; exact ⟨hj, e⟩
  refine ⟨h.sub, h.base, h.s0, h.fr, fun j w e => ?_, fun j k u' v' a e1 o1 e2 o2 s1 s2 => ?_, by rw [List.length_set, List.length_set]; exact h.ln⟩
  · by_cases hj : i = j
    · subst hj
      by_cases hl : i < env.length
      · rw [List.getElem?_set_self hl] at e; cases e
        exact ⟨v, by rw [List.getElem?_set_self (by rw [h.ln]; exact hl)], r⟩
      · rw [List.getElem?_eq_none (by simpa using hl)] at e; cases e
    · rw [List.getElem?_set_ne hj] at e ⊢
      exact h.sl j w e
  · obtain ⟨hj, e1⟩ := ne j _ e1 o1
    obtain ⟨hk, e2⟩ := ne k _ e2 o2
    rw [List.getElem?_set_ne hj] at s1
    rw [List.getElem?_set_ne hk] at s2
    exact h.ds j k u' v' a e1 o1 e2 o2 s1 s2
theorem set_get {α : Type} {l : List α} {i : Nat} {x : α} (h : l[i]? = some x) : l.set i x = l := by
  apply List.ext_getElem?
  intro j
  by_cases hj : i = j
  · subst hj
    have hl : i < l.length := by
      by_cases hl : i < l.length
      · exact hl
      · rw [List.getElem?_eq_none (by simpa using hl)] at h; cases h
    rw [List.getElem?_set_self hl, h]
  · rw [List.getElem?_set_ne hj]
theorem slotN_inv {s : Nat} {o : Option DV} (h : slotN env s = some o) : env[s]? = some o ∧ ∀ u, o = some u → u.own = false := by
  unfold slotN at h
  split at h
  · rename_i u e
    split at h
    · cases h
    · rename_i hu
      cases h
      refine ⟨e, fun v q => ?_⟩
      cases q
      simpa using hu
  · rename_i e
    cases h
    exact ⟨e, fun v q => nomatch q⟩
  · cases h
theorem StOk.restore {s : Nat} {o : Option DV} {env1 env' : DEnv} {H1 S1 : Hp} (ok1 : StOk P σ env1 H1 S1) (hs : slotN env1 s = some o) (ex : Ext H1 S1 H S) (ok : StOk P (σ.set s none) (env'.set s none) H S) : StOk P σ (env'.set s o) H S := by
  obtain ⟨he, hu⟩ := slotN_inv hs
  have hl : s < σ.length := by
    rw [ok1.ln]
    by_cases hl : s < env1.length
    · exact hl
    · rw [List.getElem?_eq_none (by simpa using hl)] at he; cases he
  cases o with
  | none =>
    have z := ok.clr s (σ[s])
    rw [len_of_set, len_of_set] at z
    rw [set_get (by simp [hl])] at z
    exact z
  | some u =>
    obtain ⟨v, e1, r⟩ := ok1.sl s u he
    have hun := hu u rfl
    have r' : SlotR P H S v u := by
      cases u with
      | sh d => exact Rep.mono ex.s _ _ r
      | ex c => exact r
      | op ds => cases hun
      | ol ds => cases hun
      | od ds => cases hun
      | ot ds => cases hun
    have z := ok.setN r' hun s
    rw [len_of_set, len_of_set, set_get e1] at z
    exact z
theorem NotSlot.restore {s : Nat} {o : Option DV} {env' : DEnv} {a : Addr} (hu : ∀ u, o = some u → u.own = false) (h : NotSlot (σ.set s none) (env'.set s none) a) : NotSlot σ (env'.set s o) a := fun j u e ho z => by
  by_cases hj : s = j
  · subst hj
    by_cases hl : s < env'.length
    · rw [List.getElem?_set_self hl] at e
      cases o with
      | none => cases e
      | some w => cases e; rw [hu u rfl] at ho; cases ho
    · rw [List.getElem?_eq_none (by simpa using hl)] at e; cases e
  · rw [List.getElem?_set_ne hj] at e
    exact h j u (by rw [List.getElem?_set_ne hj]; exact e) ho (by rw [List.getElem?_set_ne hj]; exact z)
end
section
variable {C : Cn} {elt it : Expr} {y : Str} {mi me : E} {cnd : Option E} {ifs : List Expr} {s : Nat} {scope : Scope} {pos py : Pos}
theorem ev_comp {G : Tab} {env : DEnv} : ev G (.comp s mi cnd me) env = (brw mi (ev G mi env) env).bd fun d env => (Res.of (itemsD d) env).bd fun xs env => (Res.of (slotN env s) env).bd fun o env =>
    (noEr (compL s (cndD G cnd) (fun env => (ev G me env).val) xs (env.set s none))).bd fun ys env' => if ys.length ≤ szL then .ok (.ol ys) (env'.set s o) else .st := by
  cases cnd with
  | none => rw [ev]; rfl
  | some c => rw [ev]; rfl
/-- the reading of a comprehension, by what the semantics says -/
theorem comp_ev {wi : TI} (et : Ev C.P C.W wi (RI C.P true) (itR true C.G mi)) : Ev C.P C.W (tLc wi (gName s) (tTc C.P C.G cnd) (tDc C.P C.G me) [s]) (RV C.P) (ev C.G (.comp s mi cnd me)) := by
  intro σ env H S Q ok q
  rw [ev_comp, ← bd_bd] at q
  refine et σ env H S _ ok (RG.bind (fa := itR true C.G mi env) q fun ds env1 J H1 S1 e1 ok1 r1 q1 => ?_)
  obtain ⟨src, hs, _, its⟩ := r1
  intro D nD
  cases eo : slotN env1 s with
  | none => rw [eo] at q1; exact q1.elim
  | some o =>
    rw [eo, of_some, bd_ok] at q1
    obtain ⟨he, hu⟩ := slotN_inv eo
    have hl : s < σ.length := by
      rw [ok1.ln]
      by_cases hl : s < env1.length
      · exact hl
      · rw [List.getElem?_eq_none (by simpa using hl)] at he; cases he
    cases ec : compL s (cndD C.G cnd) (fun env => (ev C.G me env).val) ds (env1.set s none) with
    | ok tot env' =>
      rw [ec] at q1
      simp only [noEr, bd_ok] at q1
      split at q1
      · rename_i hz
        refine lc_turns its hs ok1 nD hl ec hz fun vs H2 S2 hD rA okS ns sD ex => ?_
        refine RG.at_ q1 ex (ok1.restore eo ex okS) ⟨D, rfl, ok1.h0 nD, sD, ⟨vs, hD, rA⟩, ns.restore hu⟩
      · exact q1.elim
    | er c env2 => rw [ec] at q1; exact q1.elim
    | st => rw [ec] at q1; exact q1.elim
theorem se_comp (hc : C.X.calm = true) (hN : C.X.N.Nodup) (hi : SI C true (.Name y py) it mi) (ok : BlkOk C.X.N C.X.env.scope scope [(y, s)])
    (hg : ∀ (sh : Shared) (H : Hp) (Ca : Addr) (cl : List (Str × Addr)) (fp : List Addr), PG (C.X.blk sh H scope (compEnvC scope cl Ca C.X.env) fp) (.Name y py) (gName s)) (ht : ∀ (s : Shared) (H : Hp) (Ca : Addr) (cl : List (Str × Addr)) (fp : List Addr), PTs (C.X.blk s H scope (compEnvC scope cl Ca C.X.env) fp) ifs (tTc C.P C.G cnd))
    (he : ∀ (s : Shared) (H : Hp) (Ca : Addr) (cl : List (Str × Addr)) (fp : List Addr), PE (C.X.blk s H scope (compEnvC scope cl Ca C.X.env) fp) elt (tDc C.P C.G me)) (hs : ∀ x, foldedSetIterable it C.X.env x = pure x) :
    SE C (.ListComp elt [⟨.Name y py, it, ifs, 0⟩] scope pos) (.comp s mi cnd me) := by
  obtain ⟨wi, pi, ei⟩ := hi
  exact ⟨_, pe_lc hc hN pi ok hg ht he hs, comp_ev ei⟩
end
end Dl

namespace Dl
open PySem L2
/-! ### what statements do -/
def SG (P : Pm) (W : WX) (S : Hp) (Dn : Ends) : SR → Prop
  | .nx env => ∀ σ' H' S', Same S S' → StOk P σ' env H' S' → Dn.nx σ' H'
  | .rt v env => ∀ x σ' H' S', Same S S' → StOk P σ' env H' S' → ValR P σ' env H' S' x v → Dn.rt x H'
  | .er c env => ∀ σ' H' S', Same S S' → StOk P σ' env H' S' → W (P.cv c) none σ' H'
  | .st => False
def SEv (P : Pm) (W : WX) (t : TS) (f : DEnv → SR) : Prop := ∀ (σ : LSt) (env : DEnv) (H S : Hp) (Dn : Ends), StOk P σ env H S → SG P W S Dn (f env) → t Dn σ H
def SS (C : Cn) (st : Stmt) (m : Dl.S) : Prop := ∃ t, PS C.X st t ∧ SEv C.P C.W t (exS C.G m)
def SSs (C : Cn) (sts : List Stmt) (ms : List Dl.S) : Prop := ∃ t, PSs C.X sts t ∧ SEv C.P C.W t (exB C.G ms)
section
variable {P : Pm} {W : WX} {σ : LSt} {env : DEnv} {H S H' S' : Hp} {Dn : Ends}
theorem SG.shift {r : SR} (h : SG P W S Dn r) (e : Same S S') : SG P W S' Dn r := by
  cases r with
  | nx env => exact fun σ1 H1 S1 e1 => h σ1 H1 S1 (e.trans e1)
  | rt v env => exact fun x σ1 H1 S1 e1 => h x σ1 H1 S1 (e.trans e1)
  | er c env => exact fun σ1 H1 S1 e1 => h σ1 H1 S1 (e.trans e1)
  | st => exact h
/-- an expression, then the rest -/
theorem SG.bind {α β : Type} {R : α → β → DEnv → Hp → Hp → Prop} {Q' : β → Hp → Prop} {fa : Res α} {k : α → DEnv → SR} (h : SG P W S Dn (fa.s k))
    (hk : ∀ u env x H' S', Ext H S H' S' → StOk P σ env H' S' → R u x env H' S' → SG P W S' Dn (k u env) → Q' x H') : RG P W σ R H S Q' fa := by
  cases fa with
  | ok u env => exact fun x H1 S1 e1 ok1 r1 => hk u env x H1 S1 e1 ok1 r1 (SG.shift h e1.s)
  | er c env => exact fun H1 S1 e1 ok1 => h σ H1 S1 e1.s ok1
  | st => exact h
theorem SG.nx {env : DEnv} (h : SG P W S Dn (.nx env)) (ok : StOk P σ env H S) : Dn.nx σ H := h σ H S (Same.refl _) ok
/-- a statement, then the rest -/
theorem SG.seq {r : SR} {k : DEnv → SR} {nx : LSt → Hp → Prop} (h : SG P W S Dn (r.bd k)) (hk : ∀ env σ' H' S', Same S S' → StOk P σ' env H' S' → SG P W S' Dn (k env) → nx σ' H') : SG P W S { Dn with nx := nx } r := by
  cases r with
  | nx env => exact fun σ1 H1 S1 e1 ok1 => hk env σ1 H1 S1 e1 ok1 (SG.shift h e1)
  | rt v env => exact h
  | er c env => exact h
  | st => exact h
end
section
variable {C : Cn} {a b c e : Expr} {ma mb mc m : E} {pos : Pos} {sts : List Stmt} {st : Stmt} {ms : List Dl.S} {mst : Dl.S}
theorem sss_nil : SSs C [] [] := ⟨_, pss_nil, fun σ env H S Dn ok q => by simp only [exB] at q; exact SG.nx q ok⟩
theorem sss_cons (h1 : SS C st mst) (h2 : SSs C sts ms) : SSs C (st :: sts) (mst :: ms) := by
  obtain ⟨t, pt, et⟩ := h1
  obtain ⟨u, pu, eu⟩ := h2
  refine ⟨_, pss_cons pt pu, fun σ env H S Dn ok q => ?_⟩
  simp only [exB] at q
  exact et σ env H S _ ok (SG.seq q fun env' σ' H' S' e' ok' q' => eu σ' env' H' S' Dn ok' q')
/-- a docstring says nothing -/
theorem sss_doc {x : Str} {j : Nat} {p1 p2 : Pos} (h2 : SSs C sts ms) : SSs C (.Expr (.Constant (.str x) j p1) p2 :: sts) ms := by
  obtain ⟨u, pu, eu⟩ := h2
  exact ⟨_, pss_cons ps_doc pu, fun σ env H S Dn ok q => eu σ env H S Dn ok q⟩
theorem ss_pass : SS C (.Pass pos) .pass := ⟨_, ps_pass, fun σ env H S Dn ok q => by simp only [exS] at q; exact SG.nx q ok⟩
theorem set_ev {i : Nat} {t : TE} (et : Ev C.P C.W t (RV C.P) (ev C.G m)) : SEv C.P C.W (tAsg t (gName i)) (exS C.G (.set i m)) := by
  intro σ env H S Dn ok q
  simp only [exS] at q
  exact et σ env H S _ ok (SG.bind q fun u env1 x H1 S1 e1 ok1 r1 q1 => SG.nx q1 (ok1.setV r1 i))
theorem ss_set {i : Nat} {x : Str} {p' : Pos} (hN : C.X.N.Nodup) (hi : C.X.N[i]? = some x) (hx : Loc C.X.env.scope x) (h : SE C e m) (hs : swapsWith e (some (.Name x p')) pos.line C.X.env = pure false) (hf : C.X.fn x = true ∨ C.X.env.scope.names.lookup x = some .local) :
    SS C (.Assign [.Name x p'] e pos) (.set i m) := by
  obtain ⟨t, pt, et⟩ := h
  exact ⟨_, ps_set hN hi hx pt hs hf, set_ev et⟩
theorem ss_setLc {elt it : Expr} {y yl : Str} {py pl p3 : Pos} {mi me : E} {cnd : Option E} {ifs : List Expr} {s i : Nat} {scope : Scope} (hc : C.X.calm = true) (hN : C.X.N.Nodup) (hy : C.X.N[i]? = some y) (hyl : C.X.env.scope.names.lookup y = some .local)
    (hsw : swapsWith (.ListComp elt [⟨.Name yl pl, it, ifs, 0⟩] scope p3) (some (.Name y py)) pos.line C.X.env = pure true) (hi : SI C true (.Name yl pl) it mi) (ok : BlkOk C.X.N C.X.env.scope scope [(yl, s)])
    (hg : ∀ (sh : Shared) (H : Hp) (Ca : Addr) (cl : List (Str × Addr)) (fp : List Addr), PG (C.X.blk sh H scope (compEnvC scope cl Ca C.X.env) fp) (.Name yl pl) (gName s)) (ht : ∀ (s : Shared) (H : Hp) (Ca : Addr) (cl : List (Str × Addr)) (fp : List Addr), PTs (C.X.blk s H scope (compEnvC scope cl Ca C.X.env) fp) ifs (tTc C.P C.G cnd))
    (he : ∀ (s : Shared) (H : Hp) (Ca : Addr) (cl : List (Str × Addr)) (fp : List Addr), PE (C.X.blk s H scope (compEnvC scope cl Ca C.X.env) fp) elt (tDc C.P C.G me)) (hs : ∀ x, foldedSetIterable it C.X.env x = pure x) :
    SS C (.Assign [.Name y py] (.ListComp elt [⟨.Name yl pl, it, ifs, 0⟩] scope p3) pos) (.set i (.comp s mi cnd me)) := by
  obtain ⟨wi, pi, ei⟩ := hi
  exact ⟨_, ps_setLc hc hN hy hyl hsw pi ok hg ht he hs, set_ev (comp_ev ei)⟩
/-! several names at once -/
def gNames : List Nat → TGs
  | [] => gNil
  | i :: is => gCons (gName i) (gNames is)
theorem names_ev {P : Pm} : ∀ (is : List Nat) (xs : List D) (vs : List V) (σ : LSt) (env env' : DEnv) (H S : Hp) (Q : LSt → Hp → Prop), setAll is xs env = some env' → P.Reps S vs xs → StOk P σ env H S → (∀ σ', StOk P σ' env' H S → Q σ' H) → gNames is vs σ H Q
  | [], [], vs, σ, env, env', H, S, Q, h, r, ok, q => by
    cases r
    cases h
    exact ⟨rfl, q σ ok⟩
  | [], _ :: _, _, _, _, _, _, _, _, h, _, _, _ => by cases h
  | _ :: _, [], _, _, _, _, _, _, _, h, _, _, _ => by cases h
  | i :: is, x :: xs, vs, σ, env, env', H, S, Q, h, r, ok, q => by
    cases r with
    | cons r1 r2 => exact ⟨_, _, rfl, names_ev is xs _ _ _ env' H S Q h r2 (ok.setV (u := .sh x) r1 i) q⟩
theorem unp_ev {P : Pm} {is : List Nat} {d : D} {v : V} {n : Nat} {σ : LSt} {env env' : DEnv} {H S : Hp} {Q : LSt → Hp → Prop} (h : unpD is d env = some env') (hn : is.length = n) (r : P.Rep S v d) (ok : StOk P σ env H S) (q : ∀ σ', StOk P σ' env' H S → Q σ' H) : gTup P.K n (gNames is) v σ H Q := by
  cases d with
  | tup xs =>
    cases r with
    | tup h1 r1 =>
      refine ⟨_, _, rfl, .of (ok.sub _ _ h1), ?_, names_ev is xs _ σ env env' H S Q h r1 ok q⟩
      rw [r1.length, ← hn]
      have key : ∀ (is : List Nat) (xs : List D) (env : DEnv), setAll is xs env = some env' → xs.length = is.length := by
        intro is
        induction is with
        | nil => intro xs env h; cases xs with
          | nil => rfl
          | cons _ _ => cases h
        | cons i is ih => intro xs env h; cases xs with
          | nil => cases h
          | cons x xs => simp only [List.length_cons]; rw [ih xs _ h]
      exact key is xs env h
  | _ => cases h
theorem ss_unp {es : List Expr} {k n : Nat} {is : List Nat} {p2 : Pos} (hc : C.X.calm = true) (hK : C.X.K = C.P.K) (hg : PGs C.X es (gNames is)) (hn : (assignEach es C.X.env).length = n) (hst : (assignEach es C.X.env).findIdx? (·.1) = none) (hin : is.length = n) (h : SD C e m)
    (hs : swapsWithSole [.Tuple es k p2] e pos.line C.X.env = pure false) (hw : swappedStores [.Tuple es k p2] e C.X.env = pure none) (h1 : (assignEach [.Tuple es k p2] C.X.env).map (·.2) = [assign (.Tuple es k p2) C.X.env]) :
    SS C (.Assign [.Tuple es k p2] e pos) (.unp is m) := by
  obtain ⟨t, pt, et⟩ := h
  refine ⟨_, ps_asg pt (pg_tup hc hg hn hst) hs hw h1, fun σ env H S Dn ok q => ?_⟩
  simp only [exS] at q
  refine et σ env H S _ ok (SG.bind q fun d env1 x H1 S1 e1 ok1 r1 q1 => ?_)
  cases eu : unpD is d env1 with
  | none => rw [eu] at q1; exact q1.elim
  | some env2 =>
    rw [eu] at q1
    rw [hK]
    exact unp_ev eu hin r1 ok1 fun σ' ok' => SG.nx q1 ok'
theorem ss_par {i j : Nat} {x y : Str} {px py pt : Pos} {kt k2 : Nat} {pt2 : Pos} (hc : C.X.calm = true) (hN : C.X.N.Nodup) (hi : C.X.N[i]? = some x) (hj : C.X.N[j]? = some y) (hij : i ≠ j)
    (hx : C.X.env.scope.names.lookup x = some .local) (hy : C.X.env.scope.names.lookup y = some .local) (ha : SD C a ma) (hb : SD C b mb) (h1 : starEach [a, b] C.X.env = (false, eval a C.X.env) :: starEach [b] C.X.env) (h2 : starEach [b] C.X.env = (false, eval b C.X.env) :: starEach [] C.X.env)
    (hw : swappedStores [.Tuple [.Name x px, .Name y py] kt pt] (.Tuple [a, b] k2 pt2) C.X.env = pure (some [x, y]))
    (hs : swapsWithSole [.Tuple [.Name x px, .Name y py] kt pt] (.Tuple [a, b] k2 pt2) pos.line C.X.env = pure false) :
    SS C (.Assign [.Tuple [.Name x px, .Name y py] kt pt] (.Tuple [a, b] k2 pt2) pos) (.par i j ma mb) := by
  obtain ⟨ta, pa, ea⟩ := ha
  obtain ⟨tb, pb, eb⟩ := hb
  refine ⟨_, ps_par hc hN hi hj hij hx hy (pa_cons pa (pa_cons pb pa_nil h2) h1) hw hs, fun σ env H S Dn ok q => ?_⟩
  simp only [exS] at q
  refine ea σ env H S _ ok (SG.bind q fun da env1 v H1 S1 e1 ok1 r1 q1 => ?_)
  refine eb σ env1 H1 S1 _ ok1 (SG.bind q1 fun db env2 w H2 S2 e2 ok2 r2 q2 => ?_)
  refine ⟨v, w, rfl, SG.nx q2 ?_⟩
  have z1 := ok2.setV (v := v) (u := .sh da) (Rep.mono e2.s _ _ r1) i
  exact z1.setV (v := w) (u := .sh db) r2 j
/-! one's own things, changed -/
theorem reps_put {K : PySem.W.Frag} {w : World} {S : Hp} {v : V} {d : D} (k : T) (r : Rep K w S v d) {ks : List (Key × V)} {kvs : List (T × D)} (h : RepK K w S ks kvs) : RepK K w S (putK ks (Sum.inr (sT k)) v) (put k d kvs) := by
  have key : ∀ (k' : T), ((Sum.inr (sT k') : Key) = Sum.inr (sT k)) ↔ (k' = k) := fun k' => ⟨fun e => sT_inj (Sum.inr.inj e), fun e => by rw [e]⟩
  have any : ∀ {ks : List (Key × V)} {kvs : List (T × D)}, RepK K w S ks kvs → (ks.any fun kv => decide (kv.1 = Sum.inr (sT k))) = kvs.any fun kv => decide (kv.1 = k) := by
    intro ks kvs h
    induction kvs generalizing ks with
    | nil => cases h; rfl
    | cons p r ih =>
      obtain ⟨k', d'⟩ := p
      cases h with
      | cons r1 r2 =>
        simp only [List.any_cons, ih r2]
        congr 1
        exact decide_eq_decide.mpr (key k')
  have mp : ∀ {ks : List (Key × V)} {kvs : List (T × D)}, RepK K w S ks kvs → RepK K w S (ks.map fun kv => if kv.1 = Sum.inr (sT k) then (kv.1, v) else kv) (kvs.map fun kv => if kv.1 = k then (kv.1, d) else kv) := by
    intro ks kvs h
    induction kvs generalizing ks with
    | nil => cases h; exact .nil
    | cons p t ih =>
      obtain ⟨k', d'⟩ := p
      cases h with
      | cons r1 r2 =>
        simp only [List.map_cons]
        by_cases e : k' = k
        · rw [if_pos e, if_pos ((key k').mpr e)]; exact .cons r (ih r2)
        · rw [if_neg e, if_neg (fun z => e ((key k').mp z))]; exact .cons r1 (ih r2)
  have app : ∀ {ks : List (Key × V)} {kvs : List (T × D)}, RepK K w S ks kvs → RepK K w S (ks ++ [(Sum.inr (sT k), v)]) (kvs ++ [(k, d)]) := by
    intro ks kvs h
    induction kvs generalizing ks with
    | nil => cases h; exact .cons r .nil
    | cons p t ih =>
      obtain ⟨k', d'⟩ := p
      cases h with
      | cons r1 r2 => exact .cons r1 (ih r2)
  unfold putK put
  rw [any h]
  split
  · exact mp h
  · exact app h
theorem reps_putT {K : PySem.W.Frag} {w : World} {S : Hp} {v : V} {d : D} (k : List Int) (r : Rep K w S v d) {ks : List (List Key × V)} {kvs : List (List Int × D)} (h : RepT K w S ks kvs) : RepT K w S (putK ks (k.map Sum.inl) v) (put k d kvs) := by
  have inj : ∀ (a b : List Int), (a.map (Sum.inl : Int → Key)) = b.map Sum.inl → a = b := by
    intro a
    induction a with
    | nil => intro b h; cases b with
      | nil => rfl
      | cons _ _ => cases h
    | cons x r ih => intro b h; cases b with
      | nil => cases h
      | cons y s =>
        simp only [List.map_cons, List.cons.injEq, Sum.inl.injEq] at h
        rw [h.1, ih s h.2]
  have key : ∀ (k' : List Int), ((k'.map Sum.inl : List Key) = k.map Sum.inl) ↔ (k' = k) := fun k' => ⟨fun e => inj _ _ e, fun e => by rw [e]⟩
  have any : ∀ {ks : List (List Key × V)} {kvs : List (List Int × D)}, RepT K w S ks kvs → (ks.any fun kv => decide (kv.1 = k.map Sum.inl)) = kvs.any fun kv => decide (kv.1 = k) := by
    intro ks kvs h
    induction kvs generalizing ks with
    | nil => cases h; rfl
    | cons p r ih =>
      obtain ⟨k', d'⟩ := p
      cases h with
      | cons r1 r2 =>
        simp only [List.any_cons, ih r2]
        congr 1
        exact decide_eq_decide.mpr (key k')
  have mp : ∀ {ks : List (List Key × V)} {kvs : List (List Int × D)}, RepT K w S ks kvs → RepT K w S (ks.map fun kv => if kv.1 = k.map Sum.inl then (kv.1, v) else kv) (kvs.map fun kv => if kv.1 = k then (kv.1, d) else kv) := by
    intro ks kvs h
    induction kvs generalizing ks with
    | nil => cases h; exact .nil
    | cons p t ih =>
      obtain ⟨k', d'⟩ := p
      cases h with
      | cons r1 r2 =>
        simp only [List.map_cons]
        by_cases e : k' = k
        · rw [if_pos e, if_pos ((key k').mpr e)]; exact .cons r (ih r2)
        · rw [if_neg e, if_neg (fun z => e ((key k').mp z))]; exact .cons r1 (ih r2)
  have app : ∀ {ks : List (List Key × V)} {kvs : List (List Int × D)}, RepT K w S ks kvs → RepT K w S (ks ++ [(k.map Sum.inl, v)]) (kvs ++ [(k, d)]) := by
    intro ks kvs h
    induction kvs generalizing ks with
    | nil => cases h; exact .cons r .nil
    | cons p t ih =>
      obtain ⟨k', d'⟩ := p
      cases h with
      | cons r1 r2 => exact .cons r1 (ih r2)
  unfold putK put
  rw [any h]
  split
  · exact mp h
  · exact app h
/-- a slot's own thing is changed in its place -/
theorem StOk.chg {P : Pm} {σ : LSt} {env : DEnv} {H S : Hp} (ok : StOk P σ env H S) {i : Nat} {u w : DV} {a : Addr} {o : HO} (e : env[i]? = some (some u)) (hu : u.own = true) (hw : w.own = true) (es : σ[i]? = some (some (.ref a))) (hn : OwnAt P (upd H a o) S a w) (hop : (∃ ds, w = .op ds) → ∃ ds, u = .op ds) :
    StOk P σ (env.set i (some w)) (upd H a o) S := by
  obtain ⟨v, e1, r⟩ := ok.sl i u e
  rw [es] at e1; cases e1
  obtain ⟨a', ea, h0, hS, q⟩ := r.own hu
  cases ea
  have h1 := ok.clr i (some (.ref a))
  have ns : NotSlot (σ.set i (some (.ref a))) (env.set i none) a := fun j w' f1 f2 f3 => by
    by_cases hj : i = j
    · subst hj
      by_cases hl : i < env.length
      · rw [List.getElem?_set_self hl] at f1; cases f1
      · rw [List.getElem?_eq_none (by simpa using hl)] at f1; cases f1
    · rw [List.getElem?_set_ne hj] at f1 f3
      exact hj (ok.ds i j u w' a e hu f1 f2 es f3)
  rw [set_get es] at h1 ns
  have h2 := h1.mut (o := o) h0 hS ns
  have hr : SlotR P (upd H a o) S (.ref a) w := by
    cases w with
    | sh d => cases hw
    | ex c => cases hw
    | op ds =>
      obtain ⟨ds', rfl⟩ := hop ⟨ds, rfl⟩
      obtain ⟨e, _⟩ := r
      cases e
      exact ⟨rfl, h0, hS, hn⟩
    | ol ds => exact ⟨a, rfl, h0, hS, hn⟩
    | od ds => exact ⟨a, rfl, h0, hS, hn⟩
    | ot ds => exact ⟨a, rfl, h0, hS, hn⟩
  refine ⟨h2.sub, h2.base, h2.s0, h2.fr, fun j w' f => ?_, fun j k u' v' b f1 o1 f2 o2 s1 s2 => ?_, by rw [List.length_set]; exact ok.ln⟩
  · by_cases hj : i = j
    · subst hj
      by_cases hl : i < env.length
      · rw [List.getElem?_set_self hl] at f; cases f
        exact ⟨_, es, hr⟩
      · rw [List.getElem?_eq_none (by simpa using hl)] at f; cases f
    · have f' : (env.set i none)[j]? = some (some w') := by rw [List.getElem?_set_ne hj] at f ⊢; exact f
      exact h2.sl j w' f'
  · have old : ∀ j (x : DV), (env.set i (some w))[j]? = some (some x) → x.own = true → ∃ y : DV, env[j]? = some (some y) ∧ y.own = true := fun j x f ho => by
      by_cases hj : i = j
      · subst hj; exact ⟨u, e, hu⟩
      · rw [List.getElem?_set_ne hj] at f; exact ⟨x, f, ho⟩
    obtain ⟨y1, g1, p1⟩ := old j u' f1 o1
    obtain ⟨y2, g2, p2⟩ := old k v' f2 o2
    exact ok.ds j k y1 y2 b g1 p1 g2 p2 s1 s2
end
end Dl

namespace Dl
open PySem L2
theorem ixN_eq {n : Nat} {i : Int} {j : Nat} (h : Dl.ixN n i = some j) : L2.ixN n i = some j := by
  unfold Dl.ixN at h
  unfold L2.ixN
  exact h
section
variable {C : Cn} {a b c e : Expr} {ma mb mc m : E} {pos : Pos} {sts : List Stmt} {st : Stmt} {ms : List Dl.S} {mst : Dl.S}
theorem isOw_inv {env : DEnv} {i : Nat} (h : isOw env i = true) : ∃ u, env[i]? = some (some u) ∧ u.own = true := by
  unfold isOw at h
  split at h
  · rename_i v e; exact ⟨v, e, h⟩
  · cases h
theorem isOl_inv {env : DEnv} {i : Nat} (h : isOl env i = true) : ∃ ds, env[i]? = some (some (.ol ds)) := by
  unfold isOl at h
  split at h
  · rename_i ds e; exact ⟨ds, e⟩
  · cases h
theorem upS_inv {i : Nat} {f : DV → Option DV} {env : DEnv} {P : Pm} {W : WX} {S : Hp} {Dn : Ends} (q : SG P W S Dn (upS i f env)) : ∃ u w, env[i]? = some (some u) ∧ f u = some w ∧ SG P W S Dn (.nx (env.set i (some w))) := by
  unfold upS at q
  split at q
  · rename_i u e
    cases ef : f u with
    | none => rw [ef] at q; exact q.elim
    | some w => rw [ef] at q; exact ⟨u, w, e, ef, q⟩
  · exact q.elim
theorem sti_ok {P : Pm} {W : WX} {Dn : Ends} {σ : LSt} {env : DEnv} {H S : Hp} {i : Nat} {x y : V} {dx dk : D} (ok : StOk P σ env H S) (rx : P.Rep S x dx) (rk : P.Rep S y dk) (q : SG P W S Dn (upS i (fun v => stiD v dk dx) env)) :
    ∃ v, σ[i]? = some (some v) ∧ (rSetL v y x H (fun H' => Dn.nx σ H') ∨ rSetD v y x H fun H' => Dn.nx σ H') := by
  obtain ⟨u, w, e, ef, q⟩ := upS_inv q
  obtain ⟨v, es, r⟩ := ok.sl i u e
  refine ⟨v, es, ?_⟩
  cases u with
  | ol ds =>
    cases dk with
    | int k =>
      simp only [stiD] at ef
      cases ej : Dl.ixN ds.length k with
      | none => rw [ej] at ef; cases ef
      | some j =>
        rw [ej] at ef
        cases ef
        obtain ⟨a, rfl, h0, hS, vs, ha, ra⟩ := r
        cases rk
        refine .inl ⟨a, vs, k, j, rfl, rfl, ha, by rw [ra.length]; exact ixN_eq ej, SG.nx q (ok.chg e rfl rfl es ⟨_, upd_same, Reps.set rx j ra⟩ (fun ⟨_, z⟩ => nomatch z))⟩
    | _ => cases ef
  | op ds =>
    cases dk with
    | int k =>
      simp only [stiD] at ef
      cases ej : Dl.ixN ds.length k with
      | none => rw [ej] at ef; cases ef
      | some j =>
        rw [ej] at ef
        cases ef
        obtain ⟨rfl, h0, hS, vs, ha, ra⟩ := r
        cases rk
        refine .inl ⟨P.aP, vs, k, j, rfl, rfl, ha, by rw [ra.length]; exact ixN_eq ej, SG.nx q (ok.chg e rfl rfl es ⟨_, upd_same, Reps.set rx j ra⟩ (fun _ => ⟨_, rfl⟩))⟩
    | _ => cases ef
  | od kvs =>
    cases dk with
    | str k =>
      simp only [stiD] at ef
      split at ef
      · rename_i hz
        cases ef
        obtain ⟨a, rfl, h0, hS, ks, ha, ra⟩ := r
        cases rk
        have hl : ks.length < sizeLine := by
          rw [← szL_eq]
          have : ∀ {ks : List (Key × V)} {kvs : List (T × D)}, RepK P.K P.w S ks kvs → ks.length = kvs.length := by
            intro ks kvs h
            induction kvs generalizing ks with
            | nil => cases h; rfl
            | cons p t ih => cases h with
              | cons r1 r2 => simp [ih r2]
          rw [this ra]; exact hz
        exact .inr ⟨a, _, rfl, .k (k := Sum.inr (sT k)) ha hl, SG.nx q (ok.chg e rfl rfl es ⟨_, upd_same, reps_put k rx ra⟩ (fun ⟨_, z⟩ => nomatch z))⟩
      · cases ef
    | _ => cases ef
  | ot kvs =>
    cases dk with
    | tup ks0 =>
      simp only [stiD] at ef
      split at ef
      · rename_i hz
        cases ei : intsD ks0 with
        | none => rw [ei] at ef; cases ef
        | some k =>
          rw [ei] at ef
          cases ef
          obtain ⟨a, rfl, h0, hS, ks, ha, ra⟩ := r
          cases rk with
          | tup hb rb =>
            have eb := reps_ints ei rb
            subst eb
            have hl : ks.length < sizeLine := by
              rw [← szL_eq]
              have : ∀ {ks : List (List Key × V)} {kvs : List (List Int × D)}, RepT P.K P.w S ks kvs → ks.length = kvs.length := by
                intro ks kvs h
                induction kvs generalizing ks with
                | nil => cases h; rfl
                | cons p t ih => cases h with
                  | cons r1 r2 => simp [ih r2]
              rw [this ra]; exact hz
            refine .inr ⟨a, _, rfl, .t (k := k.map Sum.inl) ha ?_ hl, SG.nx q (ok.chg e rfl rfl es ⟨_, upd_same, reps_putT k rx ra⟩ (fun ⟨_, z⟩ => nomatch z))⟩
            have z := ok.sub _ _ hb
            rw [z, List.map_map]
            rfl
      · cases ef
    | _ => cases ef
  | sh d => cases dk <;> cases ef
  | ex d => cases dk <;> cases ef
theorem ss_sti {i : Nat} {x : Str} {p1 p2 : Pos} (hu : C.X.A.units + 1 < cLine) (hN : C.X.N[i]? = some x) (hv : Vis C.X.env.scope x) (hd : (x == ("__debug__" : Str)) = false) (hcd : (x == ("__classdict__" : Str)) = false) (hk : SD C b mb) (h : SD C e m)
    (ha : ∀ v, assign (.Subscript (.Name x p1) b p2) C.X.env v = (do
      let ov ← holding [v] (eval (.Name x p1) C.X.env)
      let iv ← holding [v, ov] (eval b C.X.env)
      standAt p2
      holding [v, ov, iv] (setItem ov iv v)
      release [v, ov, iv] []))
    (hs : swapsWithSole [.Subscript (.Name x p1) b p2] e pos.line C.X.env = pure false) (hw : swappedStores [.Subscript (.Name x p1) b p2] e C.X.env = pure none) (h1 : (assignEach [.Subscript (.Name x p1) b p2] C.X.env).map (·.2) = [assign (.Subscript (.Name x p1) b p2) C.X.env]) :
    SS C (.Assign [.Subscript (.Name x p1) b p2] e pos) (.sti i mb m) := by
  obtain ⟨t, pt, et⟩ := h
  obtain ⟨tk, pk, ek⟩ := hk
  have hset : PSet C.X (fun o i v H Q => rSetL o i v H Q ∨ rSetD o i v H Q) := fun pins s σ H o i v ov iv u Q I ro ri rv q => by
    rcases q with q | q
    · exact set_list pins s σ H o i v ov iv u Q I ro ri rv q
    · exact set_dict hu pins s σ H o i v ov iv u Q I ro ri rv q
  refine ⟨_, ps_asg pt (pg_sub (pe_var hN hv hd hcd) pk hset ha) hs hw h1, fun σ env H S Dn ok q => ?_⟩
  simp only [exS] at q
  refine et σ env H S _ ok (SG.bind q fun dx env1 x1 H1 S1 e1 ok1 r1 q1 => ?_)
  split at q1
  · rename_i hw
    obtain ⟨u, eu, hu'⟩ := isOw_inv hw
    obtain ⟨v, es, _⟩ := ok1.sl i u eu
    refine ⟨v, es, ek σ env1 H1 S1 _ ok1 (SG.bind q1 fun dk env2 y H2 S2 e2 ok2 r2 q2 => ?_)⟩
    obtain ⟨v', es', z⟩ := sti_ok ok2 (Rep.mono e2.s _ _ r1) r2 q2
    rw [es] at es'; cases es'
    exact z
  · exact q1.elim
theorem upd_upd' {H : Hp} {a : Addr} {o o' : HO} : upd (upd H a o) a o' = upd H a o' := upd_upd
theorem ss_app {i : Nat} {x : Str} {p1 p2 p3 : Pos} (hK : C.X.K = C.P.K) (hN : C.X.N[i]? = some x) (hv : Vis C.X.env.scope x) (hd : (x == ("__debug__" : Str)) = false) (hcd : (x == ("__classdict__" : Str)) = false) (h : SD C e m)
    (hbase : attributeBase (.Name x p1) "append" C.X.env (eval (.Name x p1) C.X.env) = eval (.Name x p1) C.X.env)
    (hfew : ((backTo p3 (starEach [e] C.X.env)).all (fun x => !x.1) && (backToKw p3 (keywordEach [] C.X.env)).all (fun x => x.1.isSome)
      && decide ([e].length + ([] : List Keyword).length + (if ([] : List Keyword).isEmpty then 0 else 1) < 30)) = true)
    (hline : (p2.endLine == p3.line) = true) (hst : starEach [e] C.X.env = (false, eval e C.X.env) :: starEach [] C.X.env)
    (hs : swapsWith (.Call (.Attribute (.Name x p1) "append" p2) [e] [] p3) none pos.line C.X.env = pure false) :
    SS C (.Expr (.Call (.Attribute (.Name x p1) "append" p2) [e] [] p3) pos) (.app i m) := by
  obtain ⟨t, pt, et⟩ := h
  refine ⟨_, ps_expr (pe_bm PySem.F.plainAttrs_list PySem.F.slot_list_append PySem.F.type_list_append mt_append (pe_var hN hv hd hcd) (pa_cons pt pa_nil hst) hbase hfew hline hst rfl) hs, fun σ env H S Dn ok q => ?_⟩
  simp only [exS] at q
  split at q
  · rename_i hw
    obtain ⟨ds, eu⟩ := isOl_inv hw
    obtain ⟨v, es, r⟩ := ok.sl i _ eu
    obtain ⟨a, rfl, h0, hS, vs, ha, ra⟩ := r
    refine ⟨_, es, .inl ⟨rfl, vs, .of ha⟩, ?_⟩
    refine et σ env H S _ ok (SG.bind q fun dx env1 y H1 S1 e1 ok1 r1 q1 => ?_)
    obtain ⟨u, w, e2, ef, q2⟩ := upS_inv q1
    obtain ⟨v', es', r'⟩ := ok1.sl i _ e2
    rw [es] at es'; cases es'
    cases u with
    | ol ds1 =>
      simp only [appD] at ef
      split at ef
      · rename_i hz
        cases ef
        obtain ⟨a', e', h0', hS', vs1, ha1, ra1⟩ := r'
        cases e'
        refine ⟨a, vs1, y, rfl, rfl, ha1, by rw [ra1.length, ← szL_eq]; exact hz, ?_⟩
        exact SG.nx q2 (ok1.chg e2 rfl rfl es ⟨_, upd_same, ra1.app (.one r1)⟩ (fun ⟨_, z⟩ => nomatch z))
      · cases ef
    | _ => cases ef
  · exact q.elim
theorem ss_ex (h : SE C e m) (hs : swapsWith e none pos.line C.X.env = pure false) : SS C (.Expr e pos) (.ex m) := by
  obtain ⟨t, pt, et⟩ := h
  refine ⟨_, ps_expr pt hs, fun σ env H S Dn ok q => ?_⟩
  simp only [exS] at q
  exact et σ env H S _ ok (SG.bind q fun u env1 x H1 S1 e1 ok1 r1 q1 => SG.nx q1 ok1)
theorem ss_if {fs : List Stmt} {mf : List Dl.S} (hc : ST C c mc) (ha : SSs C sts ms) (hb : SSs C fs mf) : SS C (.If c sts fs pos) (.ife mc ms mf) := by
  obtain ⟨tc, pc, ec⟩ := hc
  obtain ⟨ta, pa, ea⟩ := ha
  obtain ⟨tb, pb, eb⟩ := hb
  refine ⟨_, ps_if pc pa pb, fun σ env H S Dn ok q => ?_⟩
  simp only [exS] at q
  refine ec σ env H S _ ok (SG.bind q fun b env1 b' H1 S1 e1 ok1 r1 q1 => ?_)
  cases r1
  cases b with
  | true => exact ea σ env1 H1 S1 Dn ok1 q1
  | false => exact eb σ env1 H1 S1 Dn ok1 q1
theorem ss_while (hp : PassesOwn (model C.X.prog C.X.w) C.X.A C.X.env C.X.xe) (hc : ST C c mc) (hb : SSs C sts ms) : SS C (.While c sts [] pos) (.whl mc ms) := by
  obtain ⟨tc, pc, ec⟩ := hc
  obtain ⟨tb, pb, eb⟩ := hb
  refine ⟨_, ps_while hp pc pb, fun σ env H S Dn ok q => ?_⟩
  simp only [exS] at q
  refine ⟨fun k σ' H' => ∃ env' S', Same S S' ∧ StOk C.P σ' env' H' S' ∧ SG C.P C.W S' Dn (whileL (tst C.G mc) (exB C.G ms) k env'), ⟨whF, env, S, Same.refl _, ok, q⟩, ?_⟩
  rintro k σ1 H1 ⟨env1, S1, e1, ok1, q1⟩
  cases k with
  | zero => exact q1.elim
  | succ k =>
    simp only [whileL] at q1
    refine ec σ1 env1 H1 S1 _ ok1 (SG.bind q1 fun b env2 b' H2 S2 e2 ok2 r2 q2 => ?_)
    cases r2
    cases b with
    | false => exact SG.nx q2 ok2
    | true =>
      refine ⟨fun σ' H' => ∃ env' S', Same S S' ∧ StOk C.P σ' env' H' S' ∧ SG C.P C.W S' Dn (whileL (tst C.G mc) (exB C.G ms) k env'), fun σ' H' h => ⟨k, Nat.lt_succ_self k, h⟩, ?_⟩
      have q2 : SG C.P C.W S2 Dn ((exB C.G ms env2).bd fun env => whileL (tst C.G mc) (exB C.G ms) k env) := q2
      have q3 := SG.seq (nx := fun σ' H' => ∃ env' S', Same S S' ∧ StOk C.P σ' env' H' S' ∧ SG C.P C.W S' Dn (whileL (tst C.G mc) (exB C.G ms) k env')) (q2) fun env' σ' H' S' e' ok' q' => ⟨env', S', e1.trans (e2.s.trans e'), ok', q'⟩
      exact eb σ1 env2 H2 S2 _ ok2 (by
        revert q3
        cases exB C.G ms env2 with
        | nx env => exact fun z => z
        | rt v env => exact fun z => z
        | er c env => exact fun z => z
        | st => exact fun z => z)
/-! for -/
theorem for_ev {tg it : Expr} {mi : E} {wi : TI} {g : TG} {tb : TS} {stp : D → DEnv → SR} {bd : DEnv → SR} (ei : Ev C.P C.W wi (RI C.P false) (itR false C.G mi)) (eb : SEv C.P C.W tb bd)
    (hg : ∀ (d : D) (x : V) (σ : LSt) (env : DEnv) (H S : Hp) (Dn : Ends) (nx : LSt → Hp → Prop), StOk C.P σ env H S → C.P.Rep S x d → SG C.P C.W S Dn (stp d env) → (∀ σ' env', StOk C.P σ' env' H S → SG C.P C.W S Dn (bd env') → nx σ' H) → g x σ H nx) :
    SEv C.P C.W (tFor wi g tb) fun env => (ev C.G mi env).val.s fun d env => match itemsD d with
      | some xs => forL stp xs env
      | none => .st := by
  intro σ env H S Dn ok q
  have q : SG C.P C.W S Dn ((itR false C.G mi env).s fun xs env => forL stp xs env) := by
    revert q
    show SG C.P C.W S Dn ((ev C.G mi env).val.s _) → SG C.P C.W S Dn (((ev C.G mi env).val.bd fun d env => Res.of (itemsD d) env).s _)
    cases (ev C.G mi env).val with
    | ok d env1 =>
      show SG C.P C.W S Dn (match itemsD d with | some xs => forL stp xs env1 | none => .st) → SG C.P C.W S Dn ((Res.of (itemsD d) env1).s _)
      cases itemsD d with
      | some xs => exact fun z => z
      | none => exact fun z => z
    | er c e => exact fun z => z
    | st => exact fun z => z
  refine ei σ env H S _ ok (SG.bind q fun ds env1 J H1 S1 e1 ok1 r1 q1 => ?_)
  obtain ⟨src, hs, hsS, its⟩ := r1
  have hsS := hsS rfl
  refine ⟨fun i m σ' H' => m = ds.length - i ∧ i ≤ ds.length ∧ ∃ env' S', Same S1 S' ∧ StOk C.P σ' env' H' S' ∧ SG C.P C.W S' Dn (forL stp (ds.drop i) env'), ⟨ds.length, by simp, Nat.zero_le _, env1, S1, Same.refl _, ok1, q1⟩, ?_⟩
  rintro i m σ2 H2 ⟨rfl, hi, env2, S2, e2, ok2, q2⟩
  have hs2 : Has src H2 := fun p hp => ok2.sub _ _ (e2 _ _ (hsS p hp))
  by_cases hlt : i < ds.length
  · refine .inr ⟨its.go i H2 hlt hs2, fun σ' H' => ∃ env' S', Same S1 S' ∧ StOk C.P σ' env' H' S' ∧ SG C.P C.W S' Dn (forL stp (ds.drop (i + 1)) env'), fun σ' H' h => ⟨ds.length - (i + 1), by omega, rfl, hlt, h⟩, fun x H3 hy => ?_⟩
    obtain ⟨d, hd⟩ := lt_of_get hlt
    have hdr : ds.drop i = d :: ds.drop (i + 1) := by
      rw [List.drop_eq_getElem_cons hlt]
      congr 1
      rw [List.getElem?_eq_getElem hlt] at hd
      exact Option.some.inj hd
    obtain ⟨S3, gr, rx⟩ := its.yld i d H2 S2 x H3 hd hs2 e2 ok2.sub hy
    rw [hdr] at q2
    simp only [forL] at q2
    have ok3 := ok2.grow gr
    have q3 := SG.seq (nx := fun σ' H' => ∃ env' S', Same S1 S' ∧ StOk C.P σ' env' H' S' ∧ SG C.P C.W S' Dn (forL stp (ds.drop (i + 1)) env')) (SG.shift q2 gr.ext.s) fun env' σ' H' S' e' ok' q' => ⟨env', S', e2.trans (gr.ext.s.trans e'), ok', q'⟩
    refine hg d x σ2 env2 H3 S3 _ _ ok3 rx q3 fun σ' env' ok' q' => ?_
    refine eb σ' env' H3 S3 _ ok' ?_
    revert q'
    cases bd env' with
    | nx env => exact fun z => z
    | rt v env => exact fun z => z
    | er c env => exact fun z => z
    | st => exact fun z => z
  · have e : i = ds.length := by omega
    subst e
    rw [List.drop_length] at q2
    simp only [forL] at q2
    exact .inl ⟨its.stop H2 hs2, SG.nx q2 ok2⟩
theorem ss_for1 {it : Expr} {mi : E} {i : Nat} {y : Str} {py : Pos} (hp : PassesOwn (model C.X.prog C.X.w) C.X.A C.X.env C.X.xe) (hc : C.X.calm = true) (hi : SI C false (.Name y py) it mi) (hg : PG C.X (.Name y py) (gName i)) (hb : SSs C sts ms) (hs : ∀ x, foldedSetIterable it C.X.env x = pure x) :
    SS C (.For (.Name y py) it sts [] pos) (.for1 i mi ms) := by
  obtain ⟨wi, pi, ei⟩ := hi
  obtain ⟨tb, pb, eb⟩ := hb
  refine ⟨_, ps_for hp hc pi hg pb hs, ?_⟩
  have e := for_ev (C := C) (tg := .Name y py) (it := it) (mi := mi) (g := gName i) (stp := fun x env => exB C.G ms (env.set i (some (.sh x)))) (bd := exB C.G ms) ei eb fun d x σ env H S Dn nx ok rx q h => h _ _ (ok.setV (u := .sh d) rx i) q
  intro σ env H S Dn ok q
  simp only [exS] at q
  exact e σ env H S Dn ok q
theorem ss_forN {it : Expr} {mi : E} {es : List Expr} {k n : Nat} {is : List Nat} {p2 : Pos} (hK : C.X.K = C.P.K) (hp : PassesOwn (model C.X.prog C.X.w) C.X.A C.X.env C.X.xe) (hc : C.X.calm = true) (hi : SI C false (.Tuple es k p2) it mi) (hg : PGs C.X es (gNames is)) (hn : (assignEach es C.X.env).length = n) (hst : (assignEach es C.X.env).findIdx? (·.1) = none) (hin : is.length = n)
    (hb : SSs C sts ms) (hs : ∀ x, foldedSetIterable it C.X.env x = pure x) : SS C (.For (.Tuple es k p2) it sts [] pos) (.forN is mi ms) := by
  obtain ⟨wi, pi, ei⟩ := hi
  obtain ⟨tb, pb, eb⟩ := hb
  refine ⟨_, ps_for hp hc pi (pg_tup hc hg hn hst) pb hs, ?_⟩
  have e := for_ev (C := C) (tg := .Tuple es k p2) (it := it) (mi := mi) (g := gTup C.X.K n (gNames is)) (stp := fun x env => match unpD is x env with
        | some env => exB C.G ms env
        | none => .st) (bd := exB C.G ms) ei eb fun d x σ env H S Dn nx ok rx q h => by
    cases eu : unpD is d env with
    | none => simp only [eu] at q; exact q.elim
    | some env2 =>
      simp only [eu] at q
      rw [hK]
      exact unp_ev eu hin rx ok fun σ' ok' => h σ' env2 ok' q
  intro σ env H S Dn ok q
  simp only [exS] at q
  exact e σ env H S Dn ok q
/-! the end of a def -/
theorem moved_inv {P : Pm} {W : WX} {S : Hp} {Dn : Ends} {G : Tab} {env : DEnv} {k : DV → DEnv → SR} (q : SG P W S Dn ((moved m (ev G m env) env).s k)) : (∃ i ds, m = .var i ∧ env[i]? = some (some (.ol ds)) ∧ SG P W S Dn (k (.ol ds) (env.set i none))) ∨ SG P W S Dn ((ev G m env).s k) := by
  unfold moved at q
  split at q
  · rename_i i hm
    split at q
    · rename_i ds e
      refine .inl ⟨i, ds, ?_, e, q⟩
      cases m <;> simp only [isVar, Option.some.injEq] at hm <;> first | (subst hm; rfl) | cases hm
    · exact .inr q
  · exact .inr q
theorem ss_ret (h : SE C e m) (hv : ∀ i, m = .var i → PE C.X e (tVar i)) : SS C (.Return (some e) pos) (.ret m) := by
  obtain ⟨t, pt, et⟩ := h
  refine ⟨fun Dn σ H => tRet t Dn σ H ∨ ∃ i, m = .var i ∧ tVar i σ H Dn.rt, ⟨fun pins s σ H Dn I hh => ?_⟩, fun σ env H S Dn ok q => ?_⟩
  · rcases hh with hh | ⟨i, hm, hh⟩
    · exact (ps_ret pt).run pins s σ H Dn I hh
    · exact (ps_ret (hv i hm)).run pins s σ H Dn I hh
  · simp only [exS] at q
    rcases moved_inv q with ⟨i, ds, hm, eu, q1⟩ | q1
    · obtain ⟨v, es, a, rfl, h0, hS, vs, ha, ra⟩ := ok.sl i _ eu
      refine .inr ⟨i, hm, _, es, q1 _ σ H S (Same.refl _) ?_ ⟨a, rfl, h0, hS, ⟨vs, ha, ra⟩, fun j w f1 f2 f3 => ?_⟩⟩
      · have z := ok.clr i (some (.ref a))
        rw [set_get es] at z
        exact z
      · by_cases hj : i = j
        · subst hj
          by_cases hl : i < env.length
          · rw [List.getElem?_set_self hl] at f1; cases f1
          · rw [List.getElem?_eq_none (by simpa using hl)] at f1; cases f1
        · rw [List.getElem?_set_ne hj] at f1
          exact hj (ok.ds i j _ w a eu rfl f1 f2 es f3)
    · refine .inl (et σ env H S _ ok (SG.bind q1 fun u env1 x H1 S1 e1 ok1 r1 q2 => ?_))
      exact q2 x σ H1 S1 (Same.refl _) ok1 r1
theorem ss_retN : SS C (.Return none pos) .retN := ⟨_, ps_retN, fun σ env H S Dn ok q => by
  simp only [exS] at q
  exact q .non σ H S (Same.refl _) ok .non⟩
theorem ss_rai {x : Nat} {cls : Value} (hc : C.X.calm = true) (tk : L2N.Takes C.X C.W) (he : L2N.PMk C.X e (fun _ H Q => Q cls none H)) (hcv : C.P.cv x = cls) : SS C (.Raise (some e) none pos) (.rai x) := by
  refine ⟨_, L2N.ps_raise hc tk he, fun σ env H S Dn ok q => ?_⟩
  simp only [exS] at q
  have z := q σ H S (Same.refl _) ok
  rw [hcv] at z
  exact z
end
end Dl

namespace Dl
open PySem L2
def Pm.xc (P : Pm) (a : Addr) (c : Nat) : Pm := { P with XC := fun a' c' => a' = a ∧ c' = c }
theorem noEx_get : ∀ {env : DEnv} {i c : Nat}, noEx env = true → env[i]? ≠ some (some (.ex c))
  | [], i, c, _ => by simp
  | none :: r, 0, c, _ => by simp
  | none :: r, i + 1, c, h => by
    have := noEx_get (env := r) (i := i) (c := c) (by simpa [noEx] using h)
    simpa using this
  | some u :: r, i, c, h => by
    have h2 : noEx r = true ∧ ∀ c, u ≠ .ex c := by
      cases u with
      | ex c => exact absurd (show false = true from h) Bool.false_ne_true
      | sh d => exact ⟨h, fun c z => nomatch z⟩
      | ol d => exact ⟨h, fun c z => nomatch z⟩
      | op d => exact ⟨h, fun c z => nomatch z⟩
      | od d => exact ⟨h, fun c z => nomatch z⟩
      | ot d => exact ⟨h, fun c z => nomatch z⟩
    cases i with
    | zero => intro z; simp at z; exact h2.2 c z
    | succ i =>
      have := noEx_get (env := r) (i := i) (c := c) h2.1
      simpa using this
section
variable {P : Pm} {σ : LSt} {env : DEnv} {H S : Hp} {a : Addr} {c : Nat}
theorem SlotR.xcd {XC XC' : Addr → Nat → Prop} {v : V} {u : DV} (h : SlotR { P with XC := XC } H S v u) (n : ∀ c, u ≠ .ex c) : SlotR { P with XC := XC' } H S v u := by
  cases u with
  | ex c => exact (n c rfl).elim
  | sh d => exact h
  | ol d => exact h
  | op d => exact h
  | od d => exact h
  | ot d => exact h
theorem StOk.xcd {XC XC' : Addr → Nat → Prop} (h : StOk { P with XC := XC } σ env H S) (n : noEx env = true) : StOk { P with XC := XC' } σ env H S :=
  ⟨h.sub, h.base, h.s0, h.fr, fun i u e => by
    obtain ⟨v, e1, r⟩ := h.sl i u e
    exact ⟨v, e1, r.xcd fun c z => noEx_get n (z ▸ e)⟩, h.ds, h.ln⟩
theorem StOk.toX (h : StOk P σ env H S) (n : noEx env = true) : StOk (P.xc a c) σ env H S := StOk.xcd (XC := P.XC) (XC' := fun a' c' => a' = a ∧ c' = c) h n
theorem StOk.ofX (h : StOk (P.xc a c) σ env H S) (n : noEx env = true) : StOk P σ env H S := StOk.xcd (P := P) (XC := fun a' c' => a' = a ∧ c' = c) (XC' := P.XC) h n
theorem ValR.clr {v : V} {u : DV} (h : ValR P σ env H S v u) (i : Nat) (x : Option V) : ValR P (σ.set i x) (env.set i none) H S v u := by
  have k : ∀ b, NotSlot σ env b → NotSlot (σ.set i x) (env.set i none) b := fun b n j w f1 f2 f3 => by
    by_cases hj : i = j
    · subst hj
      by_cases hl : i < env.length
      · rw [List.getElem?_set_self hl] at f1; cases f1
      · rw [List.getElem?_eq_none (by simpa using hl)] at f1; cases f1
    · rw [List.getElem?_set_ne hj] at f1 f3
      exact n j w f1 f2 f3
  cases u with
  | sh d => exact h
  | ex c => exact h
  | op d => exact h
  | ol d => obtain ⟨b, e, h0, hS, q, n⟩ := h; exact ⟨b, e, h0, hS, q, k b n⟩
  | od d => obtain ⟨b, e, h0, hS, q, n⟩ := h; exact ⟨b, e, h0, hS, q, k b n⟩
  | ot d => obtain ⟨b, e, h0, hS, q, n⟩ := h; exact ⟨b, e, h0, hS, q, k b n⟩
theorem ValR.ofX {v : V} {u : DV} (h : ValR (P.xc a c) σ env H S v u) : ValR P σ env H S v u := by
  cases u with
  | sh d => exact h
  | ex c => exact h
  | op d => exact h
  | ol d => exact h
  | od d => exact h
  | ot d => exact h
end
def tSsc (P : Pm) (G : Tab) (ms : List Dl.S) (W : WX) : TS := fun Dn σ H => ∃ env S, StOk P σ env H S ∧ SG P W S Dn (exB G ms env)
def tSuc (P : Pm) (G : Tab) (ms : List Dl.S) (a : Addr) (cls : Value) (d : Option Addr) : TS := fun Dn σ H => ∃ c env S, cls = P.cv c ∧ d = none ∧ StOk (P.xc a c) σ env H S ∧ SG (P.xc a c) W0 S Dn (exB G ms env)
section
variable {C : Cn} {body suite : List Stmt} {b₀ : Stmt} {x n : Str} {c : Value} {i cx : Nat} {np pos pos' : Pos} {ms hs : List Dl.S}
theorem ss_tryAs (hst : C.X.stack = C.X.env :: C.X.outer) (hf : C.X.env.frame = some C.X.env.locals) (hN : C.X.N.Nodup) (hi : C.X.N[i]? = some n) (hln : C.X.env.kindOf n = some .local) (hc : Names C.X x c) (tk : Takes C.X C.W) (hex : ∀ d, PySem.W.exmOne C.X.K (C.P.cv d) c = some (subC d cx))
    (hb : ∀ (W : WX) (pn : List (Addr × Obj)) (xe : Value → Shared → Prop), Takes (C.X.tr pn xe) W → PassesOwn (model C.X.prog C.X.w) C.X.A C.X.env xe → SSs ⟨C.X.tr pn xe, W, C.P, C.G⟩ body ms)
    (hsu : ∀ (a : Addr) (oe : Obj) (d : Nat) (pn : List (Addr × Obj)), Zc (C.P.cv d) none oe → (∃ vs, oe.data = .fields vs) → SSs ⟨C.X.suite a ((a, oe) :: pn), W0, C.P.xc a d, C.G⟩ (b₀ :: suite) hs) :
    SS C (.Try body [.ExceptHandler (some (.Name x np)) (some n) (b₀ :: suite) pos'] [] [] pos) (.try_ ms cx (some i) hs) := by
  refine ⟨_, ps_try_as (tb := tSsc C.P C.G ms) (ts := tSuc C.P C.G hs) hst hf hN hi hln hc tk (fun W pn xe tk' hp => ⟨fun pins s σ H Dn I ⟨env, S, ok, q⟩ => ?_⟩) (fun a oe cls d pn hz hd => ⟨fun pins s σ H Dn I ⟨c0, env, S, ec, ed, ok, q⟩ => ?_⟩), fun σ env H S Dn ok q => ?_⟩
  · obtain ⟨t, pt, et⟩ := hb W pn xe tk' hp
    exact pt.run pins s σ H Dn I (et σ env H S Dn ok q)
  · subst ec ed
    obtain ⟨t, pt, et⟩ := hsu a oe c0 pn hz hd
    exact pt.run pins s σ H Dn I (et σ env H S Dn ok q)
  · simp only [exS] at q
    refine ⟨env, S, ok, ?_⟩
    cases eb : exB C.G ms env with
    | nx env1 => rw [eb] at q; exact q
    | rt v env1 => rw [eb] at q; exact q
    | st => rw [eb] at q; exact q
    | er d env1 =>
      rw [eb] at q
      intro σ' H' S' e1 ok1
      refine ⟨_, hex d, fun hsub => ?_, fun hsub => ?_⟩
      · simp only [catchS, hsub, if_true] at q
        split at q
        · rename_i hno
          intro a na
          refine ⟨d, env1.set i (some (.ex d)), S', rfl, rfl, (ok1.toX hno).setN (u := .ex d) ⟨a, rfl, rfl, rfl⟩ rfl i, ?_⟩
          cases eh : exB C.G hs (env1.set i (some (.ex d))) with
          | nx e =>
            rw [eh] at q
            simp only at q
            split at q
            · rename_i hno2
              exact fun σ2 H2 S2 e2 ok2 => q _ H2 S2 (e1.trans e2) ((ok2.clr i none).ofX hno2)
            · exact q.elim
          | rt v e =>
            rw [eh] at q
            simp only at q
            split at q
            · rename_i hno2
              exact fun x2 σ2 H2 S2 e2 ok2 r2 => q x2 _ H2 S2 (e1.trans e2) ((ok2.clr i none).ofX hno2) (r2.clr i none).ofX
            · exact q.elim
          | er d2 e => rw [eh] at q; exact q.elim
          | st => rw [eh] at q; exact q.elim
        · exact q.elim
      · simp only [catchS, hsub, Bool.false_eq_true, if_false] at q
        exact q σ' H' S' e1 ok1
theorem ss_tryOnly (hst : C.X.stack = C.X.env :: C.X.outer) (hf : C.X.env.frame = some C.X.env.locals) (hc : Names C.X x c) (tk : Takes C.X C.W) (hex : ∀ d, PySem.W.exmOne C.X.K (C.P.cv d) c = some (subC d cx))
    (hb : ∀ (W : WX) (pn : List (Addr × Obj)) (xe : Value → Shared → Prop), Takes (C.X.tr pn xe) W → PassesOwn (model C.X.prog C.X.w) C.X.A C.X.env xe → SSs ⟨C.X.tr pn xe, W, C.P, C.G⟩ body ms)
    (hsu : ∀ (a : Addr) (oe : Obj) (d : Nat) (pn : List (Addr × Obj)), Zc (C.P.cv d) none oe → (∃ vs, oe.data = .fields vs) → SSs ⟨C.X.suite a ((a, oe) :: pn), W0, C.P.xc a d, C.G⟩ (b₀ :: suite) hs) :
    SS C (.Try body [.ExceptHandler (some (.Name x np)) none (b₀ :: suite) pos'] [] [] pos) (.try_ ms cx none hs) := by
  refine ⟨_, ps_try_only (tb := tSsc C.P C.G ms) (ts := tSuc C.P C.G hs) hst hf hc tk (fun W pn xe tk' hp => ⟨fun pins s σ H Dn I ⟨env, S, ok, q⟩ => ?_⟩) (fun a oe cls d pn hz hd => ⟨fun pins s σ H Dn I ⟨c0, env, S, ec, ed, ok, q⟩ => ?_⟩), fun σ env H S Dn ok q => ?_⟩
  · obtain ⟨t, pt, et⟩ := hb W pn xe tk' hp
    exact pt.run pins s σ H Dn I (et σ env H S Dn ok q)
  · subst ec ed
    obtain ⟨t, pt, et⟩ := hsu a oe c0 pn hz hd
    exact pt.run pins s σ H Dn I (et σ env H S Dn ok q)
  · simp only [exS] at q
    refine ⟨env, S, ok, ?_⟩
    cases eb : exB C.G ms env with
    | nx env1 => rw [eb] at q; exact q
    | rt v env1 => rw [eb] at q; exact q
    | st => rw [eb] at q; exact q
    | er d env1 =>
      rw [eb] at q
      intro σ' H' S' e1 ok1
      refine ⟨_, hex d, fun hsub => ?_, fun hsub => ?_⟩
      · simp only [catchS, hsub, if_true] at q
        split at q
        · rename_i hno
          intro a na
          refine ⟨d, env1, S', rfl, rfl, ok1.toX hno, ?_⟩
          cases eh : exB C.G hs env1 with
          | nx e =>
            rw [eh] at q
            simp only at q
            split at q
            · rename_i hno2
              exact fun σ2 H2 S2 e2 ok2 => q _ H2 S2 (e1.trans e2) (ok2.ofX hno2)
            · exact q.elim
          | rt v e =>
            rw [eh] at q
            simp only at q
            split at q
            · rename_i hno2
              exact fun x2 σ2 H2 S2 e2 ok2 r2 => q x2 _ H2 S2 (e1.trans e2) (ok2.ofX hno2) r2.ofX
            · exact q.elim
          | er d2 e => rw [eh] at q; exact q.elim
          | st => rw [eh] at q; exact q.elim
        · exact q.elim
      · simp only [catchS, hsub, Bool.false_eq_true, if_false] at q
        exact q σ' H' S' e1 ok1
/-- an except suite that raises anew -/
theorem ss_tryR {e : Expr} {pR : Pos} {cy : Nat} (hst : C.X.stack = C.X.env :: C.X.outer) (hf : C.X.env.frame = some C.X.env.locals) (hc : Names C.X x c) (tk : L2.Takes C.X C.W) (hpa : ∀ hd : Option Value, PassesOwnAt (model C.X.prog C.X.w) (C.X.A.mark hd) C.X.A C.X.env C.X.xe) (hex : ∀ d, PySem.W.exmOne C.X.K (C.P.cv d) c = some (subC d cx))
    (hb : ∀ (W : WX) (pn : List (Addr × Obj)) (xe : Value → Shared → Prop), L2N.Takes (C.X.tr pn xe) W → PassesOwn (model C.X.prog C.X.w) C.X.A C.X.env xe → SSs ⟨C.X.tr pn xe, W, C.P, C.G⟩ body ms)
    (he : ∀ (a : Addr) (pn : List (Addr × Obj)), L2N.PMk (L2H.suiteX C.X a pn) e (fun _ H Q => Q (C.P.cv cy) none H)) :
    SS C (.Try body [.ExceptHandler (some (.Name x np)) none [.Raise (some e) none pR] pos'] [] [] pos) (.tryR ms cx cy) := by
  refine ⟨_, L2H.ps_try_onlyX (tb := tSsc C.P C.G ms) (ts := fun a cls d => fun Dn σ H => C.W (C.P.cv cy) none σ H) hst hf hc hpa tk (fun W pn xe tk' _ hp => ⟨fun pins s σ H Dn I ⟨env, S, ok, q⟩ => ?_⟩) (fun a oe cls d pn hz hd tkS hot => ?_), fun σ env H S Dn ok q => ?_⟩
  · obtain ⟨t, pt, et⟩ := hb W pn xe tk' hp
    exact pt.run pins s σ H Dn I (et σ env H S Dn ok q)
  · have p1 := L2H.ps_raiseH (pos := pR) hot tkS (he a ((a, oe) :: pn))
    have p2 := pss_cons p1 pss_nil
    exact ⟨fun pins s σ H Dn I h => p2.run pins s σ H Dn I h⟩
  · simp only [exS] at q
    refine ⟨env, S, ok, ?_⟩
    cases eb : exB C.G ms env with
    | nx env1 => rw [eb] at q; exact q
    | rt v env1 => rw [eb] at q; exact q
    | st => rw [eb] at q; exact q
    | er d env1 =>
      rw [eb] at q
      intro σ' H' S' e1 ok1
      refine ⟨_, hex d, fun hsub => ?_, fun hsub => ?_⟩
      · simp only [catchR, hsub, if_true] at q
        exact fun a na => q σ' H' S' e1 ok1
      · simp only [catchR, hsub, Bool.false_eq_true, if_false] at q
        exact q σ' H' S' e1 ok1
/-- isinstance of what a suite holds -/
def rIsx (P : Pm) : List V → Hp → VK → Prop := fun xs H Q => ∃ (a : Addr) (d : Nat) (c : V) (cv : Value) (b : Bool), xs = [.ref a, c] ∧ P.XC a d ∧ (∀ u, RelV c u → u = cv) ∧ PySem.W.kitOne P.K (P.cv d) cv = some b ∧ Q (.bl b) H
theorem isx_suite {a D : Addr} {oe : Obj} {pn : List (Addr × Obj)} {d : Nat} {P : Pm} {X : Cx} (hK : X.K = P.K) (E : ExcC X.K D) (hd : P.cv d = .ref D) (hz : Zc (P.cv d) none oe) (hf : ∃ vs, oe.data = .fields vs) : CallR (X.suite a ((a, oe) :: pn)) (.builtin "isinstance") (rIsx (P.xc a d)) := by
  intro pins s σ H xs us Q I r ⟨a', d', c, cv, b, e1, hx, e2, e3, q⟩
  obtain ⟨rfl, rfl⟩ := hx
  rw [hd] at hz
  refine call_isE (X := X) E hz hf pins s σ H xs us Q I r ⟨c, cv, b, e1, e2, ?_, q⟩
  have e3 : PySem.W.kitOne P.K (P.cv d') cv = some b := e3
  rw [hd] at e3
  show PySem.W.kitOne X.K _ _ = _
  rw [hK]
  exact e3
theorem se_isx {e T : Str} {p1 p2 p3 : Pos} {v : V} {cvv : Value} (hcall : CallR C.X (.builtin "isinstance") (rIsx C.P)) (hg : Gl C.X "isinstance") (hm : C.X.mg "isinstance" = none) (hN : C.X.N[i]? = some e) (hv : Vis C.X.env.scope e) (hd : (e == ("__debug__" : Str)) = false) (hcd : (e == ("__classdict__" : Str)) = false)
    (hT : PE C.X (.Name T p2) (tC v)) (hu : ∀ u, RelV v u → u = cvv) (hk : ∀ d, PySem.W.kitOne C.P.K (C.P.cv d) cvv = some (subC d cx))
    (h1 : starEach [.Name e p1, .Name T p2] C.X.env = (false, eval (.Name e p1) C.X.env) :: starEach [.Name T p2] C.X.env) (h2 : starEach [.Name T p2] C.X.env = (false, eval (.Name T p2) C.X.env) :: starEach [] C.X.env) :
    SE C (.Call (.Name "isinstance" p3) [.Name e p1, .Name T p2] [] pos) (.isx i cx) := by
  refine ⟨_, pe_callB hcall hg hm PyProof.Rows.boot_isinstance (pa_cons (pe_var hN hv hd hcd) (pa_cons hT pa_nil h2) h1) (by decide) (by decide) h1 rfl, fun σ env H S Q ok q => ?_⟩
  simp only [ev] at q
  cases eu : env[i]? with
  | none => rw [eu] at q; exact q.elim
  | some o =>
    cases o with
    | none => rw [eu] at q; exact q.elim
    | some u =>
      rw [eu] at q
      cases u with
      | ex d =>
        obtain ⟨w, es, a, rfl, hx⟩ := ok.sl i _ eu
        exact ⟨_, es, a, d, v, cvv, _, rfl, hx, hu, hk d, RG.now q ok (.bl _)⟩
      | sh d => exact q.elim
      | ol d => exact q.elim
      | op d => exact q.elim
      | od d => exact q.elim
      | ot d => exact q.elim
end
end Dl

namespace Dl
open PySem L2
/-! ### calls that change a list that is handed in -/
def del (H : Hp) (a : Addr) : Hp := fun b => if b = a then none else H b
theorem del_same {H : Hp} {a : Addr} : del H a a = none := if_pos rfl
theorem del_ne {H : Hp} {a b : Addr} (h : b ≠ a) : del H a b = H b := if_neg h
theorem del_le {H : Hp} {a b : Addr} {o : HO} (h : del H a b = some o) : b ≠ a ∧ H b = some o := by
  by_cases hb : b = a
  · subst hb; rw [del_same] at h; cases h
  · rw [del_ne hb] at h; exact ⟨hb, h⟩
/-- what stands behind such a call -/
structure GrowI (H S H' S' : Hp) (a : Addr) : Prop where
  h : Same (del H a) H'
  s : Same S S'
  sub : Same S' H'
  nw : ∀ b o, S' b = some o → S b = none → H b = none
def spRI (K : PySem.W.Frag) (w : World) (H S : Hp) (a : Addr) (Q : VK) : FI → Prop
  | .ok v qs => ∀ x H' S' qv, GrowI H S H' S' a → H' a = some (.lst qv) → Reps K w S' qv qs → RetR K w H S' H' x v → Q x H'
  | .st => False
def spI (K : PySem.W.Frag) (w : World) (n i : Nat) (F : List D → List D → List D → FI) : Sp := fun vs H Q _ => vs.length = n ∧ ∃ S a pv vx vy xs ps ys, Same S H ∧ S a = none ∧ H a = some (.lst pv) ∧ Reps K w S pv ps ∧ vs = vx ++ V.ref a :: vy ∧ vx.length = i ∧ Reps K w S vx xs ∧ Reps K w S vy ys ∧ spRI K w H S a Q (F xs ps ys)
def FunAtI (C : Cn) (x : Str) (n i : Nat) (F : List D → List D → List D → FI) : Prop := ∃ (k : Nat) (fa : Addr) (fd : FuncData) (ps : List Str), FnOk C.X.prog C.X.w C.X.K C.X.mg C.X.base (cxF (hotB x) C.X.prog C.X.w) k fa fd ps (spI C.P.K C.P.w n i F) ∧ Room k C.X.A ∧
  C.X.mg x = some (.ref fa) ∧ PySem.W.keepIn C.X.K (.ref fa) = true ∧ Binds C.X.K fd ps []
section
variable {P : Pm} {W : WX} {σ : LSt} {env : DEnv} {H S H' S' : Hp}
/-- the caller's own list is handed on -/
theorem StOk.callI {i : Nat} {ps qs : List D} {qv : List V} (ok : StOk P σ env H S) (e : env[i]? = some (some (.op ps))) (g : GrowI H S H' S' P.aP) (hq : H' P.aP = some (.lst qv)) (rq : P.Reps S' qv qs) : StOk P σ (env.set i (some (.op qs))) H' S' := by
  obtain ⟨v, es, rfl, h0, hS, pv, ha, _⟩ := ok.sl i _ e
  have hi : i < env.length := by
    by_cases hl : i < env.length
    · exact hl
    · rw [List.getElem?_eq_none (by simpa using hl)] at e; cases e
  have keepN : ∀ b, S b = none → (∃ o, H b = some o) → S' b = none := fun b n ⟨o, ho⟩ => by
    cases z : S' b with
    | none => rfl
    | some o' => rw [g.nw b o' z n] at ho; cases ho
  refine ⟨g.sub, fun b x q => ?_, ok.s0.trans g.s, fun b o q e0 => ?_, fun j u q => ?_, fun j k u v a e1 o1 e2 o2 s1 s2 => ?_, by rw [List.length_set]; exact ok.ln⟩
  · have hb : b ≠ P.aP := fun z => by rw [z, h0] at q; cases q
    exact g.h _ _ (by rw [del_ne hb]; exact ok.base _ _ q)
  · cases z : S b with
    | none => exact ok.base.free (g.nw b o q z)
    | some u => exact ok.fr b u z e0
  · by_cases hj : i = j
    · subst hj
      rw [List.getElem?_set_self hi] at q
      cases q
      exact ⟨_, es, rfl, h0, keepN _ hS ⟨_, ha⟩, qv, hq, rq⟩
    · rw [List.getElem?_set_ne hj] at q
      obtain ⟨v, e1, r⟩ := ok.sl j u q
      refine ⟨v, e1, ?_⟩
      have key : u.own = true → ∀ b, v = .ref b → b ≠ P.aP := fun ho b hb z => by
        subst hb
        subst z
        exact hj (ok.ds i j _ u _ e rfl q ho es e1)
      have keep : ∀ b w, b ≠ P.aP → S b = none → OwnAt P H S b w → S' b = none ∧ OwnAt P H' S' b w := fun b w hb n z => ⟨keepN b n z.ex, z.mono g.s fun o ho => g.h _ _ (by rw [del_ne hb]; exact ho)⟩
      cases u with
      | sh d => exact Rep.mono g.s _ _ r
      | ex c => exact r
      | op ds => exact absurd r.1 (fun z => key rfl _ z rfl)
      | ol ds => obtain ⟨b, f1, f2, f3, z⟩ := r; obtain ⟨k1, k2⟩ := keep b _ (key rfl _ f1) f3 z; exact ⟨b, f1, f2, k1, k2⟩
      | od ds => obtain ⟨b, f1, f2, f3, z⟩ := r; obtain ⟨k1, k2⟩ := keep b _ (key rfl _ f1) f3 z; exact ⟨b, f1, f2, k1, k2⟩
      | ot ds => obtain ⟨b, f1, f2, f3, z⟩ := r; obtain ⟨k1, k2⟩ := keep b _ (key rfl _ f1) f3 z; exact ⟨b, f1, f2, k1, k2⟩
  · have back : ∀ (j : Nat) (u : DV), (env.set i (some (.op qs)))[j]? = some (some u) → u.own = true → ∃ u' : DV, env[j]? = some (some u') ∧ u'.own = true := fun j u q ho => by
      by_cases hj : i = j
      · subst hj; exact ⟨_, e, rfl⟩
      · rw [List.getElem?_set_ne hj] at q; exact ⟨u, q, ho⟩
    obtain ⟨u', f1, p1⟩ := back j u e1 o1
    obtain ⟨v', f2, p2⟩ := back k v e2 o2
    exact ok.ds j k u' v' a f1 p1 f2 p2 s1 s2
/-- .. a list that stands for the call alone -/
theorem StOk.callT {a : Addr} {pv : List V} (ok : StOk P σ env H S) (h0 : P.H0 a = none) (hS : S a = none) (ha : H a = some (.lst pv)) (ns : NotSlot σ env a) (g : GrowI H S H' S' a) : StOk P σ env H' S' := by
  have keepN : ∀ b, S b = none → (∃ o, H b = some o) → S' b = none := fun b n ⟨o, ho⟩ => by
    cases z : S' b with
    | none => rfl
    | some o' => rw [g.nw b o' z n] at ho; cases ho
  refine ⟨g.sub, fun b x q => ?_, ok.s0.trans g.s, fun b o q e0 => ?_, fun j u q => ?_, ok.ds, ok.ln⟩
  · have hb : b ≠ a := fun z => by rw [z, h0] at q; cases q
    exact g.h _ _ (by rw [del_ne hb]; exact ok.base _ _ q)
  · cases z : S b with
    | none => exact ok.base.free (g.nw b o q z)
    | some u => exact ok.fr b u z e0
  · obtain ⟨v, e1, r⟩ := ok.sl j u q
    refine ⟨v, e1, ?_⟩
    have key : u.own = true → ∀ b, v = .ref b → b ≠ a := fun ho b hb z => by
      subst hb
      subst z
      exact ns j u q ho e1
    have keep : ∀ b w, b ≠ a → S b = none → OwnAt P H S b w → S' b = none ∧ OwnAt P H' S' b w := fun b w hb n z => ⟨keepN b n z.ex, z.mono g.s fun o ho => g.h _ _ (by rw [del_ne hb]; exact ho)⟩
    cases u with
    | sh d => exact Rep.mono g.s _ _ r
    | ex c => exact r
    | op ds => obtain ⟨f1, f2, f3, z⟩ := r; obtain ⟨k1, k2⟩ := keep _ _ (key rfl _ f1) f3 z; exact ⟨f1, f2, k1, k2⟩
    | ol ds => obtain ⟨b, f1, f2, f3, z⟩ := r; obtain ⟨k1, k2⟩ := keep b _ (key rfl _ f1) f3 z; exact ⟨b, f1, f2, k1, k2⟩
    | od ds => obtain ⟨b, f1, f2, f3, z⟩ := r; obtain ⟨k1, k2⟩ := keep b _ (key rfl _ f1) f3 z; exact ⟨b, f1, f2, k1, k2⟩
    | ot ds => obtain ⟨b, f1, f2, f3, z⟩ := r; obtain ⟨k1, k2⟩ := keep b _ (key rfl _ f1) f3 z; exact ⟨b, f1, f2, k1, k2⟩
/-- a new thing at p is kept apart while something is read -/
def Pm.prot (P : Pm) (p : Addr) (o : HO) (S : Hp) : Pm := ⟨P.K, P.w, upd P.H0 p o, S, P.aP, P.XC, P.cv⟩
theorem StOk.prot {p : Addr} {o : HO} (ok : StOk P σ env H S) (ha : H p = some o) (hS : S p = none) (ns : NotSlot σ env p) : StOk (P.prot p o S) σ env H S := by
  refine ⟨ok.sub, fun b x q => ?_, Same.refl _, fun b x q e0 => (by rw [show (P.prot p o S).S0 = S from rfl, q] at e0; cases e0), fun j u q => ?_, ok.ds, ok.ln⟩
  · have q : upd P.H0 p o b = some x := q
    by_cases hb : b = p
    · subst hb; rw [upd_same] at q; cases q; exact ha
    · rw [upd_ne hb] at q; exact ok.base _ _ q
  · obtain ⟨v, e1, r⟩ := ok.sl j u q
    refine ⟨v, e1, ?_⟩
    have key : u.own = true → ∀ b, v = .ref b → b ≠ p := fun ho b hb z => by
      subst hb
      subst z
      exact ns j u q ho e1
    have keep : ∀ b, b ≠ p → P.H0 b = none → (P.prot p o S).H0 b = none := fun b hb n => by
      show upd P.H0 p o b = none
      rw [upd_ne hb]; exact n
    cases u with
    | sh d => exact r
    | ex c => exact r
    | op ds => obtain ⟨f1, f2, f3, z⟩ := r; exact ⟨f1, keep _ (key rfl _ f1) f2, f3, z⟩
    | ol ds => obtain ⟨b, f1, f2, f3, z⟩ := r; exact ⟨b, f1, keep _ (key rfl _ f1) f2, f3, z⟩
    | od ds => obtain ⟨b, f1, f2, f3, z⟩ := r; exact ⟨b, f1, keep _ (key rfl _ f1) f2, f3, z⟩
    | ot ds => obtain ⟨b, f1, f2, f3, z⟩ := r; exact ⟨b, f1, keep _ (key rfl _ f1) f2, f3, z⟩
theorem StOk.unprot {p : Addr} {o : HO} {env' : DEnv} (ok : StOk P σ env H S) (h0 : P.H0 p = none) (hS : S p = none) (ok' : StOk (P.prot p o S) σ env' H' S') : StOk P σ env' H' S' ∧ S' p = none ∧ H' p = some o ∧ NotSlot σ env' p := by
  have up : ∀ b, (P.prot p o S).H0 b = none → b ≠ p ∧ P.H0 b = none := fun b q => by
    have q : upd P.H0 p o b = none := q
    by_cases hb : b = p
    · subst hb; rw [upd_same] at q; cases q
    · rw [upd_ne hb] at q; exact ⟨hb, q⟩
  refine ⟨⟨ok'.sub, fun b x q => ?_, ok.s0.trans ok'.s0, fun b x q e0 => ?_, fun j u q => ?_, ok'.ds, ok'.ln⟩, ?_, ok'.base _ _ (show upd P.H0 p o p = some o from upd_same), fun j u q ho e => ?_⟩
  · have hb : b ≠ p := fun z => by rw [z, h0] at q; cases q
    exact ok'.base _ _ (show upd P.H0 p o b = some x by rw [upd_ne hb]; exact q)
  · cases z : S b with
    | none => exact (up b (ok'.fr b x q z)).2
    | some u => exact ok.fr b u z e0
  · obtain ⟨v, e1, r⟩ := ok'.sl j u q
    refine ⟨v, e1, ?_⟩
    cases u with
    | sh d => exact r
    | ex c => exact r
    | op ds => obtain ⟨f1, f2, f3, z⟩ := r; exact ⟨f1, (up _ f2).2, f3, z⟩
    | ol ds => obtain ⟨b, f1, f2, f3, z⟩ := r; exact ⟨b, f1, (up _ f2).2, f3, z⟩
    | od ds => obtain ⟨b, f1, f2, f3, z⟩ := r; exact ⟨b, f1, (up _ f2).2, f3, z⟩
    | ot ds => obtain ⟨b, f1, f2, f3, z⟩ := r; exact ⟨b, f1, (up _ f2).2, f3, z⟩
  · cases z : S' p with
    | none => rfl
    | some x => exact absurd rfl (up p (ok'.fr p x z hS)).1
  · obtain ⟨v, e1, r⟩ := ok'.sl j u q
    obtain ⟨a, rfl, n0, _, _⟩ := r.own ho
    rw [e] at e1
    cases e1
    exact (up p n0).1 rfl
/-! readings that change things -/
def RGM {α β : Type} (P : Pm) (W : WX) (σ : LSt) (R : α → β → DEnv → Hp → Hp → Prop) (S : Hp) (Q : β → Hp → Prop) (r : Res α) : Prop := match r with
  | .ok u env => ∀ x H' S', Same S S' → StOk P σ env H' S' → R u x env H' S' → Q x H'
  | .er c env => ∀ H' S', Same S S' → StOk P σ env H' S' → W (P.cv c) none σ H'
  | .st => False
section
variable {α β γ δ : Type}
theorem RGM.rg {R : α → β → DEnv → Hp → Hp → Prop} {Q : β → Hp → Prop} {r : Res α} (h : RGM P W σ R S Q r) : RG P W σ R H S Q r := by
  cases r with
  | ok u env => exact fun x H1 S1 e1 => h x H1 S1 e1.s
  | er c env => exact fun H1 S1 e1 => h H1 S1 e1.s
  | st => exact h
theorem RGM.shift {R : α → β → DEnv → Hp → Hp → Prop} {Q : β → Hp → Prop} {r : Res α} (h : RGM P W σ R S Q r) (e : Same S S') : RGM P W σ R S' Q r := by
  cases r with
  | ok u env => exact fun x H1 S1 e1 => h x H1 S1 (e.trans e1)
  | er c env => exact fun H1 S1 e1 => h H1 S1 (e.trans e1)
  | st => exact h
theorem RGM.bindE {R : α → β → DEnv → Hp → Hp → Prop} {R2 : γ → δ → DEnv → Hp → Hp → Prop} {Q' : β → Hp → Prop} {Q : δ → Hp → Prop} {fa : Res α} {k : α → DEnv → Res γ} (h : RGM P W σ R2 S Q (fa.bd k))
    (hk : ∀ u env x H' S', Ext H S H' S' → StOk P σ env H' S' → R u x env H' S' → RGM P W σ R2 S' Q (k u env) → Q' x H') : RG P W σ R H S Q' fa := by
  cases fa with
  | ok u env => exact fun x H1 S1 e1 ok1 r1 => hk u env x H1 S1 e1 ok1 r1 (RGM.shift h e1.s)
  | er c env => exact fun H1 S1 e1 => h H1 S1 e1.s
  | st => exact h
theorem RGM.bind {R : α → β → DEnv → Hp → Hp → Prop} {R2 : γ → δ → DEnv → Hp → Hp → Prop} {Q' : β → Hp → Prop} {Q : δ → Hp → Prop} {fa : Res α} {k : α → DEnv → Res γ} (h : RGM P W σ R2 S Q (fa.bd k))
    (hk : ∀ u env x H' S', Same S S' → StOk P σ env H' S' → R u x env H' S' → RGM P W σ R2 S' Q (k u env) → Q' x H') : RGM P W σ R S Q' fa := by
  cases fa with
  | ok u env => exact fun x H1 S1 e1 ok1 r1 => hk u env x H1 S1 e1 ok1 r1 (RGM.shift h e1)
  | er c env => exact fun H1 S1 e1 => h H1 S1 e1
  | st => exact h
theorem SG.bindM {Dn : Ends} {R : α → β → DEnv → Hp → Hp → Prop} {Q' : β → Hp → Prop} {fa : Res α} {k : α → DEnv → SR} (h : SG P W S Dn (fa.s k))
    (hk : ∀ u env x H' S', Same S S' → StOk P σ env H' S' → R u x env H' S' → SG P W S' Dn (k u env) → Q' x H') : RGM P W σ R S Q' fa := by
  cases fa with
  | ok u env => exact fun x H1 S1 e1 ok1 r1 => hk u env x H1 S1 e1 ok1 r1 (SG.shift h e1)
  | er c env => exact fun H1 S1 e1 ok1 => h σ H1 S1 e1 ok1
  | st => exact h
end
end
def EvM {α β : Type} (P : Pm) (W : WX) (t : LSt → Hp → (β → Hp → Prop) → Prop) (R : LSt → α → β → DEnv → Hp → Hp → Prop) (f : DEnv → Res α) : Prop :=
  ∀ (σ : LSt) (env : DEnv) (H S : Hp) (Q : β → Hp → Prop), StOk P σ env H S → RGM P W σ (R σ) S Q (f env) → t σ H Q
def SM (C : Cn) (e : Expr) (m : E) : Prop := ∃ t, PE C.X e t ∧ EvM C.P C.W t (RV C.P) (ev C.G m)
theorem SE.m {C : Cn} {e : Expr} {m : E} (h : SE C e m) : SM C e m := by
  obtain ⟨t, p, et⟩ := h
  exact ⟨t, p, fun σ env H S Q ok q => et σ env H S Q ok q.rg⟩
/-! arguments with the list amid -/
def RAi (P : Pm) (i : Nat) : LSt → (List D × List D) → List V → DEnv → Hp → Hp → Prop := fun σ d vs _ _ S => ∃ vx v vy, vs = vx ++ v :: vy ∧ σ[i]? = some (some v) ∧ P.Reps S vx d.1 ∧ P.Reps S vy d.2
def evi (G : Tab) (xs : List E) (i : Nat) (ys : List E) (env : DEnv) : Res (List D × List D) := (evs G xs env).bd fun dx env => if isOp env i then (evs G ys env).bd fun dy env => .ok (dx, dy) env else .st
def SAi (C : Cn) (es : List Expr) (xs : List E) (i : Nat) (ys : List E) : Prop := ∃ t, PA C.X es t ∧ Ev C.P C.W t (RAi C.P i) (evi C.G xs i ys)
def RAl (P : Pm) : LSt → ((List D × List D) × List D) → List V → DEnv → Hp → Hp → Prop := fun σ d vs env H S => ∃ vx a pv vy, vs = vx ++ V.ref a :: vy ∧ P.H0 a = none ∧ S a = none ∧ H a = some (.lst pv) ∧ NotSlot σ env a ∧ P.Reps S vx d.1.1 ∧ P.Reps S pv d.1.2 ∧ P.Reps S vy d.2
def evl (G : Tab) (xs es ys : List E) (env : DEnv) : Res ((List D × List D) × List D) := (evs G xs env).bd fun dx env => (evs G es env).bd fun ps env => if ps.length ≤ szL then (evs G ys env).bd fun dy env => .ok ((dx, ps), dy) env else .st
def SAl (C : Cn) (as : List Expr) (xs es ys : List E) : Prop := ∃ t, PA C.X as t ∧ Ev C.P C.W t (RAl C.P) (evl C.G xs es ys)
/-- the same place, its things kept apart -/
def Cn.at_ (C : Cn) (P : Pm) : Cn := ⟨C.X, C.W, P, C.G⟩
/-- .. whatever stands below -/
def tAc (C : Cn) (ms : List E) : TA := fun σ H Q => ∃ p o S0 env S, StOk (C.P.prot p o S0) σ env H S ∧ RG (C.P.prot p o S0) C.W σ (RA (C.P.prot p o S0) σ) H S Q (evs C.G ms env)
theorem tAc_pa {C : Cn} {es : List Expr} {ms : List E} (h : ∀ p o S0, SA (C.at_ (C.P.prot p o S0)) es ms) : PA C.X es (tAc C ms) := by
  refine ⟨fun pos pins s σ H Q I ⟨p, o, S0, env, S, ok, q⟩ => ?_⟩
  obtain ⟨t, pt, et⟩ := h p o S0
  exact pt.run pos pins s σ H Q I (et σ env H S Q ok q)
section
variable {C : Cn} {a b e : Expr} {ma mb m : E} {pos p : Pos} {es : List Expr} {x : Str} {f i : Nat}
theorem sai_here {ys : List E} {n : Str} (hN : C.X.N[i]? = some n) (hv : Vis C.X.env.scope n) (hd : (n == ("__debug__" : Str)) = false) (hcd : (n == ("__classdict__" : Str)) = false) (hr : SA C es ys) : SAi C (.Name n p :: es) [] i ys := by
  obtain ⟨t, pt, et⟩ := hr
  refine ⟨_, pa_cons (pe_var hN hv hd hcd) pt rfl, fun σ env H S Q ok q => ?_⟩
  simp only [evi, evs, bd_ok] at q
  split at q
  · rename_i ho
    cases e : env[i]? with
    | none => simp only [isOp, e] at ho; cases ho
    | some o =>
      cases o with
      | none => simp only [isOp, e] at ho; cases ho
      | some u =>
        obtain ⟨v, ev, _⟩ := ok.sl i u e
        refine ⟨v, ev, et σ env H S _ ok (RG.bind q fun dy env1 vy H1 S1 e1 ok1 r1 q1 => ?_)⟩
        exact RG.now q1 ok1 ⟨[], v, vy, rfl, ev, .nil, r1⟩
  · exact q.elim
theorem sai_cons {xs ys : List E} (ha : SD C a ma) (hr : SAi C es xs i ys) (hs : starEach (a :: es) C.X.env = (false, eval a C.X.env) :: starEach es C.X.env) : SAi C (a :: es) (ma :: xs) i ys := by
  obtain ⟨ta, pa, ea⟩ := ha
  obtain ⟨tr, pr, er⟩ := hr
  refine ⟨_, pa_cons pa pr hs, fun σ env H S Q ok q => ?_⟩
  have eq : evi C.G (ma :: xs) i ys env = (ev C.G ma env).val.bd fun x env => (evi C.G xs i ys env).bd fun d env => .ok (x :: d.1, d.2) env := by
    simp only [evi, evs, bd_bd]
    congr 1
    funext x env1
    congr 1
    funext dx env2
    simp only [bd_ok]
    split
    · rw [bd_bd]; rfl
    · rfl
  rw [eq] at q
  refine ea σ env H S _ ok (RG.bind q fun da env1 x H1 S1 e1 ok1 r1 q1 => ?_)
  refine er σ env1 H1 S1 _ ok1 (RG.bind q1 fun d env2 vs H2 S2 e2 ok2 ⟨vx, v, vy, ev, es, rx, ry⟩ q2 => ?_)
  exact RG.now q2 ok2 ⟨x :: vx, v, vy, by rw [ev]; rfl, es, .cons (Rep.mono e2.s _ _ r1) rx, ry⟩
theorem sal_here {ls : List Expr} {ms ys : List E} (hl : SA C ls ms) (hr : ∀ p o S0, SA (C.at_ (C.P.prot p o S0)) es ys) : SAl C (.List ls p :: es) [] ms ys := by
  obtain ⟨t, pt, et⟩ := hl
  refine ⟨_, pa_cons (pe_lst pt) (tAc_pa hr) rfl, fun σ env H S Q ok q => ?_⟩
  simp only [evl, evs, bd_ok] at q
  refine et σ env H S _ ok (RG.bind q fun ds env1 pv H1 S1 e1 ok1 r1 q1 => ?_)
  split at q1
  · rename_i hz
    refine ⟨by rw [r1.length]; exact le_szL hz, fun a na => ?_⟩
    have ok2 := ok1.newO (o := .lst pv) na
    have ns : NotSlot σ env1 a := ok1.notSlot na
    have h0 := ok1.h0 na
    have sn := ok1.s0n na
    refine ⟨a, .lst pv, S1, env1, S1, ok2.prot upd_same sn ns, ?_⟩
    cases ey : evs C.G ys env1 with
    | ok dy env2 =>
      rw [ey] at q1
      intro vy H2 S2 e2 ok3 r3
      obtain ⟨ok4, n4, ha4, ns4⟩ := ok2.unprot h0 sn ok3
      exact RG.at_ q1 ⟨fun b x z => e2.h _ _ (same_upd na _ _ z), e2.s⟩ ok4 ⟨[], a, pv, vy, rfl, h0, n4, ha4, ns4, .nil, Reps.mono e2.s _ _ r1, r3⟩
    | er c env2 =>
      rw [ey] at q1
      intro H2 S2 e2 ok3
      obtain ⟨ok4, n4, ha4, ns4⟩ := ok2.unprot h0 sn ok3
      exact q1 H2 S2 ⟨fun b x z => e2.h _ _ (same_upd na _ _ z), e2.s⟩ ok4
    | st => rw [ey] at q1; exact q1.elim
  · exact q1.elim
theorem sal_cons {xs ms ys : List E} (ha : SD C a ma) (hr : SAl C es xs ms ys) (hs : starEach (a :: es) C.X.env = (false, eval a C.X.env) :: starEach es C.X.env) : SAl C (a :: es) (ma :: xs) ms ys := by
  obtain ⟨ta, pa, ea⟩ := ha
  obtain ⟨tr, pr, er⟩ := hr
  refine ⟨_, pa_cons pa pr hs, fun σ env H S Q ok q => ?_⟩
  have eq : evl C.G (ma :: xs) ms ys env = (ev C.G ma env).val.bd fun x env => (evl C.G xs ms ys env).bd fun d env => .ok ((x :: d.1.1, d.1.2), d.2) env := by
    simp only [evl, evs, bd_bd]
    congr 1
    funext x env1
    congr 1
    funext dx env2
    simp only [bd_ok, bd_bd]
    congr 1
    funext ps env3
    split
    · rw [bd_bd]; rfl
    · rfl
  rw [eq] at q
  refine ea σ env H S _ ok (RG.bind q fun da env1 x H1 S1 e1 ok1 r1 q1 => ?_)
  refine er σ env1 H1 S1 _ ok1 (RG.bind q1 fun d env2 vs H2 S2 e2 ok2 ⟨vx, a, pv, vy, ev, h0, hS, ha, ns, rx, rp, ry⟩ q2 => ?_)
  exact RG.now q2 ok2 ⟨x :: vx, a, pv, vy, by rw [ev]; rfl, h0, hS, ha, ns, .cons (Rep.mono e2.s _ _ r1) rx, rp, ry⟩
theorem evi_len {G : Tab} {xs ys : List E} {env env' : DEnv} {d : List D × List D} (h : evi G xs i ys env = .ok d env') : d.1.length = xs.length ∧ d.2.length = ys.length := by
  unfold evi at h
  cases ex : evs G xs env with
  | ok dx env1 =>
    rw [ex, bd_ok] at h
    split at h
    · cases ey : evs G ys env1 with
      | ok dy env2 =>
        rw [ey, bd_ok] at h
        cases h
        exact ⟨evs_len _ _ _ _ ex, evs_len _ _ _ _ ey⟩
      | er c e2 => rw [ey] at h; cases h
      | st => rw [ey] at h; cases h
    · cases h
  | er c e2 => rw [ex] at h; cases h
  | st => rw [ex] at h; cases h
theorem evl_len {G : Tab} {xs ms ys : List E} {env env' : DEnv} {d : (List D × List D) × List D} (h : evl G xs ms ys env = .ok d env') : d.1.1.length = xs.length ∧ d.2.length = ys.length := by
  unfold evl at h
  cases ex : evs G xs env with
  | ok dx env1 =>
    rw [ex, bd_ok] at h
    cases el : evs G ms env1 with
    | ok ps env2 =>
      rw [el, bd_ok] at h
      split at h
      · cases ey : evs G ys env2 with
        | ok dy env3 =>
          rw [ey, bd_ok] at h
          cases h
          exact ⟨evs_len _ _ _ _ ex, evs_len _ _ _ _ ey⟩
        | er c e2 => rw [ey] at h; cases h
        | st => rw [ey] at h; cases h
      · cases h
    | er c e2 => rw [el] at h; cases h
    | st => rw [el] at h; cases h
  | er c e2 => rw [ex] at h; cases h
  | st => rw [ex] at h; cases h
theorem retI {P : Pm} {σ : LSt} {env env' : DEnv} {H S H' S' : Hp} {x : V} {v : DV} (ok : StOk P σ env H S) (ns : ∀ b, H b = none → NotSlot σ env' b) (r : RetR P.K P.w H S' H' x v) : ValR P σ env' H' S' x v := by
  cases v with
  | sh d => exact r
  | ol ds =>
    obtain ⟨b, vs, rfl, h0, hS, ha, rr⟩ := r
    exact ⟨b, rfl, ok.h0 h0, hS, ⟨vs, ha, rr⟩, ns b h0⟩
  | op ds => exact r.elim
  | od ds => exact r.elim
  | ot ds => exact r.elim
  | ex c => exact r.elim
theorem sm_cio {xs ys : List E} (F : FunAtI C x (xs.length + 1 + ys.length) xs.length (C.G.io f)) (tk : PassF C x) (hg : Gl C.X x) (hdb : (x == ("__debug__" : Str)) = false) (h : SAi C (a :: es) xs i ys) (he : starEach (a :: es) C.X.env = (false, eval a C.X.env) :: starEach es C.X.env) (hpl : (backTo pos (starEach es C.X.env)).any (·.1) = false) :
    SM C (.Call (.Name x p) (a :: es) [] pos) (.cio f i xs ys) := by
  obtain ⟨k, fa, fd, ps, FO, hr, hm, hk, hb⟩ := F
  obtain ⟨t, pt, et⟩ := h
  refine ⟨_, pe_callSD (E := WE C.W) FO hr hg hm hk hb .nil tk pt hdb he hpl, fun σ env H S Q ok q => ?_⟩
  have eq : ev C.G (.cio f i xs ys) env = (evi C.G xs i ys env).bd fun d env => (match env[i]? with
      | some (some (.op ps)) => (match C.G.io f d.1 ps d.2 with
        | .ok v qs => .ok v (env.set i (some (.op qs)))
        | .st => .st)
      | _ => .st) := by simp only [ev]; rfl
  rw [eq] at q
  cases eA : evi C.G xs i ys env with
  | er c env1 =>
    rw [eA] at q
    refine et σ env H S _ ok ?_
    rw [eA]
    exact fun H1 S1 e1 => q H1 S1 e1.s
  | st => rw [eA] at q; exact q.elim
  | ok d env1 =>
    obtain ⟨l1, l2⟩ := evi_len eA
    rw [eA, bd_ok] at q
    refine et σ env H S _ ok ?_
    rw [eA]
    intro vs H1 S1 e1 ok1 ⟨vx, v, vy, ev, es, rx, ry⟩
    have q := RGM.shift q e1.s
    show spI _ _ _ _ _ (vs ++ []) H1 Q _
    rw [List.append_nil]
    split at q
    · rename_i ps eps
      obtain ⟨v', es', rfl, h0, hS, pv, ha, rp⟩ := ok1.sl i _ eps
      rw [es] at es'
      cases es'
      refine ⟨by rw [ev, List.length_append, List.length_cons, rx.length, ry.length, l1, l2]; omega, S1, C.P.aP, pv, vx, vy, d.1, ps, d.2, ok1.sub, hS, ha, rp, ev, by rw [rx.length, l1], rx, ry, ?_⟩
      cases eF : C.G.io f d.1 ps d.2 with
      | st => rw [eF] at q; exact q.elim
      | ok u qs =>
        rw [eF] at q
        intro z H' S' qv g hq rq rr
        refine q z H' S' g.s (ok1.callI eps g hq rq) (retI ok1 (fun b hb j w f1 f2 f3 => ?_) rr)
        by_cases hj : i = j
        · subst hj
          rw [es] at f3
          cases f3
          rw [hb] at ha; cases ha
        · rw [List.getElem?_set_ne hj] at f1
          exact ok1.notSlot hb j w f1 f2 f3
    · exact q.elim
theorem sm_ciL {xs ms ys : List E} (F : FunAtI C x (xs.length + 1 + ys.length) xs.length (C.G.io f)) (tk : PassF C x) (hg : Gl C.X x) (hdb : (x == ("__debug__" : Str)) = false) (h : SAl C (a :: es) xs ms ys) (he : starEach (a :: es) C.X.env = (false, eval a C.X.env) :: starEach es C.X.env) (hpl : (backTo pos (starEach es C.X.env)).any (·.1) = false) :
    SM C (.Call (.Name x p) (a :: es) [] pos) (.ciL f xs ms ys) := by
  obtain ⟨k, fa, fd, ps, FO, hr, hm, hk, hb⟩ := F
  obtain ⟨t, pt, et⟩ := h
  refine ⟨_, pe_callSD (E := WE C.W) FO hr hg hm hk hb .nil tk pt hdb he hpl, fun σ env H S Q ok q => ?_⟩
  have eq : ev C.G (.ciL f xs ms ys) env = (evl C.G xs ms ys env).bd fun d env => (match C.G.io f d.1.1 d.1.2 d.2 with
        | .ok v _ => .ok v env
        | .st => .st) := by simp only [ev]; rfl
  rw [eq] at q
  cases eA : evl C.G xs ms ys env with
  | er c env1 =>
    rw [eA] at q
    refine et σ env H S _ ok ?_
    rw [eA]
    exact fun H1 S1 e1 => q H1 S1 e1.s
  | st => rw [eA] at q; exact q.elim
  | ok d env1 =>
    obtain ⟨l1, l2⟩ := evl_len eA
    rw [eA, bd_ok] at q
    refine et σ env H S _ ok ?_
    rw [eA]
    intro vs H1 S1 e1 ok1 ⟨vx, la, pv, vy, ev, h0, hS, ha, ns, rx, rp, ry⟩
    have q := RGM.shift q e1.s
    show spI _ _ _ _ _ (vs ++ []) H1 Q _
    rw [List.append_nil]
    refine ⟨by rw [ev, List.length_append, List.length_cons, rx.length, ry.length, l1, l2]; omega, S1, la, pv, vx, vy, d.1.1, d.1.2, d.2, ok1.sub, hS, ha, rp, ev, by rw [rx.length, l1], rx, ry, ?_⟩
    cases eF : C.G.io f d.1.1 d.1.2 d.2 with
    | st => rw [eF] at q; exact q.elim
    | ok u qs =>
      rw [eF] at q
      intro z H' S' qv g hq rq rr
      exact q z H' S' g.s (ok1.callT h0 hS ha ns g) (retI ok1 (fun b hb => ok1.notSlot hb) rr)
/-- a name's list, and behind it one that changes things -/
theorem sm_addv {j : Nat} {n : Str} {mb : E} (hN : C.X.N[j]? = some n) (hv : Vis C.X.env.scope n) (hd : (n == ("__debug__" : Str)) = false) (hcd : (n == ("__classdict__" : Str)) = false) (hK : C.X.K = C.P.K) (hb : SM C b mb) : SM C (.BinOp (.Name n p) .Add b pos) (.addv j mb) := by
  obtain ⟨tb, pb, eb⟩ := hb
  refine ⟨_, pe_op (op_addAll (X := C.X)) (pe_var hN hv hd hcd) pb, fun σ env H S Q ok q => ?_⟩
  simp only [ev] at q
  split at q
  · rename_i ho
    cases e : env[j]? with
    | none => simp only [isOl, e] at ho; cases ho
    | some o =>
      cases o with
      | none => simp only [isOl, e] at ho; cases ho
      | some u =>
        obtain ⟨v, es, _⟩ := ok.sl j u e
        refine ⟨v, es, eb σ env H S _ ok ?_⟩
        simp only [Res.val, bd_bd] at q
        refine RGM.bind q fun w env1 y H1 S1 e1 ok1 r1 q1 => ?_
        cases hw : w.toD with
        | none => rw [hw] at q1; exact q1.elim
        | some dy =>
          rw [hw] at q1
          simp only [of_some, bd_ok] at q1
          obtain ⟨S2, es2, ok2, rp⟩ := ValR.share ok1 r1 hw
          have q1 := RGM.shift q1 es2
          split at q1
          · rename_i xs ex
            obtain ⟨v', f1, a', rfl, _, _, vs, ha, rr⟩ := ok2.sl j _ ex
            rw [es] at f1
            cases f1
            rw [hK]
            exact add_S C.W σ env1 H1 S2 Q _ y (.lst xs) dy ok2 (.lst ha rr) (.rep rp) q1.rg
          · exact q1.elim
  · exact q.elim
/-- .. and then a plain one -/
theorem sm_op {op : Operator} {o : BOp} {r : R2} {ma : E} (ho : OpR C.X (binaryOp op) r) (hs : OpS C.P r (binD o)) (hm : isVar ma = none) (ha : SM C a ma) (hb : SBo C b mb) : SM C (.BinOp a op b pos) (.bin o ma mb) := by
  obtain ⟨ta, pa, ea⟩ := ha
  obtain ⟨tb, pb, eb⟩ := hb
  refine ⟨tOp r ta tb, pe_op ho pa pb, fun σ env H S Q ok q => ?_⟩
  simp only [ev] at q
  have e1 : brw ma (ev C.G ma env) env = (ev C.G ma env).val := by
    unfold brw
    rw [hm]
  rw [e1] at q
  simp only [Res.val, bd_bd] at q
  refine ea σ env H S _ ok (RGM.bind q fun w env1 x H1 S1 e1 ok1 r1 q1 => ?_)
  cases hw : w.toD with
  | none => rw [hw] at q1; exact q1.elim
  | some dx =>
    rw [hw] at q1
    simp only [of_some, bd_ok] at q1
    obtain ⟨S2, es2, ok2, rp⟩ := ValR.share ok1 r1 hw
    have q1 := (RGM.shift q1 es2).rg (H := H1)
    refine eb σ env1 H1 S2 _ ok2 (RG.bind q1 fun dy env2 y H3 S3 e3 ok3 r3 q3 => ?_)
    exact hs C.W σ env2 H3 S3 Q x y dx dy ok3 (.rep (Rep.mono e3.s _ _ rp)) r3 q3
theorem ss_setM {x : Str} {p' : Pos} (hN : C.X.N.Nodup) (hi : C.X.N[i]? = some x) (hx : Loc C.X.env.scope x) (h : SM C e m) (hs : swapsWith e (some (.Name x p')) pos.line C.X.env = pure false) (hf : C.X.fn x = true ∨ C.X.env.scope.names.lookup x = some .local) :
    SS C (.Assign [.Name x p'] e pos) (.set i m) := by
  obtain ⟨t, pt, et⟩ := h
  refine ⟨_, ps_set hN hi hx pt hs hf, fun σ env H S Dn ok q => ?_⟩
  simp only [exS] at q
  exact et σ env H S _ ok (SG.bindM q fun u env1 x H1 S1 e1 ok1 r1 q1 => SG.nx q1 (ok1.setV r1 i))
theorem ss_retM (h : SM C e m) (hm : isVar m = none) : SS C (.Return (some e) pos) (.ret m) := by
  obtain ⟨t, pt, et⟩ := h
  refine ⟨_, ps_ret pt, fun σ env H S Dn ok q => ?_⟩
  simp only [exS] at q
  have e1 : moved m (ev C.G m env) env = ev C.G m env := by
    unfold moved
    rw [hm]
  rw [e1] at q
  exact et σ env H S _ ok (SG.bindM q fun u env1 x H1 S1 e1 ok1 r1 q2 => q2 x σ H1 S1 (Same.refl _) ok1 r1)
end
end Dl

namespace Dl
open PySem L2
/-! ### displays of dicts with texts as keys -/
def tDcan (C : Cn) (m : E) : TE := fun σ H Q => ∃ p o S0 env S, StOk (C.P.prot p o S0) σ env H S ∧ RG (C.P.prot p o S0) C.W σ (RD (C.P.prot p o S0) σ) H S Q (ev C.G m env).val
theorem tDcan_pe {C : Cn} {e : Expr} {m : E} (h : ∀ p o S0, SD (C.at_ (C.P.prot p o S0)) e m) : PE C.X e (tDcan C m) := by
  refine ⟨fun pins s σ H Q I ⟨p, o, S0, env, S, ok, q⟩ => ?_⟩
  obtain ⟨t, pt, et⟩ := h p o S0
  exact pt.run pins s σ H Q I (et σ env H S Q ok q)
def trsD (C : Cn) : List T → List E → List (TE × TE)
  | k :: ks, m :: ms => (tC (.str (sT k)), tDcan C m) :: trsD C ks ms
  | _, _ => []
theorem pairs_ok {C : Cn} {p : Addr} {o : HO} {S0 : Hp} {σ : LSt} : ∀ (ks : List T) (ms : List E) (env : DEnv) (H S : Hp) (Q : List (V × V) → Hp → Prop), ks.length = ms.length → StOk (C.P.prot p o S0) σ env H S →
    RG (C.P.prot p o S0) C.W σ (fun ds (ps : List (V × V)) _ _ S => ∃ vs, ps = (ks.map fun k => V.str (sT k)).zip vs ∧ vs.length = ks.length ∧ C.P.Reps S vs ds) H S Q (evs C.G ms env) → tPairs (trsD C ks ms) σ H Q
  | [], [], env, H, S, Q, _, ok, q => by
    simp only [evs] at q
    exact RG.now q ok ⟨[], rfl, rfl, .nil⟩
  | k :: ks, m :: ms, env, H, S, Q, hl, ok, q => by
    simp only [evs] at q
    show tC (.str (sT k)) σ H fun x H1 => tDcan C m σ H1 fun y H2 => tPairs (trsD C ks ms) σ H2 fun ps H3 => Q ((x, y) :: ps) H3
    refine ⟨p, o, S0, env, S, ok, RG.bind q fun d env1 y H2 S2 e2 ok2 r2 q2 => ?_⟩
    refine pairs_ok ks ms env1 H2 S2 _ (by simpa using hl) ok2 (RG.bind q2 fun ds env2 ps H3 S3 e3 ok3 ⟨vs, hp, hv, r3⟩ q3 => ?_)
    exact RG.now q3 ok3 ⟨y :: vs, by rw [hp]; rfl, by simp [hv], .cons (Rep.mono e3.s _ _ r2) r3⟩
  | [], _ :: _, _, _, _, _, hl, _, _ => by cases hl
  | _ :: _, [], _, _, _, _, hl, _, _ => by cases hl
inductive Al2 {α β : Type} (R : α → β → Prop) : List α → List β → Prop
  | nil : Al2 R [] []
  | cons {a : α} {b : β} {l : List α} {m : List β} : R a b → Al2 R l m → Al2 R (a :: l) (b :: m)
def kvsZ (ks : List T) (vs : List V) : List (Key × V) := (ks.map fun k => (Sum.inr (sT k) : Key)).zip vs
theorem valV_mem {kvs : List (Key × V)} {k : Key} (h : k ∉ kvs.map Prod.fst) : valV kvs k = none := by
  induction kvs with
  | nil => rfl
  | cons p r ih =>
    simp only [List.map_cons, List.mem_cons, not_or] at h
    rw [valV_neg (fun z => h.1 z.symm)]
    exact ih h.2
theorem merge_nd : ∀ (more kvs : List (Key × V)), (kvs.map Prod.fst ++ more.map Prod.fst).Nodup → mergeK kvs more = kvs ++ more
  | [], kvs, _ => by show kvs = _; simp
  | p :: r, kvs, h => by
    show mergeK (putK kvs p.1 p.2) r = _
    have hp : p.1 ∉ kvs.map Prod.fst := fun z => by
      rw [List.nodup_append] at h
      exact h.2.2 _ z _ (by simp) rfl
    rw [putK_new _ (valV_mem hp), merge_nd r (kvs ++ [(p.1, p.2)]) (by simpa using h)]
    simp
theorem repK_zip {P : Pm} {S : Hp} : ∀ {ks : List T} {vs : List V} {ds : List D}, P.Reps S vs ds → vs.length = ks.length → RepK P.K P.w S (kvsZ ks vs) (ks.zip ds)
  | [], _, _, r, h => by
    cases r with
    | nil => exact .nil
    | cons _ _ => cases h
  | k :: ks, _, _, r, h => by
    cases r with
    | nil => cases h
    | cons a b => exact .cons a (repK_zip b (by simpa using h))
theorem kvsZ_fst : ∀ {ks : List T} {vs : List V}, vs.length = ks.length → (kvsZ ks vs).map Prod.fst = ks.map fun k => (Sum.inr (sT k) : Key)
  | [], [], _ => rfl
  | [], _ :: _, h => by cases h
  | _ :: _, [], h => by cases h
  | k :: ks, v :: vs, h => by
    show Sum.inr (sT k) :: (kvsZ ks vs).map Prod.fst = _
    rw [kvsZ_fst (by simpa using h)]
    rfl
theorem keys_nd {ks : List T} (h : ks.Nodup) : (ks.map fun k => (Sum.inr (sT k) : Key)).Nodup := by
  induction ks with
  | nil => exact .nil
  | cons k r ih =>
    rw [List.nodup_cons] at h
    rw [List.map_cons, List.nodup_cons]
    refine ⟨fun z => ?_, ih h.2⟩
    obtain ⟨x, hx, e⟩ := List.mem_map.mp z
    have e : sT x = sT k := Sum.inr.inj e
    exact h.1 (sT_inj e ▸ hx)
theorem zip_map : ∀ (ks : List T) (vs : List V), (ks.map fun k => V.str (sT k)).zip vs = (kvsZ ks vs).map fun kv => (kV kv.1, kv.2)
  | [], _ => rfl
  | _ :: _, [] => rfl
  | k :: ks, v :: vs => by
    show (V.str (sT k), v) :: (ks.map fun k => V.str (sT k)).zip vs = _
    rw [zip_map ks vs]
    rfl
theorem pps_all {C : Cn} {pos : Pos} : ∀ (keys : List (Option Expr)) (values : List Expr) (ks : List T) (ms : List E), ks.length = ms.length → Al2 (fun e k => ∃ x, e = some x ∧ PE C.X x (tC (.str (sT k)))) keys ks → Al2 (fun e m => ∀ p o S0, SD (C.at_ (C.P.prot p o S0)) e m) values ms → PPs C.X pos keys values (trsD C ks ms)
  | [], [], [], [], _, _, _ => pps_nil
  | _ :: _, _, [], _, _, h, _ => by cases h
  | [], _, _ :: _, _, _, h, _ => by cases h
  | _, _ :: _, _, [], _, _, h => by cases h
  | _, [], _, _ :: _, _, _, h => by cases h
  | key :: keys, v :: values, k :: ks, m :: ms, hl, hk, hv => by
    cases hk with
    | cons a b =>
      cases hv with
      | cons c d =>
        obtain ⟨x, rfl, px⟩ := a
        exact pps_cons px (tDcan_pe c) (pps_all keys values ks ms (by simpa using hl) b d)
theorem se_dictK {C : Cn} {pos : Pos} {keys : List (Option Expr)} {values : List Expr} {ks : List T} {ms : List E} (hl : ks.length = ms.length) (hk : Al2 (fun e k => ∃ x, e = some x ∧ PE C.X x (tC (.str (sT k)))) keys ks) (hv : Al2 (fun e m => ∀ p o S0, SD (C.at_ (C.P.prot p o S0)) e m) values ms)
    (hall : keys.all (·.isSome) = true) (h2 : keys.length = values.length) (h0 : keys ≠ []) (h15 : keys.length ≤ 15) : SE C (.Dict keys values pos) (.dict ks ms) := by
  refine ⟨_, pe_disp (pps_all keys values ks ms hl hk hv) hall h2 h0 h15, fun σ env H S Q ok q => ?_⟩
  simp only [ev] at q
  intro p np
  have ok1 := ok.newO (o := .dK []) np
  have ns := ok.notSlot np
  have hh0 := ok.h0 np
  have sn := ok.s0n np
  refine pairs_ok (p := p) (o := .dK []) (S0 := S) ks ms env (upd H p (.dK [])) S _ hl (ok1.prot upd_same sn ns) ?_
  cases ee : evs C.G ms env with
  | ok ds env1 =>
    rw [ee, bd_ok] at q
    split at q
    · rename_i hc
      intro ps H2 S2 e2 ok2 ⟨vs, hp, hv, r⟩
      obtain ⟨ok3, n3, h3, ns3⟩ := ok1.unprot hh0 sn ok2
      have nd : (([] : List (Key × V)).map Prod.fst ++ (kvsZ ks vs).map Prod.fst).Nodup := by
        rw [kvsZ_fst hv]
        exact keys_nd hc.2.2
      refine ⟨h3, kvsZ ks vs, by rw [hp, zip_map], ?_, ?_⟩
      · have : (kvsZ ks vs).length ≤ ks.length := by unfold kvsZ; rw [List.length_zip, List.length_map]; omega
        omega
      · rw [merge_nd _ _ nd, List.nil_append]
        have s2 : Same H (upd H2 p (.dK (kvsZ ks vs))) := fun b x z => by
          rw [upd_ne (ne_of_none z np)]
          exact e2.h _ _ (same_upd np _ _ z)
        exact RG.at_ q ⟨s2, e2.s⟩ (ok3.mut hh0 n3 ns3) ⟨p, rfl, hh0, n3, ⟨_, upd_same, repK_zip r hv⟩, ns3⟩
    · exact q.elim
  | er c env1 =>
    rw [ee] at q
    intro H2 S2 e2 ok2
    obtain ⟨ok3, n3, h3, ns3⟩ := ok1.unprot hh0 sn ok2
    exact q H2 S2 ⟨fun b x z => e2.h _ _ (same_upd np _ _ z), e2.s⟩ ok3
  | st => rw [ee] at q; exact q.elim
/-! chains of three -/
open PyProof.Rows in
theorem pe_chain3 {X : Cx} {a b c d : Expr} {pos : Pos} {ta tb tc td : TE} {op op' op'' : CmpOp} {r r' r'' : R2} (ho : OpR X (compareOp op) r) (ho' : OpR X (compareOp op') r') (ho'' : OpR X (compareOp op'') r'') (ha : PE X a ta) (hb : PE X b tb) (hc : PE X c tc) (hd : PE X d td)
    (hm : lastMarks [op, op', op''] [b, c, d] = false) : PE X (.Compare a [op, op', op''] [b, c, d] pos) (fun σ H Q => ta σ H fun x H1 => tb σ H1 fun y H2 => r x y H2 fun z H3 => ∃ k, z = .bl k ∧
      (if k = true then tc σ H3 fun w H4 => r' y w H4 fun z' H5 => ∃ k', z' = .bl k' ∧ (if k' = true then td σ H5 fun u H6 => r'' w u H6 Q else Q (.bl false) H5) else Q (.bl false) H3)) := by
  refine ⟨fun pins s σ H Q I h => ?_⟩
  refine Compare_chain (thn (ha.run pins s σ H _ I h) fun v s1 ⟨x, H1, I1, r1, q1⟩ => chain_link (thn (hb.run pins s1 σ H1 _ I1 q1) fun u s2 ⟨y, H2, I2, r2, q2⟩ =>
    thn (ho pins s2 σ H2 x y v u _ I2 r1 r2 q2) fun d s3 ⟨z, H3, I3, r3, k, e, q3⟩ => ?_)) hm
  subst e
  cases r3
  refine wpAny_truthy_bool ?_
  cases k with
  | false => exact ite_ff ⟨.bl false, H3, I3, rfl, q3⟩
  | true =>
    refine ite_tt (chain_link (thn (hc.run pins s3 σ H3 _ I3 q3) fun w' s4 ⟨z', H4, I4, r4, q4⟩ => thn (ho' pins s4 σ H4 y z' u w' _ I4 r2 r4 q4) fun d' s5 ⟨z2, H5, I5, r5, k2, e2, q5⟩ => ?_))
    subst e2
    cases r5
    refine wpAny_truthy_bool ?_
    cases k2 with
    | false => exact ite_ff ⟨.bl false, H5, I5, rfl, q5⟩
    | true => exact ite_tt (chain_last (thn (hd.run pins s5 σ H5 _ I5 q5) fun u2 s6 ⟨z3, H6, I6, r6, q6⟩ => ho'' pins s6 σ H6 z' z3 w' u2 Q I6 r4 r6 q6))
open PyProof.Rows in
theorem pt_chain3 {X : Cx} {a b c d : Expr} {pos : Pos} {ta tb tc td : TE} {op op' op'' : CmpOp} {r r' r'' : R2} (ho : OpR X (compareOp op) r) (ho' : OpR X (compareOp op') r') (ho'' : OpR X (compareOp op'') r'') (ha : PE X a ta) (hb : PE X b tb) (hc : PE X c tc) (hd : PE X d td)
    (hm : lastMarks [op, op', op''] [b, c, d] = false) : PT X (.Compare a [op, op', op''] [b, c, d] pos) (fun σ H Q => ta σ H fun x H1 => tb σ H1 fun y H2 => r x y H2 fun z H3 => ∃ k, z = .bl k ∧
      (if k = true then tc σ H3 fun w H4 => r' y w H4 fun z' H5 => ∃ k', z' = .bl k' ∧ (if k' = true then td σ H5 fun u H6 => r'' w u H6 fun z2 H7 => ∃ k2, z2 = .bl k2 ∧ Q k2 H7 else Q false H5) else Q false H3)) := by
  refine ⟨fun pins s σ H Q I h => ?_⟩
  refine isTrue_chain (thn (ha.run pins s σ H _ I h) fun v s1 ⟨x, H1, I1, r1, q1⟩ => test_link (thn (hb.run pins s1 σ H1 _ I1 q1) fun u s2 ⟨y, H2, I2, r2, q2⟩ =>
    thn (ho pins s2 σ H2 x y v u _ I2 r1 r2 q2) fun d s3 ⟨z, H3, I3, r3, k, e, q3⟩ => ?_)) hm
  subst e
  cases r3
  refine wpAny_truthy_bool ?_
  cases k with
  | false => exact ite_ff ⟨H3, I3, q3⟩
  | true =>
    refine ite_tt (test_link (thn (hc.run pins s3 σ H3 _ I3 q3) fun w' s4 ⟨z', H4, I4, r4, q4⟩ => thn (ho' pins s4 σ H4 y z' u w' _ I4 r2 r4 q4) fun d' s5 ⟨z2, H5, I5, r5, k2, e2, q5⟩ => ?_))
    subst e2
    cases r5
    refine wpAny_truthy_bool ?_
    cases k2 with
    | false => exact ite_ff ⟨H5, I5, q5⟩
    | true =>
      refine ite_tt (test_last (thn (hd.run pins s5 σ H5 _ I5 q5) fun u2 s6 ⟨z3, H6, I6, r6, q6⟩ => thn (ho'' pins s6 σ H6 z' z3 w' u2 _ I6 r4 r6 q6) fun d3 s7 ⟨z4, H7, I7, r7, k3, e3, q7⟩ => ?_))
      subst e3
      cases r7
      exact wpAny_truthy_bool ⟨H7, I7, q7⟩
section
variable {C : Cn} {a b c d : Expr} {ma mb mc md : E} {pos : Pos} {op op' op'' : CmpOp} {o o' o'' : COp} {r r' r'' : R2}
theorem se_chain3 (ho : OpR C.X (compareOp op) r) (hs : CmpS C.P r (cmpD o)) (ho' : OpR C.X (compareOp op') r') (hs' : CmpS C.P r' (cmpD o')) (ho'' : OpR C.X (compareOp op'') r'') (hs'' : CmpS C.P r'' (cmpD o'')) (ha : SBo C a ma) (hb : SBo C b mb) (hc : SBo C c mc) (hd : SBo C d md)
    (hm : lastMarks [op, op', op''] [b, c, d] = false) : SE C (.Compare a [op, op', op''] [b, c, d] pos) (.chain3 o o' o'' ma mb mc md) := by
  obtain ⟨ta, pa, ea⟩ := ha
  obtain ⟨tb, pb, eb⟩ := hb
  obtain ⟨tc, pc, ec⟩ := hc
  obtain ⟨td, pd, ed⟩ := hd
  refine ⟨_, pe_chain3 ho ho' ho'' pa pb pc pd hm, fun σ env H S Q ok q => ?_⟩
  simp only [ev] at q
  refine ea σ env H S _ ok (RG.bind q fun da env1 x H1 S1 e1 ok1 r1 q1 => ?_)
  refine eb σ env1 H1 S1 _ ok1 (RG.bind q1 fun db env2 y H2 S2 e2 ok2 r2 q2 => ?_)
  cases e : cmpD o da db with
  | none => rw [e] at q2; exact q2.elim
  | some k =>
    rw [e] at q2
    simp only [of_some, bd_ok] at q2
    refine hs H2 S2 _ x y da db k ok2.sub (r1.mono e2) r2 e ⟨k, rfl, ?_⟩
    cases k with
    | false => exact RG.now q2 ok2 (.bl _)
    | true =>
      refine ec σ env2 H2 S2 _ ok2 (RG.bind q2 fun dc env3 z H3 S3 e3 ok3 r3 q3 => ?_)
      cases e' : cmpD o' db dc with
      | none => rw [e'] at q3; exact q3.elim
      | some k' =>
        rw [e'] at q3
        simp only [of_some, bd_ok] at q3
        refine hs' H3 S3 _ y z db dc k' ok3.sub (r2.mono e3) r3 e' ⟨k', rfl, ?_⟩
        cases k' with
        | false => exact RG.now q3 ok3 (.bl _)
        | true =>
          refine ed σ env3 H3 S3 _ ok3 (RG.bind q3 fun dd env4 u H4 S4 e4 ok4 r4 q4 => ?_)
          cases e'' : cmpD o'' dc dd with
          | none => rw [e''] at q4; exact q4.elim
          | some k'' =>
            rw [e''] at q4
            exact hs'' H4 S4 Q z u dc dd k'' ok4.sub (r3.mono e4) r4 e'' (RG.now q4 ok4 (.bl k''))
theorem st_chain3 (ho : OpR C.X (compareOp op) r) (hs : CmpS C.P r (cmpD o)) (ho' : OpR C.X (compareOp op') r') (hs' : CmpS C.P r' (cmpD o')) (ho'' : OpR C.X (compareOp op'') r'') (hs'' : CmpS C.P r'' (cmpD o'')) (ha : SBo C a ma) (hb : SBo C b mb) (hc : SBo C c mc) (hd : SBo C d md)
    (hm : lastMarks [op, op', op''] [b, c, d] = false) : ST C (.Compare a [op, op', op''] [b, c, d] pos) (.chain3 o o' o'' ma mb mc md) := by
  obtain ⟨ta, pa, ea⟩ := ha
  obtain ⟨tb, pb, eb⟩ := hb
  obtain ⟨tc, pc, ec⟩ := hc
  obtain ⟨td, pd, ed⟩ := hd
  refine ⟨_, pt_chain3 ho ho' ho'' pa pb pc pd hm, fun σ env H S Q ok q => ?_⟩
  simp only [tst_eq (m := .chain3 o o' o'' ma mb mc md) rfl, ev, Res.val, bd_bd] at q
  refine ea σ env H S _ ok (RG.bind q fun da env1 x H1 S1 e1 ok1 r1 q1 => ?_)
  refine eb σ env1 H1 S1 _ ok1 (RG.bind q1 fun db env2 y H2 S2 e2 ok2 r2 q2 => ?_)
  cases e : cmpD o da db with
  | none => rw [e] at q2; exact q2.elim
  | some k =>
    rw [e] at q2
    simp only [of_some, bd_ok] at q2
    refine hs H2 S2 _ x y da db k ok2.sub (r1.mono e2) r2 e ⟨k, rfl, ?_⟩
    cases k with
    | false => exact RG.now q2 ok2 rfl
    | true =>
      simp only [if_true, bd_bd] at q2
      refine ec σ env2 H2 S2 _ ok2 (RG.bind q2 fun dc env3 z H3 S3 e3 ok3 r3 q3 => ?_)
      cases e' : cmpD o' db dc with
      | none => rw [e'] at q3; exact q3.elim
      | some k' =>
        rw [e'] at q3
        simp only [of_some, bd_ok] at q3
        refine hs' H3 S3 _ y z db dc k' ok3.sub (r2.mono e3) r3 e' ⟨k', rfl, ?_⟩
        cases k' with
        | false => exact RG.now q3 ok3 rfl
        | true =>
          simp only [if_true, bd_bd] at q3
          refine ed σ env3 H3 S3 _ ok3 (RG.bind q3 fun dd env4 u H4 S4 e4 ok4 r4 q4 => ?_)
          cases e'' : cmpD o'' dc dd with
          | none => rw [e''] at q4; exact q4.elim
          | some k'' =>
            rw [e''] at q4
            exact hs'' H4 S4 _ z u dc dd k'' ok4.sub (r3.mono e4) r4 e'' ⟨k'', rfl, RG.now q4 ok4 rfl⟩
end
end Dl

namespace PySem.SeqAt
open AutoSeq1 (wpAny_loadPart')
open MeetsSeq MeetsSeq2 MeetsSeq3 SeqRoads2
section
variable {prog : Program} {w : World}
/-- two lists whose things are all alike: the loop of != ends with False -/
theorem dl_neLoop {p q : Addr} {us vs : Array Value} {m n : Nat} {dp dq : Option Addr} {sp sq : Array (Option Value)} (same : us.size = vs.size) : ∀ (left i : Nat), left + i = us.size →
    MeetsIn prog w (Builtin.«list.__eq__.loop» ⟨[.ref p, .ref q, rawInt i, rawInt 3], []⟩) (fun A R s =>
      (s.heap.get? p = some { cls := .type "list", dict := dp, data := .seq us m, slots := sp } ∧ s.heap.get? q = some { cls := .type "list", dict := dq, data := .seq vs n, slots := sq }) ∧
        (∀ j (h1 : j < us.size) (h2 : j < vs.size), EqP prog w A.in1 s us[j] vs[j] true) ∧ R (.ok (.ret (.bool false))) s)
  | 0, i, hi => by
    intro A R s H
    obtain ⟨heap, a1, a2, a3, a4⟩ := s
    obtain ⟨⟨h1, h2⟩, _, hR⟩ := H
    wp_walk using wpAny_loadPart' h1, wpAny_loadPart' h2
    have n1 : us[((i : Nat) : Int).toNat]? = none := by simp; omega
    have n2 : vs[((i : Nat) : Int).toNat]? = none := by simp; omega
    rw [n1, n2]
    wp_walk using wpAny_loadPart' h1, wpAny_loadPart' h2
    show R (.ok (.ret (.bool (us.size != vs.size)))) _
    rw [show (us.size != vs.size) = false from by simp [same]]
    exact hR
  | left + 1, i, hi => by
    intro A R s H
    obtain ⟨heap, a1, a2, a3, a4⟩ := s
    obtain ⟨⟨h1, h2⟩, all, hR⟩ := H
    wp_walk using wpAny_loadPart' h1, wpAny_loadPart' h2
    have l1 : i < us.size := by omega
    have l2 : i < vs.size := by omega
    have n1 : us[((i : Nat) : Int).toNat]? = some us[i] := by simp [l1]
    have n2 : vs[((i : Nat) : Int).toNat]? = some vs[i] := by simp [l2]
    rw [n1, n2]
    refine wpAny_bind (all i l1 l2 _ _ ?_)
    wp_walk
    rw [show ((i : Int) + 1) = ((i + 1 : Nat) : Int) from by omega]
    refine ⟨plainId_quiet plain_eq_loop _, codeAny_builtin entry_eq_loop ?_⟩
    rw [Around.under_plainId plain_eq_loop _]
    exact dl_neLoop same left (i + 1) (by omega) A R _ ⟨⟨h1, h2⟩, all, hR⟩
theorem dl_ne {p q : Addr} {us vs : Array Value} {m n : Nat} {dp dq : Option Addr} {sp sq : Array (Option Value)} (same : us.size = vs.size) :
    MeetsIn prog w (Builtin.«list.__ne__» ⟨[.ref p, .ref q], []⟩) (fun A R s =>
      (s.heap.get? p = some { cls := .type "list", dict := dp, data := .seq us m, slots := sp } ∧ s.heap.get? q = some { cls := .type "list", dict := dq, data := .seq vs n, slots := sq }) ∧
        (∀ j (h1 : j < us.size) (h2 : j < vs.size), EqP prog w A.in1 s us[j] vs[j] true) ∧ R (.ok (.ret (.bool false))) s) := by
  intro A R s H
  obtain ⟨heap, a1, a2, a3, a4⟩ := s
  obtain ⟨⟨h1, h2⟩, all, hR⟩ := H
  have sub := AutoSeq1.sub_list_list
  have eqs : ¬ (us.size != vs.size) = true := by simp [same]
  wp_walk using wpAny_loadPart' h1, wpAny_loadPart' h2
  refine ⟨plainId_quiet plain_eq_loop _, codeAny_builtin entry_eq_loop ?_⟩
  rw [Around.under_plainId plain_eq_loop _]
  exact dl_neLoop same us.size 0 (by omega) A R _ ⟨⟨h1, h2⟩, all, hR⟩
theorem dl_rcNe {A : Around} {s : Shared} {p q : Addr} {us vs : Array Value} (hp : s.heap.IsList p us) (hq : s.heap.IsList q vs) (same : us.size = vs.size) (hu : A.units < cLine)
    (all : ∀ j (h1 : j < us.size) (h2 : j < vs.size), EqP prog w A.in1 s us[j] vs[j] true) {E Q : Value → Shared → Prop} (hQ : Q (.bool false) s) : wpAny (model prog w) A (richCompare .NotEq (.ref p) (.ref q)) Q E s := by
  obtain ⟨⟨c1, d1, b1, s1⟩, g1, e1, m, f1⟩ := id hp
  obtain ⟨⟨c2, d2, b2, s2⟩, g2, e2, n, f2⟩ := id hq
  simp only at e1 f1 e2 f2
  subst e1 f1 e2 f2
  refine wpAny_richCompare_same_room (T := "list") (op := .NotEq) ⟨_, g1, rfl⟩ ⟨_, g2, rfl⟩ F.slot_list_ne (call_meetsIn F.slot_list_ne ⟨_, g1, rfl⟩ F.entry_list_ne (F.args_list_ne_2 _ _) (dl_ne same) ⟨⟨g1, g2⟩, all, ?_⟩) hu
  exact show Value.bool false ≠ Value.notImplemented ∧ Q (.bool false) s from ⟨(fun z => nomatch z), hQ⟩
end
end PySem.SeqAt
namespace Dl
open PySem L2
/-! ### != of lists that hold dicts -/
/-- alike, to a small depth -/
def ElP (K : PySem.W.Frag) (H : Hp) (x y : V) : Prop := ∃ d e, Dp K H x d ∧ Dp K H y e ∧ d.canLay0 = true ∧ e.canLay0 = true ∧ d.depth ≤ 20 ∧ PyData.eqv d e = true
def ElK (K : PySem.W.Frag) (H : Hp) (x y : V) : Prop := ElP K H x y ∨ ∃ a b ks ls, x = .ref a ∧ y = .ref b ∧ H a = some (.dK ks) ∧ H b = some (.dK ls) ∧ ks.length = ls.length ∧ ∀ p ∈ ks, ∃ u, valV ls p.1 = some u ∧ ElP K H p.2 u
def rNeX (K : PySem.W.Frag) : R2 := fun x y H Q => ∃ a b xs ys, x = .ref a ∧ y = .ref b ∧ H a = some (.lst xs) ∧ H b = some (.lst ys) ∧ Paired (ElK K H) xs ys ∧ Q (.bl false) H
section
variable {X : Cx} {pins : List (Addr × Obj)} {σ : St} {H : Hp} {s : Shared}
theorem elP_run (I : Inv X pins σ H s) {A : Around} (hu : A.units + 20 < cLine) {x y : V} {v u : Value} (h : ElP X.K H x y) (rx : RelV x v) (ry : RelV y u) : SeqAt.EqP X.prog X.w A s v u true := by
  obtain ⟨d, e, h1, h2, c1, c2, hd, q⟩ := h
  obtain ⟨as, r1⟩ := Dp.reads I d x v h1 rx
  obtain ⟨bs, r2⟩ := Dp.reads I e y u h2 ry
  have t := SeqAt.eqAt_reads d e A s v u as bs r1 r2 c1 c2 (by have := Nat.min_le_left d.depth e.depth; omega)
  rw [q] at t
  exact t.eqP
theorem elK_run (I : Inv X pins σ H s) {A : Around} (hu : A.units + 21 < cLine) {x y : V} {v u : Value} (h : ElK X.K H x y) (rx : RelV x v) (ry : RelV y u) : SeqAt.EqP X.prog X.w A s v u true := by
  rcases h with h | ⟨a, b, ks, ls, rfl, rfl, ha, hb, hl, hp⟩
  · exact elP_run I (by omega) h rx ry
  · cases (show v = Value.ref a from rx)
    cases (show u = Value.ref b from ry)
    by_cases e : a = b
    · subst e
      exact (SeqAt.EqAt.same _).eqP
    · refine SeqAt.eqP_refs e fun E Q q => ?_
      obtain ⟨_, ya, va, ra, da⟩ := (show ObjOk X.prog X.w H s.heap a (.dK ks) from I.hok a _ ha)
      obtain ⟨_, yb, vb, rb, db⟩ := (show ObjOk X.prog X.w H s.heap b (.dK ls) from I.hok b _ hb)
      refine PySem.W.rcP_dicts (knd := mixKind X.prog X.w) (r := true) ya yb da db (by omega) (fun _ => hits_run (F := ElP X.K H) (fun x y v u f r1 r2 => elP_run I (by show A.units + 1 + 20 < cLine; omega) f r1 r2) rb ra hp) E Q ?_
      have e : va.length = vb.length := by rw [← ra.length, ← rb.length]; exact hl
      rw [show (va.length == vb.length && true) = true from by rw [e]; simp]
      exact q
theorem op_neX (hu : X.A.units + 64 < cLine) : OpR X (compareOp .NotEq) (rNeX X.K) := by
  intro pins s σ H x y v u Q I rx ry h
  obtain ⟨a, b, xs, ys, rfl, rfl, ha, hb, hp, q⟩ := h
  cases (show v = Value.ref a from rx)
  cases (show u = Value.ref b from ry)
  obtain ⟨us, r1, p1, _⟩ := I.list (SqL.of ha)
  obtain ⟨ws, r2, p2, _⟩ := I.list (SqL.of hb)
  have same : us.toArray.size = ws.toArray.size := by
    rw [List.size_toArray, List.size_toArray, ← r1.length, ← r2.length]
    exact Paired.length hp
  refine SeqAt.dl_rcNe p1.isList p2.isList same (by omega) (fun j h1 h2 => ?_) ⟨.bl false, H, I, rfl, q⟩
  have k := items_run (fun x y v u f r1 r2 => elK_run I (A := X.A.in1) (by show X.A.units + 1 + 21 < cLine; omega) f r1 r2) hp r1 r2 j (by simpa using h1) (by simpa using h2)
  simpa using k
end
theorem elP_S {P : Pm} {S H : Hp} (sub : Same S H) {x y : V} {a b : D} (ha : okD a 20 = true) (hb : okD b 20 = true) (e : eqD a b = true) (rx : P.Rep S x a) (ry : P.Rep S y b) : ElP P.K H x y :=
  ⟨toP a, toP b, rep_dp sub a 20 x ha rx, rep_dp sub b 20 y hb ry, (okD_lay a 20 ha).1, (okD_lay b 20 hb).1, (okD_lay a 20 ha).2, by rw [eqD_eqv a b 20 20 ha hb]; exact e⟩
theorem repK_len {P : Pm} {S : Hp} : ∀ {ks : List (Key × V)} {kvs : List (T × D)}, RepK P.K P.w S ks kvs → ks.length = kvs.length
  | _, _, .nil => rfl
  | _, _, .cons _ t => by rw [List.length_cons, List.length_cons, repK_len t]
theorem elKs_S {P : Pm} {S H : Hp} (sub : Same S H) {ls : List (Key × V)} {ms : List (T × D)} (rl : RepK P.K P.w S ls ms) : ∀ {ks : List (Key × V)} {kvs : List (T × D)}, RepK P.K P.w S ks kvs → kvs.all (fun kv => elV kv.2 (look kv.1 ms)) = true → ∀ p ∈ ks, ∃ u, valV ls p.1 = some u ∧ ElP P.K H p.2 u
  | _, _, .nil, _, p, hp => by cases hp
  | _, _, .cons (v := v) (k := k) (ks := ks) (d := d) (ds := ds) r t, h, p, hp => by
    rw [List.all_cons, Bool.and_eq_true] at h
    rcases List.mem_cons.mp hp with rfl | hp
    · have hh := h.1
      have lk := look_rep k rl
      cases e : look k ms with
      | none => simp only [e, elV] at hh; cases hh
      | some z =>
        simp only [e, elV, Bool.and_eq_true] at hh
        rw [e] at lk
        obtain ⟨u, hu, ru⟩ := lk
        exact ⟨u, hu, elP_S sub hh.1.1 hh.1.2 hh.2 r ru⟩
    · exact elKs_S sub rl t h.2 p hp
theorem elK_S {P : Pm} {S H : Hp} (sub : Same S H) {x y : V} {a b : D} (h : elD a b = true) (rx : P.Rep S x a) (ry : P.Rep S y b) : ElK P.K H x y := by
  unfold elD at h
  split at h
  · rename_i kvs ms
    simp only [Bool.and_eq_true, decide_eq_true_eq] at h
    cases rx with
    | dic h1 r1 =>
      cases ry with
      | dic h2 r2 => exact .inr ⟨_, _, _, _, rfl, rfl, sub _ _ h1, sub _ _ h2, by rw [repK_len r1, repK_len r2]; exact h.1, elKs_S sub r2 r1 h.2⟩
  · simp only [Bool.and_eq_true] at h
    exact .inl (elP_S sub h.1.1 h.1.2 h.2 rx ry)
theorem elLs_S {P : Pm} {S H : Hp} (sub : Same S H) : ∀ {xs ys : List D} {vs us : List V}, elDs xs ys = true → P.Reps S vs xs → P.Reps S us ys → Paired (ElK P.K H) vs us
  | [], [], _, _, _, r1, r2 => by cases r1; cases r2; exact .nil
  | [], _ :: _, _, _, h, _, _ => by simp [elDs] at h
  | _ :: _, [], _, _, h, _, _ => by simp [elDs] at h
  | a :: xs, b :: ys, _, _, h, r1, r2 => by
    simp only [elDs, Bool.and_eq_true] at h
    cases r1 with
    | cons p1 t1 =>
      cases r2 with
      | cons p2 t2 => exact .cons (elK_S sub h.1 p1 p2) (elLs_S sub h.2 t1 t2)
def rNes (K : PySem.W.Frag) : R2 := fun x y H Q => rNeD K x y H Q ∨ rNeX K x y H Q
theorem nes_S {P : Pm} : CmpS P (rNes P.K) (cmpD .nes) := by
  intro H S Q x y a b k sub hx hy e q
  simp only [cmpD] at e
  unfold nesD at e
  split at e
  · rename_i r hr
    exact .inl (ne_S H S Q x y a b k sub hx hy (by simp only [cmpD, hr, Option.map_some]; exact e) q)
  · split at e
    · rename_i xs ys
      split at e
      · rename_i hd
        cases e
        obtain ⟨p, vs, rfl, h1, r1⟩ := hx.toLst sub
        obtain ⟨p', us, rfl, h2, r2⟩ := hy.toLst sub
        exact .inr ⟨p, p', vs, us, rfl, rfl, h1, h2, elLs_S sub hd r1 r2, q⟩
      · cases e
    · cases e
end Dl

namespace Dl
open PySem L2
/-! ### zip of a list or a tuple with a text -/
def SqX (tup : Bool) (K : PySem.W.Frag) (H : Hp) (a : Addr) (xs : List V) : Prop := match tup with
  | false => SqL K H a xs
  | true => SqT K H a xs
def ItX (tup : Bool) (h : Heap) (it a : Addr) (i : Nat) : Prop := match tup with
  | false => h.IsListIter it a i
  | true => h.IsTupleIter it a i
theorem ItX.obj {tup : Bool} {h : Heap} {it a : Addr} {i : Nat} (x : ItX tup h it a i) : ∃ o, h.get? it = some o ∧ ∀ v, o.data ≠ .cell v := by
  cases tup with
  | false =>
    obtain ⟨o, e, _, d⟩ := (show h.IsListIter it a i from x)
    exact ⟨o, e, fun v z => by rw [d] at z; cases z⟩
  | true =>
    obtain ⟨o, e, _, d⟩ := (show h.IsTupleIter it a i from x)
    exact ⟨o, e, fun v z => by rw [d] at z; cases z⟩
theorem ItX.mv {tup : Bool} {h h' : Heap} {it a : Addr} {i : Nat} (x : ItX tup h it a i) (k : ∀ o, h.get? it = some o → h'.get? it = some o) : ItX tup h' it a i := by
  cases tup with
  | false => exact (show h.IsListIter it a i from x).at k
  | true => exact (show h.IsTupleIter it a i from x).at k
section
variable {X : Cx} {pins : List (Addr × Obj)} {σ : St} {H : Hp} {s : Shared}
theorem src_draws {tup : Bool} {a it : Addr} {xs : List V} (hc : X.calm = true) (I : Inv X pins σ H s) (hq : SqX tup X.K H a xs) (ne : a ≠ it) :
    ∃ (its : List Value) (Q : Heap → Prop), Vals xs its ∧ Q s.heap ∧ Draws X.prog X.w X.A.in1 it [it, a] its.toArray.size (fun i v => its.toArray[i]? = some v) (fun i h => ItX tup h it a i ∧ Q h) := by
  have hh : X.A.in1.handled = none := I.ok.hd hc
  cases tup with
  | false =>
    obtain ⟨its, rv, p, _⟩ := I.list (show SqL X.K H a xs from hq)
    exact ⟨its, fun h => h.IsList a its.toArray, rv, p.isList, Draws.list hh it a ne its.toArray⟩
  | true =>
    obtain ⟨its, rv, p, _⟩ := I.tuple (show SqT X.K H a xs from hq)
    exact ⟨its, fun h => h.IsTuple a its.toArray, rv, p, Draws.tuple hh it a ne its.toArray⟩
theorem txt_draws (hc : X.calm = true) (I : Inv X pins σ H s) (it : Addr) (x : Str) (t : Tok) :
    Draws X.prog X.w X.A.in1 it [it] x.cps.size (fun i v => ∃ c u, x.cps[i]? = some c ∧ v = .str ⟨#[c]⟩ u) (fun i h => h.IsStrIter it (strIterType x) x t i) := by
  have hh : X.A.in1.handled = none := I.ok.hd hc
  unfold strIterType
  split
  · exact Draws.strAscii hh it x t
  · exact Draws.strWide hh it x t
end
/-- pairs of an item and a sign -/
def ItzX (tup : Bool) (K : PySem.W.Frag) (a : Addr) (x : Str) : It :=
  ⟨fun i H => ∃ (xs : List V) (v : V) (c : Nat), SqX tup K H a xs ∧ xs[i]? = some v ∧ x.cps[i]? = some c,
    fun i H u H' => ∃ T v c, u = .ref T ∧ H T = none ∧ H' = upd H T (.tup [v, .str ⟨#[c]⟩]) ∧ (∀ xs, SqX tup K H a xs → xs[i]? = some v) ∧ x.cps[i]? = some c,
    fun i H => ∃ xs : List V, SqX tup K H a xs ∧ i = min xs.length x.cps.size⟩
theorem turn_zipX {P : Program} {w : World} {K : PySem.W.Frag} {tup : Bool} {es : List Expr} {kk : Nat} {tp : Pos} {a z TI TO i1 i2 : Addr} {x : Str} {t : Tok} (D : ZipSep2 z TI TO i1 i2 [i1, a] [i2]) (ne : a ≠ i1) :
    Turn P w K (.Tuple es kk tp) (ItzX tup K a x) [z, TI, TO, i1, i2] z (fun i h => (IsZip h z TI TO .none ∧ IsTupOf2 h TI (.ref i1) (.ref i2) ∧ ∃ u v, IsTupOf2 h TO u v) ∧ ItX tup h i1 a i ∧ h.IsStrIter i2 (strIterType x) x t i) where
  mem := List.mem_cons_self
  obj := fun i h ⟨⟨g1, g2, u, v, g3⟩, g4, o5, g5, _, d5⟩ b hb => by
    simp only [List.mem_cons, List.not_mem_nil, or_false] at hb
    rcases hb with rfl | rfl | rfl | rfl | rfl
    · exact ⟨_, g1, fun v q => nomatch q⟩
    · exact ⟨_, g2, fun v q => nomatch q⟩
    · exact ⟨_, g3, fun v q => nomatch q⟩
    · exact g4.obj
    · exact ⟨o5, g5, fun v q => by rw [d5] at q; cases q⟩
  keep := fun i h h' ⟨⟨g1, g2, u, v, g3⟩, g4, o5, g5, g6⟩ k => ⟨⟨k _ (by simp) _ g1, k _ (by simp) _ g2, u, v, k _ (by simp) _ g3⟩, g4.mv fun o e => k _ (by simp) o e, o5, k _ (by simp) _ g5, g6⟩
  item := by
    intro X eP ew eK hc i pins s σ H E I hf ⟨⟨g1, g2, p0, q0, g3⟩, g4, g5⟩ ⟨xs, v, c, hq, hv, hx⟩
    subst eP ew eK
    obtain ⟨its, Q, rv, hQ, D1⟩ := src_draws hc I hq ne
    have D2 := txt_draws hc I i2 x t
    obtain ⟨u, hu, ru⟩ := rv.get hv
    have l1 : i < its.toArray.size := by
      have : i < its.length := (List.getElem?_eq_some_iff.mp hu).1
      simpa using this
    have l2 : i < x.cps.size := (Array.getElem?_eq_some_iff.mp hx).1
    have zlt : z < s.heap.objs.size := Heap.lt_size g1
    refine wpAny_pyNext_zipD2_item D D1 D2 g1 g2 g3 ⟨g4, hQ⟩ g5 l1 l2 fun u1 u2 h1 tk e1 e2 n1 n3 n4 n5 nT nsz nk => ?_
    obtain ⟨c', t', e3, rfl⟩ := e2
    rw [hx] at e3; cases e3
    have e1 : its.toArray[i]? = some u1 := e1
    have e4 : u1 = u := by
      have : its.toArray[i]? = some u := by simpa using hu
      rw [this] at e1
      exact (Option.some.inj e1).symm
    subst e4
    refine ⟨_, rfl, wpAny_letOwnedTupleGo_zip (s := { s with heap := h1, toks := tk }) n1 fun h2 m1 sb => ?_⟩
    have mT := (sb.2 _ (Nat.ne_of_gt zlt)).trans nT
    have newO : ObjOk X.prog X.w (upd H s.heap.objs.size (.tup [v, .str ⟨#[c]⟩])) h2 s.heap.objs.size (.tup [v, .str ⟨#[c]⟩]) :=
      ⟨by show 2 ≤ sizeLine; decide, [u1, .str ⟨#[c]⟩ t'], .cons ru (.cons ⟨t', rfl⟩ .nil), ⟨_, mT, rfl, _, rfl⟩⟩
    have keepAll : ∀ (b : Addr) (o : Obj), b ∉ [z, TI, TO, i1, i2] → s.heap.get? b = some o → h2.get? b = some o := fun b o nb e => by
      simp only [List.mem_cons, List.not_mem_nil, or_false, not_or] at nb
      exact (sb.2 b nb.1).trans (nk b o nb.1 nb.2.2.1 nb.2.2.2.1 nb.2.2.2.2 e)
    have I2 := I.turnedNew (t' := tk) (ch := [z, TI, TO, i1, i2]) keepAll hf (Nat.le_refl _) newO
    have TIn : TI ≠ z ∧ TI ≠ TO ∧ TI ≠ i1 ∧ TI ≠ i2 := ⟨D.TIz, D.TITO, D.TIi1, D.TIi2⟩
    have i1z : i1 ≠ z := fun e => D.zi1 e.symm
    have i2z : i2 ≠ z := fun e => D.zi2 e.symm
    refine ⟨.ref s.heap.objs.size, _, I2, rfl, ⟨s.heap.objs.size, v, c, rfl, I.hok.fresh (Nat.le_refl _), rfl, fun ys hy => ?_, hx⟩, ⟨⟨m1, (sb.2 _ TIn.1).trans (nk _ _ TIn.1 TIn.2.1 TIn.2.2.1 TIn.2.2.2 g2), u1, _, (sb.2 _ D.TOz).trans n3⟩, n4.1.mv fun o e => (sb.2 _ i1z).trans e, ?_⟩, fun b hb => ?_⟩
    · cases tup with
      | false => rw [I.list_inj (show SqL X.K H a ys from hy) hq]; exact hv
      | true => rw [I.tuple_inj (show SqT X.K H a ys from hy) hq]; exact hv
    · obtain ⟨o, e, r⟩ := n5
      exact ⟨o, (sb.2 _ i2z).trans e, r⟩
    · have lt : b < s.heap.objs.size := by
        simp only [List.mem_cons, List.not_mem_nil, or_false] at hb
        rcases hb with rfl | rfl | rfl | rfl | rfl
        · exact zlt
        · exact Heap.lt_size g2
        · exact Heap.lt_size g3
        · obtain ⟨o, e, _⟩ := g4.obj; exact Heap.lt_size e
        · obtain ⟨o, e, _⟩ := g5; exact Heap.lt_size e
      rw [upd_ne (Nat.ne_of_lt lt)]
      exact (hf b hb).1
  done := by
    intro X eP ew eK hc i pins s σ H E I hf ⟨⟨g1, g2, p0, q0, g3⟩, g4, g5⟩ ⟨xs, hq, hi⟩
    subst eP ew eK
    obtain ⟨its, Q, rv, hQ, D1⟩ := src_draws hc I hq ne
    have D2 := txt_draws hc I i2 x t
    have len : its.toArray.size = xs.length := by rw [List.size_toArray]; exact rv.length.symm
    refine wpAny_pyNext_zipD2_end D D1 D2 g1 g2 g3 ⟨g4, hQ⟩ g5 (by omega) (by omega) (by omega) fun h1 tk nk => ⟨rfl, I.turnedL (t' := tk) (ch := [z, TI, TO, i1, i2]) (fun b o nb e => ?_) hf⟩
    simp only [List.mem_cons, List.not_mem_nil, or_false, not_or] at nb
    exact nk b o nb.1 nb.2.2.1 nb.2.2.2.1 nb.2.2.2.2 e
  self := fun A i s Q E st q => wpAny_pyIter_zip st.1.1 q
def iZipX (K : PySem.W.Frag) (ta : TA) : TI := fun σ H R => ta σ H fun vs H1 => ∃ (tup : Bool) (a : Addr) (xs : List V) (x : Str), vs = [.ref a, .str x] ∧ SqX tup K H1 a xs ∧ R (ItzX tup K a x) H1
theorem pi_zipX {X : Cx} {e e2 : Expr} {ta : TA} {p pos tpos : Pos} {elts : List Expr} {kk : Nat} (hg : Gl X "zip") (hm : X.mg "zip" = none) (ha : PA X [e, e2] ta)
    (hs : starEach [e, e2] X.env = (false, eval e X.env) :: starEach [e2] X.env) (hpl : (backTo pos (starEach [e2] X.env)).any (·.1) = false) :
    PI X (.Tuple elts kk tpos) (.Call (.Name "zip" p) [e, e2] [] pos) (iZipX X.K ta) := by
  refine ⟨fun pins s σ H R I h => PyProof.Rows.Call_ (ld_blt I hg hm PyProof.Rows.boot_zip (PyProof.Rows.callWith_type1 (thn (ha.run pos pins s σ H _ I h) fun us s1 ⟨vs, H1, I1, rel, tup, a, xs, x, ev, hq, q⟩ => ?_) hs hpl))⟩
  subst ev
  cases rel with
  | cons ra rest =>
    cases rest with
    | cons rx rest =>
      cases rest
      cases ra
      obtain ⟨t, rfl⟩ := rx
      let N := s1.heap.objs.size
      have fin : ∀ (o1 : Obj) (H1' : Heap → Prop) (B : Begins (.ref a) o1 H1') (b : H1' s1.heap) (lt : a < N) (st : ∀ h : Heap, h.get? N = some o1 → ItX tup h N a 0), wpAny (model X.prog X.w) X.A (PySem.call (.type "zip") [.ref a, .str x t]) (fun v s1 => wpAny (model X.prog X.w) X.A (pyIter v) (PIE X pins σ (.Tuple elts kk tpos) R) X.xe s1) X.xe s1 := fun o1 H1' B b lt st => by
        refine zip_begins2 B (begins_text x t) b trivial fun h' g1 g2 g3 g4 g5 gs gk => wpAny_pyIter_zip g1 ?_
        have I2 : Inv X pins σ H1 { s1 with heap := h' } := I1.kept (t' := s1.toks) gk
        refine ⟨N + 4, [N + 4, N + 2, N + 3, N, N + 1], _, _, H1, rfl, I2, turn_zipX (t := t) (zip_sep2 (fp1 := [a]) (fp2 := []) (fun b hb => by rw [List.mem_singleton.mp hb]; exact lt) (fun b hb => by cases hb)) (Nat.ne_of_lt lt), ⟨⟨g1, g2, _, _, g3⟩, st h' g4, ⟨_, g5, rfl, rfl⟩⟩, fun b hb => ?_, q⟩
        have up : N ≤ b := by
          simp only [List.mem_cons, List.not_mem_nil, or_false] at hb
          rcases hb with rfl | rfl | rfl | rfl | rfl <;> first | exact Nat.le_refl _ | exact Nat.le_add_right _ _
        exact I1.fpOk up (I1.hok.fresh up)
      cases tup with
      | false =>
        obtain ⟨its, rv, p1, _⟩ := I1.list (show SqL X.K H1 a xs from hq)
        exact fin _ _ (begins_list a its.toArray) p1.isList p1.lt fun h g => ⟨_, g, rfl, rfl⟩
      | true =>
        obtain ⟨its, rv, p1, _⟩ := I1.tuple (show SqT X.K H1 a xs from hq)
        have lt : a < s1.heap.objs.size := by
          obtain ⟨o, e, _⟩ := p1
          exact Heap.lt_size e
        exact fin _ _ (begins_tuple a its.toArray) p1 lt fun h g => ⟨_, g, rfl, rfl⟩
section
variable {P : Pm} {S : Hp} {a : Addr} {vs : List V} {ds : List D} {l : T}
def zipS (ds : List D) (l : T) : List D := zipD ds (l.map fun c => D.str [c])
theorem zipS_len : (zipS ds l).length = min ds.length l.length := by
  unfold zipS
  rw [zipD_len, List.length_map]
theorem zipS_get {i : Nat} {d : D} (h : (zipS ds l)[i]? = some d) : ∃ x c, ds[i]? = some x ∧ l[i]? = some c ∧ d = .tup [x, .str [c]] := by
  obtain ⟨x, y, h1, h2, rfl⟩ := zipD_get h
  rw [List.getElem?_map] at h2
  cases e : l[i]? with
  | none => rw [e] at h2; cases h2
  | some c => rw [e] at h2; cases h2; exact ⟨x, c, h1, rfl, rfl⟩
theorem its_zipX {tup : Bool} {o : HO} (ho : ∀ H : Hp, H a = some o → SqX tup P.K H a vs) (r : P.Reps S vs ds) : ItS P S (ItzX tup P.K a (sT l)) [(a, o)] (zipS ds l) where
  go := fun i H h hs => by
    rw [zipS_len] at h
    obtain ⟨x, hx⟩ := lt_of_get (l := vs) (i := i) (by rw [r.length]; omega)
    obtain ⟨c, hc⟩ := lt_of_get (l := l) (i := i) (by omega)
    exact ⟨vs, x, c, ho H (Has.h1 hs), hx, by show l.toArray[i]? = some c; simpa using hc⟩
  stop := fun H hs => ⟨vs, ho H (Has.h1 hs), by rw [zipS_len, r.length]; show _ = min _ l.toArray.size; simp⟩
  yld := fun i d H S' x H' hd hs e1 sub y => by
    obtain ⟨T0, v, c, rfl, np, rfl, y1, y2⟩ := y
    obtain ⟨d1, c', h1, h2, rfl⟩ := zipS_get hd
    obtain ⟨v', hv, rv⟩ := Reps.get r h1
    have z1 := y1 vs (ho H (Has.h1 hs))
    rw [hv] at z1; cases z1
    have y2 : l.toArray[i]? = some c := y2
    have z2 : l[i]? = some c := by simpa using y2
    rw [h2] at z2; cases z2
    exact ⟨_, Grow.new sub np, pair_rep sub np (Rep.mono e1 _ _ rv) (.str [c])⟩
end
section
variable {C : Cn} {a b : Expr} {ma mb : E} {p pos : Pos}
theorem si_zipS {es : List Expr} {kk : Nat} {tp : Pos} (hK : C.X.K = C.P.K) (hg : Gl C.X "zip") (hm : C.X.mg "zip" = none) (ha : SD C a ma) (hb : SD C b mb) (hs : starEach [a, b] C.X.env = (false, eval a C.X.env) :: starEach [b] C.X.env) (hs2 : starEach [b] C.X.env = [(false, eval b C.X.env)])
    (hpl : (backTo pos (starEach [b] C.X.env)).any (·.1) = false) : SI C false (.Tuple es kk tp) (.Call (.Name "zip" p) [a, b] [] pos) (.zips ma mb) := by
  obtain ⟨t, pt, et⟩ := ha
  obtain ⟨t2, pt2, et2⟩ := hb
  refine ⟨_, pi_zipX hg hm (pa_cons pt (pa_cons pt2 pa_nil hs2) hs) hs hpl, fun σ env H S R ok q => ?_⟩
  rw [itR_nv rfl] at q
  simp only [ev, val_bd, bd_bd] at q
  refine et σ env H S _ ok (RG.bind (fa := (ev C.G ma env).val) q fun d env1 x H1 S1 e1 ok1 r1 q1 => ?_)
  refine et2 σ env1 H1 S1 _ ok1 (RG.bind (fa := (ev C.G mb env1).val) q1 fun d2 env2 y H2 S2 e2 ok2 r2 q2 => ?_)
  have r1 := Rep.mono e2.s _ _ r1
  rw [hK]
  cases d2 with
  | str l =>
    cases r2
    cases d with
    | lst ds =>
      cases r1 with
      | lst h1 r1 =>
        refine ⟨false, _, _, sT l, rfl, .of (ok2.sub _ _ h1), RG.now (u := zipS ds l) q2 ok2 ⟨_, fun p hp => ?_, fun _ p hp => ?_, its_zipX (tup := false) (fun H h => .of h) r1⟩⟩
        · simp only [List.mem_singleton] at hp; subst hp; exact ok2.sub _ _ h1
        · simp only [List.mem_singleton] at hp; subst hp; exact h1
    | tup ds =>
      cases r1 with
      | tup h1 r1 =>
        refine ⟨true, _, _, sT l, rfl, .of (ok2.sub _ _ h1), RG.now (u := zipS ds l) q2 ok2 ⟨_, fun p hp => ?_, fun _ p hp => ?_, its_zipX (tup := true) (fun H h => .of h) r1⟩⟩
        · simp only [List.mem_singleton] at hp; subst hp; exact ok2.sub _ _ h1
        · simp only [List.mem_singleton] at hp; subst hp; exact h1
    | _ => exact q2.elim
  | _ => cases d <;> exact q2.elim
end
end Dl

namespace Dl
open PySem L2
/-! ### sorted(set(..)) of whole numbers -/
theorem insU_mem (k x : Int) : ∀ l : List Int, x ∈ insU k l ↔ x = k ∨ x ∈ l
  | [] => by simp [insU]
  | y :: r => by
    unfold insU
    split
    · simp
    · split
      · rename_i h; subst h; simp
      · simp only [List.mem_cons, insU_mem k x r]
        constructor
        · rintro (h | h | h) <;> simp [h]
        · rintro (h | h | h) <;> simp [h]
theorem sortU_mem (x : Int) : ∀ l : List Int, x ∈ sortU l ↔ x ∈ l
  | [] => by simp [sortU]
  | y :: r => by
    show x ∈ insU y (sortU r) ↔ _
    rw [insU_mem, sortU_mem x r, List.mem_cons]
theorem insU_up (k : Int) : ∀ l : List Int, l.Pairwise (· < ·) → (insU k l).Pairwise (· < ·)
  | [], _ => by simp [insU]
  | y :: r, h => by
    rw [List.pairwise_cons] at h
    unfold insU
    split
    · rename_i hk
      refine List.pairwise_cons.mpr ⟨fun z hz => ?_, List.pairwise_cons.mpr h⟩
      rcases List.mem_cons.mp hz with rfl | hz
      · exact hk
      · have := h.1 z hz; omega
    · split
      · exact List.pairwise_cons.mpr h
      · refine List.pairwise_cons.mpr ⟨fun z hz => ?_, insU_up k r h.2⟩
        rcases (insU_mem k z r).mp hz with rfl | hz
        · omega
        · exact h.1 z hz
theorem sortU_up : ∀ l : List Int, (sortU l).Pairwise (· < ·)
  | [] => .nil
  | y :: r => insU_up y _ (sortU_up r)
theorem up_eq : ∀ (l m : List Int), l.Pairwise (· < ·) → m.Pairwise (· < ·) → (∀ x, x ∈ l ↔ x ∈ m) → l = m
  | [], [], _, _, _ => rfl
  | [], y :: r, _, _, h => by have := (h y).mpr List.mem_cons_self; cases this
  | y :: r, [], _, _, h => by have := (h y).mp List.mem_cons_self; cases this
  | x :: l, y :: m, h1, h2, h => by
    rw [List.pairwise_cons] at h1 h2
    have e : x = y := by
      rcases List.mem_cons.mp ((h x).mp List.mem_cons_self) with e | e
      · exact e
      · rcases List.mem_cons.mp ((h y).mpr List.mem_cons_self) with e' | e'
        · exact e'.symm
        · have a := h2.1 x e
          have b := h1.1 y e'
          omega
    subst e
    refine congrArg (List.cons x) (up_eq l m h1.2 h2.2 fun z => ?_)
    constructor
    · intro hz
      rcases List.mem_cons.mp ((h z).mp (List.mem_cons_of_mem _ hz)) with e | e
      · have := h1.1 z hz; omega
      · exact e
    · intro hz
      rcases List.mem_cons.mp ((h z).mpr (List.mem_cons_of_mem _ hz)) with e | e
      · have := h2.1 z hz; omega
      · exact e
end Dl
namespace Dl
open PySem PySem.Spec PyProof.Rows L2
abbrev emSet (w : World) : Obj := ⟨.type "set", none, .set #[] 0 (.fresh 0 0 (!w.params.followText "set-order")), #[]⟩
/-- what set(..) of such numbers leaves -/
def SetL (w : World) (s : Shared) (ns : List Int) (s₂ : Shared) : Prop := ∃ g tk c,
  s₂ = { s with heap := g, toks := tk } ∧ SetR w g s.heap.objs.size (fun j => decide (j ∈ ns)) c ∧ c ≤ ns.length ∧
    ∀ b o, s.heap.get? b = some o → g.get? b = some o
section
variable {P : Program} {w : World} {A : Around} {E : Value → Shared → Prop} {s : Shared}
set_option maxHeartbeats 3200000 in
theorem dl_setList {l : Addr} {items : Array Value} (ns : List Int) {Q : Value → Shared → Prop} (hh : A.handled = none)
    (hl : s.heap.IsList l items) (hit : IntsAre items.toList ns) (hb : ns.length + 1 < scanBound)
    (h : ∀ s₂, SetL w s ns s₂ → Q (.ref s.heap.objs.size) s₂) :
    wpAny (model P w) A (call (.type "set") [.ref l]) Q E s := by
  have hisz : items.size = ns.length := by
    have := IntsAre.length hit
    rwa [Array.length_toList] at this
  obtain ⟨c, tl, hmro⟩ := F.called_set.mro
  have hmade := F.called_set.made; have hsub := F.called_set.sub
  refine wpAny_call (codeAny_of_tree ?_)
  show wpAny _ _ (callAny (.type "set") _) _ _ _
  refine wpAny_pure ⟨Code.quiet_builtin _ (by decide +kernel),
    codeAny_builtin F.entry_type_call ?_⟩
  rw [Around.under_plain (weight_type_call_type "set" _ []) rfl]
  have h1 := F.called_set.notType; have h2 := F.called_set.canCreate
  have hct := F.typeCall_set_1 (.ref l)
  repeat (any_goals
    (first | assumption | wp_step))
  refine codeAny_mono (code_set_led1 (.ref l) (E := E)
    (Q₁ := fun v z => v = .ref s.heap.objs.size ∧ z = { s with heap := s.heap.push (emSet w) }) ⟨rfl, rfl⟩) fun r s₁ hr => ?_
  cases r with
  | error e => exact hr
  | ok fl =>
    cases fl with
    | ret obj =>
      obtain ⟨rfl, rfl⟩ := hr
      have hS : (s.heap.push (emSet w)).get? s.heap.objs.size = some (emSet w) := Heap.get?_push_size _ rfl
      have hT : Shared.TypeIs { s with heap := s.heap.push (emSet w) } (.ref s.heap.objs.size) "set" := ⟨_, hS, rfl⟩
      have hli := F.called_set.init.lookup; have hbi := F.called_set.init.bind (.ref s.heap.objs.size)
      repeat (any_goals
        (first | assumption | wp_step))
      refine codeAny_mono (codeAny_call_builtin (R := wants (fun r z => r = .none ∧ SetL w s ns z) E)
        F.called_set.init.plain F.entry_set_init (check_set_init_1 hT ?_)) fun r₂ s₂ hr₂ => ?_
      · obtain ⟨⟨k0, k1, k2, k3⟩, hol, hcl, nl, hdl⟩ := hl
        simp only at hcl hdl
        subst hcl; subst hdl
        have hol' : (s.heap.push (emSet w)).get? l = some ⟨.type "list", k1, .seq items nl, k3⟩ := Heap.get?_push_of_some _ hol
        have hsls := F.sub_list_set; have hslf := F.sub_list_frozenset
        have hne : (Value.type "list" == Value.type "dict") = false := by decide
        have hl1 : (s.heap.push (emSet w)).IsList l items := ⟨_, hol', rfl, nl, rfl⟩
        unfold Builtin.«set.__init__» noKeywords
        unfold Builtin.Frozenset.updateFrom
        generalize hPI : pyIter = PI
        wp_walk
        subst hPI
        refine wpAny_pyIter_list hl1 (wpAny_bind (wpAny_runValue ?_))
        have hlS : l < s.heap.objs.size := Heap.lt_size hol
        have hh3 : A.in1.in1.in1.handled = none := by simp [hh]
        have hz1 : (s.heap.push (emSet w)).objs.size = s.heap.objs.size + 1 := Heap.size_push ..
        have hneI : l ≠ (s.heap.push (emSet w)).objs.size := by rw [hz1]; exact Nat.ne_of_lt (Nat.lt_succ_of_lt hlS)
        have hSf : s.heap.objs.size ∉ [(s.heap.push (emSet w)).objs.size, l] := by
          simp only [List.mem_cons, List.not_mem_nil, or_false, not_or]
          exact ⟨by rw [hz1]; exact Nat.ne_of_lt (Nat.lt_succ_self _), Nat.ne_of_gt hlS⟩
        have hval : ∀ (i : Nat) (v : Value), items[i]? = some v → ∃ k t, ns[i]? = some k ∧ v = .int k t := fun i v hv => by
          have hi : i < ns.length := by rw [← hisz]; exact (Array.getElem?_eq_some_iff.mp hv).1
          obtain ⟨t, e⟩ := IntsAre.int_at hit i v (by rw [Array.getElem?_toList]; exact hv)
          exact ⟨ns[i], t, List.getElem?_eq_getElem hi, by rw [e, List.getD_eq_getElem?_getD, List.getElem?_eq_getElem hi]; rfl⟩
        refine set_update_ints ((Walks.list hh3 _ l hneI items).toS) _ hSf ns hisz hb hval (items.size - 0) 0 _
          (by omega) (Nat.zero_le _) ⟨⟨_, Heap.get?_push_size _ rfl, rfl, rfl⟩, hl1.push _⟩ ?hS0 ?hR
        case hS0 => exact ⟨0, Nat.le_refl 0, setR_new_at (Heap.get?_push_of_some _ hS)⟩
        case hR =>
          intro s' c' hm hc' hS'
          obtain ⟨h', g2, d', tk', os'⟩ := s'
          obtain rfl : g2 = s.gens := hm.gens
          obtain rfl : d' = s.drawn := hm.drawn
          obtain rfl : os' = s.os := hm.os
          show wpAny _ _ _ _ _ _
          refine wpAny_pure ?_
          show wpAny _ _ (ret Value.none) _ _ _
          refine wpAny_pure ⟨rfl, h', tk', c', rfl, hS', by omega, fun b o e => hm.heap b o ?_ (Heap.get?_push_of_some _ (Heap.get?_push_of_some _ e))⟩
          have hb0 : b < s.heap.objs.size := Heap.lt_size e
          simp only [List.mem_cons, List.not_mem_nil, or_false, not_or]
          exact ⟨Nat.ne_of_lt hb0, by rw [hz1]; exact Nat.ne_of_lt (Nat.lt_succ_of_lt hb0)⟩
      · cases r₂ with
        | error e => exact hr₂
        | ok fl₂ =>
          cases fl₂ with
          | ret r =>
            obtain ⟨rfl, hr₂⟩ := hr₂
            repeat (any_goals
              (first | assumption | wp_step))
            exact h _ hr₂
          | _ => exact hr₂.elim
    | _ => exact hr.elim
end
end Dl
namespace Dl
open PySem L2
def tSSet (K : PySem.W.Frag) (ta : TE) : TE := fun σ H Q => ta σ H fun x H1 => ∃ (l : Addr) (ns : List Int), x = V.ref l ∧ SqL K H1 l (ns.map V.int) ∧ ns.length < 4000 ∧ (sortU ns).length < 64 ∧ ∀ p, H1 p = none → Q (.ref p) (upd H1 p (.lst ((sortU ns).map V.int)))
section
variable {X : Cx}
theorem up_len : ∀ (l : List Int) (m : List Int), l.Nodup → m.Pairwise (· < ·) → (∀ x, x ∈ l ↔ x ∈ m) → l.length = m.length := fun l m h1 h2 h => by
  have hm : m.Nodup := h2.imp fun h => by omega
  exact ((List.perm_ext_iff_of_nodup h1 hm).mpr h).length_eq
theorem pe_sset {a : Expr} {ta : TE} {p p2 q pos : Pos} (hc : X.calm = true) (hg : Gl X "sorted") (hm : X.mg "sorted" = none) (hg2 : Gl X "set") (hm2 : X.mg "set" = none) (ha : PE X a ta)
    (na : starEach [a] X.env = (false, eval a X.env) :: starEach [] X.env) : PE X (.Call (.Name "sorted" p) [.Call (.Name "set" p2) [a] [] q] [] pos) (tSSet X.K ta) := by
  refine ⟨fun pins s σ H Q I h => ?_⟩
  refine PyProof.Rows.Call_ (ld_blt I hg hm PyProof.Rows.boot_sorted ?_)
  refine PyProof.Rows.callWith_builtin1 (PyProof.Rows.args_cons ?_ rfl) rfl rfl
  refine PyProof.Rows.Call_ (ld_blt I hg2 hm2 PyProof.Rows.boot_set ?_)
  refine PyProof.Rows.callWith_type1 (PyProof.Rows.args_cons (thn (ha.run pins s σ H _ I h) fun v s1 ⟨x, H1, I1, r1, q1⟩ => PyProof.Rows.args_nil ?_) na) na rfl
  obtain ⟨l, ns, rfl, hq, h1, h64, q1⟩ := q1
  cases r1
  obtain ⟨its, r, pl, hz⟩ := I1.list hq
  have hl : its.toArray.size = ns.length := by rw [List.size_toArray, ← r.length, List.length_map]
  refine dl_setList ns (I1.ok.hd hc) pl.isList (by simpa using r.ints) (by unfold scanBound; omega) fun s2 h2 => ?_
  obtain ⟨g, tk, c, rfl, R, hc', hk⟩ := h2
  refine PyProof.Rows.args_nil ?_
  have I2 : Inv X pins σ H1 { s1 with heap := g, toks := tk } := I1.kept hk
  have len : c = (sortU ns).length := by
    obtain ⟨o, es, ep, t, ho, hx, hd, gd, nd, hm, hb, hf, hn, _⟩ := R
    rw [← hn, ← Array.length_toList, ← List.length_map (f := keyOf)]
    refine up_len _ _ nd (sortU_up ns) fun x => ?_
    rw [sortU_mem, ← hm x, decide_eq_true_eq]
  have R : SetR X.w g s1.heap.objs.size (fun j => decide (j ∈ ns)) c := R
  refine sorted_set R (I2.ok.hd hc) (by rw [len]; exact h64) fun s' p out c2 ns' k g2 o hp hg hi hs hm hl => ?_
  have e1 : ns' = sortU ns := up_eq _ _ hs (sortU_up ns) fun x => by rw [hm x, sortU_mem, decide_eq_true_eq]
  subst e1
  have hlen : ((sortU ns).map V.int).length ≤ sizeLine := by rw [List.length_map, sizeLine_eq]; omega
  have hn : H1 p = none := I2.hok.fresh hp
  have J : Inv X pins σ (upd H1 p (.lst ((sortU ns).map V.int))) { ({ s1 with heap := g, toks := tk } : Shared) with heap := s'.heap, gens := s'.gens, drawn := s'.drawn, toks := s'.toks } :=
    I2.call (ch := []) (Un.laid k hp hn) (I2.hok.laid k hp ⟨hlen, out.toList, c2, vals_of_ints hi, hg⟩) (by rw [g2]; exact I2.bare) (fun _ z => nomatch z)
  have e : s' = { s1 with heap := s'.heap, gens := s'.gens, drawn := s'.drawn, toks := s'.toks } := by
    cases s'
    cases s1
    cases o
    rfl
  rw [e]
  exact ⟨.ref p, _, J, rfl, q1 p hn⟩
/-! ### sorted(.., key=len, reverse=True) of tuples -/
def lnV (H : Hp) : V → Nat
  | .ref t => (match H t with
    | some (.tup vs) => vs.length
    | _ => 0)
  | _ => 0
def geV (H : Hp) (a b : V) : Bool := decide (lnV H b ≤ lnV H a)
theorem each_vals : ∀ {us : List Value} {vs : List V}, Vals vs us → PySem.W.EachIs (fun u x => RelV x u) us vs
  | _, _, .nil => .nil
  | _, _, .cons r t => .cons r (each_vals t)
theorem vals_each : ∀ {us : List Value} {vs : List V}, PySem.W.EachIs (fun u x => RelV x u) us vs → Vals vs us
  | _, _, .nil => .nil
  | _, _, .cons r t => .cons r (vals_each t)
theorem srt_run {pins : List (Addr × Obj)} {s : Shared} {σ : LSt} {H : Hp} {a : Addr} {xs : List V} {Q : VK} (hu : X.A.units + 64 < cLine) (I : Inv X pins σ H s) (hs : SqL X.K H a xs) (ht : ∀ x ∈ xs, ∃ t vs, x = V.ref t ∧ H t = some (.tup vs))
    (q : ∀ p, H p = none → Q (.ref p) (upd H p (.lst (xs.mergeSort (geV H))))) :
    wpAny (model X.prog X.w) X.A (call (.builtin "sorted") [.ref a] [(Str.ofString "key", .builtin "len"), (Str.ofString "reverse", .bool true)]) (EP X pins σ Q) X.xe s := by
  obtain ⟨its, rv, hl, hz⟩ := I.list hs
  refine PySem.W.sorted_key_data (b := true) (fun x : V => .int (lnV H x)) hl.isList (each_vals rv) (PySem.W.AllAlike.of fun _ _ => by simp [PySem.W.alike]) (PySem.W.Sortable.others fun _ => ⟨(fun z => nomatch z), (fun _ z => nomatch z)⟩) hz (fun x _ => ?_) (PyProof.Rows.ksk_s2 _ _ _) (fun _ => PyProof.Rows.ksk_l2 _ _ _) (fun _ => PyProof.Rows.ksk_t5 _ _ _)
    (fun v x rx hx h tk kp => ?_) fun out c h' tk kp _ hD hlen eo => ?_
  · have : (PyData.int (lnV H x : Int)).depth = 0 := by simp [PyData.depth]
    omega
  · obtain ⟨t, vs, rfl, e⟩ := ht x hx
    cases rx
    obtain ⟨hz2, its2, r2, o, ho, hc, n, hd⟩ := I.hok _ _ e
    refine PyProof.Rows.len_tuple (t := t) (items := its2.toArray) ⟨o, kp _ _ ho, hc, n, hd⟩ ?_ ?_
    · rw [List.size_toArray, ← r2.length]
      rw [sizeLine_eq] at hz2
      omega
    · refine ⟨h, tk + 1 + 1, rfl, fun _ _ z => z, ?_⟩
      have e2 : ((its2.toArray.size : Nat) : Int) = (lnV H (.ref t) : Int) := by
        rw [List.size_toArray, ← r2.length]
        simp only [lnV, e]
      rw [e2]
      exact .int _ _
  · rw [PySem.W.dataGe_int (fun x : V => (lnV H x : Int))] at eo
    have e3 : (fun a b : V => decide ((lnV H b : Int) ≤ (lnV H a : Int))) = geV H := by
      funext a b
      unfold geV
      exact decide_eq_decide.mpr (by omega)
    rw [e3] at eo
    have hl2 : (xs.mergeSort (geV H)).length ≤ sizeLine := by rw [List.length_mergeSort]; exact hz
    exact ⟨.ref _, _, I.laid (o := .lst (xs.mergeSort (geV H))) (t' := tk) kp (Nat.le_succ _) ⟨hl2, out, c, vals_each eo, hD⟩, rfl, q _ (I.hok.fresh (Nat.le_succ _))⟩
def tSrt (K : PySem.W.Frag) (t : TA) : TE := fun σ H Q => t σ H fun vs H1 => ∃ a xs, vs = [V.ref a] ∧ SqL K H1 a xs ∧ (∀ x ∈ xs, ∃ t vs, x = V.ref t ∧ H1 t = some (.tup vs)) ∧ ∀ p, H1 p = none → Q (.ref p) (upd H1 p (.lst (xs.mergeSort (geV H1))))
theorem pe_srt {e : Expr} {t : TA} {p p2 p3 kp kp2 pos : Pos} {j : Nat} (hu : X.A.units + 64 < cLine) (hg : Gl X "sorted") (hm : X.mg "sorted" = none) (hg2 : Gl X "len") (hm2 : X.mg "len" = none) (ha : PA X [e] t)
    (he : backTo pos (starEach [e] X.env) = (false, eval e X.env) :: backTo pos (starEach [] X.env)) (hpl : (backTo pos (starEach [e] X.env)).any (·.1) = false) :
    PE X (.Call (.Name "sorted" p) [e] [⟨some "key", .Name "len" p2, kp⟩, ⟨some "reverse", .Constant (.bool true) j p3, kp2⟩] pos) (tSrt X.K t) := by
  refine ⟨fun pins s σ H Q I h => ?_⟩
  refine wpAny_Call_Name_kw (ld_blt I hg hm PyProof.Rows.boot_sorted ?_)
  refine PyProof.Rows.callWith_kw (thn (ha.run pos pins s σ H _ I h) fun us s1 ⟨vs, H1, I1, r1, q1⟩ => ?_) he hpl
  obtain ⟨a, xs, rfl, hs, ht, q⟩ := q1
  obtain rfl := Vals.ref1 r1
  show wpAny _ _ (evalAll [(do let v ← eval (.Name "len" p2) X.env; standAt pos; pure v), (do let v ← eval (.Constant (.bool true) j p3) X.env; standAt pos; pure v)]) _ _ s1
  refine wpAny_evalAll_cons (wpAny_bind (ld_blt I1 hg2 hm2 PySem.boot_len (wpAny_bind (wpAny_standAt (wpAny_pure ?_)))))
  refine wpAny_evalAll_cons (wpAny_bind (thn ((pe_bl (X := X) (b := true) (j := j) (pos := p3)).run pins _ σ H1 (fun x H2 => x = .bl true ∧ H2 = H1) I1 ⟨rfl, rfl⟩) fun v s2 ⟨x, H2, I2, r2, e1, e2⟩ => wpAny_bind (wpAny_standAt (wpAny_pure ?_))))
  subst e1 e2
  obtain rfl : v = Value.bool true := r2
  exact wpAny_evalAll_nil (srt_run hu I2 hs ht q)
end
end Dl

namespace Dl
open PySem L2
/-! ### .. in the small language -/
section
variable {C : Cn} {a e : Expr} {ma m : E} {p p1 p2 p3 pos : Pos}
theorem se_sset (hc : C.X.calm = true) (hK : C.X.K = C.P.K) (hg : Gl C.X "sorted") (hm : C.X.mg "sorted" = none) (hg2 : Gl C.X "set") (hm2 : C.X.mg "set" = none) (ha : SBo C a ma) (na : starEach [a] C.X.env = (false, eval a C.X.env) :: starEach [] C.X.env) :
    SE C (.Call (.Name "sorted" p1) [.Call (.Name "set" p2) [a] [] p3] [] pos) (.bi .sset [ma]) := by
  obtain ⟨t, pt, et⟩ := ha
  refine ⟨_, pe_sset hc hg hm hg2 hm2 pt na, fun σ env H S Q ok q => ?_⟩
  simp only [ev, evb, bd_bd] at q
  refine et σ env H S _ ok (RG.bind (fa := brw ma (ev C.G ma env) env) q fun d env1 x H1 S1 e1 ok1 r1 q1 => ?_)
  simp only [bd_ok] at q1
  cases d with
  | lst ds =>
    simp only [biD] at q1
    cases e : intsD ds with
    | none => rw [e] at q1; exact q1.elim
    | some ns =>
      rw [e, Option.bind_some] at q1
      split at q1
      · rename_i hn
        obtain ⟨b, vs, rfl, h1, r1⟩ := r1.toLst ok1.sub
        have ev := reps_ints e r1
        subst ev
        rw [hK]
        refine ⟨b, ns, rfl, .of h1, hn.1, hn.2, fun l nl => RG.newL q1 ok1 nl ?_⟩
        have key : ∀ l : List Int, C.P.Reps S1 (l.map V.int) (l.map D.int) := by
          intro l
          induction l with
          | nil => exact .nil
          | cons k r ih => exact .cons (.int k) ih
        exact key _
      · exact q1.elim
  | _ => exact q1.elim
theorem reps_tps {P : Pm} {H S : Hp} (sub : Same S H) : ∀ {vs : List V} {ds : List D}, P.Reps S vs ds → ds.all isTp = true → ∀ x ∈ vs, ∃ t us, x = V.ref t ∧ H t = some (.tup us)
  | _, _, .nil, _, x, hx => by cases hx
  | _, _, .cons (d := d) r t, h, x, hx => by
    rw [List.all_cons, Bool.and_eq_true] at h
    rcases List.mem_cons.mp hx with rfl | hx
    · cases r with
      | tup h1 _ => exact ⟨_, _, rfl, sub _ _ h1⟩
      | _ => cases h.1
    · exact reps_tps sub t h.2 x hx
theorem rep_ln {P : Pm} {H S : Hp} (sub : Same S H) {v : V} {d : D} (r : P.Rep S v d) (h : isTp d = true) : lnV H v = tlen d := by
  cases r with
  | tup h1 r1 =>
    simp only [lnV, sub _ _ h1, tlen]
    exact r1.length
  | _ => cases h
theorem reps_each {P : Pm} {S : Hp} : ∀ {vs : List V} {ds : List D}, P.Reps S vs ds → PySem.W.EachIs (fun v d => P.Rep S v d) vs ds
  | _, _, .nil => .nil
  | _, _, .cons r t => .cons r (reps_each t)
theorem each_reps {P : Pm} {S : Hp} : ∀ {vs : List V} {ds : List D}, PySem.W.EachIs (fun v d => P.Rep S v d) vs ds → P.Reps S vs ds
  | _, _, .nil => .nil
  | _, _, .cons r t => .cons r (each_reps t)
theorem reps_srt {P : Pm} {H S : Hp} (sub : Same S H) {vs : List V} {ds : List D} (r : P.Reps S vs ds) (h : ds.all isTp = true) : P.Reps S (vs.mergeSort (geV H)) (srtL ds) := by
  refine each_reps (PySem.W.sort_each (reps_each r) fun p hp q hq => ?_)
  have k1 := (reps_each r).zip p hp
  have k2 := (reps_each r).zip q hq
  have m1 := List.all_eq_true.mp h _ (List.of_mem_zip hp).2
  have m2 := List.all_eq_true.mp h _ (List.of_mem_zip hq).2
  unfold geV
  rw [rep_ln sub k1 m1, rep_ln sub k2 m2]
theorem se_srt {j : Nat} {kp kp2 : Pos} (hu : C.X.A.units + 65 < cLine) (hK : C.X.K = C.P.K) (hg : Gl C.X "sorted") (hm : C.X.mg "sorted" = none) (hg2 : Gl C.X "len") (hm2 : C.X.mg "len" = none) (ha : SAb C [a] [ma])
    (he : backTo pos (starEach [a] C.X.env) = (false, eval a C.X.env) :: backTo pos (starEach [] C.X.env)) (hpl : (backTo pos (starEach [a] C.X.env)).any (·.1) = false) :
    SE C (.Call (.Name "sorted" p1) [a] [⟨some "key", .Name "len" p2, kp⟩, ⟨some "reverse", .Constant (.bool true) j p3, kp2⟩] pos) (.bi .srtl [ma]) := by
  obtain ⟨t, pt, et⟩ := ha
  refine ⟨_, pe_srt (by omega) hg hm hg2 hm2 pt he hpl, fun σ env H S Q ok q => ?_⟩
  simp only [ev] at q
  refine et σ env H S _ ok (RG.bind q fun ds env1 xs H1 S1 e1 ok1 r1 q1 => ?_)
  match ds, r1, q1 with
  | [d], r1, q1 =>
    obtain ⟨x, rfl, rb⟩ := bors1 r1
    cases d with
    | lst ds =>
      simp only [biD] at q1
      split at q1
      · rename_i hn
        obtain ⟨b, vs, rfl, h1, r3⟩ := rb.toLst ok1.sub
        rw [hK]
        exact ⟨b, vs, rfl, .of h1, reps_tps ok1.sub r3 hn, fun l nl => RG.newL q1 ok1 nl (reps_srt ok1.sub r3 hn)⟩
      · exact q1.elim
    | _ => exact q1.elim
  | [], r1, q1 => exact q1.elim
  | d :: _ :: _, r1, q1 => cases d <;> exact q1.elim
/-! ### append at a call's list -/
def tupH (S : Hp) : Hp := fun a => match S a with
  | some (.tup vs) => some (.tup vs)
  | _ => none
theorem tupH_same (S : Hp) : Same (tupH S) S := fun a o h => by
  unfold tupH at h
  split at h
  · rename_i vs e; rw [e]; exact h
  · cases h
theorem tupH_at {S : Hp} {a : Addr} {vs : List V} (h : S a = some (.tup vs)) : tupH S a = some (.tup vs) := by
  unfold tupH
  rw [h]
theorem tupH_lst {S : Hp} {a : Addr} {vs : List V} (h : tupH S a = some (.lst vs)) : False := by
  unfold tupH at h
  split at h <;> cases h
mutual
theorem rep_tupH {K : PySem.W.Frag} {w : World} {S : Hp} : ∀ (v : V) (d : D), noL d = true → Rep K w S v d → Rep K w (tupH S) v d
  | _, .non, _, h => by cases h; exact .non
  | _, .bl b, _, h => by cases h; exact .bl b
  | _, .int i, _, h => by cases h; exact .int i
  | _, .str s, _, h => by cases h; exact .str s
  | _, .tup ds, n, h => by
    cases h with
    | tup h1 h2 => exact .tup (tupH_at h1) (reps_tupH _ ds (by simpa only [noL] using n) h2)
  | _, .lst ds, n, _ => by cases n
  | _, .scr ns, n, _ => by cases n
  | _, .dic k, n, _ => by cases n
  | _, .dit k, n, _ => by cases n
  | _, .kd k, n, _ => by cases n
theorem reps_tupH {K : PySem.W.Frag} {w : World} {S : Hp} : ∀ (vs : List V) (ds : List D), noLs ds = true → Reps K w S vs ds → Reps K w (tupH S) vs ds
  | _, [], _, h => by cases h; exact .nil
  | _, d :: ds, n, h => by
    simp only [noLs, Bool.and_eq_true] at n
    cases h with
    | cons h1 h2 => exact .cons (rep_tupH _ d n.1 h1) (reps_tupH _ ds n.2 h2)
end
theorem StOk.extH {P : Pm} {σ : LSt} {env : DEnv} {H S H' : Hp} (ok : StOk P σ env H S) (e : Same H H') : StOk P σ env H' S :=
  ok.ext e (Same.refl _) (fun a x q => e _ _ (ok.sub _ _ q)) fun a o q n => by rw [n] at q; cases q
theorem ss_appc {x : Str} {p4 p2 p3 : Pos} {es : List Expr} {ms : List E} {f : Nat} (hK : C.X.K = C.P.K) (F : FunAt C x (ms.length + 1) (C.G.fn f)) (tk : PassF C x) (hg : Gl C.X x) (hdb : (x == ("__debug__" : Str)) = false) (hA : SA C (a :: es) (ma :: ms)) (he : starEach (a :: es) C.X.env = (false, eval a C.X.env) :: starEach es C.X.env) (hpl : (backTo p4 (starEach es C.X.env)).any (·.1) = false)
    (h : ∀ p o S0, SD (C.at_ (C.P.prot p o S0)) e m)
    (hbase : attributeBase (.Call (.Name x p1) (a :: es) [] p4) "append" C.X.env (eval (.Call (.Name x p1) (a :: es) [] p4) C.X.env) = eval (.Call (.Name x p1) (a :: es) [] p4) C.X.env)
    (hfew : ((backTo p3 (starEach [e] C.X.env)).all (fun x => !x.1) && (backToKw p3 (keywordEach [] C.X.env)).all (fun x => x.1.isSome)
      && decide ([e].length + ([] : List Keyword).length + (if ([] : List Keyword).isEmpty then 0 else 1) < 30)) = true)
    (hline : (p2.endLine == p3.line) = true) (hst : starEach [e] C.X.env = (false, eval e C.X.env) :: starEach [] C.X.env)
    (hs : swapsWith (.Call (.Attribute (.Call (.Name x p1) (a :: es) [] p4) "append" p2) [e] [] p3) none pos.line C.X.env = pure false) :
    SS C (.Expr (.Call (.Attribute (.Call (.Name x p1) (a :: es) [] p4) "append" p2) [e] [] p3) pos) (.appc f (ma :: ms) m) := by
  obtain ⟨k, fa, fd, ps, FO, hr, hm, hk, hb⟩ := F
  obtain ⟨t, pt, et⟩ := hA
  refine ⟨_, ps_expr (pe_bm PySem.F.plainAttrs_list PySem.F.slot_list_append PySem.F.type_list_append mt_append (pe_callSD (E := WE C.W) FO hr hg hm hk hb .nil tk pt hdb he hpl) (pa_cons (tDcan_pe h) pa_nil hst) hbase hfew hline hst rfl) hs, fun σ env H S Dn ok q => ?_⟩
  simp only [exS] at q
  cases eA : evs C.G (ma :: ms) env with
  | er c env1 =>
    rw [eA] at q
    refine et σ env H S _ ok ?_
    rw [eA]
    exact fun H1 S1 e1 ok1 => q σ H1 S1 e1.s ok1
  | st => rw [eA] at q; exact q.elim
  | ok xs env1 =>
    have hl := evs_len _ _ _ _ eA
    rw [eA] at q
    have q : SG C.P C.W S Dn (if noLs xs then (match C.G.fn f xs with
      | .ok v => (match v.toD with
        | some (.lst ds) => (ev C.G m env1).val.s fun _ env => if ds.length < szL then .nx env else .st
        | _ => .st)
      | .er c => .er c env1
      | .st => .st) else .st) := q
    refine et σ env H S _ ok ?_
    rw [eA]
    intro vs H1 S1 e1 ok1 r1
    show spD _ _ _ _ _ (vs ++ []) H1 _ _
    rw [List.append_nil]
    split at q
    · rename_i nl
      refine ⟨by rw [r1.length, hl]; rfl, tupH S1, xs, (tupH_same S1).trans ok1.sub, reps_tupH _ _ nl r1, ?_⟩
      cases eF : C.G.fn f xs with
      | st => rw [eF] at q; exact q.elim
      | er c =>
        rw [eF] at q
        exact fun H' S' g => q σ H' S1 e1.s (ok1.extH g.ext.h)
      | ok v =>
        rw [eF] at q
        cases ev' : v.toD with
        | none => simp only [ev'] at q; exact q.elim
        | some d =>
          simp only [ev'] at q
          cases d with
          | lst ds =>
            intro z H' S' g rr
            have got : ∃ a ws, z = .ref a ∧ H1 a = none ∧ H' a = some (.lst ws) ∧ ws.length = ds.length := by
              cases v with
              | sh d =>
                cases ev'
                have rr : Rep C.P.K C.P.w S' z (.lst ds) := rr
                cases rr with
                | lst h1 r =>
                  refine ⟨_, _, rfl, ?_, g.sub _ _ h1, r.length⟩
                  cases z : tupH S1 _ with
                  | none => exact g.nw _ _ h1 z
                  | some o =>
                    have := g.ext.s _ _ z
                    rw [h1] at this
                    cases this
                    exact (tupH_lst z).elim
              | ol ds' =>
                cases ev'
                obtain ⟨a, ws, rfl, h0, _, ha, r⟩ := rr
                exact ⟨a, ws, rfl, h0, ha, r.length⟩
              | op _ => cases ev'
              | od _ => cases ev'
              | ot _ => cases ev'
              | ex _ => cases ev'
            obtain ⟨b, ws, rfl, n1, hb', hlen⟩ := got
            have ok2 := ok1.extH g.ext.h
            have h0 := ok1.h0 n1
            have hS := ok1.s0n n1
            have ns := ok1.notSlot n1
            refine ⟨.inl ⟨rfl, ws, .of hb'⟩, b, .lst ws, S1, env1, S1, ok2.prot hb' hS ns, ?_⟩
            have q := SG.shift q e1.s
            cases ee : (ev C.G m env1).val with
            | ok dx env2 =>
              rw [ee] at q
              intro y H2 S2 e2 ok3 r2
              obtain ⟨ok4, n4, h4, ns4⟩ := ok2.unprot h0 hS ok3
              have q : SG C.P C.W S1 Dn (if ds.length < szL then SR.nx env2 else SR.st) := q
              split at q
              · rename_i hz
                refine ⟨b, ws, y, rfl, rfl, h4, by rw [hlen, ← szL_eq]; exact hz, ?_⟩
                exact q σ _ S2 e2.s (ok4.mut h0 n4 ns4)
              · exact q.elim
            | er c env2 =>
              rw [ee] at q
              intro H2 S2 e2 ok3
              obtain ⟨ok4, n4, h4, ns4⟩ := ok2.unprot h0 hS ok3
              exact q σ H2 S2 e2.s ok4
            | st => rw [ee] at q; exact q.elim
          | _ => exact q.elim
    · exact q.elim
/-! ### list.remove -/
theorem mt_removeD {X : Cx} (hu : X.A.units + 65 < cLine) : MtR X "list.remove" (fun x xs H Q => ∃ (a : Addr) (vs : List V) (y : V) (d : PyData) (ds : List PyData) (j : Nat) (z : PyData), x = V.ref a ∧ xs = [y] ∧ H a = some (.lst vs) ∧ Dp X.K H (V.ref a) (.list ds) ∧ Dp X.K H y d ∧
    SeqAt.shaped (.list ds) = true ∧ SeqAt.shaped d = true ∧ ds[j]? = some z ∧ PyData.eqv z d = true ∧ (∀ (m : Nat) (z' : PyData), m < j → ds[m]? = some z' → PyData.eqv z' d = false) ∧ Q .non (upd H a (.lst (vs.eraseIdx j)))) := by
  intro pins s σ H x xs v us Q I rx rxs h
  obtain ⟨a, vs, y, d, ds, j, z, rfl, rfl, hH, hl, hy, sl, sd, hz, hzj, hno, q⟩ := h
  cases rx
  obtain ⟨uy, rfl, ry⟩ := rxs.one
  obtain ⟨bs, r1⟩ := Dp.reads I d y uy hy ry
  have hxs : PyData.canLayAll0 ds = true := SeqAt.canLay_of_shaped sl
  have hroom := PyProof.Rows.room_in_shaped sd hu (xs := ds)
  obtain ⟨zl, its, n, rv, hlen, ho⟩ := I.lstM hH
  cases hl with
  | lst hs ha =>
    obtain ⟨its2, rv2, pl2, _⟩ := I.list hs
    have e0 : vs = _ := I.list_inj (SqL.of hH) hs
    subst e0
    obtain ⟨as, h4⟩ := Dp.readsAll I ds _ its ha rv
    have hn : its.length = ds.length := SeqAt.ReadsAll.length ds its as h4
    have hmap : its.map (SeqAt.readOf s.heap) = ds := SeqAt.readsAll_map ds its as hxs h4
    obtain ⟨hjd, _⟩ := List.getElem?_eq_some_iff.mp hz
    have hjl : j < its.length := by omega
    have hj : j < its.toArray.size := by simpa using hjl
    have at_ : ∀ (m : Nat) (hm : m < its.toArray.size) (z' : PyData), ds[m]? = some z' → SeqAt.readOf s.heap its.toArray[m] = z' := fun m hm z' hz' => by
      have hml : m < its.length := by simpa using hm
      rw [← hmap, List.getElem?_map, List.getElem?_eq_getElem hml] at hz'
      simpa using hz'
    refine call_meets PySem.F.slot_list_remove ⟨_, ho, rfl⟩ PySem.F.entry_list_remove (PySem.F.args_list_remove_2 _ _)
      (SeqAt.list_removeAt a its.toArray n none #[] uy (fun u => PyData.eqv (SeqAt.readOf s.heap u) d) j hj ?_ ?_ (by rw [List.size_toArray]; omega)) ⟨ho, SeqAt.items_eqAt (vs := its.toArray) (show ReadsAll s.heap its.toArray.toList ds as from h4) r1 hxs (SeqAt.canLay_of_shaped sd) hroom, ?_⟩
    · show PyData.eqv (SeqAt.readOf s.heap its.toArray[j]) d = true
      rw [at_ j hj z hz]; exact hzj
    · intro m hm hmj
      have hmd : m < ds.length := by omega
      show PyData.eqv (SeqAt.readOf s.heap its.toArray[m]) d = false
      rw [at_ m hm _ (List.getElem?_eq_getElem hmd)]
      exact hno m _ hmj (List.getElem?_eq_getElem hmd)
    · refine ⟨.non, _, I.lset (its' := its.eraseIdx j) (t' := s.toks) hH ho ?_ (rv.eraseIdx j) ?_, rfl, q⟩
      · show its.toArray.eraseIdxIfInBounds j = (its.eraseIdx j).toArray
        rw [List.eraseIdxIfInBounds_toArray]
      · have := List.length_eraseIdx_le vs j
        omega
theorem ss_rem {i : Nat} {x : Str} {p1 p2 p3 : Pos} (hu : C.X.A.units + 65 < cLine) (hK : C.X.K = C.P.K) (hN : C.X.N[i]? = some x) (hv : Vis C.X.env.scope x) (hd : (x == ("__debug__" : Str)) = false) (hcd : (x == ("__classdict__" : Str)) = false) (h : SD C e m)
    (hbase : attributeBase (.Name x p1) "remove" C.X.env (eval (.Name x p1) C.X.env) = eval (.Name x p1) C.X.env)
    (hfew : ((backTo p3 (starEach [e] C.X.env)).all (fun x => !x.1) && (backToKw p3 (keywordEach [] C.X.env)).all (fun x => x.1.isSome)
      && decide ([e].length + ([] : List Keyword).length + (if ([] : List Keyword).isEmpty then 0 else 1) < 30)) = true)
    (hline : (p2.endLine == p3.line) = true) (hst : starEach [e] C.X.env = (false, eval e C.X.env) :: starEach [] C.X.env)
    (hs : swapsWith (.Call (.Attribute (.Name x p1) "remove" p2) [e] [] p3) none pos.line C.X.env = pure false) :
    SS C (.Expr (.Call (.Attribute (.Name x p1) "remove" p2) [e] [] p3) pos) (.rem i m) := by
  obtain ⟨t, pt, et⟩ := h
  refine ⟨_, ps_expr (pe_bm PySem.F.plainAttrs_list PySem.F.slot_list_remove PySem.F.type_list_remove (mt_removeD hu) (pe_var hN hv hd hcd) (pa_cons pt pa_nil hst) hbase hfew hline hst rfl) hs, fun σ env H S Dn ok q => ?_⟩
  simp only [exS] at q
  split at q
  · rename_i hw
    obtain ⟨ds, eu⟩ := isOl_inv hw
    obtain ⟨v, es, r⟩ := ok.sl i _ eu
    obtain ⟨a, rfl, h0, hS, vs, ha, ra⟩ := r
    refine ⟨_, es, .inl ⟨rfl, vs, .of ha⟩, ?_⟩
    refine et σ env H S _ ok (SG.bind q fun dx env1 y H1 S1 e1 ok1 r1 q1 => ?_)
    obtain ⟨u, w, e2, ef, q2⟩ := upS_inv q1
    obtain ⟨v', es', r'⟩ := ok1.sl i _ e2
    rw [es] at es'; cases es'
    cases u with
    | ol ds1 =>
      simp only [remD] at ef
      split at ef
      · rename_i hz
        rw [Bool.and_eq_true] at hz
        cases ej : fstIx dx ds1 0 with
        | none => rw [ej] at ef; cases ef
        | some j =>
          rw [ej] at ef
          cases ef
          obtain ⟨a', e', h0', hS', vs1, ha1, ra1⟩ := r'
          cases e'
          obtain ⟨_, z, g2, g3, g4⟩ := fstIx_spec ds1 0 j ej
          have hl : okDs ds1 63 = true := by have := hz.2; simp only [okD] at this; exact this
          have hd := bor_dp ok1.sub hz.2 (BorR.lst ha1 ra1)
          have hs := okD_shaped hz.2
          simp only [toP] at hd hs
          rw [hK]
          refine ⟨a, vs1, y, toP dx, toPs ds1, j, toP z, rfl, rfl, ha1, hd, bor_dp ok1.sub hz.1 (.rep r1), hs, okD_up hz.1, toPs_get g2, ?_, fun m z' hm hz' => ?_, ?_⟩
          · rw [eqD_eqv z dx 63 63 (okDs_get hl g2) hz.1]; exact g3
          · obtain ⟨z2, k1, rfl⟩ := toPs_getD hz'
            rw [eqD_eqv z2 dx 63 63 (okDs_get hl k1) hz.1]
            exact g4 m z2 hm k1
          · exact SG.nx q2 (ok1.chg e2 rfl rfl es ⟨_, upd_same, Reps.erase j ra1⟩ (fun ⟨_, z⟩ => nomatch z))
      · cases ef
    | _ => cases ef
  · exact q.elim
end
end Dl

namespace Dl
open PySem PySem.Spec PyProof.Rows L2
/-! ### len(set(..)) of texts -/
def dnS (l : List Str) : List Str := l.foldl (fun a x => if x ∈ a then a else a ++ [x]) []
theorem dnS_snoc (l : List Str) (x : Str) : dnS (l ++ [x]) = if x ∈ dnS l then dnS l else dnS l ++ [x] := by
  unfold dnS
  rw [List.foldl_append]
  rfl
theorem dnS_mem (y : Str) (l : List Str) : y ∈ dnS l ↔ y ∈ l := by
  generalize hn : l.length = n
  induction n generalizing l with
  | zero =>
    have : l = [] := List.length_eq_zero_iff.mp hn
    subst this
    rfl
  | succ n ih =>
    obtain ⟨m, x, rfl⟩ : ∃ m x, l = m ++ [x] := ⟨l.dropLast, l.getLast (by intro z; rw [z] at hn; cases hn), (List.dropLast_concat_getLast _).symm⟩
    rw [List.length_append, List.length_singleton] at hn
    have im := ih m (by omega)
    have ih := fun z : Str => ih m (by omega)
    rw [dnS_snoc]
    split
    · rename_i h
      rw [im, List.mem_append, List.mem_singleton]
      constructor
      · exact .inl
      · rintro (h1 | rfl)
        · exact h1
        · exact im.mp h
    · rw [List.mem_append, List.mem_append, im]
theorem dnS_len : ∀ (n : Nat) (l : List Str), l.length = n → (dnS l).length ≤ n
  | 0, l, h => by
    have : l = [] := List.length_eq_zero_iff.mp h
    subst this
    exact Nat.le_refl 0
  | n + 1, l, h => by
    obtain ⟨m, x, rfl⟩ : ∃ m x, l = m ++ [x] := ⟨l.dropLast, l.getLast (by intro z; rw [z] at h; cases h), (List.dropLast_concat_getLast _).symm⟩
    rw [List.length_append, List.length_singleton] at h
    have := dnS_len n m (by omega)
    rw [dnS_snoc]
    split
    · omega
    · rw [List.length_append, List.length_singleton]; omega
theorem dn_map (l : List T) : dnS (l.map sT) = (dnL l).map sT := by
  have key : ∀ (l a : List T), (l.map sT).foldl (fun a x => if x ∈ a then a else a ++ [x]) (a.map sT) = (l.foldl (fun a x => if x ∈ a then a else a ++ [x]) a).map sT := by
    intro l
    induction l with
    | nil => intro a; rfl
    | cons x r ih =>
      intro a
      have hm : sT x ∈ a.map sT ↔ x ∈ a := by
        rw [List.mem_map]
        constructor
        · rintro ⟨y, hy, e⟩
          exact sT_inj e ▸ hy
        · exact fun h => ⟨x, h, rfl⟩
      rw [List.map_cons, List.foldl_cons, List.foldl_cons]
      by_cases h : x ∈ a
      · rw [if_pos h, if_pos (hm.mpr h), ih]
      · rw [if_neg h, if_neg (fun z => h (hm.mp z))]
        have := ih (a ++ [x])
        rw [List.map_append] at this
        exact this
  exact key l []
theorem text_at : ∀ {vs : List Value} {ts : List Str}, StrsAre vs ts → ∀ (j : Nat) (u : Value), vs[j]? = some u → ∃ k, u = .str (ts.getD j Str.empty) k
  | _, _, .nil, j, u, h => by simp at h
  | _, _, .cons n k hr, 0, u, h => by simp at h; exact ⟨k, h.symm⟩
  | _, _, .cons n k hr, j + 1, u, h => by
    simp only [List.getElem?_cons_succ] at h
    obtain ⟨k', e⟩ := text_at hr j u h
    exact ⟨k', by rw [e]; rfl⟩
section
variable {P : Program} {w : World} {A : Around} {E : Value → Shared → Prop} {s : Shared}
/-- the texts up to the j-th are in -/
def InS (P : Program) (w : World) (h : Heap) (D : Addr) (ts : List Str) (j : Nat) : Prop := h.SetOf (PySem.strKind P w) D (fun y => decide (y ∈ ts.take j)) (dnS (ts.take j)).length
theorem dl_loopS {R : Result → Shared → Prop} {I D : Addr} {fp wr : List Addr} {G : Array GenState → Array GenState → Prop} {m : Nat} {V : Nat → Value → Prop} {St : Nat → Shared → Prop} (W : WalksS P w A.in1 I fp wr G m V St) (hD : D ∉ fp) (ts : List Str) (hm : ts.length = m) (h4 : m < 4000)
    (hv : ∀ j u, V j u → ∃ k, u = .str (ts.getD j Str.empty) k) : ∀ (k j : Nat) (z : Shared), m - j = k → j ≤ m → St j z → InS P w z.heap D ts j →
      (∀ z', Moved (D :: wr) G z z' → InS P w z'.heap D ts m → R (.ok (.ret .none)) z') → codeAny (model P w) A (.builtin "set.update.loop" ⟨[.ref D, .ref I], []⟩) R z := by
  have hDw : D ∉ wr := fun q => hD (W.sub _ q)
  have more : ∀ b ∈ wr, b ∈ D :: wr := fun b q => List.mem_cons_of_mem _ q
  intro k
  induction k with
  | zero =>
    intro j z hk hj hst hS hR
    obtain rfl : j = m := by omega
    refine codeAny_builtin PyProof.Rows.F.entry_set_update_loop ?_
    rw [Around.under_plainId PyProof.Rows.F.plain_set_update_loop _]
    show wpAny _ A.in1 (pyNext (.ref I) >>= _) _ _ z
    refine wpAny_bind (W.done z _ _ hst fun z' mv => ?_)
    show wpAny _ A.in1 (ret Value.none) _ _ z'
    obtain ⟨o, es, ep, t, ho, rest⟩ := hS
    exact wpAny_pure (hR z' (mv.mono more) ⟨o, es, ep, t, mv.heap D _ hDw ho, rest⟩)
  | succ k ih =>
    intro j z hk hj hst hS hR
    have hlt : j < m := by omega
    refine codeAny_builtin PyProof.Rows.F.entry_set_update_loop ?_
    rw [Around.under_plainId PyProof.Rows.F.plain_set_update_loop _]
    show wpAny _ A.in1 (pyNext (.ref I) >>= _) _ _ z
    refine wpAny_bind (W.item j z _ _ hlt hst fun u z' hu hst' mv => ?_)
    obtain ⟨t, rfl⟩ := hv j u hu
    have hS' : InS P w z'.heap D ts j := by
      obtain ⟨o, es, ep, tb, ho, rest⟩ := hS
      exact ⟨o, es, ep, tb, mv.heap D _ hDw ho, rest⟩
    have ej : ts.getD j Str.empty = ts[j]'(by omega) := by
      rw [List.getD_eq_getElem?_getD, List.getElem?_eq_getElem (by omega)]
      rfl
    have et : ts.take (j + 1) = ts.take j ++ [ts[j]'(by omega)] := by rw [List.take_succ_eq_append_getElem (by omega)]
    generalize ts.getD j Str.empty = y at ej ⊢
    show wpAny _ A.in1 (holding [Value.str y t] (setAdd D (.str y t)) >>= _) _ _ z'
    refine wpAny_bind (wpAny_holding ?_)
    unfold setAdd
    refine wpAny_holding ?_
    refine wpAny_bind ((PySem.strKind P w).pyHash (k := y) (strKind_is _ _ _ _) ?_)
    have room : (dnS (ts.take j)).length + 1 < scanBound := by
      have := dnS_len _ (ts.take j) rfl
      rw [List.length_take] at this
      unfold scanBound
      omega
    refine wpAny_setAddHashed_of (knd := PySem.strKind P w) (s := { z' with toks := z'.toks + 1 }) (strKind_is _ _ _ _) rfl hS' room fun h' hsb hS2 => ?_
    have hn : InS P w h' D ts (j + 1) := by
      unfold InS
      rw [et]
      refine SetOf_congr hS2 (fun y' => ?_) ?_
      · rw [Bool.eq_iff_iff, Bool.or_eq_true, decide_eq_true_eq, decide_eq_true_eq, decide_eq_true_eq, List.mem_append, List.mem_singleton, ej]
      · rw [dnS_snoc, ← ej]
        by_cases hy : y ∈ ts.take j
        · rw [if_pos ((dnS_mem _ _).mpr hy), if_pos (decide_eq_true hy)]
        · rw [if_neg (fun q => hy ((dnS_mem _ _).mp q)), if_neg (by rw [decide_eq_false hy]; decide), List.length_append]
          rfl
    refine wpAny_pure ⟨plainId_quiet PyProof.Rows.F.plain_set_update_loop _, ih (j + 1) _ (by omega) hlt (W.frame _ z' _ _ hst' (Nat.le_succ _) fun b q o e => ?_) hn fun z2 mv2 hS2' => ?_⟩
    · rw [hsb.2 b (fun hb : b = D => hD (by rw [← hb]; exact q))]; exact e
    · refine hR z2 (Moved.trans W.gtrans ((mv.mono more).then_heap (Nat.le_succ _) fun b o q e => ?_) mv2) hS2'
      rw [hsb.2 b (fun hb : b = D => q (by rw [hb]; exact List.mem_cons_self))]; exact e
/-- what set(..) of texts leaves -/
def SetT (P : Program) (w : World) (s : Shared) (ts : List Str) (s₂ : Shared) : Prop := ∃ g tk, s₂ = { s with heap := g, toks := tk } ∧ InS P w g s.heap.objs.size ts ts.length ∧ ∀ b o, s.heap.get? b = some o → g.get? b = some o
set_option maxHeartbeats 3200000 in
theorem dl_setTexts {l : Addr} {items : Array Value} (ts : List Str) {Q : Value → Shared → Prop} (hh : A.handled = none)
    (hl : s.heap.IsList l items) (hit : StrsAre items.toList ts) (hb : ts.length < 4000)
    (h : ∀ s₂, SetT P w s ts s₂ → Q (.ref s.heap.objs.size) s₂) :
    wpAny (model P w) A (call (.type "set") [.ref l]) Q E s := by
  have hisz : ts.length = items.size := by rw [← StrsAre.len_eq hit, Array.length_toList]
  obtain ⟨c, tl, hmro⟩ := F.called_set.mro
  have hmade := F.called_set.made; have hsub := F.called_set.sub
  refine wpAny_call (codeAny_of_tree ?_)
  show wpAny _ _ (callAny (.type "set") _) _ _ _
  refine wpAny_pure ⟨Code.quiet_builtin _ (by decide +kernel),
    codeAny_builtin F.entry_type_call ?_⟩
  rw [Around.under_plain (weight_type_call_type "set" _ []) rfl]
  have h1 := F.called_set.notType; have h2 := F.called_set.canCreate
  have hct := F.typeCall_set_1 (.ref l)
  repeat (any_goals
    (first | assumption | wp_step))
  refine codeAny_mono (code_set_led1 (.ref l) (E := E)
    (Q₁ := fun v z => v = .ref s.heap.objs.size ∧ z = { s with heap := s.heap.push (emSet w) }) ⟨rfl, rfl⟩) fun r s₁ hr => ?_
  cases r with
  | error e => exact hr
  | ok fl =>
    cases fl with
    | ret obj =>
      obtain ⟨rfl, rfl⟩ := hr
      have hS : (s.heap.push (emSet w)).get? s.heap.objs.size = some (emSet w) := Heap.get?_push_size _ rfl
      have hT : Shared.TypeIs { s with heap := s.heap.push (emSet w) } (.ref s.heap.objs.size) "set" := ⟨_, hS, rfl⟩
      have hli := F.called_set.init.lookup; have hbi := F.called_set.init.bind (.ref s.heap.objs.size)
      repeat (any_goals
        (first | assumption | wp_step))
      refine codeAny_mono (codeAny_call_builtin (R := wants (fun r z => r = .none ∧ SetT P w s ts z) E)
        F.called_set.init.plain F.entry_set_init (check_set_init_1 hT ?_)) fun r₂ s₂ hr₂ => ?_
      · obtain ⟨⟨k0, k1, k2, k3⟩, hol, hcl, nl, hdl⟩ := hl
        simp only at hcl hdl
        subst hcl; subst hdl
        have hol' : (s.heap.push (emSet w)).get? l = some ⟨.type "list", k1, .seq items nl, k3⟩ := Heap.get?_push_of_some _ hol
        have hsls := F.sub_list_set; have hslf := F.sub_list_frozenset
        have hne : (Value.type "list" == Value.type "dict") = false := by decide
        have hl1 : (s.heap.push (emSet w)).IsList l items := ⟨_, hol', rfl, nl, rfl⟩
        unfold Builtin.«set.__init__» noKeywords
        unfold Builtin.Frozenset.updateFrom
        generalize hPI : pyIter = PI
        wp_walk
        subst hPI
        refine wpAny_pyIter_list hl1 (wpAny_bind (wpAny_runValue ?_))
        have hlS : l < s.heap.objs.size := Heap.lt_size hol
        have hh3 : A.in1.in1.in1.handled = none := by simp [hh]
        have hz1 : (s.heap.push (emSet w)).objs.size = s.heap.objs.size + 1 := Heap.size_push ..
        have hneI : l ≠ (s.heap.push (emSet w)).objs.size := by rw [hz1]; exact Nat.ne_of_lt (Nat.lt_succ_of_lt hlS)
        have hSf : s.heap.objs.size ∉ [(s.heap.push (emSet w)).objs.size, l] := by
          simp only [List.mem_cons, List.not_mem_nil, or_false, not_or]
          exact ⟨by rw [hz1]; exact Nat.ne_of_lt (Nat.lt_succ_self _), Nat.ne_of_gt hlS⟩
        have hval : ∀ (i : Nat) (v : Value), items[i]? = some v → ∃ t, v = .str (ts.getD i Str.empty) t := fun i v hv => text_at hit i v (by rw [Array.getElem?_toList]; exact hv)
        refine dl_loopS ((Walks.list hh3 _ l hneI items).toS) hSf ts hisz (by omega) hval (items.size - 0) 0 _
          (by omega) (Nat.zero_le _) ⟨⟨_, Heap.get?_push_size _ rfl, rfl, rfl⟩, hl1.push _⟩ ?hS0 ?hR
        case hS0 =>
          refine SetOf_congr ((PyProof.Rows.setObjOf_fresh (knd := PySem.strKind P w) _).setOf (Heap.get?_push_of_some _ hS) (by unfold scanBound; omega)) (fun _ => ?_) rfl
          simp
        case hR =>
          intro s' hm hS'
          obtain ⟨h', g2, d', tk', os'⟩ := s'
          obtain rfl : g2 = s.gens := hm.gens
          obtain rfl : d' = s.drawn := hm.drawn
          obtain rfl : os' = s.os := hm.os
          show wpAny _ _ _ _ _ _
          refine wpAny_pure ?_
          show wpAny _ _ (ret Value.none) _ _ _
          refine wpAny_pure ⟨rfl, h', tk', rfl, by rw [hisz]; exact hS', fun b o e => hm.heap b o ?_ (Heap.get?_push_of_some _ (Heap.get?_push_of_some _ e))⟩
          have hb0 : b < s.heap.objs.size := Heap.lt_size e
          simp only [List.mem_cons, List.not_mem_nil, or_false, not_or]
          exact ⟨Nat.ne_of_lt hb0, by rw [hz1]; exact Nat.ne_of_lt (Nat.lt_succ_of_lt hb0)⟩
      · cases r₂ with
        | error e => exact hr₂
        | ok fl₂ =>
          cases fl₂ with
          | ret r =>
            obtain ⟨rfl, hr₂⟩ := hr₂
            repeat (any_goals
              (first | assumption | wp_step))
            exact h _ hr₂
          | _ => exact hr₂.elim
    | _ => exact hr.elim
end
def tLset (K : PySem.W.Frag) (ta : TE) : TE := fun σ H Q => ta σ H fun x H1 => ∃ (l : Addr) (ts : List Str), x = V.ref l ∧ SqL K H1 l (ts.map V.str) ∧ ts.length < 4000 ∧ Q (.int ((dnS ts).length : Nat)) H1
theorem texts_of : ∀ {ts : List Str} {us : List Value}, Vals (ts.map V.str) us → StrsAre us ts
  | [], _, .nil => .nil
  | t :: ts, _, .cons r q => by
    obtain ⟨k, rfl⟩ := r
    exact .cons t k (texts_of q)
theorem pe_lset {X : Cx} {a : Expr} {ta : TE} {p p2 q pos : Pos} (hc : X.calm = true) (hg : Gl X "len") (hm : X.mg "len" = none) (hg2 : Gl X "set") (hm2 : X.mg "set" = none) (ha : PE X a ta)
    (na : starEach [a] X.env = (false, eval a X.env) :: starEach [] X.env) : PE X (.Call (.Name "len" p) [.Call (.Name "set" p2) [a] [] q] [] pos) (tLset X.K ta) := by
  refine ⟨fun pins s σ H Q I h => ?_⟩
  refine PyProof.Rows.Call_ (ld_blt I hg hm PySem.boot_len ?_)
  refine PyProof.Rows.callWith_builtin1 (PyProof.Rows.args_cons ?_ rfl) rfl rfl
  refine PyProof.Rows.Call_ (ld_blt I hg2 hm2 PyProof.Rows.boot_set ?_)
  refine PyProof.Rows.callWith_type1 (PyProof.Rows.args_cons (thn (ha.run pins s σ H _ I h) fun v s1 ⟨x, H1, I1, r1, q1⟩ => PyProof.Rows.args_nil ?_) na) na rfl
  obtain ⟨l, ts, rfl, hq, h1, q1⟩ := q1
  cases r1
  obtain ⟨its, r, pl, hz⟩ := I1.list hq
  refine dl_setTexts ts (I1.ok.hd hc) pl.isList (by simpa using texts_of r) h1 fun s2 h2 => ?_
  obtain ⟨g, tk, rfl, R, hk⟩ := h2
  refine PyProof.Rows.args_nil ?_
  unfold InS at R
  rw [List.take_length] at R
  obtain ⟨o, es, ep, t, ho, hex, hd, _, _, _, hf, hn⟩ := R
  have I2 : Inv X pins σ H1 { s1 with heap := g, toks := tk } := I1.kept hk
  have hn4 := dnS_len _ ts rfl
  refine call_len_set ho hex hd hf (by rw [hn]; omega) ⟨.int ((dnS ts).length : Nat), H1, I2.tok _, ⟨_, by rw [hn]⟩, q1⟩
section
variable {C : Cn} {a : Expr} {ma : E} {p p2 q pos : Pos}
theorem strs_reps {K : PySem.W.Frag} {w : World} {S : Hp} : ∀ (ds : List D) (l : List T) (vs : List V), strsD ds = some l → Reps K w S vs ds → vs = (l.map sT).map V.str
  | [], l, vs, h, r => by cases h; cases r; rfl
  | .str x :: ds, l, vs, h, r => by
    have h : (strsD ds).map (x :: ·) = some l := h
    cases hd : strsD ds with
    | none => rw [hd] at h; cases h
    | some l' =>
      rw [hd] at h
      cases h
      cases r with
      | cons r1 r2 =>
        cases r1
        rw [strs_reps ds l' _ hd r2]
        rfl
  | .non :: _, _, _, h, _ => by cases h
  | .bl _ :: _, _, _, h, _ => by cases h
  | .int _ :: _, _, _, h, _ => by cases h
  | .tup _ :: _, _, _, h, _ => by cases h
  | .lst _ :: _, _, _, h, _ => by cases h
  | .scr _ :: _, _, _, h, _ => by cases h
  | .dic _ :: _, _, _, h, _ => by cases h
  | .dit _ :: _, _, _, h, _ => by cases h
  | .kd _ :: _, _, _, h, _ => by cases h
theorem se_lset (hc : C.X.calm = true) (hK : C.X.K = C.P.K) (hg : Gl C.X "len") (hm : C.X.mg "len" = none) (hg2 : Gl C.X "set") (hm2 : C.X.mg "set" = none) (ha : SBo C a ma) (na : starEach [a] C.X.env = (false, eval a C.X.env) :: starEach [] C.X.env) :
    SE C (.Call (.Name "len" p) [.Call (.Name "set" p2) [a] [] q] [] pos) (.bi .lset [ma]) := by
  obtain ⟨t, pt, et⟩ := ha
  refine ⟨_, pe_lset hc hg hm hg2 hm2 pt na, fun σ env H S Q ok q => ?_⟩
  simp only [ev, evb, bd_bd] at q
  refine et σ env H S _ ok (RG.bind (fa := brw ma (ev C.G ma env) env) q fun d env1 x H1 S1 e1 ok1 r1 q1 => ?_)
  simp only [bd_ok] at q1
  cases d with
  | lst ds =>
    simp only [biD] at q1
    cases hi : strsD ds with
    | none => rw [hi] at q1; exact q1.elim
    | some l =>
      rw [hi, Option.bind_some] at q1
      split at q1
      · rename_i h1
        obtain ⟨p1, vs, rfl, ha, ra⟩ := r1.toLst ok1.sub
        have ev := strs_reps ds l vs hi ra
        refine ⟨p1, l.map sT, rfl, ?_, by rw [List.length_map]; exact h1, ?_⟩
        · rw [← ev]
          exact .of ha
        · rw [dn_map, List.length_map]
          exact RG.now q1 ok1 (.int _)
      · exact q1.elim
  | _ => exact q1.elim
end
end Dl

namespace Dl
open PySem L2
/-! ### what stands plain in a tree -/
def nst : Expr → Bool
  | .Starred _ _ => false
  | _ => true
theorem star_ok {a : Expr} {es : List Expr} {env : Env} (h : nst a = true) : starEach (a :: es) env = (false, eval a env) :: starEach es env := by
  cases a <;> first | rfl | cases h
theorem any_ok {es : List Expr} {env : Env} {pos : Pos} (h : es.all nst = true) : (backTo pos (starEach es env)).any (·.1) = false := by
  induction es with
  | nil => rfl
  | cons a r ih =>
    rw [List.all_cons, Bool.and_eq_true] at h
    rw [star_ok h.1]
    exact ih h.2
theorem all_ok {es : List Expr} {env : Env} {pos : Pos} (h : es.all nst = true) : (backTo pos (starEach es env)).all (fun x => !x.1) = true := by
  induction es with
  | nil => rfl
  | cons a r ih =>
    rw [List.all_cons, Bool.and_eq_true] at h
    rw [star_ok h.1]
    exact ih h.2
def few (es : List Expr) : Bool := es.all nst && decide (es.length < 28)
theorem few_ok {es : List Expr} {env : Env} {cpos : Pos} (h : few es = true) : ((backTo cpos (starEach es env)).all (fun x => !x.1) && (backToKw cpos (keywordEach [] env)).all (fun x => x.1.isSome)
      && decide (es.length + ([] : List Keyword).length + (if ([] : List Keyword).isEmpty then 0 else 1) < 30)) = true := by
  simp only [few, Bool.and_eq_true, decide_eq_true_eq] at h
  rw [all_ok h.1]
  simp [keywordEach, backToKw]
  omega
def ncall : Expr → Bool
  | .Call _ _ _ _ => false
  | _ => true
theorem base_ok {o : Expr} {name : Str} {env : Env} (h : ncall o = true) : attributeBase o name env (eval o env) = eval o env := by
  cases o <;> first | rfl | cases h
def plT : Expr → Bool
  | .UnaryOp .Not _ _ => false
  | .BoolOp _ _ _ => false
  | .IfExp _ _ _ _ => false
  | .Compare _ _ _ _ => false
  | _ => true
theorem isTrue_ok {a : Expr} {env : Env} (h : plT a = true) (whole : Sem Value) : isTrue a env whole = (do let v ← whole; standAt a.pos; holding [v] (truthy v)) := by
  cases a with
  | UnaryOp op x p => cases op <;> first | rfl | cases h
  | _ => first | rfl | cases h
def nsl : Expr → Bool
  | .Slice _ _ _ _ => false
  | _ => true
theorem ix_ok {b : Expr} (h : nsl b = true) : PlainIx b := by
  intro o i
  cases b <;> first | rfl | cases h
def nco : Expr → Bool
  | .ListComp _ _ _ _ => false
  | .SetComp _ _ _ _ => false
  | .DictComp _ _ _ _ _ => false
  | _ => true
theorem sw_ok {e : Expr} {t : Option Expr} {l : Nat} {env : Env} (h : nco e = true) : swapsWith e t l env = pure false := by
  cases e <;> first | rfl | cases h
theorem sws_ok {e t : Expr} {l : Nat} {env : Env} (h : nco e = true) : swapsWithSole [t] e l env = pure false := by
  unfold swapsWithSole
  exact sw_ok h
def nset : Expr → Bool
  | .Set _ _ _ => false
  | _ => true
theorem fold_ok {e : Expr} {env : Env} (h : nset e = true) (x : Value) : foldedSetIterable e env x = pure x := by
  cases e <;> first | rfl | cases h
theorem assignSub_ok {o i : Expr} {p : Pos} {env : Env} (h : nsl i = true) (v : Value) : assign (.Subscript o i p) env v = (do
      let ov ← holding [v] (eval o env)
      let iv ← holding [v, ov] (eval i env)
      standAt p
      holding [v, ov, iv] (setItem ov iv v)
      release [v, ov, iv] []) := by
  cases i <;> first | rfl | cases h
theorem swSub_ok {o i e : Expr} {p : Pos} {env : Env} : swappedStores [.Subscript o i p] e env = pure none := by
  cases e <;> rfl
def ntup : Expr → Bool
  | .Tuple _ _ _ => false
  | _ => true
theorem swTup_ok {ts : List Expr} {k : Nat} {e : Expr} {p : Pos} {env : Env} (h : ntup e = true) : swappedStores [.Tuple ts k p] e env = pure none := by
  cases e <;> first | rfl | cases h
/-! ### what a scope says -/
structure Cfg where
  N : List Str
  sc : Scope
  calm : Bool
  top : Bool
  isx : Bool
  dt : Bool
  fns : List (Str × (Nat × (Nat × Option Nat)))
  cons : List (Str × D)
  excs : List (Str × Nat)
  hot : Bool
  tx : Bool
def blts : List Str := ["len", "int", "str", "max", "min", "list", "tuple", "dict", "range", "enumerate", "zip", "isinstance", "bool", "set", "sorted"]
/-- what stands for a def's name -/
def FunS (C : Cn) (p : Str × (Nat × (Nat × Option Nat))) : Prop := match p.2.2.2 with
  | none => FunAt C p.1 p.2.2.1 (C.G.fn p.2.1)
  | some i => FunAtI C p.1 p.2.2.1 i (C.G.io p.2.1)
/-- what an own exception class says -/
structure ExF (X : Cx) (cv : Nat → Value) (x : Str) (c : Nat) : Prop where
  ex : ∃ (Ca : Addr) (B newId initId : String) (bmB : List Value), ExcBaseFacts B newId initId bmB ∧ PySem.W.excIn X.K Ca bmB newId = true ∧ X.mg x = some (.ref Ca) ∧ PySem.W.keepIn X.K (.ref Ca) = true ∧ Raises X (.ref Ca) ∧ cv c = .ref Ca
/-- .. a class that is asked for -/
structure ExN (X : Cx) (cv : Nat → Value) (x : Str) (c : Nat) : Prop where
  ex : ∃ (u : Value) (v : V), (X.mg x = some u ∨ (X.mg x = none ∧ bootBuiltins x = some u ∧ x ≠ "__name__")) ∧ RelV v u ∧ (∀ w, RelV v w → w = u) ∧ (x == ("__debug__" : Str)) = false ∧ (∀ d, PySem.W.exmOne X.K (cv d) u = some (subC d c)) ∧ ∀ d, PySem.W.kitOne X.K (cv d) u = some (subC d c)
def excAll (g : Cfg) : List (Str × Nat) := if g.excs.isEmpty then [] else g.excs ++ [(("ValueError" : Str), 8)]
structure Good (g : Cfg) (C : Cn) : Prop where
  K : C.X.K = C.P.K
  w : C.X.w = C.P.w
  N : C.X.N = g.N
  nd : g.N.Nodup
  sc : C.X.env.scope = g.sc
  calm : g.calm = true → C.X.calm = true
  un : C.X.A.units + 65 < cLine
  tk : L2N.Takes C.X C.W
  tkH : g.hot = true → L2.Takes C.X C.W
  pa : g.tx = true → ∀ hd : Option Value, PassesOwnAt (model C.X.prog C.X.w) (C.X.A.mark hd) C.X.A C.X.env C.X.xe
  po : PassesOwn (model C.X.prog C.X.w) C.X.A C.X.env C.X.xe
  st : ∀ x, g.sc.names.lookup x = some .cell → g.top = true → C.X.fn x = true
  fl : g.top = true → C.X.stack = C.X.env :: C.X.outer ∧ C.X.env.frame = some C.X.env.locals
  bl : ∀ x ∈ blts, C.X.mg x = none
  fns : ∀ p ∈ g.fns, FunS C p
  cons : ∀ p ∈ g.cons, ∃ u v, C.X.mg p.1 = some u ∧ RelV v u ∧ ∀ S, C.P.Rep S v p.2
  rai : ∀ p ∈ g.excs, ExF C.X C.P.cv p.1 p.2
  exn : ∀ p ∈ excAll g, ExN C.X C.P.cv p.1 p.2
  exC : g.excs ≠ [] → ∀ d, ∃ Ca, C.P.cv d = .ref Ca ∧ ExcC C.X.K Ca
  isE : g.isx = true → CallR C.X (.builtin "isinstance") (rIsx C.P)
theorem sky_zc {B : Heap} {l : List Env} {a : Addr} {cls : Value} {d : Option Addr} {L : Addr} {h : Heap} (x : Sky B l a (L2N.Zn cls d) L h) : Sky B l a (Zc cls d) L h := by
  rcases x with ⟨hB, hn, hl, oe, vs, he, hz, hd, h1⟩ | fl | hh
  · exact .inl ⟨hB, hn, hl, oe, vs, he, hz.zc, hd, h1⟩
  · exact .inr (.inl (L2H.flyingZ_imp (fun o z => z.zc) fl))
  · obtain ⟨x1, x2, x3, x4⟩ := hh
    exact .inr (.inr ⟨x1, x2, x3, L2H.tracedZ_imp (fun o z => z.zc) x4⟩)
section
variable {g : Cfg} {C : Cn}
theorem Good.gl (h : Good g C) {x : Str} (e : g.sc.names.lookup x = some .globalImplicit) : Gl C.X x := by
  show C.X.env.scope.names.lookup x = _
  rw [h.sc]
  exact e
theorem Good.nb (h : Good g C) {x : Str} (e : x ∈ blts) : C.X.mg x = none := h.bl x e
theorem Good.fnAt (h : Good g C) {x : Str} {c : Nat × (Nat × Option Nat)} (hm : (x, c) ∈ g.fns) {n : Nat} (e : c.2 = (n, none)) : FunAt C x n (C.G.fn c.1) := by
  have t := h.fns _ hm
  obtain ⟨id, n', o⟩ := c
  cases e
  exact t
theorem Good.fnAtI (h : Good g C) {x : Str} {c : Nat × (Nat × Option Nat)} (hm : (x, c) ∈ g.fns) {n i : Nat} (e : c.2 = (n, some i)) : FunAtI C x n i (C.G.io c.1) := by
  have t := h.fns _ hm
  obtain ⟨id, n', o⟩ := c
  cases e
  exact t
theorem takesN {X : Cx} {W : WX} (tk : L2.Takes X W) : L2N.Takes X W := fun u s' ⟨a, B, sI, pins, σ, H, cls, d, e, I, nb, up, sky, na, os, ag, w⟩ => tk u s' ⟨a, B, sI, pins, σ, H, cls, d, e, I, nb, up, sky_zc sky, na, os, ag, w⟩
theorem Good.pass (h : Good g C) {x : Str} (hx : (g.hot || !hotB x) = true) : PassF C x := passF_of h.tk fun hb => h.tkH (by rw [hb] at hx; simpa using hx)
theorem Good.ndX (h : Good g C) : C.X.N.Nodup := by rw [h.N]; exact h.nd
end
/-- a name's slot -/
structure Slo (g : Cfg) (x : Str) where
  i : Nat
  hN : g.N[i]? = some x
  hv : Vis g.sc x
  hd : (x == ("__debug__" : Str)) = false
  hcd : (x == ("__classdict__" : Str)) = false
instance {sc : Scope} {x : Str} : Decidable (Vis sc x) := by unfold Vis; infer_instance
instance {sc : Scope} {x : Str} : Decidable (L2.Loc sc x) := by unfold L2.Loc; infer_instance
def idx (x : Str) : List Str → Nat → Nat
  | [], n => n
  | y :: r, n => if x = y then n else idx x r (n + 1)
structure SloN (g : Cfg) (x : Str) where
  i : Nat
  hN : g.N[i]? = some x
def slotB (g : Cfg) (x : Str) : Option (SloN g x) := if h : g.N[idx x g.N 0]? = some x then some ⟨idx x g.N 0, h⟩ else none
def slot (g : Cfg) (x : Str) : Option (Slo g x) :=
  if h : g.N[idx x g.N 0]? = some x ∧ Vis g.sc x ∧ (x == ("__debug__" : Str)) = false ∧ (x == ("__classdict__" : Str)) = false then some ⟨idx x g.N 0, h.1, h.2.1, h.2.2.1, h.2.2.2⟩ else none
section
variable {g : Cfg} {C : Cn}
theorem Slo.se {x : Str} {p : Pos} (s : Slo g x) (h : Good g C) : SE C (.Name x p) (.var s.i) := se_var (by rw [h.N]; exact s.hN) (by rw [h.sc]; exact s.hv) s.hd s.hcd
theorem Slo.sb {x : Str} {p : Pos} (s : Slo g x) (h : Good g C) : SBo C (.Name x p) (.var s.i) := sb_var (by rw [h.N]; exact s.hN) (by rw [h.sc]; exact s.hv) s.hd s.hcd
theorem Slo.pe {x : Str} {p : Pos} (s : Slo g x) (h : Good g C) : PE C.X (.Name x p) (tVar s.i) := pe_var (by rw [h.N]; exact s.hN) (by rw [h.sc]; exact s.hv) s.hd s.hcd
end
/-! ### tables -/
def cOp (g : Cfg) : (o : CmpOp) → Option {m : COp // ∀ C, Good g C → ∃ r, OpR C.X (compareOp o) r ∧ CmpS C.P r (cmpD m)}
  | .Eq => some ⟨.eq, fun C h => ⟨_, op_eqD (by have := h.un; omega), by rw [h.K]; exact eq_S⟩⟩
  | .NotEq => some ⟨.ne, fun C h => ⟨_, op_neD (by have := h.un; omega), by rw [h.K]; exact ne_S⟩⟩
  | .Lt => some ⟨.lt, fun C h => ⟨_, op_lt, lt_S⟩⟩
  | .LtE => some ⟨.le, fun C h => ⟨_, op_le, le_S⟩⟩
  | .Gt => some ⟨.gt, fun C h => ⟨_, op_gt, gt_S⟩⟩
  | .GtE => some ⟨.ge, fun C h => ⟨_, op_ge, ge_S⟩⟩
  | .In => some ⟨.inn, fun C h => ⟨_, op_inAll h.un, by rw [h.K, h.w]; exact in_S⟩⟩
  | .NotIn => some ⟨.nin, fun C h => ⟨_, op_notInAll h.un, by rw [h.K, h.w]; exact nin_S⟩⟩
  | _ => none
/-- a display of names -/
def nmL : Expr → Bool
  | .List es _ => !es.isEmpty && es.all fun | .Name _ _ => true | _ => false
  | _ => false
def cOpX (g : Cfg) (b : Expr) : (o : CmpOp) → Option {m : COp // ∀ C, Good g C → ∃ r, OpR C.X (compareOp o) r ∧ CmpS C.P r (cmpD m)}
  | .NotEq => if nmL b then some ⟨.nes, fun C h => ⟨_, OpR.or (op_neD (by have := h.un; omega)) (op_neX (by have := h.un; omega)), by rw [h.K]; exact nes_S⟩⟩ else cOp g .NotEq
  | o => cOp g o
def cBop (g : Cfg) : (o : Operator) → Option {m : BOp // ∀ C, Good g C → ∃ r, OpR C.X (binaryOp o) r ∧ OpS C.P r (binD m)}
  | .Add => some ⟨.add, fun C h => ⟨_, op_addAll, by rw [h.K]; exact add_S⟩⟩
  | .Sub => some ⟨.sub, fun C h => ⟨_, op_sub, sub_S⟩⟩
  | .Mult => some ⟨.mul, fun C h => ⟨_, op_mulAll, mul_S⟩⟩
  | .FloorDiv => some ⟨.fdiv, fun C h => ⟨_, op_fdivW, fdiv_S⟩⟩
  | .Mod => some ⟨.mod, fun C h => ⟨_, op_mod, mod_S⟩⟩
  | .Pow => some ⟨.pow, fun C h => ⟨_, op_pow, pow_S⟩⟩
  | _ => none
/-- a built-in: a function, or a type -/
structure BiR (C : Cn) (x : Str) (f : Bi) : Prop where
  ex : ∃ (id : String) (r : List V → Hp → VK → Prop), CallS C.P f r ∧ C.X.mg x = none ∧ x ≠ "__name__" ∧ (x == ("__debug__" : Str)) = false ∧ ((CallR C.X (.builtin id) r ∧ bootBuiltins x = some (.builtin id)) ∨ (CallR C.X (.type id) r ∧ bootBuiltins x = some (.type id)))
theorem se_bi {C : Cn} {x : Str} {f : Bi} {p pos : Pos} {a : Expr} {es : List Expr} {me : E} {ms : List E} (h : BiR C x f) (hg : Gl C.X x) (ha : SAb C (a :: es) (me :: ms)) (hn : (a :: es).all nst = true) : SE C (.Call (.Name x p) (a :: es) [] pos) (.bi f (me :: ms)) := by
  obtain ⟨id, r, hs, hm, h1, h2, ⟨hc, hv⟩ | ⟨hc, hv⟩⟩ := h.ex
  · rw [List.all_cons, Bool.and_eq_true] at hn
    exact se_biB hc hs hg hm hv ha h1 h2 (star_ok hn.1) (any_ok hn.2)
  · rw [List.all_cons, Bool.and_eq_true] at hn
    exact se_biT hc hs hg hm hv ha h1 h2 (star_ok hn.1) (any_ok hn.2)
def cBi (g : Cfg) (x : Str) : Option {f : Bi // ∀ C, Good g C → BiR C x f} :=
  if hx : x = "len" then some ⟨.len, fun C h => ⟨"len", _, len_S, by rw [hx]; exact h.nb (by decide), by rw [hx]; decide, by rw [hx]; decide, .inl ⟨by rw [← h.K]; exact call_len, by rw [hx]; exact PySem.boot_len⟩⟩⟩
  else if hx : x = "int" then some ⟨.int, fun C h => ⟨"int", _, int_S2, by rw [hx]; exact h.nb (by decide), by rw [hx]; decide, by rw [hx]; decide, .inr ⟨call_intAll, by rw [hx]; exact PyProof.Rows.boot_int⟩⟩⟩
  else if hx : x = "str" then some ⟨.str, fun C h => ⟨"str", _, str_S, by rw [hx]; exact h.nb (by decide), by rw [hx]; decide, by rw [hx]; decide, .inr ⟨call_strAll, by rw [hx]; exact PyProof.Rows.boot_str⟩⟩⟩
  else if hx : x = "max" ∧ g.calm = true then some ⟨.max, fun C h => ⟨"max", _, max_Sq, by rw [hx.1]; exact h.nb (by decide), by rw [hx.1]; decide, by rw [hx.1]; decide, .inl ⟨by rw [← h.K]; exact call_maxAll (h.calm hx.2) (by have := h.un; omega), by rw [hx.1]; exact PyProof.Rows.boot_max⟩⟩⟩
  else if hx : x = "min" ∧ g.calm = true then some ⟨.min, fun C h => ⟨"min", _, min_Sq, by rw [hx.1]; exact h.nb (by decide), by rw [hx.1]; decide, by rw [hx.1]; decide, .inl ⟨by rw [← h.K]; exact call_minAll (h.calm hx.2) (by have := h.un; omega), by rw [hx.1]; exact PyProof.Rows.boot_min⟩⟩⟩
  else if hx : x = "list" then some ⟨.list, fun C h => ⟨"list", _, list_S, by rw [hx]; exact h.nb (by decide), by rw [hx]; decide, by rw [hx]; decide, .inr ⟨by rw [← h.K]; exact call_list_of, by rw [hx]; exact PyProof.Rows.boot_list⟩⟩⟩
  else if hx : x = "tuple" then some ⟨.tuple, fun C h => ⟨"tuple", _, tuple_S, by rw [hx]; exact h.nb (by decide), by rw [hx]; decide, by rw [hx]; decide, .inr ⟨by rw [← h.K]; exact call_tuple_of, by rw [hx]; exact PyProof.Rows.boot_tuple⟩⟩⟩
  else if hx : x = "dict" then some ⟨.dict, fun C h => ⟨"dict", _, dict_S, by rw [hx]; exact h.nb (by decide), by rw [hx]; decide, by rw [hx]; decide, .inr ⟨call_dictD, by rw [hx]; exact PyProof.Rows.boot_dict⟩⟩⟩
  else none
structure MeR (C : Cn) (name : Str) (m : Me) : Prop where
  ex : ∃ (id : String) (r : V → List V → Hp → VK → Prop), PlainAttrs (meN m) ∧ Slot (meN m) name id ∧ typeOf (.builtin id) = pure (.type "method_descriptor") ∧ MtR C.X id r ∧ MethS C.P m r
def cMe (g : Cfg) (x : Str) : Option {m : Me // ∀ C, Good g C → MeR C x m} :=
  if hx : x = "join" then some ⟨.join, fun C h => ⟨"str.join", _, PySem.F.plainAttrs_str, by rw [hx]; exact PySem.F.slot_str_join, PySem.F.type_str_join, by rw [← h.K]; exact mt_join, join_S⟩⟩
  else if hx : x = "split" then some ⟨.split, fun C h => ⟨"str.split", _, PySem.F.plainAttrs_str, by rw [hx]; exact PySem.F.slot_str_split, PySem.F.type_str_split, mt_split, split_S⟩⟩
  else if hx : x = "index" then some ⟨.index, fun C h => ⟨"list.index", _, PySem.F.plainAttrs_list, by rw [hx]; exact PySem.F.slot_list_index, PySem.F.type_list_index, by rw [← h.K]; exact mt_indexD h.un, index_S⟩⟩
  else if hx : x = "get" then some ⟨.get, fun C h => ⟨"dict.get", _, PySem.F.plainAttrs_dict, by rw [hx]; exact PySem.F.slot_dict_get, PySem.F.type_dict_get, mt_getD (by have := h.un; omega), get_S⟩⟩
  else none
/-- list(range(n)) -/
theorem se_lrange {C : Cn} {a : Expr} {ma : E} {p1 p2 p3 pos : Pos} (hc : C.X.calm = true) (hgl : Gl C.X "list") (hml : C.X.mg "list" = none) (hgr : Gl C.X "range") (hmr : C.X.mg "range" = none) (ha : SBo C a ma) (na : starEach [a] C.X.env = (false, eval a C.X.env) :: starEach [] C.X.env) :
    SE C (.Call (.Name "list" p1) [.Call (.Name "range" p2) [a] [] p3] [] pos) (.bi .lrange [ma]) := by
  obtain ⟨t, pt, et⟩ := ha
  refine ⟨_, pe_listRg hc hgl hml (prg_1 hgr hmr pt na) rfl, fun σ env H S Q ok q => ?_⟩
  simp only [ev, evb, bd_bd] at q
  refine et σ env H S _ ok (RG.bind (fa := brw ma (ev C.G ma env) env) q fun d env1 x H1 S1 e1 ok1 r1 q1 => ?_)
  simp only [bd_ok] at q1
  cases d with
  | int n =>
    simp only [biD] at q1
    split at q1
    · rename_i hn
      refine ⟨n, r1.toInt, ⟨by omega, by omega, by omega, by omega, by omega⟩, fun l nl => RG.newL q1 ok1 nl ?_⟩
      have key : ∀ (l : List Nat), C.P.Reps S1 (l.map fun i => V.int (0 + (i : Nat))) (l.map fun (k : Nat) => D.int (k : Int)) := by
        intro l
        induction l with
        | nil => exact .nil
        | cons k r ih =>
          refine .cons ?_ ih
          show Rep _ _ S1 (V.int (0 + (k : Int))) (D.int (k : Int))
          rw [Int.zero_add]
          exact .int _
      have e : n - 0 = n := by omega
      show C.P.Reps S1 ((List.range (n - 0).toNat).map fun i => V.int (0 + (i : Nat))) _
      rw [e]
      exact key _
    · exact q1.elim
  | _ => exact q1.elim
end Dl

namespace Dl
open PySem L2
/-! ### trees into the small language, each step with its rule -/
abbrev OE (g : Cfg) (e : Expr) := Option {m : E // ∀ C, Good g C → SE C e m}
abbrev OD (g : Cfg) (e : Expr) := Option {m : E // ∀ C, Good g C → SD C e m}
abbrev OB (g : Cfg) (e : Expr) := Option {m : E // ∀ C, Good g C → SBo C e m}
abbrev OA (g : Cfg) (e : List Expr) := Option {m : List E // ∀ C, Good g C → SA C e m}
abbrev OAb (g : Cfg) (e : List Expr) := Option {m : List E // ∀ C, Good g C → SAb C e m}
abbrev OT (g : Cfg) (e : Expr) := Option {m : E // ∀ C, Good g C → ST C e m}
abbrev OO (g : Cfg) (e : Option Expr) := Option {m : Option E // ∀ C, Good g C → SO C e m}
abbrev OI (g : Cfg) (b : Bool) (tg e : Expr) := Option {m : E // ∀ C, Good g C → SI C b tg e m}
def cD (g : Cfg) (r : ∀ e, OE g e) (e : Expr) : OD g e := match r e with
  | some m => some ⟨m.1, fun C h => (m.2 C h).d⟩
  | none => none
def cBx (g : Cfg) (r : ∀ e, OE g e) (e : Expr) : OB g e := match r e with
  | some m => if hm : isVar m.1 = none then some ⟨m.1, fun C h => (m.2 C h).b hm⟩ else none
  | none => none
def cB (g : Cfg) (r : ∀ e, OE g e) (e : Expr) : OB g e := match e with
  | .Name x p => (match slot g x with
    | some s => some ⟨.var s.i, fun C h => s.sb h⟩
    | none => cBx g r (.Name x p))
  | e => cBx g r e
def cA (g : Cfg) (r : ∀ e, OE g e) : ∀ es, OA g es
  | [] => some ⟨[], fun C h => sa_nil⟩
  | a :: es => match cD g r a, cA g r es with
    | some m, some ms => if hn : nst a = true then some ⟨m.1 :: ms.1, fun C h => sa_cons (m.2 C h) (ms.2 C h) (star_ok hn)⟩ else none
    | _, _ => none
def cAb (g : Cfg) (r : ∀ e, OE g e) : ∀ es, OAb g es
  | [] => some ⟨[], fun C h => sab_nil⟩
  | a :: es => match cB g r a, cAb g r es with
    | some m, some ms => if hn : nst a = true then some ⟨m.1 :: ms.1, fun C h => sab_cons (m.2 C h) (ms.2 C h) (star_ok hn)⟩ else none
    | _, _ => none
def cO (g : Cfg) (r : ∀ e, OE g e) : ∀ e, OO g e
  | none => some ⟨none, fun C h => so_none⟩
  | some a => match cD g r a with
    | some m => some ⟨some m.1, fun C h => so_some (m.2 C h)⟩
    | none => none
def cAnd (g : Cfg) (r : ∀ e, OE g e) (p : Pos) : ∀ es, OE g (.BoolOp .And es p)
  | [] => none
  | [a] => match r a with
    | some m => some ⟨m.1, fun C h => se_one (m.2 C h)⟩
    | none => none
  | a :: b :: es => match r a, cAnd g r p (b :: es) with
    | some m, some ms => some ⟨.and m.1 ms.1, fun C h => se_and (m.2 C h) (ms.2 C h)⟩
    | _, _ => none
def cOr (g : Cfg) (r : ∀ e, OE g e) (p : Pos) : ∀ es, OE g (.BoolOp .Or es p)
  | [] => none
  | [a] => match r a with
    | some m => some ⟨m.1, fun C h => se_one (m.2 C h)⟩
    | none => none
  | a :: b :: es => match r a, cOr g r p (b :: es) with
    | some m, some ms => some ⟨.or m.1 ms.1, fun C h => se_or (m.2 C h) (ms.2 C h)⟩
    | _, _ => none
abbrev OW (g : Cfg) (e : Expr) := Option {m : E // ∀ C, Good g C → SW C e m}
def cAndT (g : Cfg) (r : ∀ e, OT g e) (p : Pos) : ∀ es, OW g (.BoolOp .And es p)
  | [] => none
  | [a] => match r a with
    | some m => some ⟨m.1, fun C h => sw_one_and (m.2 C h)⟩
    | none => none
  | a :: b :: es => match r a, cAndT g r p (b :: es) with
    | some m, some ms => some ⟨.and m.1 ms.1, fun C h => sw_and (m.2 C h) (ms.2 C h)⟩
    | _, _ => none
def cOrT (g : Cfg) (r : ∀ e, OT g e) (p : Pos) : ∀ es, OW g (.BoolOp .Or es p)
  | [] => none
  | [a] => match r a with
    | some m => some ⟨m.1, fun C h => sw_one_or (m.2 C h)⟩
    | none => none
  | a :: b :: es => match r a, cOrT g r p (b :: es) with
    | some m, some ms => some ⟨.or m.1 ms.1, fun C h => sw_or (m.2 C h) (ms.2 C h)⟩
    | _, _ => none
/-- a test -/
def cT (g : Cfg) (r : ∀ e, OE g e) : Nat → ∀ e, OT g e
  | 0, _ => none
  | n + 1, .UnaryOp .Not a p => (match cT g r n a with
    | some m => some ⟨.not m.1, fun C h => st_not (m.2 C h)⟩
    | none => none)
  | n + 1, .BoolOp .And es p => (match cAndT g (cT g r n) p es with
    | some m => some ⟨m.1, fun C h => (m.2 C h).t⟩
    | none => none)
  | n + 1, .BoolOp .Or es p => (match cOrT g (cT g r n) p es with
    | some m => some ⟨m.1, fun C h => (m.2 C h).t⟩
    | none => none)
  | n + 1, .Compare a [.Is] [.Constant .none j p'] p => (match cB g r a with
    | some m => some ⟨.cmp .isN m.1 (.lit .non), fun C h => st_isN (m.2 C h)⟩
    | none => none)
  | n + 1, .Compare a [.IsNot] [.Constant .none j p'] p => (match cB g r a with
    | some m => some ⟨.cmp .notN m.1 (.lit .non), fun C h => st_notN (m.2 C h)⟩
    | none => none)
  | n + 1, .Compare a [o] [b] p => (match cOpX g b o, cB g r a, cB g r b with
    | some o', some ma, some mb => if hm : behindInMarks o b = false then some ⟨.cmp o'.1 ma.1 mb.1, fun C h => let ⟨_, h1, h2⟩ := o'.2 C h; st_cmp h1 h2 (ma.2 C h) (mb.2 C h) hm⟩ else none
    | _, _, _ => none)
  | n + 1, .Compare a [o, o2] [b, c] p => (match cOp g o, cOp g o2, cB g r a, cB g r b, cB g r c with
    | some o', some o2', some ma, some mb, some mc => if hm : lastMarks [o, o2] [b, c] = false then some ⟨.chain o'.1 o2'.1 ma.1 mb.1 mc.1, fun C h => let ⟨_, h1, h2⟩ := o'.2 C h; let ⟨_, h3, h4⟩ := o2'.2 C h; st_chain h1 h2 h3 h4 (ma.2 C h) (mb.2 C h) (mc.2 C h) hm⟩ else none
    | _, _, _, _, _ => none)
  | n + 1, .Compare a [o, o2, o3] [b, c, d] p => (match cOp g o, cOp g o2, cOp g o3, cB g r a, cB g r b, cB g r c, cB g r d with
    | some o', some o2', some o3', some ma, some mb, some mc, some md => if hm : lastMarks [o, o2, o3] [b, c, d] = false then some ⟨.chain3 o'.1 o2'.1 o3'.1 ma.1 mb.1 mc.1 md.1, fun C h => let ⟨_, h1, h2⟩ := o'.2 C h; let ⟨_, h3, h4⟩ := o2'.2 C h; let ⟨_, h5, h6⟩ := o3'.2 C h; st_chain3 h1 h2 h3 h4 h5 h6 (ma.2 C h) (mb.2 C h) (mc.2 C h) (md.2 C h) hm⟩ else none
    | _, _, _, _, _, _, _ => none)
  | n + 1, e => (match cB g r e with
    | some m => if hp : plT e = true then some ⟨m.1, fun C h => st_truth h.K (m.2 C h) (isTrue_ok hp)⟩ else none
    | none => none)
/-! what is walked -/
/-- the signs of a text that a dict holds -/
def txB : Expr → Bool
  | .Subscript _ _ _ => true
  | .Name x _ => decide (x = ("sorts" : Str))
  | _ => false
def cI (g : Cfg) (r : ∀ e, OE g e) (b : Bool) (tg : Expr) : ∀ e, OI g b tg e
  | .Call (.Name x p1) [a] [] p => if hx : x = "range" ∧ g.sc.names.lookup x = some .globalImplicit then (match cA g r [a] with
      | some ⟨[m], hm⟩ => if hn : nst a = true then some ⟨.range [m], fun C h => by obtain ⟨rfl, hg⟩ := hx; exact si_rng1 (h.gl hg) (h.nb (by decide)) (hm C h) (star_ok hn)⟩ else none
      | _ => none)
    else if hx : x = "enumerate" ∧ g.sc.names.lookup x = some .globalImplicit then (match tg, b with
      | .Tuple es kk tp, false => (match cD g r a with
        | some m => if hn : nst a = true then some ⟨.enum m.1, fun C h => by obtain ⟨rfl, hg⟩ := hx; exact si_enum h.K (h.gl hg) (h.nb (by decide)) (m.2 C h) (star_ok hn)⟩ else none
        | none => none)
      | _, _ => none)
    else (match b with
      | true => (match cB g r (.Call (.Name x p1) [a] [] p) with
        | some m => some ⟨m.1, fun C h => si_any h.K (m.2 C h)⟩
        | none => none)
      | false => (match cD g r (.Call (.Name x p1) [a] [] p) with
        | some m => some ⟨m.1, fun C h => si_anyF h.K (m.2 C h)⟩
        | none => none))
  | .Call (.Name x p1) [a, a2] [] p => if hx : x = "range" ∧ g.sc.names.lookup x = some .globalImplicit then (match cA g r [a, a2] with
      | some ⟨[m, m2], hm⟩ => if hn : nst a = true ∧ nst a2 = true then some ⟨.range [m, m2], fun C h => by obtain ⟨rfl, hg⟩ := hx; exact si_rng2 (h.gl hg) (h.nb (by decide)) (hm C h) (by rw [star_ok hn.1, star_ok hn.2]; rfl) (star_ok hn.2)⟩ else none
      | _ => none)
    else if hx : (x = "zip" ∧ g.sc.names.lookup x = some .globalImplicit) ∧ txB a2 = true then (match tg, b with
      | .Tuple es kk tp, false => (match cD g r a, cD g r a2 with
        | some m, some m2 => if hn : nst a = true ∧ nst a2 = true then some ⟨.zips m.1 m2.1, fun C h => by obtain ⟨⟨rfl, hg⟩, _⟩ := hx; exact si_zipS h.K (h.gl hg) (h.nb (by decide)) (m.2 C h) (m2.2 C h) (star_ok hn.1) (star_ok hn.2) (by rw [star_ok hn.2]; rfl)⟩ else none
        | _, _ => none)
      | _, _ => none)
    else if hx : x = "zip" ∧ g.sc.names.lookup x = some .globalImplicit then (match tg, b with
      | .Tuple es kk tp, false => (match cD g r a, cD g r a2 with
        | some m, some m2 => if hn : nst a = true ∧ nst a2 = true then some ⟨.zip m.1 m2.1, fun C h => by obtain ⟨rfl, hg⟩ := hx; exact si_zip h.K (h.gl hg) (h.nb (by decide)) (m.2 C h) (m2.2 C h) (star_ok hn.1) (star_ok hn.2) (by rw [star_ok hn.2]; rfl)⟩ else none
        | _, _ => none)
      | _, _ => none)
    else (match b with
      | true => (match cB g r (.Call (.Name x p1) [a, a2] [] p) with
        | some m => some ⟨m.1, fun C h => si_any h.K (m.2 C h)⟩
        | none => none)
      | false => (match cD g r (.Call (.Name x p1) [a, a2] [] p) with
        | some m => some ⟨m.1, fun C h => si_anyF h.K (m.2 C h)⟩
        | none => none))
  | .Call (.Name x p1) [a, a2, a3] [] p => if hx : x = "range" ∧ g.sc.names.lookup x = some .globalImplicit then (match cA g r [a, a2, a3] with
      | some ⟨[m, m2, m3], hm⟩ => if hn : nst a = true ∧ nst a2 = true ∧ nst a3 = true then some ⟨.range [m, m2, m3], fun C h => by
            obtain ⟨rfl, hg⟩ := hx
            exact si_rngD (h.gl hg) (h.nb (by decide)) (hm C h) (star_ok hn.1) (any_ok (by rw [List.all_cons, List.all_cons, hn.2.1, hn.2.2]; rfl))⟩ else none
      | _ => none)
    else (match b with
      | true => (match cB g r (.Call (.Name x p1) [a, a2, a3] [] p) with
        | some m => some ⟨m.1, fun C h => si_any h.K (m.2 C h)⟩
        | none => none)
      | false => (match cD g r (.Call (.Name x p1) [a, a2, a3] [] p) with
        | some m => some ⟨m.1, fun C h => si_anyF h.K (m.2 C h)⟩
        | none => none))
  | e => (match b with
      | true => (match cB g r e with
        | some m => some ⟨m.1, fun C h => si_any h.K (m.2 C h)⟩
        | none => none)
      | false => (match cD g r e with
        | some m => some ⟨m.1, fun C h => si_anyF h.K (m.2 C h)⟩
        | none => none))
/-! the block of a comprehension -/
def blkG (g : Cfg) (scope : Scope) : Cfg := { g with sc := relS scope g.sc, top := false, isx := false, excs := [], tx := false }
theorem takes0N {X : Cx} : L2N.Takes X (fun _ _ _ _ => False) := fun _ _ ⟨_, _, _, _, _, _, _, _, _, _, _, _, _, _, _, _, w⟩ => w.elim
theorem good_blk {g : Cfg} {C : Cn} (h : Good g C) {scope : Scope} (s : Shared) (H : Hp) (Ca : Addr) (cl : List (Str × Addr)) (fp : List Addr) (H0 : Hp) : Good (blkG g scope) (C.blk s H scope (compEnvC scope cl Ca C.X.env) fp H0) where
  K := h.K
  w := h.w
  N := h.N
  nd := h.nd
  sc := by
    show relS scope C.X.env.scope = relS scope g.sc
    rw [h.sc]
  calm := h.calm
  un := h.un
  tk := takes0N
  tkH := fun _ => takes0
  pa := fun z => by cases z
  po := PassesOwn.never
  st := fun x _ z => by cases z
  fl := fun z => by cases z
  bl := h.bl
  fns := h.fns
  cons := h.cons
  rai := fun p hp => by cases hp
  exn := fun p hp => by cases hp
  exC := fun z => absurd rfl z
  isE := fun z => by cases z
/-- an element that may raise -/
def rsC : Expr → Bool
  | .Call (.Name f _) _ _ _ => f == ("read_deed" : Str)
  | _ => false
def tyT : Str → Option {t : Ty // True} := fun _ => none
structure TyR (x : Str) (t : Ty) : Prop where
  hb : x ∈ blts
  hv : bootBuiltins x = some (.type (tyS t))
  hn : x ≠ "__name__"
  hd : (x == ("__debug__" : Str)) = false
def cTy (x : Str) : Option {t : Ty // TyR x t} :=
  if hx : x = "int" then some ⟨.int, ⟨by rw [hx]; decide, by rw [hx]; exact PyProof.Rows.boot_int, by rw [hx]; decide, by rw [hx]; decide⟩⟩
  else if hx : x = "bool" then some ⟨.bool, ⟨by rw [hx]; decide, by rw [hx]; exact PyProof.Rows.boot_bool, by rw [hx]; decide, by rw [hx]; decide⟩⟩
  else if hx : x = "str" then some ⟨.str, ⟨by rw [hx]; decide, by rw [hx]; exact PyProof.Rows.boot_str, by rw [hx]; decide, by rw [hx]; decide⟩⟩
  else if hx : x = "list" then some ⟨.list, ⟨by rw [hx]; decide, by rw [hx]; exact PyProof.Rows.boot_list, by rw [hx]; decide, by rw [hx]; decide⟩⟩
  else if hx : x = "tuple" then some ⟨.tuple, ⟨by rw [hx]; decide, by rw [hx]; exact PyProof.Rows.boot_tuple, by rw [hx]; decide, by rw [hx]; decide⟩⟩
  else none
/-- what is found by a name in a table -/
def fnd {α : Type} (x : Str) : (l : List (Str × α)) → Option {a : α // (x, a) ∈ l}
  | [] => none
  | (y, a) :: r => if h : x = y then some ⟨a, by rw [h]; exact List.mem_cons_self⟩ else match fnd x r with
    | some b => some ⟨b.1, List.mem_cons_of_mem _ b.2⟩
    | none => none
theorem ExN.pe {C : Cn} {x : Str} {c : Nat} {p : Pos} (h : ExN C.X C.P.cv x c) (hg : Gl C.X x) : ∃ (u : Value) (v : V), PE C.X (.Name x p) (tC v) ∧ (∀ w, RelV v w → w = u) ∧ ∀ d, PySem.W.kitOne C.X.K (C.P.cv d) u = some (subC d c) := by
  obtain ⟨u, v, hm, hr, hu, hd, _, hk⟩ := h.ex
  refine ⟨u, v, ?_, hu, hk⟩
  rcases hm with hm | ⟨hm, hv, hn⟩
  · exact pe_glob hg hm hr hd
  · exact pe_bltn hg hm hv hr hn hd
def cIsi (g : Cfg) (r : ∀ e, OE g e) (a : Expr) (x : Str) (p1 p2 p : Pos) : OE g (.Call (.Name "isinstance" p1) [a, .Name x p2] [] p) :=
  if hg : g.sc.names.lookup ("isinstance" : Str) = some .globalImplicit ∧ g.sc.names.lookup x = some .globalImplicit ∧ nst a = true then
    match cTy x with
    | some t => (match cB g r a with
      | some m => some ⟨.isi m.1 t.1, fun C h => se_isi h.K (h.gl hg.1) (h.nb (by decide)) (m.2 C h) (h.gl hg.2.1) (h.nb t.2.hb) t.2.hv t.2.hn t.2.hd (star_ok hg.2.2)⟩
      | none => none)
    | none => (match fnd x (excAll g), a with
      | some c, .Name e pe => (match slot g e with
        | some s => if hx : g.isx = true then some ⟨.isx s.i c.1, fun C h => by
            obtain ⟨u, v, hp, hu, hk⟩ := (h.exn _ c.2).pe (p := p2) (h.gl hg.2.1)
            exact se_isx (h.isE hx) (h.gl hg.1) (h.nb (by decide)) (by rw [h.N]; exact s.hN) (by rw [h.sc]; exact s.hv) s.hd s.hcd hp hu (by rw [← h.K]; exact hk) (star_ok rfl) (star_ok rfl)⟩ else none
        | none => none)
      | _, _ => none)
  else none
def cCall (g : Cfg) (r : ∀ e, OE g e) (x : Str) (p1 : Pos) (args : List Expr) (p : Pos) : OE g (.Call (.Name x p1) args [] p) :=
  match args with
  | [] => (match fnd x g.fns with
      | some c => if hg : g.sc.names.lookup x = some .globalImplicit ∧ c.1.2 = (0, none) ∧ (x == ("__debug__" : Str)) = false ∧ (g.hot || !hotB x) = true then some ⟨.call c.1.1 [], fun C h => se_call0 (h.fnAt c.2 hg.2.1) (h.pass hg.2.2.2) (h.gl hg.1) hg.2.2.1⟩ else none
      | none => none)
  | a :: es => if hg : g.sc.names.lookup x = some .globalImplicit ∧ (a :: es).all nst = true then
      match cBi g x with
      | some f => (match cAb g r (a :: es) with
        | some ⟨ma :: ms, hm⟩ => some ⟨.bi f.1 (ma :: ms), fun C h => se_bi (f.2 C h) (h.gl hg.1) (hm C h) hg.2⟩
        | _ => none)
      | none => (match fnd x g.fns, cA g r (a :: es) with
        | some c, some ⟨ma :: ms, hm⟩ => if hc : c.1.2 = (ms.length + 1, none) ∧ (x == ("__debug__" : Str)) = false ∧ nst a = true ∧ es.all nst = true ∧ (g.hot || !hotB x) = true then some ⟨.call c.1.1 (ma :: ms), fun C h => se_call (h.fnAt c.2 hc.1) (h.pass hc.2.2.2.2) (h.gl hg.1) hc.2.1 (hm C h) (star_ok hc.2.2.1) (any_ok hc.2.2.2.1)⟩ else none
        | _, _ => none)
    else none
def cConst (g : Cfg) (c : Const) (j : Nat) (p : Pos) : OE g (.Constant c j p) := match c with
  | .none => some ⟨.lit .non, fun C h => se_lit pe_non fun S => .non⟩
  | .bool b => some ⟨.lit (.bl b), fun C h => se_lit pe_bl fun S => .bl b⟩
  | .int i => some ⟨.lit (.int i), fun C h => se_lit pe_int fun S => .int i⟩
  | .str x => some ⟨.lit (.str x.cps.toList), fun C h => se_lit pe_str fun S => by have := Rep.str (K := C.P.K) (w := C.P.w) (S := S) x.cps.toList; rw [sT_of] at this; exact this⟩
  | _ => none
/-! a list that is handed in -/
theorem good_at {g : Cfg} {C : Cn} (h : Good g C) (p : Addr) (o : HO) (S0 : Hp) : Good g (C.at_ (C.P.prot p o S0)) where
  tkH := h.tkH
  pa := h.pa
  K := h.K
  w := h.w
  N := h.N
  nd := h.nd
  sc := h.sc
  calm := h.calm
  un := h.un
  tk := h.tk
  po := h.po
  st := h.st
  fl := h.fl
  bl := h.bl
  fns := h.fns
  cons := h.cons
  rai := h.rai
  exn := h.exn
  exC := h.exC
  isE := h.isE
def cKeys : ∀ keys : List (Option Expr), Option {ks : List T // ∀ C : Cn, Al2 (fun e k => ∃ x, e = some x ∧ PE C.X x (tC (.str (sT k)))) keys ks}
  | [] => some ⟨[], fun C => .nil⟩
  | some (.Constant (.str x) j p) :: r => (match cKeys r with
    | some ks => some ⟨x.cps.toList :: ks.1, fun C => .cons ⟨_, rfl, by rw [sT_of]; exact pe_str⟩ (ks.2 C)⟩
    | none => none)
  | _ => none
def cVals (g : Cfg) (r : ∀ e, OE g e) : ∀ es : List Expr, Option {ms : List E // ∀ C, Good g C → Al2 (fun e m => ∀ p o S0, SD (C.at_ (C.P.prot p o S0)) e m) es ms}
  | [] => some ⟨[], fun C h => .nil⟩
  | a :: es => (match cD g r a, cVals g r es with
    | some m, some ms => some ⟨m.1 :: ms.1, fun C h => .cons (fun p o S0 => m.2 _ (good_at h p o S0)) (ms.2 C h)⟩
    | _, _ => none)
/-- an expression -/
def cE : Nat → ∀ (g : Cfg) (e : Expr), OE g e
  | 0, _, _ => none
  | n + 1, g, .Constant c j p => cConst g c j p
  | n + 1, g, .Name x p => (match slot g x with
    | some s => some ⟨.var s.i, fun C h => s.se h⟩
    | none => (match fnd x g.cons with
      | some d => if hg : g.sc.names.lookup x = some .globalImplicit ∧ (x == ("__debug__" : Str)) = false then some ⟨.lit d.1, fun C h => by
          obtain ⟨u, v, hm, hr, hS⟩ := h.cons _ d.2
          exact se_lit (pe_glob (h.gl hg.1) hm hr hg.2) hS⟩ else none
      | none => none))
  | n + 1, g, .BinOp a o b p => (match cBop g o, cB g (cE n g) a, cB g (cE n g) b with
    | some o', some ma, some mb => some ⟨.bin o'.1 ma.1 mb.1, fun C h => let ⟨_, h1, h2⟩ := o'.2 C h; se_op h1 h2 (ma.2 C h) (mb.2 C h)⟩
    | _, _, _ => none)
  | n + 1, g, .UnaryOp .USub a p => (match cD g (cE n g) a with
    | some m => some ⟨.neg m.1, fun C h => se_neg (m.2 C h)⟩
    | none => none)
  | n + 1, g, .UnaryOp .Not a p => (match cB g (cE n g) a with
    | some m => some ⟨.not m.1, fun C h => se_not h.K (m.2 C h)⟩
    | none => none)
  | n + 1, g, .BoolOp .And es p => cAnd g (cE n g) p es
  | n + 1, g, .BoolOp .Or es p => cOr g (cE n g) p es
  | n + 1, g, .Compare a [.Is] [.Constant .none j p'] p => (match cB g (cE n g) a with
    | some m => some ⟨.cmp .isN m.1 (.lit .non), fun C h => se_isN (m.2 C h)⟩
    | none => none)
  | n + 1, g, .Compare a [.IsNot] [.Constant .none j p'] p => (match cB g (cE n g) a with
    | some m => some ⟨.cmp .notN m.1 (.lit .non), fun C h => se_notN (m.2 C h)⟩
    | none => none)
  | n + 1, g, .Compare a [o] [b] p => (match cOpX g b o, cB g (cE n g) a, cB g (cE n g) b with
    | some o', some ma, some mb => if hm : behindInMarks o b = false then some ⟨.cmp o'.1 ma.1 mb.1, fun C h => let ⟨_, h1, h2⟩ := o'.2 C h; se_cmp h1 h2 (ma.2 C h) (mb.2 C h) hm⟩ else none
    | _, _, _ => none)
  | n + 1, g, .Compare a [o, o2] [b, c] p => (match cOp g o, cOp g o2, cB g (cE n g) a, cB g (cE n g) b, cB g (cE n g) c with
    | some o', some o2', some ma, some mb, some mc => if hm : lastMarks [o, o2] [b, c] = false then some ⟨.chain o'.1 o2'.1 ma.1 mb.1 mc.1, fun C h => let ⟨_, h1, h2⟩ := o'.2 C h; let ⟨_, h3, h4⟩ := o2'.2 C h; se_chain h1 h2 h3 h4 (ma.2 C h) (mb.2 C h) (mc.2 C h) hm⟩ else none
    | _, _, _, _, _ => none)
  | n + 1, g, .Compare a [o, o2, o3] [b, c, d] p => (match cOp g o, cOp g o2, cOp g o3, cB g (cE n g) a, cB g (cE n g) b, cB g (cE n g) c, cB g (cE n g) d with
    | some o', some o2', some o3', some ma, some mb, some mc, some md => if hm : lastMarks [o, o2, o3] [b, c, d] = false then some ⟨.chain3 o'.1 o2'.1 o3'.1 ma.1 mb.1 mc.1 md.1, fun C h => let ⟨_, h1, h2⟩ := o'.2 C h; let ⟨_, h3, h4⟩ := o2'.2 C h; let ⟨_, h5, h6⟩ := o3'.2 C h; se_chain3 h1 h2 h3 h4 h5 h6 (ma.2 C h) (mb.2 C h) (mc.2 C h) (md.2 C h) hm⟩ else none
    | _, _, _, _, _, _, _ => none)
  | n + 1, g, .Tuple es k p => (match cA g (cE n g) es with
    | some ms => some ⟨.tup ms.1, fun C h => se_tup (ms.2 C h)⟩
    | none => none)
  | n + 1, g, .List es p => (match cA g (cE n g) es with
    | some ms => some ⟨.lst ms.1, fun C h => se_lst (ms.2 C h)⟩
    | none => none)
  | n + 1, g, .Dict [] [] p => if g.dt then some ⟨.ditn, fun C h => se_ditn⟩ else some ⟨.dict [] [], fun C h => se_dict0⟩
  | n + 1, g, .Dict keys values p => (match cKeys keys, cVals g (cE n g) values with
    | some ks, some ms => if hx : ks.1.length = ms.1.length ∧ keys.all (·.isSome) = true ∧ keys.length = values.length ∧ keys ≠ [] ∧ keys.length ≤ 15 ∧ g.dt = false then some ⟨.dict ks.1 ms.1, fun C h => se_dictK hx.1 (ks.2 C) (ms.2 C h) hx.2.1 hx.2.2.1 hx.2.2.2.1 hx.2.2.2.2.1⟩ else none
    | _, _ => none)
  | n + 1, g, .Subscript a (.Slice lo hi none p2) p => (match cB g (cE n g) a, cO g (cE n g) lo, cO g (cE n g) hi with
    | some m, some l, some u => some ⟨.slice m.1 l.1 u.1, fun C h => se_slice h.K (m.2 C h) (l.2 C h) (u.2 C h)⟩
    | _, _, _ => none)
  | n + 1, g, .Subscript a b p => (match cB g (cE n g) a, cD g (cE n g) b with
    | some m, some k => if hb : nsl b = true then some ⟨.sub m.1 k.1, fun C h => se_sub h.K h.w (by have := h.un; omega) (m.2 C h) (k.2 C h) (ix_ok hb)⟩ else none
    | _, _ => none)
  | n + 1, g, .Call (.Name x p1) [a, .Name T p2] [] p => if hx : x = "isinstance" then (match cIsi g (cE n g) a T p1 p2 p with
      | some m => some ⟨m.1, by rw [hx]; exact m.2⟩
      | none => none)
    else cCall g (cE n g) x p1 [a, .Name T p2] p
  | n + 1, g, .Call (.Name x p1) [.Call (.Name y p2) [a] [] p3] [] p => if hx : x = "list" ∧ y = "range" ∧ g.calm = true ∧ g.sc.names.lookup ("list" : Str) = some .globalImplicit ∧ g.sc.names.lookup ("range" : Str) = some .globalImplicit ∧ nst a = true then (match cB g (cE n g) a with
      | some m => some ⟨.bi .lrange [m.1], fun C h => by
          obtain ⟨rfl, rfl, h1, h2, h3, h4⟩ := hx
          exact se_lrange (h.calm h1) (h.gl h2) (h.nb (by decide)) (h.gl h3) (h.nb (by decide)) (m.2 C h) (star_ok h4)⟩
      | none => none)
    else if hx : x = "len" ∧ y = "set" ∧ g.calm = true ∧ g.sc.names.lookup ("len" : Str) = some .globalImplicit ∧ g.sc.names.lookup ("set" : Str) = some .globalImplicit ∧ nst a = true then (match cB g (cE n g) a with
      | some m => some ⟨.bi .lset [m.1], fun C h => by
          obtain ⟨rfl, rfl, h1, h2, h3, h4⟩ := hx
          exact se_lset (h.calm h1) h.K (h.gl h2) (h.nb (by decide)) (h.gl h3) (h.nb (by decide)) (m.2 C h) (star_ok h4)⟩
      | none => none)
    else if hx : x = "sorted" ∧ y = "set" ∧ g.calm = true ∧ g.sc.names.lookup ("sorted" : Str) = some .globalImplicit ∧ g.sc.names.lookup ("set" : Str) = some .globalImplicit ∧ nst a = true then (match cB g (cE n g) a with
      | some m => some ⟨.bi .sset [m.1], fun C h => by
          obtain ⟨rfl, rfl, h1, h2, h3, h4⟩ := hx
          exact se_sset (h.calm h1) h.K (h.gl h2) (h.nb (by decide)) (h.gl h3) (h.nb (by decide)) (m.2 C h) (star_ok h4)⟩
      | none => none)
    else cCall g (cE n g) x p1 [.Call (.Name y p2) [a] [] p3] p
  | n + 1, g, .Call (.Name x p1) [a] [⟨some k1, .Name l p2, kp⟩, ⟨some k2, .Constant (.bool true) j p3, kp2⟩] p => if hx : x = "sorted" ∧ k1 = "key" ∧ k2 = "reverse" ∧ l = "len" ∧ g.sc.names.lookup ("sorted" : Str) = some .globalImplicit ∧ g.sc.names.lookup ("len" : Str) = some .globalImplicit ∧ nst a = true then (match cAb g (cE n g) [a] with
      | some ⟨[m], hm⟩ => some ⟨.bi .srtl [m], fun C h => by
          obtain ⟨rfl, rfl, rfl, rfl, h1, h2, h3⟩ := hx
          exact se_srt h.un h.K (h.gl h1) (h.nb (by decide)) (h.gl h2) (h.nb (by decide)) (hm C h) (by rw [star_ok h3]; rfl) (any_ok (by rw [List.all_cons, h3]; rfl))⟩
      | _ => none)
    else none
  | n + 1, g, .Call (.Name x p1) es [] p => cCall g (cE n g) x p1 es p
  | n + 1, g, .Call (.Attribute o name ap) (a :: es) [] p => (match cMe g name, cB g (cE n g) o, cAb g (cE n g) (a :: es) with
    | some m, some mo, some ⟨ma :: ms, hm⟩ => if hx : ncall o = true ∧ few (a :: es) = true ∧ (ap.endLine == p.line) = true ∧ nst a = true ∧ es.all nst = true then some ⟨.meth m.1 mo.1 (ma :: ms), fun C h => by
        obtain ⟨id, rr, h1, h2, h3, h4, h5⟩ := (m.2 C h).ex
        exact se_meth h.K h1 h2 h3 h4 h5 (mo.2 C h) (hm C h) (base_ok hx.1) (few_ok hx.2.1) hx.2.2.1 (star_ok hx.2.2.2.1) (any_ok hx.2.2.2.2)⟩ else none
    | _, _, _ => none)
  | n + 1, g, .ListComp elt [⟨.Name y py, it, ifs, 0⟩] scope p => (match slotB g y, cI g (cE n g) true (.Name y py) it, cD (blkG g scope) (cE n (blkG g scope)) elt with
    | none, some mi, some me => none
    | some s, some mi, some me => if hx : g.calm = true ∧ blkC g.N g.sc scope [(y, s.i)] = true ∧ L2.Loc (relS scope g.sc) y ∧ ((scope.names.lookup y == some .cell) = true ∨ (relS scope g.sc).names.lookup y = some .local) ∧ nset it = true then
        (match ifs with
        | [] => some ⟨.comp s.i mi.1 none me.1, fun C h => by
            refine se_comp (h.calm hx.1) h.ndX (mi.2 C h) (by rw [h.N, h.sc]; exact blkOk_by hx.2.1) (fun sh H Ca cl fp => ?_) (fun sh H Ca cl fp => ?_) (fun sh H Ca cl fp => tDc_pe fun H0 => me.2 _ (good_blk h sh H Ca cl fp H0)) (fold_ok hx.2.2.2.2)
            · exact pg_name h.ndX (by show C.X.N[s.i]? = some y; rw [h.N]; exact s.hN) (by show L2.Loc (relS scope C.X.env.scope) y; rw [h.sc]; exact hx.2.2.1) (by show (scope.names.lookup y == some .cell) = true ∨ (relS scope C.X.env.scope).names.lookup y = some .local; rw [h.sc]; exact hx.2.2.2.1)
            · exact pts_nil⟩
        | [c] => (match cT (blkG g scope) (cE n (blkG g scope)) 9 c with
          | some mc => some ⟨.comp s.i mi.1 (some mc.1) me.1, fun C h => by
              refine se_comp (h.calm hx.1) h.ndX (mi.2 C h) (by rw [h.N, h.sc]; exact blkOk_by hx.2.1) (fun sh H Ca cl fp => ?_) (fun sh H Ca cl fp => ?_) (fun sh H Ca cl fp => tDc_pe fun H0 => me.2 _ (good_blk h sh H Ca cl fp H0)) (fold_ok hx.2.2.2.2)
              · exact pg_name h.ndX (by show C.X.N[s.i]? = some y; rw [h.N]; exact s.hN) (by show L2.Loc (relS scope C.X.env.scope) y; rw [h.sc]; exact hx.2.2.1) (by show (scope.names.lookup y == some .cell) = true ∨ (relS scope C.X.env.scope).names.lookup y = some .local; rw [h.sc]; exact hx.2.2.2.1)
              · exact pts_one (tTc_pt fun H0 => mc.2 _ (good_blk h sh H Ca cl fp H0))⟩
          | none => none)
        | _ => none)
      else none
    | _, _, _ => none)
  | _, _, _ => none
end Dl

namespace Dl
open PySem L2
abbrev OS (g : Cfg) (e : Stmt) := Option {m : Dl.S // ∀ C, Good g C → SS C e m}
abbrev OSs (g : Cfg) (e : List Stmt) := Option {m : List Dl.S // ∀ C, Good g C → SSs C e m}
/-- a name to store at -/
structure Sto (g : Cfg) (x : Str) where
  s : Slo g x
  hl : L2.Loc g.sc x
  ht : g.sc.names.lookup x = some .local ∨ g.top = true
def sto (g : Cfg) (x : Str) : Option (Sto g x) := match slot g x with
  | some s => if h : L2.Loc g.sc x ∧ (g.sc.names.lookup x = some .local ∨ g.top = true) then some ⟨s, h.1, h.2⟩ else none
  | none => none
section
variable {g : Cfg} {C : Cn}
theorem Sto.fn {x : Str} (s : Sto g x) (h : Good g C) : C.X.fn x = true ∨ C.X.env.scope.names.lookup x = some .local := by
  rcases s.hl with e | e
  · exact .inr (by rw [h.sc]; exact e)
  · rcases s.ht with t | t
    · exact .inr (by rw [h.sc]; exact t)
    · exact .inl (h.st x e t)
theorem Sto.pg {x : Str} {p : Pos} (s : Sto g x) (h : Good g C) : PG C.X (.Name x p) (gName s.s.i) := pg_name h.ndX (by rw [h.N]; exact s.s.hN) (by rw [h.sc]; exact s.hl) (s.fn h)
end
/-- the names of a tuple -/
def cNames (g : Cfg) : ∀ es, Option {is : List Nat // ∀ C, Good g C → PGs C.X es (gNames is) ∧ (assignEach es C.X.env).length = is.length ∧ (assignEach es C.X.env).findIdx? (·.1) = none}
  | [] => some ⟨[], fun C h => ⟨pgs_nil, rfl, rfl⟩⟩
  | .Name x p :: r => match sto g x, cNames g r with
    | some s, some ⟨is, hi⟩ => some ⟨s.s.i :: is, fun C h => by
        obtain ⟨h1, h2, h3⟩ := hi C h
        refine ⟨pgs_cons (s.pg h) h1 rfl, ?_, ?_⟩
        · show (assignEach r C.X.env).length + 1 = is.length + 1
          rw [h2]
        · show List.findIdx? _ ((false, assign (.Name x p) C.X.env) :: assignEach r C.X.env) = none
          rw [List.findIdx?_cons, h3]
          rfl⟩
    | _, _ => none
  | _ => none
/-- whether a comprehension's list goes straight to the name -/
def swB (g : Cfg) (scope : Scope) (y : Str) (py p : Pos) : Bool := (if g.sc.kind.isAnnotationScope then ScopeKind.function else g.sc.kind) == .function && g.sc.names.lookup y == some .local && py.line == p.line && !(scope.names.any fun (n, k) => n == y && (k == .local || k == .cell))
theorem swB_ok {g : Cfg} {C : Cn} (h : Good g C) {elt : Expr} {gs : List Comprehension} {scope : Scope} {p py : Pos} {y : Str} {l : Nat} : swapsWith (.ListComp elt gs scope p) (some (.Name y py)) l C.X.env = pure (swB g scope y py p) := by
  unfold swapsWith swB
  rw [← h.sc]
  rfl
/-- [elt for y in it if c] at C: what a statement asks -/
structure LcR (C : Cn) (elt it : Expr) (y : Str) (py : Pos) (ifs : List Expr) (scope : Scope) (s : Nat) (mi : E) (cnd : Option E) (me : E) : Prop where
  hi : SI C true (.Name y py) it mi
  ok : BlkOk C.X.N C.X.env.scope scope [(y, s)]
  hg : ∀ (sh : Shared) (H : Hp) (Ca : Addr) (cl : List (Str × Addr)) (fp : List Addr), PG (C.X.blk sh H scope (compEnvC scope cl Ca C.X.env) fp) (.Name y py) (gName s)
  ht : ∀ (s : Shared) (H : Hp) (Ca : Addr) (cl : List (Str × Addr)) (fp : List Addr), PTs (C.X.blk s H scope (compEnvC scope cl Ca C.X.env) fp) ifs (tTc C.P C.G cnd)
  he : ∀ (s : Shared) (H : Hp) (Ca : Addr) (cl : List (Str × Addr)) (fp : List Addr), PE (C.X.blk s H scope (compEnvC scope cl Ca C.X.env) fp) elt (tDc C.P C.G me)
  hs : ∀ x, foldedSetIterable it C.X.env x = pure x
structure LcM where
  s : Nat
  mi : E
  cnd : Option E
  me : E
def cLc (g : Cfg) (n : Nat) (elt it : Expr) (y : Str) (py : Pos) (ifs : List Expr) (scope : Scope) : Option {m : LcM // g.calm = true ∧ ∀ C, Good g C → LcR C elt it y py ifs scope m.s m.mi m.cnd m.me} :=
  match slotB g y, cI g (cE n g) true (.Name y py) it, cD (blkG g scope) (cE n (blkG g scope)) elt with
    | some s, some mi, some me => if hx : g.calm = true ∧ blkC g.N g.sc scope [(y, s.i)] = true ∧ L2.Loc (relS scope g.sc) y ∧ ((scope.names.lookup y == some .cell) = true ∨ (relS scope g.sc).names.lookup y = some .local) ∧ nset it = true then
        (match ifs with
        | [] => some ⟨⟨s.i, mi.1, none, me.1⟩, hx.1, fun C h => ⟨mi.2 C h, by rw [h.N, h.sc]; exact blkOk_by hx.2.1, fun sh H Ca cl fp => by
              exact pg_name h.ndX (by show C.X.N[s.i]? = some y; rw [h.N]; exact s.hN) (by show L2.Loc (relS scope C.X.env.scope) y; rw [h.sc]; exact hx.2.2.1) (by show (scope.names.lookup y == some .cell) = true ∨ (relS scope C.X.env.scope).names.lookup y = some .local; rw [h.sc]; exact hx.2.2.2.1),
            fun sh H Ca cl fp => pts_nil, fun sh H Ca cl fp => tDc_pe fun H0 => me.2 _ (good_blk h sh H Ca cl fp H0), fold_ok hx.2.2.2.2⟩⟩
        | [c] => (match cT (blkG g scope) (cE n (blkG g scope)) 9 c with
          | some mc => some ⟨⟨s.i, mi.1, some mc.1, me.1⟩, hx.1, fun C h => ⟨mi.2 C h, by rw [h.N, h.sc]; exact blkOk_by hx.2.1, fun sh H Ca cl fp => by
              exact pg_name h.ndX (by show C.X.N[s.i]? = some y; rw [h.N]; exact s.hN) (by show L2.Loc (relS scope C.X.env.scope) y; rw [h.sc]; exact hx.2.2.1) (by show (scope.names.lookup y == some .cell) = true ∨ (relS scope C.X.env.scope).names.lookup y = some .local; rw [h.sc]; exact hx.2.2.2.1),
            fun sh H Ca cl fp => pts_one (tTc_pt fun H0 => mc.2 _ (good_blk h sh H Ca cl fp H0)), fun sh H Ca cl fp => tDc_pe fun H0 => me.2 _ (good_blk h sh H Ca cl fp H0), fold_ok hx.2.2.2.2⟩⟩
          | none => none)
        | _ => none)
      else none
    | _, _, _ => none
/-! contexts of try -/
def trG (g : Cfg) : Cfg := { g with tx := false }
def trN (g : Cfg) : Cfg := { g with tx := false, hot := false }
theorem good_tr {g : Cfg} {C : Cn} (h : Good g C) (hx : g.isx = false) {pn : List (Addr × Obj)} {xe : Value → Shared → Prop} {W : WX} (tk : Takes (C.X.tr pn xe) W) (po : PassesOwn (model C.X.prog C.X.w) C.X.A C.X.env xe) : Good (trG g) ⟨C.X.tr pn xe, W, C.P, C.G⟩ where
  K := h.K
  w := h.w
  N := h.N
  nd := h.nd
  sc := h.sc
  calm := h.calm
  un := h.un
  tk := takesN tk
  tkH := fun _ => tk
  pa := fun z => by cases z
  po := po
  st := h.st
  fl := h.fl
  bl := h.bl
  fns := h.fns
  cons := h.cons
  rai := fun p hp => ⟨(h.rai p hp).ex⟩
  exn := fun p hp => ⟨(h.exn p hp).ex⟩
  exC := h.exC
  isE := fun z => by rw [show (trG g).isx = false from hx] at z; cases z
theorem good_trN {g : Cfg} {C : Cn} (h : Good g C) (hx : g.isx = false) {pn : List (Addr × Obj)} {xe : Value → Shared → Prop} {W : WX} (tk : L2N.Takes (C.X.tr pn xe) W) (po : PassesOwn (model C.X.prog C.X.w) C.X.A C.X.env xe) : Good (trN g) ⟨C.X.tr pn xe, W, C.P, C.G⟩ where
  K := h.K
  w := h.w
  N := h.N
  nd := h.nd
  sc := h.sc
  calm := h.calm
  un := h.un
  tk := tk
  tkH := fun z => by cases z
  pa := fun z => by cases z
  po := po
  st := h.st
  fl := h.fl
  bl := h.bl
  fns := h.fns
  cons := h.cons
  rai := fun p hp => ⟨(h.rai p hp).ex⟩
  exn := fun p hp => ⟨(h.exn p hp).ex⟩
  exC := h.exC
  isE := fun z => by rw [show (trN g).isx = false from hx] at z; cases z
def suG (g : Cfg) : Cfg := { g with calm := false, top := false, isx := true, fns := [], hot := false, tx := false }
theorem good_suite {g : Cfg} {C : Cn} (h : Good g C) (hx : g.excs ≠ []) {a : Addr} {oe : Obj} {d : Nat} {pn : List (Addr × Obj)} (hz : Zc (C.P.cv d) none oe) (hf : ∃ vs, oe.data = .fields vs) : Good (suG g) ⟨C.X.suite a ((a, oe) :: pn), W0, C.P.xc a d, C.G⟩ where
  K := h.K
  w := h.w
  N := h.N
  nd := h.nd
  sc := h.sc
  calm := fun z => by cases z
  un := h.un
  tk := takes0N
  tkH := fun z => by cases z
  pa := fun z => by cases z
  po := PassesOwn.never
  st := fun x _ z => by cases z
  fl := fun z => by cases z
  bl := h.bl
  fns := fun p hp => by cases hp
  cons := h.cons
  rai := fun p hp => ⟨(h.rai p hp).ex⟩
  exn := fun p hp => ⟨(h.exn p hp).ex⟩
  exC := fun z d => h.exC hx d
  isE := fun _ => by
    obtain ⟨Ca, e, E⟩ := h.exC hx d
    exact isx_suite h.K E e hz hf
def cSs (g : Cfg) (r : ∀ st, OS g st) : ∀ sts, OSs g sts
  | [] => some ⟨[], fun C h => sss_nil⟩
  | .Expr (.Constant (.str x) j p1) p2 :: sts => (match cSs g r sts with
    | some ms => some ⟨ms.1, fun C h => sss_doc (ms.2 C h)⟩
    | none => none)
  | st :: sts => match r st, cSs g r sts with
    | some m, some ms => some ⟨m.1 :: ms.1, fun C h => sss_cons (m.2 C h) (ms.2 C h)⟩
    | _, _ => none
/-- a statement that must not be reached -/
def stkS : Dl.S := .ex (.sub (.lit .non) (.lit .non))
theorem ss_stk {C : Cn} {st : Stmt} : SS C st stkS := ⟨fun _ _ _ => False, ⟨fun _ _ _ _ _ _ h => h.elim⟩, fun σ env H S Dn ok q => by
  have e : exS C.G stkS env = .st := by
    simp only [stkS, exS, ev, brw, isVar, Res.val, Res.bd, DV.toD, Res.of, subD, Res.s, Option.map_none]
  rw [e] at q
  exact q⟩
def one1 (sts : List Stmt) : Bool := match sts with
  | [_] => true
  | _ => false
theorem sss_one {C : Cn} {sts : List Stmt} (h : one1 sts = true) : SSs C sts [stkS] := by
  match sts, h with
  | [_], _ => exact sss_cons ss_stk sss_nil
def cHd (g : Cfg) {sts : List Stmt} (r : OSs g sts) : OSs g sts := match r with
  | some m => some m
  | none => if h : one1 sts = true then some ⟨[stkS], fun C _ => sss_one h⟩ else none
def exF : Nat := 12
theorem names_of {g : Cfg} {C : Cn} (h : Good g C) {x : Str} {c : Nat} (hm : (x, c) ∈ excAll g) (hg : g.sc.names.lookup x = some .globalImplicit) : ∃ u, Names C.X x u ∧ ∀ d, PySem.W.exmOne C.X.K (C.P.cv d) u = some (subC d c) := by
  obtain ⟨u, v, hm, hr, hu, hd, he, hk⟩ := (h.exn _ hm).ex
  exact ⟨u, ⟨h.gl hg, hd, hm⟩, he⟩
theorem rai_of {g : Cfg} {C : Cn} (h : Good g C) {x : Str} {c : Nat} (hm : (x, c) ∈ g.excs) (hg : g.sc.names.lookup x = some .globalImplicit) (hc : g.calm = true) (hd : (x == ("__debug__" : Str)) = false) {m : Str} {j : Nat} {p1 p2 p3 p : Pos} : SS C (.Raise (some (.Call (.Name x p1) [.Constant (.str m) j p2] [] p3)) none p) (.rai c) := by
  obtain ⟨Ca, B, n1, n2, bm, h1, h2, h3, h4, h5, h6⟩ := (h.rai _ hm).ex
  exact ss_rai (h.calm hc) h.tk (L2N.pmk_own h1 h2 h3 h4 h5 (h.gl hg) hd) h6
/-! readings that change a list that is handed in -/
abbrev OM (g : Cfg) (e : Expr) := Option {m : E // isVar m = none ∧ ∀ C, Good g C → SM C e m}
def cAi (g : Cfg) (r : ∀ e, OE g e) : Nat → ∀ es : List Expr, Option {m : (List E × Nat) × List E // ∀ C, Good g C → SAi C es m.1.1 m.1.2 m.2}
  | 0, .Name y p :: es => (match slot g y, cA g r es with
    | some s, some ys => some ⟨(([], s.i), ys.1), fun C h => sai_here (by rw [h.N]; exact s.hN) (by rw [h.sc]; exact s.hv) s.hd s.hcd (ys.2 C h)⟩
    | _, _ => none)
  | n + 1, a :: es => (match cD g r a, cAi g r n es with
    | some m, some ms => if hn : nst a = true then some ⟨((m.1 :: ms.1.1.1, ms.1.1.2), ms.1.2), fun C h => sai_cons (m.2 C h) (ms.2 C h) (star_ok hn)⟩ else none
    | _, _ => none)
  | _, _ => none
def cAl (g : Cfg) (r : ∀ e, OE g e) : Nat → ∀ es : List Expr, Option {m : (List E × List E) × List E // ∀ C, Good g C → SAl C es m.1.1 m.1.2 m.2}
  | 0, .List ls p :: es => (match cA g r ls, cA g r es with
    | some l, some ys => some ⟨(([], l.1), ys.1), fun C h => sal_here (l.2 C h) (fun p o S0 => ys.2 _ (good_at h p o S0))⟩
    | _, _ => none)
  | n + 1, a :: es => (match cD g r a, cAl g r n es with
    | some m, some ms => if hn : nst a = true then some ⟨((m.1 :: ms.1.1.1, ms.1.1.2), ms.1.2), fun C h => sal_cons (m.2 C h) (ms.2 C h) (star_ok hn)⟩ else none
    | _, _ => none)
  | _, _ => none
def cMc (g : Cfg) (r : ∀ e, OE g e) (x : Str) (p1 : Pos) (a : Expr) (es : List Expr) (p : Pos) : OM g (.Call (.Name x p1) (a :: es) [] p) := match fnd x g.fns with
  | none => none
  | some c => (match c.1.2.2 with
    | none => none
    | some i => (match cAi g r i (a :: es) with
      | some m => if hc : c.1.2 = (m.1.1.1.length + 1 + m.1.2.length, some m.1.1.1.length) ∧ g.sc.names.lookup x = some .globalImplicit ∧ (x == ("__debug__" : Str)) = false ∧ nst a = true ∧ es.all nst = true ∧ (g.hot || !hotB x) = true then some ⟨.cio c.1.1 m.1.1.2 m.1.1.1 m.1.2, rfl, fun C h =>
          sm_cio (h.fnAtI c.2 hc.1) (h.pass hc.2.2.2.2.2) (h.gl hc.2.1) hc.2.2.1 (m.2 C h) (star_ok hc.2.2.2.1) (any_ok hc.2.2.2.2.1)⟩ else none
      | none => (match cAl g r i (a :: es) with
        | some m => if hc : c.1.2 = (m.1.1.1.length + 1 + m.1.2.length, some m.1.1.1.length) ∧ g.sc.names.lookup x = some .globalImplicit ∧ (x == ("__debug__" : Str)) = false ∧ nst a = true ∧ es.all nst = true ∧ (g.hot || !hotB x) = true then some ⟨.ciL c.1.1 m.1.1.1 m.1.1.2 m.1.2, rfl, fun C h =>
            sm_ciL (h.fnAtI c.2 hc.1) (h.pass hc.2.2.2.2.2) (h.gl hc.2.1) hc.2.2.1 (m.2 C h) (star_ok hc.2.2.2.1) (any_ok hc.2.2.2.2.1)⟩ else none
        | none => none)))
def cMv (g : Cfg) (a : Expr) (o : Operator) (b : Expr) (p : Pos) (mb : OM g b) : OM g (.BinOp a o b p) := match a, o, mb with
  | .Name y p', .Add, some m => (match slot g y with
    | some s => some ⟨.addv s.i m.1, rfl, fun C h => sm_addv (by rw [h.N]; exact s.hN) (by rw [h.sc]; exact s.hv) s.hd s.hcd h.K (m.2.2 C h)⟩
    | none => none)
  | _, _, _ => none
def cM : Nat → ∀ (g : Cfg) (e : Expr), OM g e
  | 0, _, _ => none
  | n + 1, g, .Call (.Name x p1) (a :: es) [] p => cMc g (cE exF g) x p1 a es p
  | n + 1, g, .BinOp a o b p => (match cMv g a o b p (cM n g b) with
    | some m => some m
    | none => (match cM n g a, cBop g o, cB g (cE exF g) b with
      | some ma, some o', some mb => some ⟨.bin o'.1 ma.1 mb.1, rfl, fun C h => let ⟨_, h1, h2⟩ := o'.2 C h; sm_op h1 h2 ma.2.1 (ma.2.2 C h) (mb.2 C h)⟩
      | _, _, _ => none))
  | _, _, _ => none
/-- a statement -/
def cS : Nat → ∀ (g : Cfg) (st : Stmt), OS g st
  | 0, _, _ => none
  | n + 1, g, .Pass p => some ⟨.pass, fun C h => ss_pass⟩
  | n + 1, g, .Expr (.Call (.Attribute (.Name x p1) name p2) [e] [] p3) p => (match slot g x, cD g (cE exF g) e with
    | some s, some m => if hx : name = "append" ∧ few [e] = true ∧ (p2.endLine == p3.line) = true ∧ nst e = true then some ⟨.app s.i m.1, fun C h => by
        obtain ⟨rfl, h1, h2, h3⟩ := hx
        exact ss_app h.K (by rw [h.N]; exact s.hN) (by rw [h.sc]; exact s.hv) s.hd s.hcd (m.2 C h) (base_ok rfl) (few_ok h1) h2 (star_ok h3) (sw_ok rfl)⟩
      else if hx : name = "remove" ∧ few [e] = true ∧ (p2.endLine == p3.line) = true ∧ nst e = true then some ⟨.rem s.i m.1, fun C h => by
        obtain ⟨rfl, h1, h2, h3⟩ := hx
        exact ss_rem h.un h.K (by rw [h.N]; exact s.hN) (by rw [h.sc]; exact s.hv) s.hd s.hcd (m.2 C h) (base_ok rfl) (few_ok h1) h2 (star_ok h3) (sw_ok rfl)⟩ else none
    | _, _ => none)
  | n + 1, g, .Expr (.Call (.Attribute (.Call (.Name x p1) (a :: es) [] p4) name p2) [e] [] p3) p => (match fnd x g.fns, cA g (cE exF g) (a :: es), cD g (cE exF g) e with
    | some c, some ⟨ma :: ms, hm⟩, some m => if hx : name = "append" ∧ few [e] = true ∧ (p2.endLine == p3.line) = true ∧ nst e = true ∧ c.1.2 = (ms.length + 1, none) ∧ (x == ("__debug__" : Str)) = false ∧ nst a = true ∧ es.all nst = true ∧ g.sc.names.lookup x = some .globalImplicit ∧ (g.hot || !hotB x) = true then some ⟨.appc c.1.1 (ma :: ms) m.1, fun C h => by
        obtain ⟨rfl, h1, h2, h3, h4, h5, h6, h7, h8, h9⟩ := hx
        exact ss_appc h.K (h.fnAt c.2 h4) (h.pass h9) (h.gl h8) h5 (hm C h) (star_ok h6) (any_ok h7) (fun p o S0 => m.2 _ (good_at h p o S0)) rfl (few_ok h1) h2 (star_ok h3) (sw_ok rfl)⟩ else none
    | _, _, _ => none)
  | n + 1, g, .Expr e p => (match cE exF g e with
    | some m => if hx : nco e = true then some ⟨.ex m.1, fun C h => ss_ex (m.2 C h) (sw_ok hx)⟩ else none
    | none => none)
  | n + 1, g, .Assign [.Name x p'] (.ListComp elt [⟨.Name y py, it, ifs, 0⟩] scope p3) p => (match sto g x, cLc g exF elt it y py ifs scope with
    | some s, some m => if hsw : swB g scope x p' p3 = true then
        (if hl : g.sc.names.lookup x = some .local then some ⟨.set s.s.i (.comp m.1.s m.1.mi m.1.cnd m.1.me), fun C h => by
          have r := m.2.2 C h
          exact ss_setLc (h.calm m.2.1) h.ndX (by rw [h.N]; exact s.s.hN) (by rw [h.sc]; exact hl) (by rw [swB_ok h, hsw]) r.hi r.ok r.hg r.ht r.he r.hs⟩ else none)
      else some ⟨.set s.s.i (.comp m.1.s m.1.mi m.1.cnd m.1.me), fun C h => by
          have r := m.2.2 C h
          exact ss_set h.ndX (by rw [h.N]; exact s.s.hN) (by rw [h.sc]; exact s.hl) (se_comp (h.calm m.2.1) h.ndX r.hi r.ok r.hg r.ht r.he r.hs) (by rw [swB_ok h]; simp only [Bool.not_eq_true] at hsw; rw [hsw]) (s.fn h)⟩
    | _, _ => none)
  | n + 1, g, .Assign [.Name x p'] e p => (match sto g x, cE exF g e with
    | some s, some m => if hx : nco e = true then some ⟨.set s.s.i m.1, fun C h => ss_set h.ndX (by rw [h.N]; exact s.s.hN) (by rw [h.sc]; exact s.hl) (m.2 C h) (sw_ok hx) (s.fn h)⟩ else none
    | some s, none => (match cM exF g e with
      | some m => if hx : nco e = true then some ⟨.set s.s.i m.1, fun C h => ss_setM h.ndX (by rw [h.N]; exact s.s.hN) (by rw [h.sc]; exact s.hl) (m.2.2 C h) (sw_ok hx) (s.fn h)⟩ else none
      | none => none)
    | _, _ => none)
  | n + 1, g, .Assign [.Tuple [.Name x px, .Name y py] kt pt] (.Tuple [a, b] k2 pt2) p => (match slot g x, slot g y, cD g (cE exF g) a, cD g (cE exF g) b with
    | some s, some t, some ma, some mb => if hx : g.calm = true ∧ s.i ≠ t.i ∧ g.sc.names.lookup x = some .local ∧ g.sc.names.lookup y = some .local ∧ nst a = true ∧ nst b = true ∧ g.sc.kind = .function ∧ x ≠ y ∧ py.line = px.line ∧ [a, b].all (foldedForSure 8) = false ∧ [a, b].all (constantsAlone 8) = false then
        some ⟨.par s.i t.i ma.1 mb.1, fun C h => by
          obtain ⟨h1, h2, h3, h4, h5, h6, h7, h8, h9, h10, h11⟩ := hx
          refine ss_par (h.calm h1) h.ndX (by rw [h.N]; exact s.hN) (by rw [h.N]; exact t.hN) h2 (by rw [h.sc]; exact h3) (by rw [h.sc]; exact h4) (ma.2 C h) (mb.2 C h) (star_ok h5) (star_ok h6) ?_ (sws_ok rfl)
          have kx : C.X.env.kindOf x = some .local := by show C.X.env.scope.names.lookup x = _; rw [h.sc]; exact h3
          have ky : C.X.env.kindOf y = some .local := by show C.X.env.scope.names.lookup y = _; rw [h.sc]; exact h4
          have hb : C.X.env.blockKind = .function := by unfold Env.blockKind; rw [h.sc, h7]; rfl
          have hs : ([a, b].any fun | .Starred .. => true | _ => false) = false := by
            cases a <;> cases b <;> first | rfl | exact absurd h5 Bool.false_ne_true | exact absurd h6 Bool.false_ne_true
          have ne : ¬ y = x := fun z => h8 z.symm
          unfold swappedStores
          simp only [List.length_cons, List.length_nil, hb, hs, List.head?_cons, Option.map_some, Option.getD_some, List.filterMap_cons, List.filterMap_nil, kx, ky, Expr.pos, h9, h10, h11]
          have hy : (y == x) = false := beq_eq_false_iff_ne.mpr ne
          have key : ∀ e : Expr, nst e = true → (match e with | .Starred _ _ => true | _ => false) = false := fun e he => by cases e <;> first | rfl | exact absurd he Bool.false_ne_true
          simp [List.eraseDups, List.eraseDupsBy, List.eraseDupsBy.loop, hy]
          intro hh
          exfalso
          rcases hh with hh | hh
          · exact Bool.false_ne_true ((key a h5).symm.trans hh)
          · exact Bool.false_ne_true ((key b h6).symm.trans hh)⟩ else none
    | _, _, _, _ => none)
  | n + 1, g, .Assign [.Tuple es k p2] e p => (match cNames g es, cD g (cE exF g) e with
    | some is, some m => if hx : g.calm = true ∧ ntup e = true ∧ nco e = true then some ⟨.unp is.1 m.1, fun C h => ss_unp (h.calm hx.1) h.K (is.2 C h).1 (is.2 C h).2.1 (is.2 C h).2.2 rfl (m.2 C h) (sws_ok hx.2.2) (swTup_ok hx.2.1) rfl⟩ else none
    | _, _ => none)
  | n + 1, g, .Assign [.Subscript (.Name x p1) b p2] e p => (match slot g x, cD g (cE exF g) b, cD g (cE exF g) e with
    | some s, some mb, some m => if hx : nsl b = true ∧ nco e = true then some ⟨.sti s.i mb.1 m.1, fun C h => ss_sti (by have := h.un; omega) (by rw [h.N]; exact s.hN) (by rw [h.sc]; exact s.hv) s.hd s.hcd (mb.2 C h) (m.2 C h) (assignSub_ok hx.1) (sws_ok hx.2) swSub_ok rfl⟩ else none
    | _, _, _ => none)
  | n + 1, g, .If c a b p => (match cT g (cE exF g) 9 c, cSs g (cS n g) a, cSs g (cS n g) b with
    | some mc, some ma, some mb => some ⟨.ife mc.1 ma.1 mb.1, fun C h => ss_if (mc.2 C h) (ma.2 C h) (mb.2 C h)⟩
    | _, _, _ => none)
  | n + 1, g, .While c b [] p => (match cT g (cE exF g) 9 c, cSs g (cS n g) b with
    | some mc, some mb => some ⟨.whl mc.1 mb.1, fun C h => ss_while h.po (mc.2 C h) (mb.2 C h)⟩
    | _, _ => none)
  | n + 1, g, .For (.Name y py) it b [] p => (match sto g y, cI g (cE exF g) false (.Name y py) it, cSs g (cS n g) b with
    | some s, some mi, some mb => if hx : g.calm = true ∧ nset it = true then some ⟨.for1 s.s.i mi.1 mb.1, fun C h => ss_for1 h.po (h.calm hx.1) (mi.2 C h) (s.pg h) (mb.2 C h) (fold_ok hx.2)⟩ else none
    | _, _, _ => none)
  | n + 1, g, .For (.Tuple es k p2) it b [] p => (match cNames g es, cI g (cE exF g) false (.Tuple es k p2) it, cSs g (cS n g) b with
    | some is, some mi, some mb => if hx : g.calm = true ∧ nset it = true then some ⟨.forN is.1 mi.1 mb.1, fun C h => ss_forN h.K h.po (h.calm hx.1) (mi.2 C h) (is.2 C h).1 (is.2 C h).2.1 (is.2 C h).2.2 rfl (mb.2 C h) (fold_ok hx.2)⟩ else none
    | _, _, _ => none)
  | n + 1, g, .Return none p => some ⟨.retN, fun C h => ss_retN⟩
  | n + 1, g, .Return (some (.Name x p1)) p => (match slot g x with
    | some s => some ⟨.ret (.var s.i), fun C h => ss_ret (s.se h) (fun i hi => by cases hi; exact s.pe h)⟩
    | none => (match cE exF g (.Name x p1) with
      | some m => if hm : isVar m.1 = none then some ⟨.ret m.1, fun C h => ss_ret (m.2 C h) (fun i hi => by rw [hi] at hm; cases hm)⟩ else none
      | none => none))
  | n + 1, g, .Return (some e) p => (match cE exF g e with
    | some m => if hm : isVar m.1 = none then some ⟨.ret m.1, fun C h => ss_ret (m.2 C h) (fun i hi => by rw [hi] at hm; cases hm)⟩ else none
    | none => (match cM exF g e with
      | some m => some ⟨.ret m.1, fun C h => ss_retM (m.2.2 C h) m.2.1⟩
      | none => none))
  | n + 1, g, .Raise (some (.Call (.Name x p1) [.Constant (.str m) j p2] [] p3)) none p => (match fnd x g.excs with
    | some c => if hx : g.sc.names.lookup x = some .globalImplicit ∧ g.calm = true ∧ (x == ("__debug__" : Str)) = false then some ⟨.rai c.1, fun C h => rai_of h c.2 hx.1 hx.2.1 hx.2.2⟩ else none
    | none => none)
  | n + 1, g, .Try body [.ExceptHandler (some (.Name x np)) none [.Raise (some (.Call (.Name y p1) [.Constant (.str m) j p2] [] p3)) none p4] pos'] [] [] p => (match fnd x (excAll g), fnd y g.excs, cSs (trN g) (cS n (trN g)) body with
    | some c, some d, some mb => if hx : g.top = true ∧ g.isx = false ∧ g.hot = true ∧ g.tx = true ∧ g.sc.names.lookup x = some .globalImplicit ∧ g.sc.names.lookup y = some .globalImplicit ∧ (y == ("__debug__" : Str)) = false then
        some ⟨.tryR mb.1 c.1 d.1, fun C h => by
          obtain ⟨u, hn, hex⟩ := names_of h c.2 hx.2.2.2.2.1
          obtain ⟨Ca, B, n1, n2, bm, h1, h2, h3, h4, h5, h6⟩ := (h.rai _ d.2).ex
          refine ss_tryR (h.fl hx.1).1 (h.fl hx.1).2 hn (h.tkH hx.2.2.1) (h.pa hx.2.2.2.1) hex (fun W pn xe tk po => mb.2 _ (good_trN h hx.2.1 tk po)) (fun a pn => ?_)
          rw [h6]
          exact L2N.pmk_own (X := L2H.suiteX C.X a pn) h1 h2 h3 h4 h5 (h.gl hx.2.2.2.2.2.1) hx.2.2.2.2.2.2⟩ else none
    | _, _, _ => none)
  | n + 1, g, .Try body [.ExceptHandler (some (.Name x np)) nm (b₀ :: suite) pos'] [] [] p => (match fnd x (excAll g), cSs (trG g) (cS n (trG g)) body, cHd (suG g) (cSs (suG g) (cS n (suG g)) (b₀ :: suite)) with
    | some c, some mb, some mh => if hx : g.top = true ∧ g.isx = false ∧ g.excs ≠ [] ∧ g.sc.names.lookup x = some .globalImplicit ∧ g.hot = true then
        (match nm with
        | some e => (match slot g e with
          | some s => if hl : g.sc.names.lookup e = some .local then some ⟨.try_ mb.1 c.1 (some s.i) mh.1, fun C h => by
              obtain ⟨u, hn, hex⟩ := names_of h c.2 hx.2.2.2.1
              exact ss_tryAs (h.fl hx.1).1 (h.fl hx.1).2 h.ndX (by rw [h.N]; exact s.hN) (by show C.X.env.scope.names.lookup e = _; rw [h.sc]; exact hl) hn (h.tkH hx.2.2.2.2) hex (fun W pn xe tk po => mb.2 _ (good_tr h hx.2.1 tk po)) (fun a oe d pn hz hf => mh.2 _ (good_suite h hx.2.2.1 hz hf))⟩ else none
          | none => none)
        | none => some ⟨.try_ mb.1 c.1 none mh.1, fun C h => by
            obtain ⟨u, hn, hex⟩ := names_of h c.2 hx.2.2.2.1
            exact ss_tryOnly (h.fl hx.1).1 (h.fl hx.1).2 hn (h.tkH hx.2.2.2.2) hex (fun W pn xe tk po => mb.2 _ (good_tr h hx.2.1 tk po)) (fun a oe d pn hz hf => mh.2 _ (good_suite h hx.2.2.1 hz hf))⟩)
      else none
    | _, _, _ => none)
  | _, _, _ => none
end Dl

namespace Dl
open PySem L2
/-! ### defs -/
structure FD where
  name : Str
  id : Nat
  ps : List Str
  st : Stmt
  N : List Str
  dt : Bool
  body : List Dl.S
  io : Option Nat
def FD.fn (d : FD) : Str × (Nat × (Nat × Option Nat)) := (d.name, (d.id, (d.ps.length, d.io)))
def FD.de (d : FD) : Def := ⟨d.ps.length, d.N.length, d.body, d.io⟩
def FD.cfg (fns : List (Str × (Nat × (Nat × Option Nat)))) (cons : List (Str × D)) (excs : List (Str × Nat)) (d : FD) : Cfg := ⟨d.N, defScope d.st, true, true, false, d.dt, fns, cons, excs, hotB d.name, hotB d.name⟩
/-- the text of d says its body -/
def FD.says (fns : List (Str × (Nat × (Nat × Option Nat)))) (cons : List (Str × D)) (excs : List (Str × Nat)) (d : FD) : Prop := (cSs (d.cfg fns cons excs) (cS 9 (d.cfg fns cons excs)) (defBody d.st)).map (·.1) = some d.body
/-- what the law's names stand for -/
structure LF (K : PySem.W.Frag) (w : World) (mg : Str → Option Value) (cv : Nat → Value) (cons : List (Str × D)) (excs : List (Str × Nat)) : Prop where
  bl : ∀ x ∈ blts, mg x = none
  cons : ∀ p ∈ cons, ∃ u v, mg p.1 = some u ∧ RelV v u ∧ ∀ S, Rep K w S v p.2
  rai : ∀ (X : Cx), X.K = K → X.mg = mg → ∀ p ∈ excs, ExF X cv p.1 p.2
  exn : ∀ (X : Cx), X.K = K → X.mg = mg → ∀ p ∈ (if excs.isEmpty then [] else excs ++ [(("ValueError" : Str), 8)]), ExN X cv p.1 p.2
  exC : excs ≠ [] → ∀ d, ∃ Ca, cv d = .ref Ca ∧ ExcC K Ca
section
variable {P : Program} {w : World} {K : PySem.W.Frag} {mg : Str → Option Value} {base : Heap} {cv : Nat → Value} {cons : List (Str × D)} {excs : List (Str × Nat)}
/-- what a def promises -/
def spF (K : PySem.W.Frag) (w : World) (cv : Nat → Value) (p : Nat × (Nat × Option Nat)) (G : Tab) : Sp := match p.2.2 with
  | none => spD K w cv p.2.1 (G.fn p.1)
  | some i => spI K w p.2.1 i (G.io p.1)
/-- the defs keep their promises at the table G, with k calls -/
def FnsOk (P : Program) (w : World) (K : PySem.W.Frag) (mg : Str → Option Value) (base : Heap) (cv : Nat → Value) (fns : List (Str × (Nat × (Nat × Option Nat)))) (k : Nat) (G : Tab) : Prop :=
  ∀ p ∈ fns, ∃ (fa : Addr) (fd : FuncData) (ps : List Str), FnOk P w K mg base (cxF (hotB p.1) P w) k fa fd ps (spF K w cv p.2 G) ∧ mg p.1 = some (.ref fa) ∧ PySem.W.keepIn K (.ref fa) = true ∧ Binds K fd ps []
theorem env0_get {d : Def} {ds : List D} {i : Nat} {u : DV} (h : (env0 d ds)[i]? = some (some u)) : ∃ x, ds[i]? = some x ∧ u = .sh x := by
  unfold env0 at h
  by_cases hi : i < ds.length
  · rw [List.getElem?_append_left (by simpa using hi), List.getElem?_map] at h
    cases e : ds[i]? with
    | none => rw [e] at h; cases h
    | some x => rw [e] at h; cases h; exact ⟨x, rfl, rfl⟩
  · rw [List.getElem?_append_right (by simpa using hi), List.getElem?_replicate] at h
    split at h <;> cases h
theorem start_get {N : List Str} {vs : List V} {i : Nat} {v : V} (h : vs[i]? = some v) : (L2.start N vs)[i]? = some (some v) := by
  have hi : i < vs.length := (List.getElem?_eq_some_iff.mp h).1
  unfold L2.start
  rw [List.getElem?_append_left (by simpa using hi), List.getElem?_map, h]
  rfl
/-- at a body's entry -/
theorem StOk.start {Pm0 : Pm} {d : Def} {ds : List D} {vs : List V} {N : List Str} {H S : Hp} (hH : Pm0.H0 = H) (hS : Pm0.S0 = S) (sub : Same S H) (r : Pm0.Reps S vs ds) (hn : d.nl = N.length) (hl : ds.length ≤ N.length) : StOk Pm0 (L2.start N vs) (env0 d ds) H S := by
  refine ⟨sub, by rw [hH]; exact Same.refl _, by rw [hS]; exact Same.refl _, fun a o e n => (by rw [hS, e] at n; cases n), fun i u e => ?_, fun i j u v a e o e2 o2 s1 s2 => ?_, ?_⟩
  · obtain ⟨x, hx, rfl⟩ := env0_get e
    obtain ⟨v, hv, rv⟩ := Reps.get r hx
    exact ⟨v, start_get hv, rv⟩
  · obtain ⟨x, hx, rfl⟩ := env0_get e
    cases o
  · unfold L2.start env0
    simp only [List.length_append, List.length_map, List.length_replicate]
    have := r.length
    omega
theorem grow_of {Pm0 : Pm} {σ : LSt} {env : DEnv} {H' S' : Hp} (ok : StOk Pm0 σ env H' S') : Grow Pm0.H0 Pm0.S0 H' S' := ⟨⟨ok.base, ok.s0⟩, ok.sub, ok.fr⟩
theorem ret_of {Pm0 : Pm} {σ : LSt} {env : DEnv} {H' S' : Hp} {x : V} {v : DV} (hv : v.plain = true) (r : ValR Pm0 σ env H' S' x v) : RetR Pm0.K Pm0.w Pm0.H0 S' H' x v := by
  cases v with
  | sh d => exact r
  | ol ds => obtain ⟨a, e, h0, hS, ⟨vs, ha, rv⟩, _⟩ := r; exact ⟨a, vs, e, h0, hS, ha, rv⟩
  | _ => cases hv
theorem funS_of {C : Cn} {p : Str × (Nat × (Nat × Option Nat))} {k : Nat} {fa : Addr} {fd : FuncData} {ps : List Str} (FO : FnOk C.X.prog C.X.w C.X.K C.X.mg C.X.base (cxF (hotB p.1) C.X.prog C.X.w) k fa fd ps (spF C.P.K C.P.w C.P.cv p.2 C.G)) (hr : Room k C.X.A) (hm : C.X.mg p.1 = some (.ref fa)) (hk : PySem.W.keepIn C.X.K (.ref fa) = true) (hb : Binds C.X.K fd ps []) : FunS C p := by
  obtain ⟨x, id, n, o⟩ := p
  cases o with
  | none => exact ⟨k, fa, fd, ps, FO, hr, hm, hk, hb⟩
  | some i => exact ⟨k, fa, fd, ps, FO, hr, hm, hk, hb⟩
/-- as Fun.okX, whatever the promise about exceptions -/
theorem _root_.L2.Fun.okF {CX : CXT} {x qual : Str} {st : Stmt} {f : Addr} {fd : FuncData} {N ps : List Str} {k : Nat} {sp : Sp} (F : Fun K x qual st f fd) (S : FnScope N ps (defScope st)) (len : ∀ vs H Q E, sp vs H Q E → vs.length = ps.length)
    (hbody : ∀ (cdv : Value) (A : Around) (outer : List Env) (s : Shared) (H : Hp) (vs : List V) (Q : VK) (E : XK), Room k (A.deeper (PyProof.Rows.envOfC qual (defScope st) s.heap.objs.size f cdv)) → sp vs H Q E →
      ∃ t, PSs (cxOf CX P w K mg base N qual (defScope st) f cdv A outer s H E) (defBody st) t ∧ t { nx := fun _ H' => Q .non H', rt := Q } (L2.start N vs) H) : FnOk P w K mg base CX (k + 1) f fd ps sp := by
  obtain ⟨oc, od, kV, doc, pm, an, cdv, ct, osl, rfl, lk, hcd⟩ := F.ex
  exact fn_of lk hcd S len fun A outer s H vs Q E hr hsp => hbody cdv A outer s H vs Q E hr hsp
theorem tkN_of (b : Bool) {N : List Str} {qual : Str} {scope : Scope} {f : Addr} {cd : Value} {A : Around} {outer : List Env} {s : Shared} {H : Hp} {E : XK} : L2N.Takes (cxOf (cxF b P w) P w K mg base N qual scope f cd A outer s H E) (fun cls dd _ H => E cls dd H) := by
  cases b with
  | false => exact L2N.takes_of rfl rfl rfl (E₁ := fun e' s'' => L2N.CX P w outer H s E e' s'') rfl
  | true => exact takesN (L2.takes_of rfl rfl rfl (E₁ := fun e' s'' => L2.CX P w outer H s E e' s'') rfl)
theorem tkH_of {b : Bool} (hb : b = true) {N : List Str} {qual : Str} {scope : Scope} {f : Addr} {cd : Value} {A : Around} {outer : List Env} {s : Shared} {H : Hp} {E : XK} : L2.Takes (cxOf (cxF b P w) P w K mg base N qual scope f cd A outer s H E) (fun cls dd _ H => E cls dd H) := by
  subst hb
  exact L2.takes_of rfl rfl rfl (E₁ := fun e' s'' => L2.CX P w outer H s E e' s'') rfl
/-- one more call: a def's body by the table below -/
theorem fn_step {d : FD} {f : Addr} {fd : FuncData} {k : Nat} {G : Tab} {fns : List (Str × (Nat × (Nat × Option Nat)))} (hio : d.io = none) (F : Fun K d.name d.name d.st f fd) (Sc : FnScope d.N d.ps (defScope d.st)) (lf : LF K w mg cv cons excs) (hf : FnsOk P w K mg base cv fns k G) (hs : d.says fns cons excs) :
    FnOk P w K mg base (cxF (hotB d.name) P w) (k + 1) f fd d.ps (spD K w cv d.ps.length (run G d.de)) := by
  refine Fun.okF F Sc (fun vs H Q E h => h.1) (fun cdv A outer s H vs Q E hr h => ?_)
  obtain ⟨hlen, S, ds, sub, reps, q⟩ := h
  have hs : (cSs (d.cfg fns cons excs) (cS 9 (d.cfg fns cons excs)) (defBody d.st)).map (·.1) = some d.body := hs
  cases ec : cSs (d.cfg fns cons excs) (cS 9 (d.cfg fns cons excs)) (defBody d.st) with
  | none => rw [ec] at hs; cases hs
  | some m =>
    rw [ec] at hs
    have hb : m.1 = d.body := Option.some.inj hs
    generalize hX : cxOf (cxF (hotB d.name) P w) P w K mg base d.N d.name (defScope d.st) f cdv A outer s H E = X
    have gd : Good (d.cfg fns cons excs) ⟨X, fun cls dd _ H => E cls dd H, ⟨K, w, H, S, 0, fun _ _ => False, cv⟩, G⟩ := by
      subst hX
      exact {
        K := rfl, w := rfl, N := rfl, nd := Sc.nd, sc := rfl, calm := fun _ => rfl
        un := Nat.lt_of_le_of_lt (by show (A.deeper _).units + 65 ≤ (A.deeper _).units + 16 * k + 200; omega) hr.un
        tk := tkN_of _
        tkH := fun z => tkH_of z
        pa := fun _ => L2H.passesAt_of (K := fun e s'' => cxF (hotB d.name) P w outer H s E e s'') (E₁ := fun e' s'' => cxF (hotB d.name) P w outer H s E e' s'') rfl
        po := passes_of (K := fun e s'' => cxF (hotB d.name) P w outer H s E e s'') (E₁ := fun e' s'' => cxF (hotB d.name) P w outer H s E e' s'') rfl
        st := fun _ _ _ => rfl
        fl := fun _ => ⟨rfl, rfl⟩
        bl := lf.bl
        fns := fun p hp => by
          obtain ⟨fa, fd, ps, FO, hm, hk, hb⟩ := hf p hp
          exact funS_of FO hr hm hk hb
        cons := fun p hp => by
          obtain ⟨u, v, hm, hr, hS⟩ := lf.cons p hp
          exact ⟨u, v, hm, hr, fun S => hS S⟩
        rai := fun p hp => lf.rai _ rfl rfl p hp
        exn := fun p hp => lf.exn _ rfl rfl p hp
        exC := lf.exC
        isE := fun z => by cases z }
    obtain ⟨t, pt, et⟩ := m.2 _ gd
    refine ⟨t, pt, et _ (env0 d.de ds) H S _ (StOk.start rfl rfl sub reps rfl ?_) ?_⟩
    · have h1 := reps.length
      have h2 := congrArg List.length Sc.pre
      rw [List.length_take] at h2
      omega
    · have hd : ds.length = d.ps.length := by rw [← reps.length]; exact hlen
      unfold run at q
      rw [if_pos ⟨hd, hio⟩] at q
      have q : spR K w cv H S Q E ((exB G d.body (env0 d.de ds)).fr).pl := q
      rw [hb]
      cases eb : exB G d.body (env0 d.de ds) with
      | nx env' =>
        rw [eb] at q
        exact fun σ' H' S' e ok => q .non H' S' (grow_of ok) .non
      | rt v env' =>
        rw [eb] at q
        simp only [SR.fr, FR.pl] at q
        split at q
        · rename_i hv
          exact fun x σ' H' S' e ok r => q x H' S' (grow_of ok) (ret_of hv r)
        · exact q.elim
      | er c env' =>
        rw [eb] at q
        exact fun σ' H' S' e ok => q H' S' (grow_of ok)
      | st => rw [eb] at q; exact q.elim
theorem env0I_get {d : Def} {xs ps ys : List D} {i : Nat} {u : DV} (h : (env0I d xs ps ys)[i]? = some (some u)) : (i = xs.length ∧ u = .op ps) ∨ (i < xs.length ∧ ∃ x, xs[i]? = some x ∧ u = .sh x) ∨ (xs.length < i ∧ ∃ x, ys[i - xs.length - 1]? = some x ∧ u = .sh x) := by
  unfold env0I at h
  by_cases hi : xs.length = i
  · subst hi
    rw [List.getElem?_set_self (by simp)] at h
    cases h
    exact .inl ⟨rfl, rfl⟩
  · rw [List.getElem?_set_ne hi] at h
    by_cases hl : i < xs.length
    · rw [List.getElem?_append_left (by simp; omega), List.getElem?_map, List.getElem?_append_left hl] at h
      cases e : xs[i]? with
      | none => rw [e] at h; cases h
      | some x => rw [e] at h; cases h; exact .inr (.inl ⟨hl, x, rfl, rfl⟩)
    · have hg : xs.length < i := by omega
      by_cases hy : i < xs.length + 1 + ys.length
      · rw [List.getElem?_append_left (by simp; omega), List.getElem?_map, List.getElem?_append_right (by omega)] at h
        have e1 : i - xs.length = (i - xs.length - 1) + 1 := by omega
        rw [e1, List.getElem?_cons_succ] at h
        cases e : ys[i - xs.length - 1]? with
        | none => rw [e] at h; cases h
        | some x => rw [e] at h; cases h; exact .inr (.inr ⟨hg, x, rfl, rfl⟩)
      · rw [List.getElem?_append_right (by simp; omega), List.getElem?_replicate] at h
        split at h <;> cases h
theorem StOk.startI {K : PySem.W.Frag} {w : World} {cv : Nat → Value} {d : Def} {xs ps ys : List D} {vx vy pv : List V} {a : Addr} {N : List Str} {H S : Hp} (sub : Same S H) (hS : S a = none) (ha : H a = some (.lst pv)) (rp : Reps K w S pv ps) (rx : Reps K w S vx xs) (ry : Reps K w S vy ys) (hn : d.nl = N.length) (hp : xs.length + 1 + ys.length = d.np) (hl : d.np ≤ N.length) :
    StOk ⟨K, w, del H a, S, a, fun _ _ => False, cv⟩ (L2.start N (vx ++ V.ref a :: vy)) (env0I d xs ps ys) H S := by
  have amid : (L2.start N (vx ++ V.ref a :: vy))[xs.length]? = some (some (V.ref a)) := start_get (by rw [← rx.length, List.getElem?_append_right (Nat.le_refl _), Nat.sub_self]; rfl)
  refine ⟨sub, fun b x q => (del_le q).2, Same.refl _, fun b o q n => (by rw [show (⟨K, w, del H a, S, a, fun _ _ => False, cv⟩ : Pm).S0 = S from rfl, q] at n; cases n), fun i u e => ?_, fun i j u v b e o e2 o2 s1 s2 => ?_, ?_⟩
  · rcases env0I_get e with ⟨rfl, rfl⟩ | ⟨hi, x, hx, rfl⟩ | ⟨hi, x, hx, rfl⟩
    · exact ⟨_, amid, rfl, del_same, hS, pv, ha, rp⟩
    · obtain ⟨v, hv, rv⟩ := Reps.get rx hx
      refine ⟨v, start_get ?_, rv⟩
      rw [List.getElem?_append_left (by rw [rx.length]; exact hi)]
      exact hv
    · obtain ⟨v, hv, rv⟩ := Reps.get ry hx
      refine ⟨v, start_get ?_, rv⟩
      rw [List.getElem?_append_right (by rw [rx.length]; omega), rx.length]
      have e1 : i - xs.length = (i - xs.length - 1) + 1 := by omega
      rw [e1, List.getElem?_cons_succ]
      exact hv
  · have one : ∀ (i : Nat) (u : DV), (env0I d xs ps ys)[i]? = some (some u) → u.own = true → i = xs.length := fun i u e o => by
      rcases env0I_get e with ⟨rfl, _⟩ | ⟨_, x, _, rfl⟩ | ⟨_, x, _, rfl⟩
      · rfl
      · cases o
      · cases o
    rw [one i u e o, one j v e2 o2]
  · unfold L2.start env0I
    have h1 := rx.length
    have h2 := ry.length
    simp only [List.length_append, List.length_map, List.length_replicate, List.length_set, List.length_cons]
    omega
/-- .. a def that changes a list that is handed in -/
theorem fn_stepI {d : FD} {f : Addr} {fd : FuncData} {k i : Nat} {G : Tab} {fns : List (Str × (Nat × (Nat × Option Nat)))} (hio : d.io = some i) (F : Fun K d.name d.name d.st f fd) (Sc : FnScope d.N d.ps (defScope d.st)) (lf : LF K w mg cv cons excs) (hf : FnsOk P w K mg base cv fns k G) (hs : d.says fns cons excs) :
    FnOk P w K mg base (cxF (hotB d.name) P w) (k + 1) f fd d.ps (spI K w d.ps.length i (runI G d.de)) := by
  refine Fun.okF F Sc (fun vs H Q E h => h.1) (fun cdv A outer s H vs Q E hr h => ?_)
  obtain ⟨hlen, S, a, pv, vx, vy, xs, ps, ys, sub, hS, ha, rp, ev, hxl, rx, ry, q⟩ := h
  have hs : (cSs (d.cfg fns cons excs) (cS 9 (d.cfg fns cons excs)) (defBody d.st)).map (·.1) = some d.body := hs
  cases ec : cSs (d.cfg fns cons excs) (cS 9 (d.cfg fns cons excs)) (defBody d.st) with
  | none => rw [ec] at hs; cases hs
  | some m =>
    rw [ec] at hs
    have hb : m.1 = d.body := Option.some.inj hs
    generalize hX : cxOf (cxF (hotB d.name) P w) P w K mg base d.N d.name (defScope d.st) f cdv A outer s H E = X
    have gd : Good (d.cfg fns cons excs) ⟨X, fun cls dd _ H => E cls dd H, ⟨K, w, del H a, S, a, fun _ _ => False, cv⟩, G⟩ := by
      subst hX
      exact {
        K := rfl, w := rfl, N := rfl, nd := Sc.nd, sc := rfl, calm := fun _ => rfl
        un := Nat.lt_of_le_of_lt (by show (A.deeper _).units + 65 ≤ (A.deeper _).units + 16 * k + 200; omega) hr.un
        tk := tkN_of _
        tkH := fun z => tkH_of z
        pa := fun _ => L2H.passesAt_of (K := fun e s'' => cxF (hotB d.name) P w outer H s E e s'') (E₁ := fun e' s'' => cxF (hotB d.name) P w outer H s E e' s'') rfl
        po := passes_of (K := fun e s'' => cxF (hotB d.name) P w outer H s E e s'') (E₁ := fun e' s'' => cxF (hotB d.name) P w outer H s E e' s'') rfl
        st := fun _ _ _ => rfl
        fl := fun _ => ⟨rfl, rfl⟩
        bl := lf.bl
        fns := fun p hp => by
          obtain ⟨fa, fd, ps, FO, hm, hk, hb⟩ := hf p hp
          exact funS_of FO hr hm hk hb
        cons := fun p hp => by
          obtain ⟨u, v, hm, hr, hS⟩ := lf.cons p hp
          exact ⟨u, v, hm, hr, fun S => hS S⟩
        rai := fun p hp => lf.rai _ rfl rfl p hp
        exn := fun p hp => lf.exn _ rfl rfl p hp
        exC := lf.exC
        isE := fun z => by cases z }
    obtain ⟨t, pt, et⟩ := m.2 _ gd
    have hx : xs.length = i := by rw [← rx.length]; exact hxl
    have hnp : xs.length + 1 + ys.length = d.ps.length := by
      rw [← hlen, ev, List.length_append, List.length_cons, rx.length, ry.length]; omega
    subst ev
    refine ⟨t, pt, et _ (env0I d.de xs ps ys) H S _ (StOk.startI sub hS ha rp rx ry rfl hnp ?_) ?_⟩
    · have h2 := congrArg List.length Sc.pre
      rw [List.length_take] at h2
      show d.ps.length ≤ d.N.length
      omega
    · unfold runI at q
      rw [if_pos ⟨hnp, by show d.io = _; rw [hx]; exact hio⟩] at q
      have q : spRI K w H S a Q (match exB G d.body (env0I d.de xs ps ys) with
        | .rt v env => if v.plain then (match env[xs.length]? with
          | some (some (.op qs)) => .ok v qs
          | _ => .st) else .st
        | _ => .st) := q
      rw [hb]
      cases eb : exB G d.body (env0I d.de xs ps ys) with
      | nx env' => rw [eb] at q; exact q.elim
      | er c env' => rw [eb] at q; exact q.elim
      | st => rw [eb] at q; exact q.elim
      | rt v env' =>
        rw [eb] at q
        simp only at q
        split at q
        · rename_i hv
          split at q
          · rename_i qs eqs
            intro x σ' H' S' e ok r
            obtain ⟨v', f1, rfl, h0, hS', qv, hq, rq⟩ := ok.sl _ _ eqs
            refine q x H' S' qv ⟨ok.base, ok.s0, ok.sub, fun b o z n => ?_⟩ hq rq ?_
            · have n0 : del H a b = none := ok.fr b o z n
              by_cases hba : b = a
              · subst hba; rw [z] at hS'; cases hS'
              · rw [del_ne hba] at n0; exact n0
            · cases v with
              | sh d => exact r
              | ol ds =>
                obtain ⟨b, rfl, n0, nS, ⟨vs, hb', rv⟩, ns⟩ := r
                refine ⟨b, vs, rfl, ?_, nS, hb', rv⟩
                have n0 : del H a b = none := n0
                have hba : b ≠ a := fun z => ns _ _ eqs rfl (by rw [f1, z])
                rw [del_ne hba] at n0
                exact n0
              | _ => cases hv
          · exact q.elim
        · exact q.elim
/-- what the top has of a def -/
structure FdOk (K : PySem.W.Frag) (mg : Str → Option Value) (d : FD) : Prop where
  ex : ∃ (f : Addr) (fd : FuncData), Fun K d.name d.name d.st f fd ∧ mg d.name = some (.ref f) ∧ Binds K fd d.ps []
  sc : FnScope d.N d.ps (defScope d.st)
def tabP (fds : List FD) : List (Nat × Def) := fds.map fun d => (d.id, d.de)
def fnsP (fds : List FD) : List (Str × (Nat × (Nat × Option Nat))) := fds.map FD.fn
theorem look_fd : ∀ {fds : List FD} {d : FD}, (fds.map (·.id)).Nodup → d ∈ fds → look d.id (tabP fds) = some d.de := by
  intro fds
  induction fds with
  | nil => intro d _ h; cases h
  | cons e r ih =>
    intro d hn h
    rw [List.map_cons, List.nodup_cons] at hn
    show (if e.id = d.id then some e.de else look d.id (tabP r)) = _
    rcases List.mem_cons.mp h with rfl | h
    · rw [if_pos rfl]
    · rw [if_neg (fun z => hn.1 (by rw [z]; exact List.mem_map_of_mem h))]
      exact ih hn.2 h
/-- all defs of a law, at every number of calls -/
theorem fns_ok {fds : List FD} (lf : LF K w mg cv cons excs) (hn : (fds.map (·.id)).Nodup) (ho : ∀ d ∈ fds, FdOk K mg d) (hs : ∀ d ∈ fds, d.says (fnsP fds) cons excs) : ∀ k : Nat, FnsOk P w K mg base cv (fnsP fds) k (tabOf (tabP fds) k)
  | 0 => fun p hp => by
    obtain ⟨d, hd, rfl⟩ := List.mem_map.mp hp
    obtain ⟨f, fd, F, hm, hb⟩ := (ho d hd).ex
    have no : ∀ vs H Q E, ¬ spF K w cv d.fn.2 (tabOf (tabP fds) 0) vs H Q E := fun vs H Q E h => by
      unfold spF FD.fn at h
      cases hio : d.io with
      | none =>
        rw [hio] at h
        obtain ⟨_, S, ds, _, _, q⟩ := h
        exact q.elim
      | some i =>
        rw [hio] at h
        obtain ⟨_, S, a, pv, vx, vy, xs, ps, ys, _, _, _, _, _, _, _, _, q⟩ := h
        exact q.elim
    exact ⟨f, fd, d.ps, ⟨fun vs H Q E h => absurd h (no vs H Q E), fun A outer s H args us vs Q E _ _ _ _ h => absurd h (no vs H Q E)⟩, hm, F.kp, hb⟩
  | k + 1 => fun p hp => by
    have ih := fns_ok lf hn ho hs k
    obtain ⟨d, hd, rfl⟩ := List.mem_map.mp hp
    obtain ⟨f, fd, F, hm, hb⟩ := (ho d hd).ex
    refine ⟨f, fd, d.ps, ?_, hm, F.kp, hb⟩
    cases hio : d.io with
    | none =>
      have st := fn_step (P := P) (w := w) (base := base) hio F (ho d hd).sc lf ih (hs d hd)
      have e : (tabOf (tabP fds) (k + 1)).fn d.id = run (tabOf (tabP fds) k) d.de := by
        funext ds
        show (match look d.id (tabP fds) with | some d => run (tabOf (tabP fds) k) d ds | none => FR.st) = _
        rw [look_fd hn hd]
      have e2 : spF K w cv d.fn.2 (tabOf (tabP fds) (k + 1)) = spD K w cv d.ps.length ((tabOf (tabP fds) (k + 1)).fn d.id) := by
        unfold spF FD.fn
        rw [hio]
      rw [e2, e]
      exact st
    | some i =>
      have st := fn_stepI (P := P) (w := w) (base := base) hio F (ho d hd).sc lf ih (hs d hd)
      have e : (tabOf (tabP fds) (k + 1)).io d.id = runI (tabOf (tabP fds) k) d.de := by
        funext xs ps ys
        show (match look d.id (tabP fds) with | some d => runI (tabOf (tabP fds) k) d xs ps ys | none => FI.st) = _
        rw [look_fd hn hd]
      have e2 : spF K w cv d.fn.2 (tabOf (tabP fds) (k + 1)) = spI K w d.ps.length i ((tabOf (tabP fds) (k + 1)).io d.id) := by
        unfold spF FD.fn
        rw [hio]
      rw [e2, e]
      exact st
/-- the law's own promise -/
def spL (K : PySem.W.Frag) (w : World) (cv : Nat → Value) (fds : List FD) (k id : Nat) : Sp := spD K w cv 1 ((tabOf (tabP fds) k).fn id)
theorem spL_true {fds : List FD} {k id : Nat} {H : Hp} {a : Addr} {ns : List Int} (hS : SqL K H a (ns.map V.int)) (h : (tabOf (tabP fds) k).fn id [.scr ns] = .ok (.sh (.bl true))) : spL K w cv fds k id [.ref a] H (fun v _ => v = .bl true) fun _ _ _ => False := by
  refine ⟨rfl, H, [.scr ns], Same.refl _, .one (.scr hS), ?_⟩
  rw [h]
  intro x H' S' g r
  cases r
  rfl
theorem cx_false {H : Hp} {s : Shared} {e : Value} {s' : Shared} (h : L2.CX P w [] H s (fun _ _ _ => False) e s') : False := by
  obtain ⟨_, _, _, _, _, _, _, _, _, _, _, _, z⟩ := h
  exact z
end
end Dl

namespace Dl
open PySem L2
/-! ### the end of a law -/
structure FdK (K : PySem.W.Frag) (d : FD) (f : Addr) (fd : FuncData) : Prop where
  a : PySem.W.nsIn K mainGlobals d.name = some (some (.ref f))
  F : Fun K d.name d.name d.st f fd
  b : ∀ us : List Value, us.length = d.ps.length → bindArgs fd ⟨us, []⟩ = pure (d.ps.zip us)
  sc : FnScope d.N d.ps (defScope d.st)
def FdKs (K : PySem.W.Frag) : List FD → Prop
  | [] => True
  | d :: r => (∃ f fd, FdK K d f fd) ∧ FdKs K r
theorem FdKs.get {K : PySem.W.Frag} : ∀ {l : List FD} {d : FD}, FdKs K l → d ∈ l → ∃ f fd, FdK K d f fd
  | [], _, _, h => by cases h
  | e :: r, d, ks, h => by
    rcases List.mem_cons.mp h with rfl | h
    · exact ks.1
    · exact FdKs.get ks.2 h
theorem fdks_nil {K : PySem.W.Frag} : FdKs K [] := trivial
theorem fdks_cons {K : PySem.W.Frag} {d : FD} {r : List FD} (h : ∃ f fd, FdK K d f fd) (t : FdKs K r) : FdKs K (d :: r) := ⟨h, t⟩
/-- arguments bind, no defaults -/
def BindD (d : FD) : Prop := ∀ (kV doc pm : Value) (an : Option Addr) (cdv ct : Value) (us : List Value), us.length = d.ps.length → bindArgs (PySem.W.fnOf d.name d.name (defArgs d.st) (defBody d.st) (defScope d.st) .none kV doc pm an cdv ct) ⟨us, []⟩ = pure (d.ps.zip us)
theorem fdk_mk {K : PySem.W.Frag} {d : FD} {f : Addr} {oc : Value} {od an : Option Addr} {osl : Array (Option Value)} {kV doc pm cdv ct : Value} (a : PySem.W.nsIn K mainGlobals d.name = some (some (.ref f))) (l : K.lookup f = some ⟨oc, od, .func (PySem.W.fnOf d.name d.name (defArgs d.st) (defBody d.st) (defScope d.st) .none kV doc pm an cdv ct), osl⟩)
    (c : PySem.W.codeIn K cdv d.name = true) (k : PySem.W.keepIn K (.ref f) = true) (b : BindD d) (sc : FnScope d.N d.ps (defScope d.st)) : ∃ f fd, FdK K d f fd := ⟨f, _, a, fun_mk l c k, b kV doc pm an cdv ct, sc⟩
theorem law_F {l : PySem.W.OpenLaw} {w : World} {K : PySem.W.Frag} {h : Heap} {mg : Str → Option Value} {fa : Addr} {cv : Nat → Value} {cons : List (Str × D)} {excs : List (Str × Nat)} {fds : List FD} {d : FD} (X : K.In h) (G : h.Ns mainGlobals mg) (hfa : mg d.name = some (.ref fa)) (hd : d ∈ fds) (hpi : d.ps = [("script" : Str)] ∧ d.io = none ∧ hotB d.name = true)
    (ks : FdKs K fds) (hn : (fds.map (·.id)).Nodup) (hs : ∀ d ∈ fds, d.says (fnsP fds) cons excs) (lf : LF K w mg cv cons excs) (k : Nat) :
    ∃ fd : FuncData, (∀ (s : Shared) (v : Value), BindsTo s fd ⟨[v], []⟩ [("script", v)]) ∧ ∀ base : Heap, K.In base → base.Ns mainGlobals mg → FnOk l.prog w K mg base (L2.CX l.prog w) (k + 1) fa fd ["script"] (spL K w cv fds (k + 1) d.id) := by
  obtain ⟨hps, hio, hho⟩ := hpi
  obtain ⟨f, fd, ko⟩ := ks.get hd
  have e := hfa.symm.trans (PySem.W.mg_of X G ko.a)
  cases e
  have ho : ∀ d ∈ fds, FdOk K mg d := fun d hd => by
    obtain ⟨f, fd, ko⟩ := ks.get hd
    exact ⟨⟨f, fd, ko.F, PySem.W.mg_of X G ko.a, .all ko.b⟩, ko.sc⟩
  refine ⟨fd, fun s v => .of_eq ?_, fun base _ _ => ?_⟩
  · have z := ko.b [v] (by rw [hps]; rfl)
    rw [hps] at z
    exact z
  · have st := fn_step (P := l.prog) (w := w) (base := base) hio ko.F ko.sc lf (fns_ok lf hn ho hs k) (hs d hd)
    have e : (tabOf (tabP fds) (k + 1)).fn d.id = run (tabOf (tabP fds) k) d.de := by
      funext ds
      show (match look d.id (tabP fds) with | some d => run (tabOf (tabP fds) k) d ds | none => FR.st) = _
      rw [look_fd hn hd]
    unfold spL
    rw [e]
    rw [hps, hho] at st
    exact st
/-- no exception classes, no constants -/
theorem lf_none {K : PySem.W.Frag} {w : World} {mg : Str → Option Value} {cv : Nat → Value} {cons : List (Str × D)} (bl : ∀ x ∈ blts, mg x = none) (hc : ∀ p ∈ cons, ∃ u v, mg p.1 = some u ∧ RelV v u ∧ ∀ S, Rep K w S v p.2) : LF K w mg cv cons [] :=
  ⟨bl, hc, fun X _ _ p hp => (by cases hp), fun X _ _ p hp => (by cases hp), fun z => absurd rfl z⟩
theorem bl_of {K : PySem.W.Frag} {h : Heap} {mg : Str → Option Value} (X : K.In h) (G : h.Ns mainGlobals mg) (z1 : PySem.W.nsIn K mainGlobals "len" = some none) (z2 : PySem.W.nsIn K mainGlobals "int" = some none) (z3 : PySem.W.nsIn K mainGlobals "str" = some none) (z4 : PySem.W.nsIn K mainGlobals "max" = some none) (z5 : PySem.W.nsIn K mainGlobals "min" = some none) (z6 : PySem.W.nsIn K mainGlobals "list" = some none) (z7 : PySem.W.nsIn K mainGlobals "tuple" = some none)
    (z8 : PySem.W.nsIn K mainGlobals "dict" = some none) (z9 : PySem.W.nsIn K mainGlobals "range" = some none) (z10 : PySem.W.nsIn K mainGlobals "enumerate" = some none) (z11 : PySem.W.nsIn K mainGlobals "zip" = some none) (z12 : PySem.W.nsIn K mainGlobals "isinstance" = some none) (z13 : PySem.W.nsIn K mainGlobals "bool" = some none) (z14 : PySem.W.nsIn K mainGlobals "set" = some none) (z15 : PySem.W.nsIn K mainGlobals "sorted" = some none) :
    ∀ x ∈ blts, mg x = none := by
  intro x hx
  simp only [blts, List.mem_cons, List.not_mem_nil, or_false] at hx
  rcases hx with rfl | rfl | rfl | rfl | rfl | rfl | rfl | rfl | rfl | rfl | rfl | rfl | rfl | rfl | rfl
  · exact PySem.W.mg_none_of X G z1
  · exact PySem.W.mg_none_of X G z2
  · exact PySem.W.mg_none_of X G z3
  · exact PySem.W.mg_none_of X G z4
  · exact PySem.W.mg_none_of X G z5
  · exact PySem.W.mg_none_of X G z6
  · exact PySem.W.mg_none_of X G z7
  · exact PySem.W.mg_none_of X G z8
  · exact PySem.W.mg_none_of X G z9
  · exact PySem.W.mg_none_of X G z10
  · exact PySem.W.mg_none_of X G z11
  · exact PySem.W.mg_none_of X G z12
  · exact PySem.W.mg_none_of X G z13
  · exact PySem.W.mg_none_of X G z14
  · exact PySem.W.mg_none_of X G z15
theorem cons_str {K : PySem.W.Frag} {w : World} {h : Heap} {mg : Str → Option Value} {n x : Str} {t : Tok} {l : T} (X : K.In h) (G : h.Ns mainGlobals mg) (e : PySem.W.nsIn K mainGlobals n = some (some (.str x t))) (hx : x = sT l) : ∃ u v, mg n = some u ∧ RelV v u ∧ ∀ S, Rep K w S v (.str l) := by
  subst hx
  exact ⟨_, .str (sT l), PySem.W.mg_of X G e, ⟨t, rfl⟩, fun S => .str l⟩
theorem cons_int {K : PySem.W.Frag} {w : World} {h : Heap} {mg : Str → Option Value} {n : Str} {i j : Int} {t : Tok} (X : K.In h) (G : h.Ns mainGlobals mg) (e : PySem.W.nsIn K mainGlobals n = some (some (.int i t))) (hx : i = j) : ∃ u v, mg n = some u ∧ RelV v u ∧ ∀ S, Rep K w S v (.int j) := by
  subst hx
  exact ⟨_, .int i, PySem.W.mg_of X G e, ⟨t, rfl⟩, fun S => .int i⟩
/-- a dict of texts -/
def EntOk (w : World) : List DictEntry → List (T × T) → Prop
  | [], [] => True
  | e :: es, p :: ps => (∃ x, x = sT p.1 ∧ e.hash = PyData.keyHash w.params x ∧ ∃ t, e.key = .str x t) ∧ (∃ x, x = sT p.2 ∧ ∃ t, e.val = .str x t) ∧ EntOk w es ps
  | _, _ => False
theorem ent_pairs {w : World} : ∀ {es : List DictEntry} {kvs : List (T × T)}, EntOk w es kvs → ∃ vb : List (Key × Value), vb.map Prod.fst = kvs.map (fun p => (Sum.inr (sT p.1) : Key)) ∧ (∀ P : Program, Pairs (mixKind P w) es vb ∧ ∀ e ∈ es, ∃ k, (mixKind P w).is k e.key = true ∧ e.hash = (mixKind P w).hash k) ∧
    ∀ k : T, match look k kvs with
      | some v => ∃ u, valueAt vb (Sum.inr (sT k)) = some u ∧ RelV (.str (sT v)) u
      | none => valueAt vb (Sum.inr (sT k)) = none
  | [], [], _ => ⟨[], rfl, fun P => ⟨.nil, fun e h => by cases h⟩, fun k => rfl⟩
  | e :: es, p :: ps, h => by
    obtain ⟨⟨x, hx, hh, t, hk⟩, ⟨y, hy, u, hv⟩, r⟩ := h
    subst hx hy
    obtain ⟨vb, e1, e2, e3⟩ := ent_pairs r
    have isK : ∀ P : Program, (mixKind P w).is (Sum.inr (sT p.1)) e.key = true := fun P => by
      rw [hk]
      exact kV_is (k := Sum.inr (sT p.1)) (show RelV (kV (Sum.inr (sT p.1))) (.str (sT p.1) t) from ⟨t, rfl⟩)
    refine ⟨(Sum.inr (sT p.1), e.val) :: vb, by rw [List.map_cons, List.map_cons, e1], fun P => ⟨.cons (isK P) rfl (e2 P).1, fun f hf => ?_⟩, fun k => ?_⟩
    · rcases List.mem_cons.mp hf with rfl | hf
      · exact ⟨_, isK P, hh⟩
      · exact (e2 P).2 f hf
    · have e4 : valueAt ((Sum.inr (sT p.1), e.val) :: vb) (Sum.inr (sT k) : Key) = if p.1 = k then some e.val else valueAt vb (Sum.inr (sT k)) := by
        unfold valueAt
        by_cases q : p.1 = k
        · subst q
          simp
        · have q2 : ¬ (Sum.inr (sT p.1) : Key) = Sum.inr (sT k) := fun z => q (sT_inj (Sum.inr.inj z))
          simp [q2, q]
      have e5 : look k (p :: ps) = if p.1 = k then some p.2 else look k ps := rfl
      rw [e4, e5]
      by_cases q : p.1 = k
      · rw [if_pos q, if_pos q]
        exact ⟨_, rfl, by rw [hv]; exact ⟨u, rfl⟩⟩
      · rw [if_neg q, if_neg q]
        exact e3 k
  | [], _ :: _, h => h.elim
  | _ :: _, [], h => h.elim
theorem kdict_of {K : PySem.W.Frag} {w : World} {a : Addr} {es : Array DictEntry} {ep : Nat} {kvs : List (T × T)} (l : K.lookup a = some ⟨.type "dict", none, .dict es ep, #[]⟩) (z : (a == sysModules) = false) (he : EntOk w es.toList kvs) (nd : (kvs.map Prod.fst).Nodup) : KDict K w a kvs := by
  obtain ⟨vb, e1, e2, e3⟩ := ent_pairs he
  refine ⟨z, vb, e3, fun P h X => ⟨_, es, ep, X a _ l, ?_, rfl, fun e he => (e2 P).2 e (Array.mem_toList_iff.mpr he), (e2 P).1, ?_⟩⟩
  · exact ⟨rfl, rfl, rfl⟩
  · show (vb.map Prod.fst).Nodup
    rw [e1]
    have e6 : kvs.map (fun p => (Sum.inr (sT p.1) : Key)) = (kvs.map Prod.fst).map fun x => (Sum.inr (sT x) : Key) := by rw [List.map_map]; rfl
    rw [e6]
    exact List.Pairwise.map _ (fun a b q z => q (sT_inj (Sum.inr.inj z))) nd
theorem cons_kd {K : PySem.W.Frag} {w : World} {h : Heap} {mg : Str → Option Value} {n : Str} {a : Addr} {kvs : List (T × T)} (X : K.In h) (G : h.Ns mainGlobals mg) (e : PySem.W.nsIn K mainGlobals n = some (some (.ref a))) (kd : KDict K w a kvs) : ∃ u v, mg n = some u ∧ RelV v u ∧ ∀ S, Rep K w S v (.kd kvs) :=
  ⟨_, .ref a, PySem.W.mg_of X G e, rfl, fun S => .kd kd⟩
end Dl

namespace Dl
open PySem L2
/-! ### exception classes of the program -/
structure XcK (K : PySem.W.Frag) (x : Str) (Ca : Addr) : Prop where
  a : PySem.W.nsIn K mainGlobals x = some (some (.ref Ca))
  q : PySem.W.excIn K Ca [.type "ValueError", .type "Exception", .type "BaseException", .type "object"] "ValueError.__new__" = true
  k : PySem.W.keepIn K (.ref Ca) = true
  t : PySem.W.typeIn K (.ref Ca) = some (.type "type")
  v : PySem.W.subIn K (.ref Ca) (.type "ValueError") = some true
  C : ExcC K Ca
theorem xck_mk {K : PySem.W.Frag} {x : Str} {D : Addr} (a : PySem.W.nsIn K mainGlobals x = some (some (.ref D))) (q : PySem.W.excIn K D [.type "ValueError", .type "Exception", .type "BaseException", .type "object"] "ValueError.__new__" = true)
    (k : PySem.W.keepIn K (.ref D) = true) (t : PySem.W.typeIn K (.ref D) = some (.type "type")) (v : PySem.W.subIn K (.ref D) (.type "ValueError") = some true)
    (hg : PySem.W.findIn K (.ref D) "__getattribute__" = some (some (.builtin "BaseException.__getattribute__"))) (hk : PySem.W.findIn K (.ref D) "__getattr__" = some none) (hs : PySem.W.subIn K (.ref D) (.type "BaseException") = some true) (hd : PySem.W.hasDictIn K D = true)
    (ha : PySem.W.findIn K (.ref D) "__class__" = some (some (.builtin "object.__class__"))) (hn : PySem.W.specialIn K (.builtin "object.__class__") "__get__" = some (some (.builtin "getset_descriptor.__get__"))) (ht : PySem.W.takesIn K (.builtin "object.__class__") = some true) (hm : PySem.W.mroIn K D (.type "object") = some true) : XcK K x D :=
  ⟨a, q, k, t, v, ⟨hg, hk, hs, hd, ha, hn, ht, hm⟩⟩
def XcKs (K : PySem.W.Frag) : List ((Str × Nat) × Addr) → Prop
  | [] => True
  | e :: r => XcK K e.1.1 e.2 ∧ XcKs K r
theorem xcks_nil {K : PySem.W.Frag} : XcKs K [] := trivial
theorem xcks_cons {K : PySem.W.Frag} {x : Str} {c : Nat} {Ca : Addr} {r : List ((Str × Nat) × Addr)} (h : XcK K x Ca) (t : XcKs K r) : XcKs K (((x, c), Ca) :: r) := ⟨h, t⟩
theorem XcKs.get {K : PySem.W.Frag} : ∀ {l : List ((Str × Nat) × Addr)} {e : (Str × Nat) × Addr}, XcKs K l → e ∈ l → XcK K e.1.1 e.2
  | [], _, _, h => by cases h
  | f :: r, e, ks, h => by
    rcases List.mem_cons.mp h with rfl | h
    · exact ks.1
    · exact XcKs.get ks.2 h
def SbK (K : PySem.W.Frag) (c : Nat) (Ca : Addr) : List ((Str × Nat) × Addr) → Prop
  | [] => True
  | e :: r => PySem.W.subIn K (.ref Ca) (.ref e.2) = some (subC c e.1.2) ∧ SbK K c Ca r
theorem sbk_nil {K : PySem.W.Frag} {c : Nat} {Ca : Addr} : SbK K c Ca [] := trivial
theorem sbk_cons {K : PySem.W.Frag} {c d : Nat} {Ca Da : Addr} {x : Str} {b : Bool} {r : List ((Str × Nat) × Addr)} (h : PySem.W.subIn K (.ref Ca) (.ref Da) = some b) (hb : b = subC c d) (t : SbK K c Ca r) : SbK K c Ca (((x, d), Da) :: r) := ⟨by subst hb; exact h, t⟩
def SbKs (K : PySem.W.Frag) (es : List ((Str × Nat) × Addr)) : List ((Str × Nat) × Addr) → Prop
  | [] => True
  | e :: r => SbK K e.1.2 e.2 es ∧ SbKs K es r
theorem sbks_nil {K : PySem.W.Frag} {es : List ((Str × Nat) × Addr)} : SbKs K es [] := trivial
theorem sbks_cons {K : PySem.W.Frag} {es r : List ((Str × Nat) × Addr)} {c : Nat} {Ca : Addr} {x : Str} (h : SbK K c Ca es) (t : SbKs K es r) : SbKs K es (((x, c), Ca) :: r) := ⟨h, t⟩
theorem SbK.get {K : PySem.W.Frag} {c : Nat} {Ca : Addr} : ∀ {l : List ((Str × Nat) × Addr)} {e : (Str × Nat) × Addr}, SbK K c Ca l → e ∈ l → PySem.W.subIn K (.ref Ca) (.ref e.2) = some (subC c e.1.2)
  | [], _, _, h => by cases h
  | f :: r, e, ks, h => by
    rcases List.mem_cons.mp h with rfl | h
    · exact ks.1
    · exact SbK.get ks.2 h
theorem SbKs.get {K : PySem.W.Frag} {es : List ((Str × Nat) × Addr)} : ∀ {l : List ((Str × Nat) × Addr)} {e : (Str × Nat) × Addr}, SbKs K es l → e ∈ l → SbK K e.1.2 e.2 es
  | [], _, _, h => by cases h
  | f :: r, e, ks, h => by
    rcases List.mem_cons.mp h with rfl | h
    · exact ks.1
    · exact SbKs.get ks.2 h
/-- the class of a number: FewError where there is none -/
def cvL : List ((Str × Nat) × Addr) → Addr → Nat → Value
  | [], b, _ => .ref b
  | e :: r, b, d => if e.1.2 = d then .ref e.2 else cvL r b d
theorem cvL_get (b : Addr) (d : Nat) : ∀ l : List ((Str × Nat) × Addr), (∃ e ∈ l, e.1.2 = d ∧ cvL l b d = .ref e.2) ∨ ((∀ e ∈ l, e.1.2 ≠ d) ∧ cvL l b d = .ref b)
  | [] => .inr ⟨fun e h => (by cases h), rfl⟩
  | e :: r => by
    by_cases h : e.1.2 = d
    · exact .inl ⟨e, List.mem_cons_self, h, by show (if _ then _ else _) = _; rw [if_pos h]⟩
    · have h2 : cvL (e :: r) b d = cvL r b d := by show (if _ then _ else _) = _; rw [if_neg h]
      rcases cvL_get b d r with ⟨f, hf, h3, h4⟩ | ⟨h3, h4⟩
      · exact .inl ⟨f, List.mem_cons_of_mem _ hf, h3, by rw [h2, h4]⟩
      · refine .inr ⟨fun f hf => ?_, by rw [h2, h4]⟩
        rcases List.mem_cons.mp hf with rfl | hf
        · exact h
        · exact h3 f hf
def nmK (K : PySem.W.Frag) (x : Str) : Value := match PySem.W.nsIn K mainGlobals x with
  | some (some v) => v
  | _ => .none
def cvK (K : PySem.W.Frag) : List (Str × Nat) → Nat → Value
  | [], _ => nmK K "FewError"
  | e :: r, d => if e.2 = d then nmK K e.1 else cvK K r d
theorem cvK_eq {K : PySem.W.Frag} {Fa : Addr} (h : PySem.W.nsIn K mainGlobals "FewError" = some (some (.ref Fa))) : ∀ {es : List ((Str × Nat) × Addr)}, XcKs K es → ∀ d, cvK K (es.map (·.1)) d = cvL es Fa d
  | [], _, d => by
    show nmK K "FewError" = .ref Fa
    unfold nmK
    rw [h]
  | e :: r, ks, d => by
    have h1 : nmK K e.1.1 = .ref e.2 := by unfold nmK; rw [ks.1.a]
    show (if e.1.2 = d then nmK K e.1.1 else cvK K (r.map (·.1)) d) = (if e.1.2 = d then .ref e.2 else cvL r Fa d)
    rw [h1, cvK_eq h ks.2 d]
theorem kit_ref {K : PySem.W.Frag} {C D : Addr} {b : Bool} (hd : PySem.W.hasDictIn K C = true) (ht : PySem.W.typeIn K (.ref C) = some (.type "type")) (h : PySem.W.subIn K (.ref D) (.ref C) = some b) (he : D = C → b = true) : PySem.W.kitOne K (.ref D) (.ref C) = some b := by
  obtain ⟨cd, hc, _⟩ := PySem.W.any_some hd
  have e2 : ((PySem.W.clsIn K C).isSome && PySem.W.typeIn K (.ref C) == some (.type "type")) = true := by rw [hc, ht] <;> rfl
  show (if ((Value.ref D : Value) == .ref C) = true then some true else (if ((PySem.W.clsIn K C).isSome && PySem.W.typeIn K (.ref C) == some (.type "type")) = true then PySem.W.subIn K (.ref D) (.ref C) else none)) = some b
  rw [if_pos e2]
  split
  · rename_i z
    rw [he (Value.ref.inj (beq_iff_eq.mp z))]
  · exact h
theorem kit_ty {K : PySem.W.Frag} {D : Addr} {T : String} {b : Bool} (hm : PySem.W.kitMeta T = true) (h : PySem.W.subIn K (.ref D) (.type T) = some b) : PySem.W.kitOne K (.ref D) (.type T) = some b := by
  show (if ((Value.ref D : Value) == .type T) = true then some true else (if PySem.W.kitMeta T = true then PySem.W.subIn K (.ref D) (.type T) else none)) = some b
  rw [if_pos hm]
  split
  · rename_i z
    have := beq_iff_eq.mp z
    cases this
  · exact h
theorem exm_ty {K : PySem.W.Frag} {D : Addr} {T : String} {b : Bool} (h1 : PySem.W.subIn K (.type T) (.type "BaseException") = some true) (hm : PySem.W.kitMeta T = true) (h : PySem.W.subIn K (.ref D) (.type T) = some b) : PySem.W.exmOne K (.ref D) (.type T) = some b := by
  have e1 : (PySem.W.subIn K (.type T) (.type "BaseException") == some true) = true := by rw [h1] <;> rfl
  show (if (PySem.W.subIn K (.type T) (.type "BaseException") == some true) = true then (if PySem.W.kitMeta T = true then PySem.W.subIn K (.ref D) (.type T) else none) else none) = some b
  rw [if_pos e1, if_pos hm]
  exact h
theorem subC_0 (c : Nat) : subC c 0 = true := by simp [subC]
theorem subC_8 (c : Nat) : subC c 8 = true := by simp [subC]
theorem subC_self (c : Nat) : subC c c = true := by simp [subC]
theorem lf_exc {K : PySem.W.Frag} {w : World} {h : Heap} {mg : Str → Option Value} {cons : List (Str × D)} {excs : List (Str × Nat)} (X : K.In h) (G : h.Ns mainGlobals mg) (es : List ((Str × Nat) × Addr)) (Fa : Addr) (r : List ((Str × Nat) × Addr))
    (he : es = ((("FewError" : Str), 0), Fa) :: r) (hx : es.map (·.1) = excs) (ks : XcKs K es) (sb : SbKs K es es) (z : PySem.W.nsIn K mainGlobals "ValueError" = some none) (z1 : PySem.W.subIn K (.type "ValueError") (.type "BaseException") = some true)
    (nd : (excs.map (·.2)).Nodup) (hd : excs.all (fun p => p.1 != ("__debug__" : Str)) = true) (bl : ∀ x ∈ blts, mg x = none) (hc : ∀ p ∈ cons, ∃ u v, mg p.1 = some u ∧ RelV v u ∧ ∀ S, Rep K w S v p.2) : LF K w mg (cvK K excs) cons excs := by
  have h00 : ((("FewError" : Str), 0), Fa) ∈ es := by rw [he]; exact List.mem_cons_self
  have hcv : cvK K excs = cvL es Fa := funext fun d => by rw [← hx]; exact cvK_eq (ks.get h00).a ks d
  rw [hcv]
  have h0 : ((("FewError" : Str), 0), Fa) ∈ es := by rw [he]; exact List.mem_cons_self
  have cv0 : ∀ d, ∃ e ∈ es, cvL es Fa d = .ref e.2 ∧ ∀ f ∈ es, PySem.W.subIn K (.ref e.2) (.ref f.2) = some (subC d f.1.2) := fun d => by
    rcases cvL_get Fa d es with ⟨e, h1, rfl, h3⟩ | ⟨h1, h2⟩
    · exact ⟨e, h1, h3, fun f hf => SbK.get (SbKs.get sb h1) hf⟩
    · refine ⟨_, h0, h2, fun f hf => ?_⟩
      have := SbK.get (SbKs.get sb h0) hf
      rw [this]
      have hn := h1 f hf
      simp only [subC]
      by_cases hf0 : f.1.2 = 0
      · simp [hf0]
      · have : (d == f.1.2) = false := beq_eq_false_iff_ne.mpr fun z => hn z.symm
        have h2 : (0 == f.1.2) = false := beq_eq_false_iff_ne.mpr fun z => hf0 z.symm
        rw [this, h2]
  have mem : ∀ p ∈ excs, ∃ Ca, (p, Ca) ∈ es := fun p hp => by
    rw [← hx] at hp
    obtain ⟨e, h1, rfl⟩ := List.mem_map.mp hp
    exact ⟨e.2, h1⟩
  have meta_ : PySem.W.kitMeta "ValueError" = true := by decide +kernel
  refine ⟨bl, hc, fun Y hK hm p hp => ?_, fun Y hK hm p hp => ?_, fun _ d => ?_⟩
  · obtain ⟨Ca, hca⟩ := mem p hp
    have k := ks.get hca
    subst hK
    refine ⟨Ca, _, _, _, _, PySem.F.excBase_ValueError, k.q, by rw [hm]; exact PySem.W.mg_of X G k.a, k.k, raises_own k.C.hs k.t, ?_⟩
    rcases cvL_get Fa p.2 es with ⟨e, h1, h2, h3⟩ | ⟨h1, _⟩
    · rw [h3]
      have inj : ∀ (l : List ((Str × Nat) × Addr)), (l.map (fun e => e.1.2)).Nodup → ∀ e ∈ l, ∀ f ∈ l, e.1.2 = f.1.2 → e = f := by
        intro l
        induction l with
        | nil => intro _ e h; cases h
        | cons g l ih =>
          intro hn e he f hf hef
          rw [List.map_cons, List.nodup_cons] at hn
          rcases List.mem_cons.mp he with e1 | e1 <;> rcases List.mem_cons.mp hf with e2 | e2
          · rw [e1, e2]
          · refine absurd ?_ hn.1
            rw [← e1, hef]
            exact List.mem_map_of_mem e2
          · refine absurd ?_ hn.1
            rw [← e2, ← hef]
            exact List.mem_map_of_mem e1
          · exact ih hn.2 e e1 f e2 hef
      have nd' : (es.map (fun e => e.1.2)).Nodup := by
        rw [← hx, List.map_map] at nd
        exact nd
      rw [inj es nd' e h1 _ hca h2]
    · exact absurd rfl (h1 _ hca)
  · have hne : excs ≠ [] := by
      rw [← hx, he]
      exact fun z => by cases z
    have hie : excs.isEmpty = false := by cases excs with | nil => exact absurd rfl hne | cons _ _ => rfl
    rw [hie, if_neg Bool.false_ne_true] at hp
    subst hK
    rcases List.mem_append.mp hp with hp | hp
    · obtain ⟨Ca, hca⟩ := mem p hp
      have k := ks.get hca
      have hdd : (p.1 == ("__debug__" : Str)) = false := by
        have := List.all_eq_true.mp hd p hp
        simpa using this
      refine ⟨.ref Ca, .ref Ca, .inl (by rw [hm]; exact PySem.W.mg_of X G k.a), rfl, fun w hw => hw, hdd, fun d => ?_, fun d => ?_⟩
      · obtain ⟨e, h1, h2, h3⟩ := cv0 d
        rw [h2]
        exact PySem.W.exm_ref k.C.hs k.C.hd k.t (h3 _ hca)
      · obtain ⟨e, h1, h2, h3⟩ := cv0 d
        rw [h2]
        refine kit_ref k.C.hd k.t (h3 _ hca) fun q => ?_
        have e1 := h3 _ hca
        have e2 := SbK.get (SbKs.get sb hca) hca
        simp only [subC_self] at e2
        rw [q] at e1
        exact Option.some.inj (e1.symm.trans e2)
    · rw [List.mem_singleton] at hp
      subst hp
      refine ⟨.type "ValueError", .ty "ValueError", .inr ⟨by rw [hm]; exact PySem.W.mg_none_of X G z, by (show bootBuiltins ("ValueError" : Str) = _); boot_by_name, by decide⟩, rfl, fun w hw => hw, by decide, fun d => ?_, fun d => ?_⟩
      · obtain ⟨e, h1, h2, h3⟩ := cv0 d
        rw [h2, subC_8]
        exact exm_ty z1 meta_ (ks.get h1).v
      · obtain ⟨e, h1, h2, h3⟩ := cv0 d
        rw [h2, subC_8]
        exact kit_ty meta_ (ks.get h1).v
  · obtain ⟨e, h1, h2, _⟩ := cv0 d
    exact ⟨e.2, h2, (ks.get h1).C⟩
def spX (K : PySem.W.Frag) (w : World) (excs : List (Str × Nat)) (fds : List FD) (k id : Nat) : Sp := spL K w (cvK K excs) fds k id
theorem spX_true {K : PySem.W.Frag} {w : World} {excs : List (Str × Nat)} {fds : List FD} {k id : Nat} {H : Hp} {a : Addr} {ns : List Int} (hS : SqL K H a (ns.map V.int)) (h : (tabOf (tabP fds) k).fn id [.scr ns] = .ok (.sh (.bl true))) : spX K w excs fds k id [.ref a] H (fun v _ => v = .bl true) fun _ _ _ => False := spL_true hS h
theorem law_FX {l : PySem.W.OpenLaw} {w : World} {K : PySem.W.Frag} {h : Heap} {mg : Str → Option Value} {fa : Addr} {cons : List (Str × D)} {excs : List (Str × Nat)} {fds : List FD} {d : FD} (X : K.In h) (G : h.Ns mainGlobals mg) (hfa : mg d.name = some (.ref fa)) (hd : d ∈ fds) (hpi : d.ps = [("script" : Str)] ∧ d.io = none ∧ hotB d.name = true)
    (ks : FdKs K fds) (hn : (fds.map (·.id)).Nodup) (hs : ∀ d ∈ fds, d.says (fnsP fds) cons excs) (lf : LF K w mg (cvK K excs) cons excs) (k : Nat) :
    ∃ fd : FuncData, (∀ (s : Shared) (v : Value), BindsTo s fd ⟨[v], []⟩ [("script", v)]) ∧ ∀ base : Heap, K.In base → base.Ns mainGlobals mg → FnOk l.prog w K mg base (L2.CX l.prog w) (k + 1) fa fd ["script"] (spX K w excs fds (k + 1) d.id) := law_F X G hfa hd hpi ks hn hs lf k
end Dl

namespace Dl
/-! ### the semantics, step by step -/
theorem s_ok {α : Type} (a : α) (e : DEnv) (f : α → DEnv → SR) : (Res.ok a e).s f = f a e := rfl
theorem s_er {α : Type} (c : Nat) (e : DEnv) (f : α → DEnv → SR) : (Res.er c e).s f = .er c e := rfl
theorem s_st {α : Type} (f : α → DEnv → SR) : (Res.st).s f = .st := rfl
theorem sb_nx (e : DEnv) (f : DEnv → SR) : (SR.nx e).bd f = f e := rfl
theorem sb_rt (v : DV) (e : DEnv) (f : DEnv → SR) : (SR.rt v e).bd f = .rt v e := rfl
theorem sb_er (c : Nat) (e : DEnv) (f : DEnv → SR) : (SR.er c e).bd f = .er c e := rfl
theorem sb_st (f : DEnv → SR) : (SR.st).bd f = .st := rfl
theorem val_sh (d : D) (e : DEnv) : (Res.ok (.sh d) e).val = .ok d e := rfl
theorem val_ol (d : List D) (e : DEnv) : (Res.ok (.ol d) e).val = .ok (.lst d) e := rfl
theorem val_od (d : List (T × D)) (e : DEnv) : (Res.ok (.od d) e).val = .ok (.dic d) e := rfl
theorem val_ot (d : List (List Int × D)) (e : DEnv) : (Res.ok (.ot d) e).val = .ok (.dit d) e := rfl
theorem val_er (c : Nat) (e : DEnv) : (Res.er c e : Res DV).val = .er c e := rfl
theorem val_st : (Res.st : Res DV).val = .st := rfl
theorem blR_bl (k : Bool) (e : DEnv) : blR (.ok (.sh (.bl k)) e) = .ok k e := rfl
theorem truth_bl (k : Bool) : truth (.bl k) = some k := rfl
theorem truth_lst (l : List D) : truth (.lst l) = some (!l.isEmpty) := rfl
theorem intOf_int (i : Int) : intOf (.int i) = some i := rfl
theorem c_eq (a b : D) : cmpD .eq a b = eqV a b := rfl
theorem c_nes (a b : D) : cmpD .nes a b = nesD a b := rfl
theorem c_ne (a b : D) : cmpD .ne a b = (eqV a b).map (!·) := rfl
theorem c_lt (i j : Int) : cmpD .lt (.int i) (.int j) = some (decide (i < j)) := rfl
theorem c_le (i j : Int) : cmpD .le (.int i) (.int j) = some (decide (i ≤ j)) := rfl
theorem c_gt (i j : Int) : cmpD .gt (.int i) (.int j) = some (decide (j < i)) := rfl
theorem c_ge (i j : Int) : cmpD .ge (.int i) (.int j) = some (decide (j ≤ i)) := rfl
theorem c_inn (a b : D) : cmpD .inn a b = inD a b := rfl
theorem c_nin (a b : D) : cmpD .nin a b = (inD a b).map (!·) := rfl
theorem c_isN (a b : D) : cmpD .isN a b = some (isNon a) := rfl
theorem c_notN (a b : D) : cmpD .notN a b = some (!isNon a) := rfl
theorem n_non : isNon .non = true := rfl
theorem n_int (i : Int) : isNon (.int i) = false := rfl
theorem n_str (i : T) : isNon (.str i) = false := rfl
theorem n_tup (i : List D) : isNon (.tup i) = false := rfl
theorem n_lst (i : List D) : isNon (.lst i) = false := rfl
theorem b_add (i j : Int) : binD .add (.int i) (.int j) = some (.sh (.int (i + j))) := rfl
theorem b_sub (i j : Int) : binD .sub (.int i) (.int j) = some (.sh (.int (i - j))) := rfl
theorem b_addS (x y : T) (h : x.length + y.length ≤ szL) : binD .add (.str x) (.str y) = some (.sh (.str (x ++ y))) := by simp only [binD, addD, if_pos h]
theorem b_addT (x y : List D) (h : x.length + y.length ≤ szL) : binD .add (.tup x) (.tup y) = some (.sh (.tup (x ++ y))) := by simp only [binD, addD, if_pos h]
theorem b_addL (x y : List D) (h : x.length + y.length ≤ szL) : binD .add (.lst x) (.lst y) = some (.ol (x ++ y)) := by simp only [binD, addD, if_pos h]
theorem b_mul (i j : Int) (h : mulOk i j = true) : binD .mul (.int i) (.int j) = some (.sh (.int (i * j))) := by simp only [binD, mulD, if_pos h]
theorem mulOk_r {i j : Int} (h1 : -(2 ^ 64) < j) (h2 : j < 2 ^ 64) : mulOk i j = true := by
  unfold mulOk
  rw [decide_eq_true (p := -(2 ^ 64) < j ∧ j < 2 ^ 64) ⟨h1, h2⟩]
  simp
theorem mulOk_l {i j : Int} (h1 : -(2 ^ 64) < i) (h2 : i < 2 ^ 64) : mulOk i j = true := by
  unfold mulOk
  rw [decide_eq_true (p := -(2 ^ 64) < i ∧ i < 2 ^ 64) ⟨h1, h2⟩]
  simp
theorem b_fdiv (i j : Int) (h : 0 < j ∧ j < 2 ^ 64) : binD .fdiv (.int i) (.int j) = some (.sh (.int (i / j))) := by show (if _ then _ else _) = _; rw [if_pos h]
theorem b_mod (i j : Int) (h : 0 < j) : binD .mod (.int i) (.int j) = some (.sh (.int (i % j))) := by show (if _ then _ else _) = _; rw [if_pos h]
theorem b_pow (i j : Int) (h : 0 ≤ j ∧ j ≤ 1000000 ∧ i.natAbs < 2 ^ 64) : binD .pow (.int i) (.int j) = some (.sh (.int (i ^ j.toNat))) := by show (if _ then _ else _) = _; rw [if_pos h]
theorem b_mulL (x : List D) (k : Int) (h : -(2 ^ 63) ≤ k ∧ k < 2 ^ 63 ∧ x.length * k.toNat ≤ szL) : binD .mul (.lst x) (.int k) = some (.ol (rep k.toNat x)) := by simp only [binD, mulD, if_pos h]
theorem bi_max2 (i j : Int) : biD .max [.int i, .int j] = some (.sh (.int (if j > i then j else i))) := rfl
theorem bi_min2 (i j : Int) : biD .min [.int i, .int j] = some (.sh (.int (if j < i then j else i))) := rfl
theorem bi_intB (b : Bool) : biD .int [.bl b] = some (.sh (.int (if b then 1 else 0))) := rfl
theorem bi_intI (i : Int) : biD .int [.int i] = some (.sh (.int i)) := rfl
theorem bi_lenL (x : List D) : biD .len [.lst x] = some (.sh (.int x.length)) := rfl
theorem bi_lenT (x : List D) : biD .len [.tup x] = some (.sh (.int x.length)) := rfl
theorem bi_lenS (x : List Int) : biD .len [.scr x] = some (.sh (.int x.length)) := rfl
theorem bi_lenX (x : T) (h : x.length ≤ szL) : biD .len [.str x] = some (.sh (.int x.length)) := by show (if _ then _ else _) = _; rw [if_pos h]
theorem bi_listL (x : List D) : biD .list [.lst x] = some (.ol x) := rfl
theorem bi_listT (x : List D) : biD .list [.tup x] = some (.ol x) := rfl
theorem bi_strI (i : Int) (h : i.natAbs < 2 ^ 64) : biD .str [.int i] = some (.sh (.str (numT i))) := by show (if _ then _ else _) = _; rw [if_pos h]
theorem bi_strS (i : T) : biD .str [.str i] = some (.sh (.str i)) := rfl
theorem sub_lst (x : List D) (i : Int) : subD (.lst x) (.int i) = Dl.atI x i := rfl
theorem sub_tup (x : List D) (i : Int) : subD (.tup x) (.int i) = Dl.atI x i := rfl
theorem sub_scr (x : List Int) (i : Int) : subD (.scr x) (.int i) = (Dl.atI x i).map .int := rfl
theorem sub_str (x : T) (i : Int) (h : x.length ≤ szL) : subD (.str x) (.int i) = (Dl.atI x i).map fun c => .str [c] := by show (if _ then _ else _) = _; rw [if_pos h]
theorem sub_dic (x : List (T × D)) (k : T) : subD (.dic x) (.str k) = look k x := rfl
theorem slc_lst (x : List D) (l h : Option Int) : sliceD (.lst x) l h = some (.ol (cut x l h)) := rfl
theorem slc_tup (x : List D) (l h : Option Int) : sliceD (.tup x) l h = some (.sh (.tup (cut x l h))) := rfl
theorem slc_str (x : T) (l h : Option Int) (hx : x.length ≤ szL) : sliceD (.str x) l h = some (.sh (.str (cut x l h))) := by show (if _ then _ else _) = _; rw [if_pos hx]
theorem atI_nat {α : Type} (x : List α) (j : Nat) : Dl.atI x (j : Int) = x[j]? := by
  unfold Dl.atI Dl.ixN
  rw [if_pos (by omega)]
  by_cases h : j < x.length
  · rw [if_pos (by omega)]
    simp
  · rw [if_neg (by omega)]
    simp
    omega
theorem atI0 {α : Type} (x : α) (r : List α) : Dl.atI (x :: r) 0 = some x := atI_nat (x :: r) 0
theorem atI1 {α : Type} (x y : α) (r : List α) : Dl.atI (x :: y :: r) 1 = some y := atI_nat (x :: y :: r) 1
theorem atI2 {α : Type} (x y z : α) (r : List α) : Dl.atI (x :: y :: z :: r) 2 = some z := atI_nat (x :: y :: z :: r) 2
theorem atI3 {α : Type} (x y z u : α) (r : List α) : Dl.atI (x :: y :: z :: u :: r) 3 = some u := atI_nat (x :: y :: z :: u :: r) 3
theorem atI4 {α : Type} (x y z u v : α) (r : List α) : Dl.atI (x :: y :: z :: u :: v :: r) 4 = some v := atI_nat (x :: y :: z :: u :: v :: r) 4
theorem eqV_int (x y : Int) : eqV (.int x) (.int y) = some (x == y) := rfl
theorem eqV_bl (x y : Bool) : eqV (.bl x) (.bl y) = some (x == y) := rfl
theorem eqV_str (x y : T) (hx : x.all (· < 1114112) = true) (hy : y.all (· < 1114112) = true) : eqV (.str x) (.str y) = some (x == y) := by
  unfold eqV
  rw [show okD (.str x) 64 = true from hx, show okD (.str y) 64 = true from hy]
  rfl
theorem isi_int (i : Int) : isiD (.int i) .int = some true := rfl
theorem isi_intb (i : Int) : isiD (.int i) .bool = some false := rfl
theorem isi_bl (i : Bool) : isiD (.bl i) .bool = some true := rfl
theorem isi_lst (i : List D) : isiD (.lst i) .list = some true := rfl
theorem isi_tup (i : List D) : isiD (.tup i) .tuple = some true := rfl
theorem isi_str (i : T) : isiD (.str i) .str = some true := rfl
theorem run_eq {G : Tab} {d : Def} {ds : List D} (h1 : ds.length = d.np) (h2 : d.io = none) : run G d ds = (exB G d.body (env0 d ds)).fr.pl := by unfold run; rw [if_pos ⟨h1, h2⟩]
theorem fp_sh (d : D) (e : DEnv) : (SR.rt (.sh d) e).fr.pl = .ok (.sh d) := rfl
theorem fp_ol (d : List D) (e : DEnv) : (SR.rt (.ol d) e).fr.pl = .ok (.ol d) := rfl
theorem fp_nx (e : DEnv) : (SR.nx e).fr.pl = .ok (.sh .non) := rfl
theorem fp_er (c : Nat) (e : DEnv) : (SR.er c e).fr.pl = .er c := rfl
theorem res_ok (v : DV) (e : DEnv) : (FR.ok v).res e = .ok v e := rfl
theorem res_er (v : Nat) (e : DEnv) : (FR.er v).res e = .er v e := rfl
theorem itm_lst (x : List D) : itemsD (.lst x) = some x := rfl
theorem itm_tup (x : List D) : itemsD (.tup x) = some x := rfl
theorem itm_str (x : T) : itemsD (.str x) = some (x.map fun c => .str [c]) := rfl
theorem upS_ok {i : Nat} {f : DV → Option DV} {env : DEnv} {v w : DV} (h : env[i]? = some (some v)) (hf : f v = some w) : upS i f env = .nx (env.set i (some w)) := by unfold upS; rw [h]; simp only [hf]
theorem sz_0 : (0 ≤ szL) = True := eq_true (by decide)
theorem sz_1 : (0 + 1 ≤ szL) = True := eq_true (by decide)
theorem sz_2 : (0 + 1 + 1 ≤ szL) = True := eq_true (by decide)
theorem sz_3 : (0 + 1 + 1 + 1 ≤ szL) = True := eq_true (by decide)
theorem sz_4 : (0 + 1 + 1 + 1 + 1 ≤ szL) = True := eq_true (by decide)
theorem sz_5 : (0 + 1 + 1 + 1 + 1 + 1 ≤ szL) = True := eq_true (by decide)
theorem sz_6 : (0 + 1 + 1 + 1 + 1 + 1 + 1 ≤ szL) = True := eq_true (by decide)
theorem sz_7 : (0 + 1 + 1 + 1 + 1 + 1 + 1 + 1 ≤ szL) = True := eq_true (by decide)
theorem rng_1 (n : Nat) (h : n < 2 ^ 60) : rngD [.int (n : Int)] = some ((List.range n).map fun (k : Nat) => D.int (k : Int)) := by
  have h' : -(2 ^ 62) ≤ (n : Int) ∧ (n : Int) < 2 ^ 62 := ⟨by omega, by omega⟩
  simp only [rngD, if_pos h', Int.toNat_natCast]
theorem rng_2 (a b : Int) (h : -(2 ^ 62) ≤ a ∧ a < 2 ^ 62 ∧ -(2 ^ 62) ≤ b ∧ b < 2 ^ 62) : rngD [.int a, .int b] = some ((List.range (b - a).toNat).map fun (k : Nat) => D.int (a + (k : Int))) := by
  simp only [rngD, if_pos h]
theorem rngm_get {n i : Nat} {x : D} {f : Nat → D} (h : ((List.range n).map f)[i]? = some x) : i < n ∧ x = f i := by
  rw [List.getElem?_map] at h
  cases e : (List.range n)[i]? with
  | none => rw [e] at h; cases h
  | some k =>
    rw [e] at h
    cases h
    have hi : i < n := by
      by_cases h : i < n
      · exact h
      · rw [List.getElem?_eq_none (by simpa using h)] at e; cases e
    rw [List.getElem?_range hi] at e
    cases e
    exact ⟨hi, rfl⟩
theorem x_var {G : Tab} {env : DEnv} (i : Nat) : ev G (.var i) env = rd i env := by simp only [ev]
theorem x_lit {G : Tab} {env : DEnv} (d : D) : ev G (.lit d) env = .ok (.sh d) env := by simp only [ev]
theorem x_bin {G : Tab} {env : DEnv} (o : BOp) (a b : E) : ev G (.bin o a b) env = (brw a (ev G a env) env).bd fun x env => (brw b (ev G b env) env).bd fun y env => .of (binD o x y) env := by simp only [ev]
theorem x_neg {G : Tab} {env : DEnv} (a : E) : ev G (.neg a) env = (ev G a env).val.bd fun x env => .of ((intOf x).map fun i => .sh (.int (-i))) env := by simp only [ev]
theorem x_cmp {G : Tab} {env : DEnv} (o : COp) (a b : E) : ev G (.cmp o a b) env = (brw a (ev G a env) env).bd fun x env => (brw b (ev G b env) env).bd fun y env => .of ((cmpD o x y).map fun k => .sh (.bl k)) env := by simp only [ev]
theorem x_chain {G : Tab} {env : DEnv} (o p : COp) (a b c : E) : ev G (.chain o p a b c) env = (brw a (ev G a env) env).bd fun x env => (brw b (ev G b env) env).bd fun y env => (Res.of (cmpD o x y) env).bd fun k env => if k then (brw c (ev G c env) env).bd fun z env => .of ((cmpD p y z).map fun k => .sh (.bl k)) env else .ok (.sh (.bl false)) env := by simp only [ev]
theorem x_and {G : Tab} {env : DEnv} (a b : E) : ev G (.and a b) env = (blR (ev G a env)).bd fun k env => if k then (blR (ev G b env)).bd fun k env => .ok (.sh (.bl k)) env else .ok (.sh (.bl false)) env := by simp only [ev]
theorem x_or {G : Tab} {env : DEnv} (a b : E) : ev G (.or a b) env = (blR (ev G a env)).bd fun k env => if k then .ok (.sh (.bl true)) env else (blR (ev G b env)).bd fun k env => .ok (.sh (.bl k)) env := by simp only [ev]
theorem x_not {G : Tab} {env : DEnv} (a : E) : ev G (.not a) env = (brw a (ev G a env) env).bd fun x env => .of ((truth x).map fun k => .sh (.bl (!k))) env := by simp only [ev]
theorem x_tup {G : Tab} {env : DEnv} (es : List E) : ev G (.tup es) env = (evs G es env).bd fun xs env => if xs.length ≤ szL then .ok (.sh (.tup xs)) env else .st := by simp only [ev]
theorem x_lst {G : Tab} {env : DEnv} (es : List E) : ev G (.lst es) env = (evs G es env).bd fun xs env => if xs.length ≤ szL then .ok (.ol xs) env else .st := by simp only [ev]
theorem x_sub {G : Tab} {env : DEnv} (a b : E) : ev G (.sub a b) env = (brw a (ev G a env) env).bd fun x env => (ev G b env).val.bd fun y env => .of ((subD x y).map .sh) env := by simp only [ev]
theorem x_slice {G : Tab} {env : DEnv} (a : E) (lo hi : Option E) : ev G (.slice a lo hi) env = (brw a (ev G a env) env).bd fun x env => (evo G lo env).bd fun l env => (evo G hi env).bd fun h env => .of (sliceD x l h) env := by simp only [ev]
theorem x_call {G : Tab} {env : DEnv} (f : Nat) (es : List E) : ev G (.call f es) env = (evs G es env).bd fun xs env => (G.fn f xs).res env := by simp only [ev]
theorem x_bi {G : Tab} {env : DEnv} (f : Bi) (es : List E) : ev G (.bi f es) env = (evb G es env).bd fun xs env => .of (biD f xs) env := by simp only [ev]
theorem x_meth {G : Tab} {env : DEnv} (m : Me) (o : E) (es : List E) : ev G (.meth m o es) env = (brw o (ev G o env) env).bd fun x env => if meT m x then (evb G es env).bd fun xs env => .of (meD m x xs) env else .st := by simp only [ev]
theorem x_isi {G : Tab} {env : DEnv} (a : E) (t : Ty) : ev G (.isi a t) env = (brw a (ev G a env) env).bd fun x env => .of ((isiD x t).map fun k => .sh (.bl k)) env := by simp only [ev]
theorem x_range {G : Tab} {env : DEnv} (es : List E) : ev G (.range es) env = (evs G es env).bd fun xs env => .of ((rngD xs).map fun l => .sh (.lst l)) env := by simp only [ev]
theorem x_enum {G : Tab} {env : DEnv} (a : E) : ev G (.enum a) env = (ev G a env).val.bd fun x env => .of ((lstOf x).map fun xs => .sh (.lst (enumL xs 0))) env := by simp only [ev]
theorem x_zip {G : Tab} {env : DEnv} (a b : E) : ev G (.zip a b) env = (ev G a env).val.bd fun x env => (ev G b env).val.bd fun y env => .of ((zipOf x y).map fun l => .sh (.lst l)) env := by simp only [ev]
theorem x_dict {G : Tab} {env : DEnv} (ks : List T) (vs : List E) : ev G (.dict ks vs) env = (evs G vs env).bd fun xs env => if ks.length = xs.length ∧ ks.length ≤ 15 ∧ ks.Nodup then .ok (.od (ks.zip xs)) env else .st := by simp only [ev]
theorem x_ditn {G : Tab} {env : DEnv}  : ev G (.ditn) env = .ok (.ot []) env := by simp only [ev]
theorem x_isx {G : Tab} {env : DEnv} (i c d : Nat) (h : env[i]? = some (some (.ex d))) : ev G (.isx i c) env = .ok (.sh (.bl (subC d c))) env := by simp only [ev, h]
def stepN (G : Tab) (is : List Nat) (b : List S) (x : D) (env : DEnv) : SR := match unpD is x env with
  | some env => exB G b env
  | none => .st
theorem stepN_ok {G : Tab} {is : List Nat} {b : List S} {x : D} {env env1 : DEnv} (h : unpD is x env = some env1) : stepN G is b x env = exB G b env1 := by unfold stepN; rw [h]
theorem exB_nil {G : Tab} {env : DEnv} : exB G [] env = .nx env := by simp only [exB]
theorem exB_cons {G : Tab} {env : DEnv} (s : S) (r : List S) : exB G (s :: r) env = (exS G s env).bd fun env => exB G r env := by simp only [exB]
theorem y_pass {G : Tab} {env : DEnv}  : exS G (.pass) env = .nx env := by simp only [exS]
theorem y_set {G : Tab} {env : DEnv} (i : Nat) (e : E) : exS G (.set i e) env = (ev G e env).s fun v env => .nx (env.set i (some v)) := by simp only [exS]
theorem y_unp {G : Tab} {env : DEnv} (is : List Nat) (e : E) : exS G (.unp is e) env = (ev G e env).val.s fun d env => (match unpD is d env with | some env => .nx env | none => .st) := by simp only [exS] <;> rfl
theorem y_par {G : Tab} {env : DEnv} (i j : Nat) (a b : E) : exS G (.par i j a b) env = (ev G a env).val.s fun x env => (ev G b env).val.s fun y env => .nx ((env.set i (some (.sh x))).set j (some (.sh y))) := by simp only [exS]
theorem y_sti {G : Tab} {env : DEnv} (i : Nat) (k e : E) : exS G (.sti i k e) env = (ev G e env).val.s fun x env => if isOw env i then (ev G k env).val.s fun k env => upS i (fun v => stiD v k x) env else .st := by simp only [exS]
theorem y_app {G : Tab} {env : DEnv} (i : Nat) (e : E) : exS G (.app i e) env = if isOl env i then (ev G e env).val.s fun x env => upS i (fun v => appD v x) env else .st := by simp only [exS]
theorem y_rem {G : Tab} {env : DEnv} (i : Nat) (e : E) : exS G (.rem i e) env = if isOl env i then (ev G e env).val.s fun x env => upS i (fun v => remD v x) env else .st := by simp only [exS]
theorem y_appc {G : Tab} {env : DEnv} (f : Nat) (es : List E) (e : E) : exS G (.appc f es e) env = (evs G es env).s fun xs env => if noLs xs then (match G.fn f xs with
      | .ok v => (match v.toD with
        | some (.lst ds) => (ev G e env).val.s fun _ env => if ds.length < szL then .nx env else .st
        | _ => .st)
      | .er c => .er c env
      | .st => .st) else .st := by simp only [exS] <;> rfl
theorem y_ex {G : Tab} {env : DEnv} (e : E) : exS G (.ex e) env = (ev G e env).s fun _ env => .nx env := by simp only [exS]
theorem y_ife {G : Tab} {env : DEnv} (c : E) (t f : List S) : exS G (.ife c t f) env = (tst G c env).s fun b env => if b then exB G t env else exB G f env := by simp only [exS]
theorem y_whl {G : Tab} {env : DEnv} (c : E) (b : List S) : exS G (.whl c b) env = whileL (tst G c) (exB G b) whF env := by simp only [exS]
theorem y_for1 {G : Tab} {env : DEnv} (i : Nat) (it : E) (b : List S) : exS G (.for1 i it b) env = (ev G it env).val.s fun d env => (match itemsD d with | some xs => forL (fun x env => exB G b (env.set i (some (.sh x)))) xs env | none => .st) := by simp only [exS] <;> rfl
theorem y_forN {G : Tab} {env : DEnv} (is : List Nat) (it : E) (b : List S) : exS G (.forN is it b) env = (ev G it env).val.s fun d env => (match itemsD d with | some xs => forL (stepN G is b) xs env | none => .st) := by simp only [exS] <;> rfl
theorem y_ret {G : Tab} {env : DEnv} (e : E) : exS G (.ret e) env = (moved e (ev G e env) env).s fun v env => .rt v env := by simp only [exS]
theorem y_retN {G : Tab} {env : DEnv}  : exS G (.retN) env = .rt (.sh .non) env := by simp only [exS]
theorem y_rai {G : Tab} {env : DEnv} (c : Nat) : exS G (.rai c) env = .er c env := by simp only [exS]
theorem y_try {G : Tab} {env : DEnv} (b : List S) (c : Nat) (n : Option Nat) (h : List S) : exS G (.try_ b c n h) env = catchS c n (exB G h) (exB G b env) := by simp only [exS]
theorem y_tryR {G : Tab} {env : DEnv} (b : List S) (c d : Nat) : exS G (.tryR b c d) env = catchR c d (exB G b env) := by simp only [exS]
/-! loops -/
theorem forL_nil (step : D → DEnv → SR) (e : DEnv) : forL step [] e = .nx e := rfl
theorem forL_cons (step : D → DEnv → SR) (x : D) (r : List D) (e : DEnv) : forL step (x :: r) e = (step x e).bd fun e => forL step r e := rfl
theorem forL_inv {step : D → DEnv → SR} : ∀ (xs : List D) (I : Nat → DEnv → Prop) (env : DEnv), I 0 env → (∀ i x env, xs[i]? = some x → I i env → ∃ env', step x env = .nx env' ∧ I (i + 1) env') → ∃ env', forL step xs env = .nx env' ∧ I xs.length env'
  | [], I, env, h, _ => ⟨env, rfl, h⟩
  | x :: r, I, env, h, hs => by
    obtain ⟨env1, e1, h1⟩ := hs 0 x env rfl h
    obtain ⟨env2, e2, h2⟩ := forL_inv r (fun i e => I (i + 1) e) env1 h1 fun i y e hy hi => hs (i + 1) y e (by simpa using hy) hi
    exact ⟨env2, by rw [forL_cons, e1, sb_nx, e2], h2⟩
theorem whileL_inv {c : DEnv → Res Bool} {b : DEnv → SR} {Post : DEnv → Prop} (I : Nat → DEnv → Prop)
    (hs : ∀ m env, I m env → (∃ env', c env = .ok false env' ∧ Post env') ∨ ∃ env1 env2 m', c env = .ok true env1 ∧ b env1 = .nx env2 ∧ m' < m ∧ I m' env2) : ∀ (n m : Nat) (env : DEnv), I m env → m < n → ∃ env', whileL c b n env = .nx env' ∧ Post env' := by
  intro n
  induction n with
  | zero => intro m env _ h; omega
  | succ n ih =>
    intro m env hI hm
    rcases hs m env hI with ⟨env', e, hp⟩ | ⟨env1, env2, m', e1, e2, h3, h4⟩
    · exact ⟨env', by unfold whileL; rw [e]; rfl, hp⟩
    · obtain ⟨env', e', hp⟩ := ih m' env2 h4 (by omega)
      refine ⟨env', ?_, hp⟩
      unfold whileL
      rw [e1]
      show ((b env1).bd fun env => whileL c b n env) = _
      rw [e2]
      exact e'
/-- a comprehension without a test -/
theorem compL_map {s : Nat} {el : DEnv → Res D} {f : D → D} {P : DEnv → Prop} : ∀ (xs : List D) (env : DEnv), P env → (∀ x env, x ∈ xs → P env → ∃ env', el (env.set s (some (.sh x))) = .ok (f x) env' ∧ P env') → ∃ env', compL s (fun env => .ok true env) el xs env = .ok (xs.map f) env' ∧ P env'
  | [], env, h, _ => ⟨env, rfl, h⟩
  | x :: r, env, h, hs => by
    obtain ⟨env1, e1, h1⟩ := hs x env (by simp) h
    obtain ⟨env2, e2, h2⟩ := compL_map r env1 h1 fun y e hy => hs y e (by simp [hy])
    refine ⟨env2, ?_, h2⟩
    simp only [compL, bd_ok, if_true, e1, e2, List.map_cons]
/-- .. with a test -/
theorem compL_filt {s : Nat} {c : DEnv → Res Bool} {el : DEnv → Res D} {p : D → Bool} {f : D → D} {P : DEnv → Prop} : ∀ (xs : List D) (env : DEnv), P env → (∀ x env, x ∈ xs → P env → ∃ env1, c (env.set s (some (.sh x))) = .ok (p x) env1 ∧ (p x = false → P env1) ∧ (p x = true → ∃ env2, el env1 = .ok (f x) env2 ∧ P env2)) →
    ∃ env', compL s c el xs env = .ok ((xs.filter p).map f) env' ∧ P env'
  | [], env, h, _ => ⟨env, rfl, h⟩
  | x :: r, env, h, hs => by
    obtain ⟨env1, e1, h0, h1⟩ := hs x env (by simp) h
    cases hp : p x with
    | false =>
      obtain ⟨env2, e2, h2⟩ := compL_filt r env1 (h0 hp) fun y e hy => hs y e (by simp [hy])
      refine ⟨env2, ?_, h2⟩
      simp only [compL, e1, hp, bd_ok, Bool.false_eq_true, if_false, e2, List.filter_cons]
    | true =>
      obtain ⟨env2, e2, h2⟩ := h1 hp
      obtain ⟨env3, e3, h3⟩ := compL_filt r env2 h2 fun y e hy => hs y e (by simp [hy])
      refine ⟨env3, ?_, h3⟩
      simp only [compL, e1, hp, bd_ok, if_true, e2, e3, List.filter_cons, List.map_cons]
theorem comp_map {G : Tab} {s : Nat} {it elt : E} {env env1 : DEnv} {d : D} {xs : List D} {f : D → D} {o : Option DV} (h1 : brw it (ev G it env) env = .ok d env1) (h2 : itemsD d = some xs) (h3 : slotN env1 s = some o) (h4 : ∀ x ∈ xs, (ev G elt (env1.set s (some (.sh x)))).val = .ok (f x) (env1.set s (some (.sh x)))) (hz : xs.length ≤ szL) :
    ev G (.comp s it none elt) env = .ok (.ol (xs.map f)) env1 := by
  obtain ⟨env', e, u, rfl⟩ := compL_map (s := s) (el := fun env => (ev G elt env).val) (f := f) (P := fun e => ∃ u, e = env1.set s u) xs (env1.set s none) ⟨none, rfl⟩ fun x e hx ⟨u, he⟩ => by
    subst he
    exact ⟨env1.set s (some (.sh x)), by rw [List.set_set]; exact h4 x hx, _, rfl⟩
  have e : compL s (cndD G none) (fun env => (ev G elt env).val) xs (env1.set s none) = .ok (xs.map f) (env1.set s u) := e
  rw [ev_comp, h1, bd_ok, h2, of_some, bd_ok, h3, of_some, bd_ok, e]
  simp only [noEr, bd_ok, List.length_map, if_pos hz, List.set_set]
  rw [set_get (slotN_inv h3).1]
theorem comp_filt {G : Tab} {s : Nat} {it c elt : E} {env env1 : DEnv} {d : D} {xs : List D} {p : D → Bool} {f : D → D} {o : Option DV} (h1 : brw it (ev G it env) env = .ok d env1) (h2 : itemsD d = some xs) (h3 : slotN env1 s = some o)
    (hc : ∀ x ∈ xs, tst G c (env1.set s (some (.sh x))) = .ok (p x) (env1.set s (some (.sh x)))) (h4 : ∀ x ∈ xs, p x = true → (ev G elt (env1.set s (some (.sh x)))).val = .ok (f x) (env1.set s (some (.sh x)))) (hz : xs.length ≤ szL) :
    ev G (.comp s it (some c) elt) env = .ok (.ol ((xs.filter p).map f)) env1 := by
  obtain ⟨env', e, u, rfl⟩ := compL_filt (s := s) (c := tst G c) (el := fun env => (ev G elt env).val) (p := p) (f := f) (P := fun e => ∃ u, e = env1.set s u) xs (env1.set s none) ⟨none, rfl⟩ fun x e hx ⟨u, he⟩ => by
    subst he
    rw [List.set_set]
    exact ⟨_, hc x hx, fun _ => ⟨_, rfl⟩, fun hp => ⟨_, h4 x hx hp, _, rfl⟩⟩
  have e : compL s (cndD G (some c)) (fun env => (ev G elt env).val) xs (env1.set s none) = .ok ((xs.filter p).map f) (env1.set s u) := e
  have hl : ((xs.filter p).map f).length ≤ szL := by rw [List.length_map]; exact Nat.le_trans (List.length_filter_le _ _) hz
  rw [ev_comp, h1, bd_ok, h2, of_some, bd_ok, h3, of_some, bd_ok, e]
  simp only [noEr, bd_ok, if_pos hl, List.set_set]
  rw [set_get (slotN_inv h3).1]
theorem tab_fn {P : List (Nat × Def)} {k f : Nat} {d : Def} (h : look f P = some d) (ds : List D) : (tabOf P (k + 1)).fn f ds = run (tabOf P k) d ds := by
  show (match look f P with | some d => run (tabOf P k) d ds | none => FR.st) = _
  rw [h]
/-! a list that is handed in -/
theorem x_cio {G : Tab} {env : DEnv} (f i : Nat) (xs ys : List E) : ev G (.cio f i xs ys) env = ((evs G xs env).bd fun dx env => if isOp env i then (evs G ys env).bd fun dy env => .ok (dx, dy) env else .st).bd fun d env => (match env[i]? with
      | some (some (.op ps)) => (match G.io f d.1 ps d.2 with
        | FI.ok v qs => Res.ok v (env.set i (some (DV.op qs)))
        | FI.st => Res.st)
      | _ => .st) := by simp only [ev] <;> rfl
theorem x_ciL {G : Tab} {env : DEnv} (f : Nat) (xs es ys : List E) : ev G (.ciL f xs es ys) env = ((evs G xs env).bd fun dx env => (evs G es env).bd fun ps env => if ps.length ≤ szL then (evs G ys env).bd fun dy env => .ok ((dx, ps), dy) env else .st).bd fun d env => (match G.io f d.1.1 d.1.2 d.2 with
        | FI.ok v _ => Res.ok v env
        | FI.st => Res.st) := by simp only [ev] <;> rfl
theorem x_addv {G : Tab} {env : DEnv} (j : Nat) (b : E) : ev G (.addv j b) env = if isOl env j then (ev G b env).val.bd fun y env => (match env[j]? with
      | some (some (.ol xs)) => .of (addD (.lst xs) y) env
      | _ => .st) else .st := by simp only [ev] <;> rfl
theorem x_zips {G : Tab} {env : DEnv} (a b : E) : ev G (.zips a b) env = (ev G a env).val.bd fun x env => (ev G b env).val.bd fun y env => .of ((zipSOf x y).map fun l => .sh (.lst l)) env := by simp only [ev]
theorem x_chain3 {G : Tab} {env : DEnv} (o p q : COp) (a b c d : E) : ev G (.chain3 o p q a b c d) env = (brw a (ev G a env) env).bd fun x env => (brw b (ev G b env) env).bd fun y env => (Res.of (cmpD o x y) env).bd fun k env =>
      if k then (brw c (ev G c env) env).bd fun z env => (Res.of (cmpD p y z) env).bd fun k env =>
        if k then (brw d (ev G d env) env).bd fun w env => .of ((cmpD q z w).map fun k => .sh (.bl k)) env else .ok (.sh (.bl false)) env
      else .ok (.sh (.bl false)) env := by simp only [ev] <;> rfl
def SR.fi (r : SR) (i : Nat) : FI := match r with
  | .rt v env => if v.plain then (match env[i]? with
    | some (some (DV.op qs)) => FI.ok v qs
    | _ => FI.st) else FI.st
  | _ => .st
theorem runI_eq {G : Tab} {d : Def} {xs ps ys : List D} (h1 : xs.length + 1 + ys.length = d.np) (h2 : d.io = some xs.length) : runI G d xs ps ys = (exB G d.body (env0I d xs ps ys)).fi xs.length := by
  unfold runI
  rw [if_pos ⟨h1, h2⟩]
  show (match exB G d.body (env0I d xs ps ys) with
    | .rt v env => if v.plain then (match env[xs.length]? with
      | some (some (DV.op qs)) => FI.ok v qs
      | _ => FI.st) else FI.st
    | _ => FI.st) = _
  cases exB G d.body (env0I d xs ps ys) <;> rfl
theorem fi_ol {env : DEnv} {i : Nat} {ds qs : List D} (h : env[i]? = some (some (.op qs))) : (SR.rt (.ol ds) env).fi i = .ok (.ol ds) qs := by
  show (if DV.plain (.ol ds) then (match env[i]? with
    | some (some (DV.op qs)) => FI.ok (.ol ds) qs
    | _ => FI.st) else FI.st) = _
  rw [h]
  rfl
theorem tab_io {P : List (Nat × Def)} {k f : Nat} {d : Def} (h : look f P = some d) (xs ps ys : List D) : (tabOf P (k + 1)).io f xs ps ys = runI (tabOf P k) d xs ps ys := by
  show (match look f P with
    | some d => runI (tabOf P k) d xs ps ys
    | none => .st) = _
  rw [h]
end Dl

namespace Dl
/-! ### trees and ranks -/
inductive Tr where
  | leaf (x : T) | knot (f : T) (l r : Tr)
abbrev kLeaf : T := [108, 101, 97, 102]
abbrev kKnot : T := [107, 110, 111, 116]
def Tr.enc : Tr → D
  | .leaf x => .tup [.str kLeaf, .str x]
  | .knot f l r => .tup [.str kKnot, .str f, l.enc, r.enc]
def Tr.rank : Tr → Nat
  | .leaf _ => 1
  | .knot _ l r => max l.rank r.rank + if l.rank = r.rank then 1 else 0
def Tr.deep : Tr → Nat
  | .leaf _ => 1
  | .knot _ l r => 1 + max l.deep r.deep
def bodyRank : List S := [.ife (.cmp .eq (.sub (.var 0) (.lit (.int 0))) (.lit (.str [108, 101, 97, 102]))) [.ret (.lit (.int 1))] [], .set 1 (.call 1 [(.sub (.var 0) (.lit (.int 2)))]), .set 2 (.call 1 [(.sub (.var 0) (.lit (.int 3)))]), .ret (.bin .add (.bi .max [(.var 1), (.var 2)]) (.bi .int [(.cmp .eq (.var 1) (.var 2))]))]
theorem sub_leaf (x : T) : subD (Tr.leaf x).enc (.int 0) = some (.str kLeaf) := rfl
theorem sub_knot (f : T) (l r : Tr) : subD (Tr.knot f l r).enc (.int 0) = some (.str kKnot) := rfl
theorem sub_knot2 (f : T) (l r : Tr) : subD (Tr.knot f l r).enc (.int 2) = some l.enc := atI2 _ _ _ _
theorem sub_knot3 (f : T) (l r : Tr) : subD (Tr.knot f l r).enc (.int 3) = some r.enc := atI3 _ _ _ _ _
theorem eqV_kk : eqV (.str kKnot) (.str kLeaf) = some false := by decide +kernel
theorem eqV_ll : eqV (.str kLeaf) (.str kLeaf) = some true := by decide +kernel
theorem run_rank {G : Tab} (t : Tr) (hl : ∀ f l r, t = .knot f l r → G.fn 1 [l.enc] = .ok (.sh (.int l.rank)) ∧ G.fn 1 [r.enc] = .ok (.sh (.int r.rank))) : run G ⟨1, 3, bodyRank, none⟩ [t.enc] = .ok (.sh (.int t.rank)) := by
  rw [run_eq rfl rfl]
  cases t with
  | leaf x => simp -implicitDefEqProofs only [exB_nil, exB_cons, y_pass, y_set, y_unp, y_par, y_sti, y_app, y_rem, y_appc, y_ex, y_ife, y_whl, y_for1, y_forN, y_ret, y_retN, y_rai, y_try, y_tryR, x_var, x_lit, x_bin, x_neg, x_cmp, x_chain, x_chain3, x_cio, x_ciL, x_addv, x_and, x_or, x_not, x_tup, x_lst, x_sub, x_slice, x_call, x_bi, x_meth, x_isi, x_range, x_enum, x_zip, x_zips, c_nes, x_dict, x_ditn, evs, evb, evo, tst, brw, isVar, bor, rd, bd_ok, bd_er, bd_st, of_some, of_none, s_ok, s_er, s_st, sb_nx, sb_rt, sb_er, sb_st, val_sh, val_ol, val_od, val_ot, val_er, val_st, blR_bl, truth_bl, truth_lst, intOf_int, c_eq, c_ne, c_lt, c_le, c_gt, c_ge, c_inn, c_nin, c_isN, c_notN, n_non, n_int, n_str, n_tup, n_lst, b_add, b_sub, bi_max2, bi_min2, bi_intB, bi_intI, bi_lenL, bi_lenT, bi_lenS, bi_listL, bi_listT, bi_strS, sub_lst, sub_tup, sub_scr, sub_dic, slc_lst, slc_tup, atI0, atI1, atI2, atI3, atI4, eqV_int, eqV_bl, isi_int, isi_intb, isi_bl, isi_lst, isi_tup, isi_str, fp_sh, fp_ol, fp_nx, sz_0, sz_1, sz_2, sz_3, sz_4, sz_5, sz_6, sz_7, fp_er, res_ok, res_er, itm_lst, itm_tup, itm_str, env0, moved, Option.map_some, Option.map_none, Option.bind_some, List.getElem?_cons_zero, List.getElem?_cons_succ, List.set_cons_zero, List.set_cons_succ, List.map_cons, List.map_nil, List.cons_append, List.nil_append, List.length_cons, List.length_nil, List.replicate, if_true, if_false, Bool.false_eq_true, reduceIte, Bool.not_true, Bool.not_false, bodyRank, sub_leaf, eqV_ll, Tr.rank]; rfl
  | knot f l r =>
    obtain ⟨h1, h2⟩ := hl f l r rfl
    simp -implicitDefEqProofs only [exB_nil, exB_cons, y_pass, y_set, y_unp, y_par, y_sti, y_app, y_rem, y_appc, y_ex, y_ife, y_whl, y_for1, y_forN, y_ret, y_retN, y_rai, y_try, y_tryR, x_var, x_lit, x_bin, x_neg, x_cmp, x_chain, x_chain3, x_cio, x_ciL, x_addv, x_and, x_or, x_not, x_tup, x_lst, x_sub, x_slice, x_call, x_bi, x_meth, x_isi, x_range, x_enum, x_zip, x_zips, c_nes, x_dict, x_ditn, evs, evb, evo, tst, brw, isVar, bor, rd, bd_ok, bd_er, bd_st, of_some, of_none, s_ok, s_er, s_st, sb_nx, sb_rt, sb_er, sb_st, val_sh, val_ol, val_od, val_ot, val_er, val_st, blR_bl, truth_bl, truth_lst, intOf_int, c_eq, c_ne, c_lt, c_le, c_gt, c_ge, c_inn, c_nin, c_isN, c_notN, n_non, n_int, n_str, n_tup, n_lst, b_add, b_sub, bi_max2, bi_min2, bi_intB, bi_intI, bi_lenL, bi_lenT, bi_lenS, bi_listL, bi_listT, bi_strS, sub_lst, sub_tup, sub_scr, sub_dic, slc_lst, slc_tup, atI0, atI1, atI2, atI3, atI4, eqV_int, eqV_bl, isi_int, isi_intb, isi_bl, isi_lst, isi_tup, isi_str, fp_sh, fp_ol, fp_nx, sz_0, sz_1, sz_2, sz_3, sz_4, sz_5, sz_6, sz_7, fp_er, res_ok, res_er, itm_lst, itm_tup, itm_str, env0, moved, Option.map_some, Option.map_none, Option.bind_some, List.getElem?_cons_zero, List.getElem?_cons_succ, List.set_cons_zero, List.set_cons_succ, List.map_cons, List.map_nil, List.cons_append, List.nil_append, List.length_cons, List.length_nil, List.replicate, if_true, if_false, Bool.false_eq_true, reduceIte, Bool.not_true, Bool.not_false, bodyRank, sub_knot, sub_knot2, sub_knot3, eqV_kk, h1, h2, Tr.rank]
    congr 3
    by_cases h : l.rank = r.rank
    · simp [h]
    · have h' : ¬ (l.rank : Int) = (r.rank : Int) := by omega
      simp only [beq_eq_false_iff_ne.mpr h', if_neg h, Bool.false_eq_true, if_false]
      by_cases h2 : (r.rank : Int) > l.rank
      · rw [if_pos h2]; omega
      · rw [if_neg h2]; omega
theorem fn_rank {P : List (Nat × Def)} (hP : look 1 P = some ⟨1, 3, bodyRank, none⟩) : ∀ (t : Tr) (k : Nat), t.deep ≤ k → (tabOf P k).fn 1 [t.enc] = .ok (.sh (.int t.rank))
  | t, 0, h => by cases t <;> simp only [Tr.deep] at h <;> omega
  | t, k + 1, h => by
    rw [tab_fn hP]
    refine run_rank t fun f l r e => ?_
    subst e
    simp only [Tr.deep] at h
    exact ⟨fn_rank hP l k (by omega), fn_rank hP r k (by omega)⟩
/-! ### numbers out of the script -/
def atC (ns : List Int) (k : Nat) : Int := (40692 * (k : Int) + 1 + if 0 < ns.length then ns.getD (k * k % ns.length) 0 % 2147483647 else 0) * 48271 % 2147483647
def atF (ns : List Int) (k : Nat) : Int := if h : k < ns.length then ns[k] else (atC ns k * atC ns k) % 2147483629
def bodyAtV (a b c m1 m2 : Int) : List S := [.ife (.cmp .lt (.var 1) (.bi .len [(.var 0)])) [.ret (.sub (.var 0) (.var 1))] [], .set 2 (.bin .add (.bin .mul (.lit (.int a)) (.var 1)) (.lit (.int b))), .ife (.cmp .gt (.bi .len [(.var 0)]) (.lit (.int 0))) [.set 2 (.bin .add (.var 2) (.bin .mod (.sub (.var 0) (.bin .mod (.bin .mul (.var 1) (.var 1)) (.bi .len [(.var 0)]))) (.lit (.int m1))))] [], .set 2 (.bin .mod (.bin .mul (.var 2) (.lit (.int c))) (.lit (.int m1))), .ret (.bin .mod (.bin .mul (.var 2) (.var 2)) (.lit (.int m2)))]
def bodyAt : List S := bodyAtV 40692 1 48271 2147483647 2147483629
theorem run_atV {G : Tab} {a b c m1 m2 : Int} (ns : List Int) (k : Nat) (h1 : mulOk a k = true) (h2 : mulOk k k = true) (h3 : ∀ x, mulOk x c = true) (h4 : ∀ x, mulOk (x % m1) (x % m1) = true) (h5 : 0 < m1) (h6 : 0 < m2) :
    run G ⟨2, 3, bodyAtV a b c m1 m2, none⟩ [.scr ns, .int k] = .ok (.sh (.int (if h : k < ns.length then ns[k] else ((a * (k : Int) + b + if 0 < ns.length then ns.getD (k * k % ns.length) 0 % m1 else 0) * c % m1) * ((a * (k : Int) + b + if 0 < ns.length then ns.getD (k * k % ns.length) 0 % m1 else 0) * c % m1) % m2))) := by
  rw [run_eq rfl rfl]
  by_cases h : k < ns.length
  · have hd : decide ((k : Int) < (ns.length : Int)) = true := decide_eq_true (by omega)
    simp -implicitDefEqProofs only [exB_nil, exB_cons, y_pass, y_set, y_unp, y_par, y_sti, y_app, y_rem, y_appc, y_ex, y_ife, y_whl, y_for1, y_forN, y_ret, y_retN, y_rai, y_try, y_tryR, x_var, x_lit, x_bin, x_neg, x_cmp, x_chain, x_chain3, x_cio, x_ciL, x_addv, x_and, x_or, x_not, x_tup, x_lst, x_sub, x_slice, x_call, x_bi, x_meth, x_isi, x_range, x_enum, x_zip, x_zips, c_nes, x_dict, x_ditn, evs, evb, evo, tst, brw, isVar, bor, rd, bd_ok, bd_er, bd_st, of_some, of_none, s_ok, s_er, s_st, sb_nx, sb_rt, sb_er, sb_st, val_sh, val_ol, val_od, val_ot, val_er, val_st, blR_bl, truth_bl, truth_lst, intOf_int, c_eq, c_ne, c_lt, c_le, c_gt, c_ge, c_inn, c_nin, c_isN, c_notN, n_non, n_int, n_str, n_tup, n_lst, b_add, b_sub, bi_max2, bi_min2, bi_intB, bi_intI, bi_lenL, bi_lenT, bi_lenS, bi_listL, bi_listT, bi_strS, sub_lst, sub_tup, sub_scr, sub_dic, slc_lst, slc_tup, atI0, atI1, atI2, atI3, atI4, eqV_int, eqV_bl, isi_int, isi_intb, isi_bl, isi_lst, isi_tup, isi_str, fp_sh, fp_ol, fp_nx, sz_0, sz_1, sz_2, sz_3, sz_4, sz_5, sz_6, sz_7, fp_er, res_ok, res_er, itm_lst, itm_tup, itm_str, env0, moved, Option.map_some, Option.map_none, Option.bind_some, List.getElem?_cons_zero, List.getElem?_cons_succ, List.set_cons_zero, List.set_cons_succ, List.map_cons, List.map_nil, List.cons_append, List.nil_append, List.length_cons, List.length_nil, List.replicate, if_true, if_false, Bool.false_eq_true, reduceIte, Bool.not_true, Bool.not_false, bodyAtV, hd, atI_nat, List.getElem?_eq_getElem h, dif_pos h]
  · have hd : decide ((k : Int) < (ns.length : Int)) = false := decide_eq_false (by omega)
    by_cases h0 : 0 < ns.length
    · have hz : decide ((0 : Int) < (ns.length : Int)) = true := decide_eq_true (by omega)
      have hm : ((k : Int) * (k : Int)) % (ns.length : Int) = ((k * k % ns.length : Nat) : Int) := by simp
      have hg : k * k % ns.length < ns.length := Nat.mod_lt _ h0
      simp -implicitDefEqProofs only [exB_nil, exB_cons, y_pass, y_set, y_unp, y_par, y_sti, y_app, y_rem, y_appc, y_ex, y_ife, y_whl, y_for1, y_forN, y_ret, y_retN, y_rai, y_try, y_tryR, x_var, x_lit, x_bin, x_neg, x_cmp, x_chain, x_chain3, x_cio, x_ciL, x_addv, x_and, x_or, x_not, x_tup, x_lst, x_sub, x_slice, x_call, x_bi, x_meth, x_isi, x_range, x_enum, x_zip, x_zips, c_nes, x_dict, x_ditn, evs, evb, evo, tst, brw, isVar, bor, rd, bd_ok, bd_er, bd_st, of_some, of_none, s_ok, s_er, s_st, sb_nx, sb_rt, sb_er, sb_st, val_sh, val_ol, val_od, val_ot, val_er, val_st, blR_bl, truth_bl, truth_lst, intOf_int, c_eq, c_ne, c_lt, c_le, c_gt, c_ge, c_inn, c_nin, c_isN, c_notN, n_non, n_int, n_str, n_tup, n_lst, b_add, b_sub, bi_max2, bi_min2, bi_intB, bi_intI, bi_lenL, bi_lenT, bi_lenS, bi_listL, bi_listT, bi_strS, sub_lst, sub_tup, sub_scr, sub_dic, slc_lst, slc_tup, atI0, atI1, atI2, atI3, atI4, eqV_int, eqV_bl, isi_int, isi_intb, isi_bl, isi_lst, isi_tup, isi_str, fp_sh, fp_ol, fp_nx, sz_0, sz_1, sz_2, sz_3, sz_4, sz_5, sz_6, sz_7, fp_er, res_ok, res_er, itm_lst, itm_tup, itm_str, env0, moved, Option.map_some, Option.map_none, Option.bind_some, List.getElem?_cons_zero, List.getElem?_cons_succ, List.set_cons_zero, List.set_cons_succ, List.map_cons, List.map_nil, List.cons_append, List.nil_append, List.length_cons, List.length_nil, List.replicate, if_true, if_false, Bool.false_eq_true, reduceIte, Bool.not_true, Bool.not_false, bodyAtV, hd, hz, dif_neg h, if_pos h0, b_mul _ _ h1, b_mul _ _ h2, b_mul _ _ (h3 _), b_mul _ _ (h4 _), b_mod _ _ h5, b_mod _ _ h6, b_mod _ _ (show (0 : Int) < (ns.length : Int) by omega), hm, atI_nat, List.getElem?_eq_getElem hg, List.getD_eq_getElem?_getD, Option.getD_some]
    · have hz : decide ((0 : Int) < (ns.length : Int)) = false := decide_eq_false (by omega)
      simp -implicitDefEqProofs only [exB_nil, exB_cons, y_pass, y_set, y_unp, y_par, y_sti, y_app, y_rem, y_appc, y_ex, y_ife, y_whl, y_for1, y_forN, y_ret, y_retN, y_rai, y_try, y_tryR, x_var, x_lit, x_bin, x_neg, x_cmp, x_chain, x_chain3, x_cio, x_ciL, x_addv, x_and, x_or, x_not, x_tup, x_lst, x_sub, x_slice, x_call, x_bi, x_meth, x_isi, x_range, x_enum, x_zip, x_zips, c_nes, x_dict, x_ditn, evs, evb, evo, tst, brw, isVar, bor, rd, bd_ok, bd_er, bd_st, of_some, of_none, s_ok, s_er, s_st, sb_nx, sb_rt, sb_er, sb_st, val_sh, val_ol, val_od, val_ot, val_er, val_st, blR_bl, truth_bl, truth_lst, intOf_int, c_eq, c_ne, c_lt, c_le, c_gt, c_ge, c_inn, c_nin, c_isN, c_notN, n_non, n_int, n_str, n_tup, n_lst, b_add, b_sub, bi_max2, bi_min2, bi_intB, bi_intI, bi_lenL, bi_lenT, bi_lenS, bi_listL, bi_listT, bi_strS, sub_lst, sub_tup, sub_scr, sub_dic, slc_lst, slc_tup, atI0, atI1, atI2, atI3, atI4, eqV_int, eqV_bl, isi_int, isi_intb, isi_bl, isi_lst, isi_tup, isi_str, fp_sh, fp_ol, fp_nx, sz_0, sz_1, sz_2, sz_3, sz_4, sz_5, sz_6, sz_7, fp_er, res_ok, res_er, itm_lst, itm_tup, itm_str, env0, moved, Option.map_some, Option.map_none, Option.bind_some, List.getElem?_cons_zero, List.getElem?_cons_succ, List.set_cons_zero, List.set_cons_succ, List.map_cons, List.map_nil, List.cons_append, List.nil_append, List.length_cons, List.length_nil, List.replicate, if_true, if_false, Bool.false_eq_true, reduceIte, Bool.not_true, Bool.not_false, bodyAtV, hd, hz, dif_neg h, if_neg h0, b_mul _ _ h1, b_mul _ _ h2, b_mul _ _ (h3 _), b_mul _ _ (h4 _), b_mod _ _ h5, b_mod _ _ h6, Int.add_zero]
theorem run_at {G : Tab} (ns : List Int) (k : Nat) (hk : k < 2 ^ 60) : run G ⟨2, 3, bodyAt, none⟩ [.scr ns, .int k] = .ok (.sh (.int (atF ns k))) :=
  run_atV ns k (mulOk_l (by decide) (by decide)) (mulOk_l (by omega) (by omega)) (fun _ => mulOk_r (by decide) (by decide)) (fun _ => mulOk_l (by omega) (by omega)) (by decide) (by decide)
end Dl

namespace Dl
/-! ### names out of a cell -/
def abc : T := [97, 98, 99, 100, 101, 102, 103, 104, 105, 106, 107, 108, 109, 110, 111, 112, 113, 114, 115, 116, 117, 118, 119, 120, 121, 122]
theorem abc_at {i : Int} (h0 : 0 ≤ i) (h1 : i < 26) : Dl.atI abc i = some (97 + i.toNat) := by
  have key : ∀ n : Nat, n < 26 → abc[n]? = some (97 + n) := by decide
  have e : i = ((i.toNat : Nat) : Int) := by omega
  rw [e, atI_nat, key _ (by omega), Int.toNat_natCast]
theorem abc_mod (i : Int) : Dl.atI abc (i % 26) = some (97 + (i % 26).toNat) := abc_at (by omega) (by omega)
def chs (s : T) : List D := s.map fun c => .str [c]
theorem chs_app (s t : T) : chs (s ++ t) = chs s ++ chs t := by simp [chs]
theorem chs_len (s : T) : (chs s).length = s.length := by simp [chs]
theorem chs_rep (n c : Nat) : rep n [D.str [c]] = chs (List.replicate n c) := by
  unfold rep chs
  rw [List.map_replicate]
  induction n with
  | zero => rfl
  | succ n ih => rw [List.replicate_succ, List.flatten_cons, ih, List.replicate_succ]; rfl
theorem chs_set (s : T) (j c : Nat) : (chs s).set j (.str [c]) = chs (s.set j c) := by
  unfold chs
  rw [List.map_set]
theorem strsD_chs : ∀ s : T, strsD (chs s) = some (s.map fun c => [c])
  | [] => rfl
  | c :: r => by
    show (strsD (chs r)).map _ = _
    rw [strsD_chs r]
    rfl
theorem joinL_chs : ∀ s : T, joinL [] (s.map fun c => [c]) = s
  | [] => rfl
  | [c] => rfl
  | c :: d :: r => by
    have := joinL_chs (d :: r)
    simp only [List.map_cons] at this ⊢
    unfold joinL
    rw [this]
    rfl
theorem totL_chs : ∀ s : T, totL [] (s.map fun c => [c]) = s.length
  | [] => rfl
  | c :: r => by
    have := totL_chs r
    simp only [List.map_cons, totL, List.length_cons, List.length_nil]
    rw [this]
    omega
theorem join_chs (s : T) (h : s.length ≤ szL) : meD .join (.str []) [.lst (chs s)] = some (.sh (.str s)) := by
  simp only [meD, strsD_chs, Option.bind_some, totL_chs, if_pos h, joinL_chs]
def sizF (cell : Int) (many : Nat) : Nat := 1 + (cell / 26 % (if many > 24 then 7 else 8)).toNat
def nameF (cell : Int) (many k : Nat) : T :=
  if cell / 1664 % 3 = 0 ∧ many ≤ 8 then List.replicate (1 + ((cell + k) % 8).toNat) (97 + (cell % 26).toNat) else
    ((List.replicate (sizF cell many) (97 + (cell % 26).toNat)).set (cell / 208 % (sizF cell many : Int)).toNat (97 + ((cell + 1 + (k : Int) % 24) % 26).toNat)) ++ if k > 23 then [97 + (cell % 26).toNat] else []
def namesF (cell : Int) (many : Nat) : List T := (List.range many).map (nameF cell many)
def bodyNames : List S := [.set 2 (.lit (.str [97, 98, 99, 100, 101, 102, 103, 104, 105, 106, 107, 108, 109, 110, 111, 112, 113, 114, 115, 116, 117, 118, 119, 120, 121, 122])), .set 3 (.bin .add (.lit (.int 1)) (.bin .mod (.bin .fdiv (.var 0) (.lit (.int 26))) (.sub (.lst [(.lit (.int 8)), (.lit (.int 7))]) (.bi .int [(.cmp .gt (.var 1) (.lit (.int 24)))])))), .set 4 (.lst []), .for1 5 (.range [(.var 1)]) [.set 6 (.bin .mul (.lst [(.sub (.var 2) (.bin .mod (.var 0) (.lit (.int 26))))]) (.var 3)), .sti 6 (.bin .mod (.bin .fdiv (.var 0) (.lit (.int 208))) (.var 3)) (.sub (.var 2) (.bin .mod (.bin .add (.bin .add (.var 0) (.lit (.int 1))) (.bin .mod (.var 5) (.lit (.int 24)))) (.lit (.int 26)))), .ife (.cmp .gt (.var 5) (.lit (.int 23))) [.app 6 (.sub (.var 2) (.bin .mod (.var 0) (.lit (.int 26))))] [], .ife (.and (.cmp .eq (.bin .mod (.bin .fdiv (.var 0) (.lit (.int 1664))) (.lit (.int 3))) (.lit (.int 0))) (.cmp .le (.var 1) (.lit (.int 8)))) [.set 6 (.bin .mul (.lst [(.sub (.var 2) (.bin .mod (.var 0) (.lit (.int 26))))]) (.bin .add (.lit (.int 1)) (.bin .mod (.bin .add (.var 0) (.var 5)) (.lit (.int 8)))))] [], .app 4 (.meth .join (.lit (.str [])) [(.var 6)])], .ret (.var 4)]
theorem d26 (c : Int) : binD .mod (.int c) (.int 26) = some (.sh (.int (c % 26))) := b_mod _ _ (by decide)
theorem d24 (c : Int) : binD .mod (.int c) (.int 24) = some (.sh (.int (c % 24))) := b_mod _ _ (by decide)
theorem d3 (c : Int) : binD .mod (.int c) (.int 3) = some (.sh (.int (c % 3))) := b_mod _ _ (by decide)
theorem d8 (c : Int) : binD .mod (.int c) (.int 8) = some (.sh (.int (c % 8))) := b_mod _ _ (by decide)
theorem q26 (c : Int) : binD .fdiv (.int c) (.int 26) = some (.sh (.int (c / 26))) := b_fdiv _ _ (by decide)
theorem q208 (c : Int) : binD .fdiv (.int c) (.int 208) = some (.sh (.int (c / 208))) := b_fdiv _ _ (by decide)
theorem q1664 (c : Int) : binD .fdiv (.int c) (.int 1664) = some (.sh (.int (c / 1664))) := b_fdiv _ _ (by decide)
theorem abc_sub (i : Int) : subD (.str abc) (.int (i % 26)) = some (.str [97 + (i % 26).toNat]) := by
  rw [sub_str _ _ (by decide), abc_mod]
  rfl
theorem mul_one (c : Nat) (k : Int) (h0 : 0 ≤ k) (h1 : k ≤ 1000000) : binD .mul (.lst [.str [c]]) (.int k) = some (.ol (chs (List.replicate k.toNat c))) := by
  rw [b_mulL _ _ ⟨by omega, by omega, by simp only [List.length_cons, List.length_nil, szL]; omega⟩, chs_rep]
theorem siz_le (cell : Int) (many : Nat) : 1 ≤ sizF cell many ∧ sizF cell many ≤ 8 := by
  unfold sizF
  split <;> omega
def nEnv (cell : Int) (many : Nat) (out : List D) (u v : Option DV) : DEnv := [some (.sh (.int cell)), some (.sh (.int many)), some (.sh (.str abc)), some (.sh (.int (sizF cell many : Nat))), some (.ol out), u, v]
def bodyNm : List S := [.set 6 (.bin .mul (.lst [(.sub (.var 2) (.bin .mod (.var 0) (.lit (.int 26))))]) (.var 3)), .sti 6 (.bin .mod (.bin .fdiv (.var 0) (.lit (.int 208))) (.var 3)) (.sub (.var 2) (.bin .mod (.bin .add (.bin .add (.var 0) (.lit (.int 1))) (.bin .mod (.var 5) (.lit (.int 24)))) (.lit (.int 26)))), .ife (.cmp .gt (.var 5) (.lit (.int 23))) [.app 6 (.sub (.var 2) (.bin .mod (.var 0) (.lit (.int 26))))] [], .ife (.and (.cmp .eq (.bin .mod (.bin .fdiv (.var 0) (.lit (.int 1664))) (.lit (.int 3))) (.lit (.int 0))) (.cmp .le (.var 1) (.lit (.int 8)))) [.set 6 (.bin .mul (.lst [(.sub (.var 2) (.bin .mod (.var 0) (.lit (.int 26))))]) (.bin .add (.lit (.int 1)) (.bin .mod (.bin .add (.var 0) (.var 5)) (.lit (.int 8)))))] [], .app 4 (.meth .join (.lit (.str [])) [(.var 6)])]
theorem ixN_in {n : Nat} {i : Int} (h0 : 0 ≤ i) (h1 : i < n) : Dl.ixN n i = some i.toNat := by unfold Dl.ixN; rw [if_pos h0, if_pos h1]
theorem toNat1 {z : Int} (h : 0 ≤ z) : 1 + z.toNat = (1 + z).toNat := by omega
theorem app_ok (ds : List D) (x : D) (h : ds.length < szL) : appD (.ol ds) x = some (.ol (ds ++ [x])) := by simp only [appD, if_pos h]
theorem nm_step {G : Tab} (cell : Int) (many k : Nat) (out : List D) (v : Option DV) (ho : out.length < 1000) : ∃ v', exB G bodyNm (nEnv cell many out (some (.sh (.int k))) v) = .nx (nEnv cell many (out ++ [.str (nameF cell many k)]) (some (.sh (.int k))) v') := by
  have hs := siz_le cell many
  have hz : (0 : Int) < (sizF cell many : Nat) := by omega
  have e1 := mul_one (97 + (cell % 26).toNat) (sizF cell many : Nat) (by omega) (by omega)
  rw [Int.toNat_natCast] at e1
  have e2 := mul_one (97 + (cell % 26).toNat) (1 + (cell + k) % 8) (by omega) (by omega)
  have e3 : Dl.ixN (chs (List.replicate (sizF cell many) (97 + (cell % 26).toNat))).length (cell / 208 % (sizF cell many : Nat)) = some (cell / 208 % (sizF cell many : Nat)).toNat := by
    rw [chs_len, List.length_replicate]
    exact ixN_in (Int.emod_nonneg _ (by omega)) (Int.emod_lt_of_pos _ hz)
  have a1 : ∀ x : D, appD (.ol (chs ((List.replicate (sizF cell many) (97 + (cell % 26).toNat)).set (cell / 208 % (sizF cell many : Nat)).toNat (97 + ((cell + 1 + (k : Int) % 24) % 26).toNat)))) x = some (.ol (chs ((List.replicate (sizF cell many) (97 + (cell % 26).toNat)).set (cell / 208 % (sizF cell many : Nat)).toNat (97 + ((cell + 1 + (k : Int) % 24) % 26).toNat)) ++ [x])) := fun x => app_ok _ _ (by rw [chs_len, List.length_set, List.length_replicate]; unfold szL; omega)
  have a2 : ∀ x : D, appD (.ol out) x = some (.ol (out ++ [x])) := fun x => app_ok _ _ (by unfold szL; omega)
  have c1 : ∀ c : Nat, [D.str [c]] = chs [c] := fun c => rfl
  by_cases hA : cell / 1664 % 3 = 0
  · by_cases hB : many ≤ 8
    · have hk : meD .join (.str []) [.lst (chs (List.replicate (1 + (cell + k) % 8).toNat (97 + (cell % 26).toNat)))] = some (.sh (.str (List.replicate (1 + (cell + k) % 8).toNat (97 + (cell % 26).toNat)))) := join_chs _ (by rw [List.length_replicate]; unfold szL; omega)
      have hn : nameF cell many k = List.replicate (1 + (cell + k) % 8).toNat (97 + (cell % 26).toNat) := by
        unfold nameF
        rw [if_pos ⟨hA, hB⟩]
        rw [toNat1 (Int.emod_nonneg _ (by decide))]
      have hB' : decide ((many : Int) ≤ 8) = true := decide_eq_true (by omega)
      by_cases h23 : k > 23
      · have h23' : decide ((23 : Int) < (k : Int)) = true := decide_eq_true (by omega)
        refine ⟨some (.ol (chs (List.replicate (1 + (cell + k) % 8).toNat (97 + (cell % 26).toNat)))), ?_⟩
        rw [hn]
        simp -implicitDefEqProofs only [exB_nil, exB_cons, y_pass, y_set, y_unp, y_par, y_sti, y_app, y_rem, y_appc, y_ex, y_ife, y_whl, y_for1, y_forN, y_ret, y_retN, y_rai, y_try, y_tryR, x_var, x_lit, x_bin, x_neg, x_cmp, x_chain, x_chain3, x_cio, x_ciL, x_addv, x_and, x_or, x_not, x_tup, x_lst, x_sub, x_slice, x_call, x_bi, x_meth, x_isi, x_range, x_enum, x_zip, x_zips, c_nes, x_dict, x_ditn, evs, evb, evo, tst, brw, isVar, bor, rd, bd_ok, bd_er, bd_st, of_some, of_none, s_ok, s_er, s_st, sb_nx, sb_rt, sb_er, sb_st, val_sh, val_ol, val_od, val_ot, val_er, val_st, blR_bl, truth_bl, truth_lst, intOf_int, c_eq, c_ne, c_lt, c_le, c_gt, c_ge, c_inn, c_nin, c_isN, c_notN, n_non, n_int, n_str, n_tup, n_lst, b_add, b_sub, bi_max2, bi_min2, bi_intB, bi_intI, bi_lenL, bi_lenT, bi_lenS, bi_listL, bi_listT, bi_strS, sub_lst, sub_tup, sub_scr, sub_dic, slc_lst, slc_tup, atI0, atI1, atI2, atI3, atI4, eqV_int, eqV_bl, isi_int, isi_intb, isi_bl, isi_lst, isi_tup, isi_str, fp_sh, fp_ol, fp_nx, sz_0, sz_1, sz_2, sz_3, sz_4, sz_5, sz_6, sz_7, fp_er, res_ok, res_er, itm_lst, itm_tup, itm_str, env0, moved, Option.map_some, Option.map_none, Option.bind_some, List.getElem?_cons_zero, List.getElem?_cons_succ, List.set_cons_zero, List.set_cons_succ, List.map_cons, List.map_nil, List.cons_append, List.nil_append, List.length_cons, List.length_nil, List.replicate, if_true, if_false, Bool.false_eq_true, reduceIte, Bool.not_true, Bool.not_false, bodyNm, nEnv, abc_sub, d26, d24, d3, d8, q26, q208, q1664, e1, e2, e3, a1, a2, isOw, isOl, DV.own, upS, stiD, chs_set, b_mod _ _ hz, hA, hB', h23', hk, beq_self_eq_true, meT]
      · have h23' : decide ((23 : Int) < (k : Int)) = false := decide_eq_false (by omega)
        refine ⟨some (.ol (chs (List.replicate (1 + (cell + k) % 8).toNat (97 + (cell % 26).toNat)))), ?_⟩
        rw [hn]
        simp -implicitDefEqProofs only [exB_nil, exB_cons, y_pass, y_set, y_unp, y_par, y_sti, y_app, y_rem, y_appc, y_ex, y_ife, y_whl, y_for1, y_forN, y_ret, y_retN, y_rai, y_try, y_tryR, x_var, x_lit, x_bin, x_neg, x_cmp, x_chain, x_chain3, x_cio, x_ciL, x_addv, x_and, x_or, x_not, x_tup, x_lst, x_sub, x_slice, x_call, x_bi, x_meth, x_isi, x_range, x_enum, x_zip, x_zips, c_nes, x_dict, x_ditn, evs, evb, evo, tst, brw, isVar, bor, rd, bd_ok, bd_er, bd_st, of_some, of_none, s_ok, s_er, s_st, sb_nx, sb_rt, sb_er, sb_st, val_sh, val_ol, val_od, val_ot, val_er, val_st, blR_bl, truth_bl, truth_lst, intOf_int, c_eq, c_ne, c_lt, c_le, c_gt, c_ge, c_inn, c_nin, c_isN, c_notN, n_non, n_int, n_str, n_tup, n_lst, b_add, b_sub, bi_max2, bi_min2, bi_intB, bi_intI, bi_lenL, bi_lenT, bi_lenS, bi_listL, bi_listT, bi_strS, sub_lst, sub_tup, sub_scr, sub_dic, slc_lst, slc_tup, atI0, atI1, atI2, atI3, atI4, eqV_int, eqV_bl, isi_int, isi_intb, isi_bl, isi_lst, isi_tup, isi_str, fp_sh, fp_ol, fp_nx, sz_0, sz_1, sz_2, sz_3, sz_4, sz_5, sz_6, sz_7, fp_er, res_ok, res_er, itm_lst, itm_tup, itm_str, env0, moved, Option.map_some, Option.map_none, Option.bind_some, List.getElem?_cons_zero, List.getElem?_cons_succ, List.set_cons_zero, List.set_cons_succ, List.map_cons, List.map_nil, List.cons_append, List.nil_append, List.length_cons, List.length_nil, List.replicate, if_true, if_false, Bool.false_eq_true, reduceIte, Bool.not_true, Bool.not_false, bodyNm, nEnv, abc_sub, d26, d24, d3, d8, q26, q208, q1664, e1, e2, e3, a1, a2, isOw, isOl, DV.own, upS, stiD, chs_set, b_mod _ _ hz, hA, hB', h23', hk, beq_self_eq_true, meT]
    · have hB' : decide ((many : Int) ≤ 8) = false := decide_eq_false (by omega)
      have hn : nameF cell many k = ((List.replicate (sizF cell many) (97 + (cell % 26).toNat)).set (cell / 208 % (sizF cell many : Int)).toNat (97 + ((cell + 1 + (k : Int) % 24) % 26).toNat)) ++ if k > 23 then [97 + (cell % 26).toNat] else [] := by
        unfold nameF
        rw [if_neg (fun z => hB z.2)]
      by_cases h23 : k > 23
      · have h23' : decide ((23 : Int) < (k : Int)) = true := decide_eq_true (by omega)
        have hk := join_chs (((List.replicate (sizF cell many) (97 + (cell % 26).toNat)).set (cell / 208 % (sizF cell many : Int)).toNat (97 + ((cell + 1 + (k : Int) % 24) % 26).toNat)) ++ [97 + (cell % 26).toNat]) (by rw [List.length_append, List.length_set, List.length_replicate]; simp only [List.length_cons, List.length_nil, szL]; omega)
        rw [chs_app, ← c1] at hk
        refine ⟨some (.ol (chs ((List.replicate (sizF cell many) (97 + (cell % 26).toNat)).set (cell / 208 % (sizF cell many : Int)).toNat (97 + ((cell + 1 + (k : Int) % 24) % 26).toNat) ) ++ [.str [97 + (cell % 26).toNat]])), ?_⟩
        rw [hn, if_pos h23]
        simp -implicitDefEqProofs only [exB_nil, exB_cons, y_pass, y_set, y_unp, y_par, y_sti, y_app, y_rem, y_appc, y_ex, y_ife, y_whl, y_for1, y_forN, y_ret, y_retN, y_rai, y_try, y_tryR, x_var, x_lit, x_bin, x_neg, x_cmp, x_chain, x_chain3, x_cio, x_ciL, x_addv, x_and, x_or, x_not, x_tup, x_lst, x_sub, x_slice, x_call, x_bi, x_meth, x_isi, x_range, x_enum, x_zip, x_zips, c_nes, x_dict, x_ditn, evs, evb, evo, tst, brw, isVar, bor, rd, bd_ok, bd_er, bd_st, of_some, of_none, s_ok, s_er, s_st, sb_nx, sb_rt, sb_er, sb_st, val_sh, val_ol, val_od, val_ot, val_er, val_st, blR_bl, truth_bl, truth_lst, intOf_int, c_eq, c_ne, c_lt, c_le, c_gt, c_ge, c_inn, c_nin, c_isN, c_notN, n_non, n_int, n_str, n_tup, n_lst, b_add, b_sub, bi_max2, bi_min2, bi_intB, bi_intI, bi_lenL, bi_lenT, bi_lenS, bi_listL, bi_listT, bi_strS, sub_lst, sub_tup, sub_scr, sub_dic, slc_lst, slc_tup, atI0, atI1, atI2, atI3, atI4, eqV_int, eqV_bl, isi_int, isi_intb, isi_bl, isi_lst, isi_tup, isi_str, fp_sh, fp_ol, fp_nx, sz_0, sz_1, sz_2, sz_3, sz_4, sz_5, sz_6, sz_7, fp_er, res_ok, res_er, itm_lst, itm_tup, itm_str, env0, moved, Option.map_some, Option.map_none, Option.bind_some, List.getElem?_cons_zero, List.getElem?_cons_succ, List.set_cons_zero, List.set_cons_succ, List.map_cons, List.map_nil, List.cons_append, List.nil_append, List.length_cons, List.length_nil, List.replicate, if_true, if_false, Bool.false_eq_true, reduceIte, Bool.not_true, Bool.not_false, bodyNm, nEnv, abc_sub, d26, d24, d3, d8, q26, q208, q1664, e1, e2, e3, a1, a2, isOw, isOl, DV.own, upS, stiD, chs_set, b_mod _ _ hz, hA, hB', beq_self_eq_true, h23', hk, meT]
      · have h23' : decide ((23 : Int) < (k : Int)) = false := decide_eq_false (by omega)
        have hk := join_chs ((List.replicate (sizF cell many) (97 + (cell % 26).toNat)).set (cell / 208 % (sizF cell many : Int)).toNat (97 + ((cell + 1 + (k : Int) % 24) % 26).toNat)) (by rw [List.length_set, List.length_replicate]; unfold szL; omega)
        refine ⟨some (.ol (chs ((List.replicate (sizF cell many) (97 + (cell % 26).toNat)).set (cell / 208 % (sizF cell many : Int)).toNat (97 + ((cell + 1 + (k : Int) % 24) % 26).toNat) ))), ?_⟩
        rw [hn, if_neg h23, List.append_nil]
        simp -implicitDefEqProofs only [exB_nil, exB_cons, y_pass, y_set, y_unp, y_par, y_sti, y_app, y_rem, y_appc, y_ex, y_ife, y_whl, y_for1, y_forN, y_ret, y_retN, y_rai, y_try, y_tryR, x_var, x_lit, x_bin, x_neg, x_cmp, x_chain, x_chain3, x_cio, x_ciL, x_addv, x_and, x_or, x_not, x_tup, x_lst, x_sub, x_slice, x_call, x_bi, x_meth, x_isi, x_range, x_enum, x_zip, x_zips, c_nes, x_dict, x_ditn, evs, evb, evo, tst, brw, isVar, bor, rd, bd_ok, bd_er, bd_st, of_some, of_none, s_ok, s_er, s_st, sb_nx, sb_rt, sb_er, sb_st, val_sh, val_ol, val_od, val_ot, val_er, val_st, blR_bl, truth_bl, truth_lst, intOf_int, c_eq, c_ne, c_lt, c_le, c_gt, c_ge, c_inn, c_nin, c_isN, c_notN, n_non, n_int, n_str, n_tup, n_lst, b_add, b_sub, bi_max2, bi_min2, bi_intB, bi_intI, bi_lenL, bi_lenT, bi_lenS, bi_listL, bi_listT, bi_strS, sub_lst, sub_tup, sub_scr, sub_dic, slc_lst, slc_tup, atI0, atI1, atI2, atI3, atI4, eqV_int, eqV_bl, isi_int, isi_intb, isi_bl, isi_lst, isi_tup, isi_str, fp_sh, fp_ol, fp_nx, sz_0, sz_1, sz_2, sz_3, sz_4, sz_5, sz_6, sz_7, fp_er, res_ok, res_er, itm_lst, itm_tup, itm_str, env0, moved, Option.map_some, Option.map_none, Option.bind_some, List.getElem?_cons_zero, List.getElem?_cons_succ, List.set_cons_zero, List.set_cons_succ, List.map_cons, List.map_nil, List.cons_append, List.nil_append, List.length_cons, List.length_nil, List.replicate, if_true, if_false, Bool.false_eq_true, reduceIte, Bool.not_true, Bool.not_false, bodyNm, nEnv, abc_sub, d26, d24, d3, d8, q26, q208, q1664, e1, e2, e3, a1, a2, isOw, isOl, DV.own, upS, stiD, chs_set, b_mod _ _ hz, hA, hB', beq_self_eq_true, h23', hk, meT]
  · have hA' : (cell / 1664 % 3 == 0) = false := beq_eq_false_iff_ne.mpr hA
    have hn : nameF cell many k = ((List.replicate (sizF cell many) (97 + (cell % 26).toNat)).set (cell / 208 % (sizF cell many : Int)).toNat (97 + ((cell + 1 + (k : Int) % 24) % 26).toNat)) ++ if k > 23 then [97 + (cell % 26).toNat] else [] := by
      unfold nameF
      rw [if_neg (fun z => hA z.1)]
    by_cases h23 : k > 23
    · have h23' : decide ((23 : Int) < (k : Int)) = true := decide_eq_true (by omega)
      have hk := join_chs (((List.replicate (sizF cell many) (97 + (cell % 26).toNat)).set (cell / 208 % (sizF cell many : Int)).toNat (97 + ((cell + 1 + (k : Int) % 24) % 26).toNat)) ++ [97 + (cell % 26).toNat]) (by rw [List.length_append, List.length_set, List.length_replicate]; simp only [List.length_cons, List.length_nil, szL]; omega)
      rw [chs_app, ← c1] at hk
      refine ⟨some (.ol (chs ((List.replicate (sizF cell many) (97 + (cell % 26).toNat)).set (cell / 208 % (sizF cell many : Int)).toNat (97 + ((cell + 1 + (k : Int) % 24) % 26).toNat) ) ++ [.str [97 + (cell % 26).toNat]])), ?_⟩
      rw [hn, if_pos h23]
      simp -implicitDefEqProofs only [exB_nil, exB_cons, y_pass, y_set, y_unp, y_par, y_sti, y_app, y_rem, y_appc, y_ex, y_ife, y_whl, y_for1, y_forN, y_ret, y_retN, y_rai, y_try, y_tryR, x_var, x_lit, x_bin, x_neg, x_cmp, x_chain, x_chain3, x_cio, x_ciL, x_addv, x_and, x_or, x_not, x_tup, x_lst, x_sub, x_slice, x_call, x_bi, x_meth, x_isi, x_range, x_enum, x_zip, x_zips, c_nes, x_dict, x_ditn, evs, evb, evo, tst, brw, isVar, bor, rd, bd_ok, bd_er, bd_st, of_some, of_none, s_ok, s_er, s_st, sb_nx, sb_rt, sb_er, sb_st, val_sh, val_ol, val_od, val_ot, val_er, val_st, blR_bl, truth_bl, truth_lst, intOf_int, c_eq, c_ne, c_lt, c_le, c_gt, c_ge, c_inn, c_nin, c_isN, c_notN, n_non, n_int, n_str, n_tup, n_lst, b_add, b_sub, bi_max2, bi_min2, bi_intB, bi_intI, bi_lenL, bi_lenT, bi_lenS, bi_listL, bi_listT, bi_strS, sub_lst, sub_tup, sub_scr, sub_dic, slc_lst, slc_tup, atI0, atI1, atI2, atI3, atI4, eqV_int, eqV_bl, isi_int, isi_intb, isi_bl, isi_lst, isi_tup, isi_str, fp_sh, fp_ol, fp_nx, sz_0, sz_1, sz_2, sz_3, sz_4, sz_5, sz_6, sz_7, fp_er, res_ok, res_er, itm_lst, itm_tup, itm_str, env0, moved, Option.map_some, Option.map_none, Option.bind_some, List.getElem?_cons_zero, List.getElem?_cons_succ, List.set_cons_zero, List.set_cons_succ, List.map_cons, List.map_nil, List.cons_append, List.nil_append, List.length_cons, List.length_nil, List.replicate, if_true, if_false, Bool.false_eq_true, reduceIte, Bool.not_true, Bool.not_false, bodyNm, nEnv, abc_sub, d26, d24, d3, d8, q26, q208, q1664, e1, e2, e3, a1, a2, isOw, isOl, DV.own, upS, stiD, chs_set, b_mod _ _ hz, hA', h23', hk, meT]
    · have h23' : decide ((23 : Int) < (k : Int)) = false := decide_eq_false (by omega)
      have hk := join_chs ((List.replicate (sizF cell many) (97 + (cell % 26).toNat)).set (cell / 208 % (sizF cell many : Int)).toNat (97 + ((cell + 1 + (k : Int) % 24) % 26).toNat)) (by rw [List.length_set, List.length_replicate]; unfold szL; omega)
      refine ⟨some (.ol (chs ((List.replicate (sizF cell many) (97 + (cell % 26).toNat)).set (cell / 208 % (sizF cell many : Int)).toNat (97 + ((cell + 1 + (k : Int) % 24) % 26).toNat) ))), ?_⟩
      rw [hn, if_neg h23, List.append_nil]
      simp -implicitDefEqProofs only [exB_nil, exB_cons, y_pass, y_set, y_unp, y_par, y_sti, y_app, y_rem, y_appc, y_ex, y_ife, y_whl, y_for1, y_forN, y_ret, y_retN, y_rai, y_try, y_tryR, x_var, x_lit, x_bin, x_neg, x_cmp, x_chain, x_chain3, x_cio, x_ciL, x_addv, x_and, x_or, x_not, x_tup, x_lst, x_sub, x_slice, x_call, x_bi, x_meth, x_isi, x_range, x_enum, x_zip, x_zips, c_nes, x_dict, x_ditn, evs, evb, evo, tst, brw, isVar, bor, rd, bd_ok, bd_er, bd_st, of_some, of_none, s_ok, s_er, s_st, sb_nx, sb_rt, sb_er, sb_st, val_sh, val_ol, val_od, val_ot, val_er, val_st, blR_bl, truth_bl, truth_lst, intOf_int, c_eq, c_ne, c_lt, c_le, c_gt, c_ge, c_inn, c_nin, c_isN, c_notN, n_non, n_int, n_str, n_tup, n_lst, b_add, b_sub, bi_max2, bi_min2, bi_intB, bi_intI, bi_lenL, bi_lenT, bi_lenS, bi_listL, bi_listT, bi_strS, sub_lst, sub_tup, sub_scr, sub_dic, slc_lst, slc_tup, atI0, atI1, atI2, atI3, atI4, eqV_int, eqV_bl, isi_int, isi_intb, isi_bl, isi_lst, isi_tup, isi_str, fp_sh, fp_ol, fp_nx, sz_0, sz_1, sz_2, sz_3, sz_4, sz_5, sz_6, sz_7, fp_er, res_ok, res_er, itm_lst, itm_tup, itm_str, env0, moved, Option.map_some, Option.map_none, Option.bind_some, List.getElem?_cons_zero, List.getElem?_cons_succ, List.set_cons_zero, List.set_cons_succ, List.map_cons, List.map_nil, List.cons_append, List.nil_append, List.length_cons, List.length_nil, List.replicate, if_true, if_false, Bool.false_eq_true, reduceIte, Bool.not_true, Bool.not_false, bodyNm, nEnv, abc_sub, d26, d24, d3, d8, q26, q208, q1664, e1, e2, e3, a1, a2, isOw, isOl, DV.own, upS, stiD, chs_set, b_mod _ _ hz, hA', h23', hk, meT]

theorem nm_loop {G : Tab} (cell : Int) (many : Nat) (hm : many ≤ 64) : ∃ u v, forL (fun x env => exB G bodyNm (env.set 5 (some (.sh x)))) ((List.range many).map fun (k : Nat) => D.int (k : Int)) (nEnv cell many [] none none) = .nx (nEnv cell many ((namesF cell many).map .str) u v) := by
  obtain ⟨env', e, u, v, h⟩ := forL_inv ((List.range many).map fun (k : Nat) => D.int (k : Int)) (step := fun x env => exB G bodyNm (env.set 5 (some (.sh x))))
    (fun i env => ∃ u v, env = nEnv cell many (((List.range i).map (nameF cell many)).map .str) u v) (nEnv cell many [] none none) ⟨none, none, rfl⟩ fun i x env hx ⟨u, v, he⟩ => by
      obtain ⟨hi, rfl⟩ := rngm_get hx
      subst he
      obtain ⟨v', hv⟩ := nm_step (G := G) cell many i (((List.range i).map (nameF cell many)).map .str) v (by simp; omega)
      refine ⟨_, hv, some (.sh (.int (i : Int))), v', ?_⟩
      rw [List.range_succ, List.map_append, List.map_append]
      rfl
  refine ⟨u, v, ?_⟩
  rw [e, h]
  simp [namesF]
theorem run_names {G : Tab} (cell : Int) (many : Nat) (hm : many ≤ 64) : run G ⟨2, 7, bodyNames, none⟩ [.int cell, .int many] = .ok (.ol ((namesF cell many).map .str)) := by
  rw [run_eq rfl rfl]
  obtain ⟨u, v, hl⟩ := nm_loop (G := G) cell many hm
  have hr := rng_1 many (by omega)
  have hb : bodyNames = [.set 2 (.lit (.str abc)), .set 3 (.bin .add (.lit (.int 1)) (.bin .mod (.bin .fdiv (.var 0) (.lit (.int 26))) (.sub (.lst [(.lit (.int 8)), (.lit (.int 7))]) (.bi .int [(.cmp .gt (.var 1) (.lit (.int 24)))])))), .set 4 (.lst []), .for1 5 (.range [(.var 1)]) bodyNm, .ret (.var 4)] := rfl
  show (exB G bodyNames _).fr.pl = _
  rw [hb]
  unfold nEnv at hl
  by_cases h24 : many > 24
  · have h1 : decide ((24 : Int) < (many : Int)) = true := decide_eq_true (by omega)
    have hz : (1 : Int) + cell / 26 % 7 = (sizF cell many : Nat) := by unfold sizF; rw [if_pos h24]; omega
    have hq : binD .mod (.int (cell / 26)) (.int 7) = some (.sh (.int (cell / 26 % 7))) := b_mod _ _ (by decide)
    simp -implicitDefEqProofs only [exB_nil, exB_cons, y_pass, y_set, y_unp, y_par, y_sti, y_app, y_rem, y_appc, y_ex, y_ife, y_whl, y_for1, y_forN, y_ret, y_retN, y_rai, y_try, y_tryR, x_var, x_lit, x_bin, x_neg, x_cmp, x_chain, x_chain3, x_cio, x_ciL, x_addv, x_and, x_or, x_not, x_tup, x_lst, x_sub, x_slice, x_call, x_bi, x_meth, x_isi, x_range, x_enum, x_zip, x_zips, c_nes, x_dict, x_ditn, evs, evb, evo, tst, brw, isVar, bor, rd, bd_ok, bd_er, bd_st, of_some, of_none, s_ok, s_er, s_st, sb_nx, sb_rt, sb_er, sb_st, val_sh, val_ol, val_od, val_ot, val_er, val_st, blR_bl, truth_bl, truth_lst, intOf_int, c_eq, c_ne, c_lt, c_le, c_gt, c_ge, c_inn, c_nin, c_isN, c_notN, n_non, n_int, n_str, n_tup, n_lst, b_add, b_sub, bi_max2, bi_min2, bi_intB, bi_intI, bi_lenL, bi_lenT, bi_lenS, bi_listL, bi_listT, bi_strS, sub_lst, sub_tup, sub_scr, sub_dic, slc_lst, slc_tup, atI0, atI1, atI2, atI3, atI4, eqV_int, eqV_bl, isi_int, isi_intb, isi_bl, isi_lst, isi_tup, isi_str, fp_sh, fp_ol, fp_nx, sz_0, sz_1, sz_2, sz_3, sz_4, sz_5, sz_6, sz_7, fp_er, res_ok, res_er, itm_lst, itm_tup, itm_str, env0, moved, Option.map_some, Option.map_none, Option.bind_some, List.getElem?_cons_zero, List.getElem?_cons_succ, List.set_cons_zero, List.set_cons_succ, List.map_cons, List.map_nil, List.cons_append, List.nil_append, List.length_cons, List.length_nil, List.replicate, if_true, if_false, Bool.false_eq_true, reduceIte, Bool.not_true, Bool.not_false, h1, hq, hz, q26, hr, hl]
  · have h1 : decide ((24 : Int) < (many : Int)) = false := decide_eq_false (by omega)
    have hz : (1 : Int) + cell / 26 % 8 = (sizF cell many : Nat) := by unfold sizF; rw [if_neg h24]; omega
    simp -implicitDefEqProofs only [exB_nil, exB_cons, y_pass, y_set, y_unp, y_par, y_sti, y_app, y_rem, y_appc, y_ex, y_ife, y_whl, y_for1, y_forN, y_ret, y_retN, y_rai, y_try, y_tryR, x_var, x_lit, x_bin, x_neg, x_cmp, x_chain, x_chain3, x_cio, x_ciL, x_addv, x_and, x_or, x_not, x_tup, x_lst, x_sub, x_slice, x_call, x_bi, x_meth, x_isi, x_range, x_enum, x_zip, x_zips, c_nes, x_dict, x_ditn, evs, evb, evo, tst, brw, isVar, bor, rd, bd_ok, bd_er, bd_st, of_some, of_none, s_ok, s_er, s_st, sb_nx, sb_rt, sb_er, sb_st, val_sh, val_ol, val_od, val_ot, val_er, val_st, blR_bl, truth_bl, truth_lst, intOf_int, c_eq, c_ne, c_lt, c_le, c_gt, c_ge, c_inn, c_nin, c_isN, c_notN, n_non, n_int, n_str, n_tup, n_lst, b_add, b_sub, bi_max2, bi_min2, bi_intB, bi_intI, bi_lenL, bi_lenT, bi_lenS, bi_listL, bi_listT, bi_strS, sub_lst, sub_tup, sub_scr, sub_dic, slc_lst, slc_tup, atI0, atI1, atI2, atI3, atI4, eqV_int, eqV_bl, isi_int, isi_intb, isi_bl, isi_lst, isi_tup, isi_str, fp_sh, fp_ol, fp_nx, sz_0, sz_1, sz_2, sz_3, sz_4, sz_5, sz_6, sz_7, fp_er, res_ok, res_er, itm_lst, itm_tup, itm_str, env0, moved, Option.map_some, Option.map_none, Option.bind_some, List.getElem?_cons_zero, List.getElem?_cons_succ, List.set_cons_zero, List.set_cons_succ, List.map_cons, List.map_nil, List.cons_append, List.nil_append, List.length_cons, List.length_nil, List.replicate, if_true, if_false, Bool.false_eq_true, reduceIte, Bool.not_true, Bool.not_false, h1, d8, hz, q26, hr, hl]
end Dl

namespace Dl
/-! ### how many, and the tree -/
def manyF (ns : List Int) : Nat := if atF ns 0 % 3 = 2 then 13 + (atF ns 0 / 3 % 20).toNat else 1 + (atF ns 0 / 3 % 12).toNat
theorem manyF_le (ns : List Int) : 1 ≤ manyF ns ∧ manyF ns ≤ 32 := by unfold manyF; split <;> omega
def bodyMany : List S := [.set 1 (.call 2 [(.var 0), (.lit (.int 0))]), .ret (.sub (.lst [(.bin .add (.lit (.int 1)) (.bin .mod (.bin .fdiv (.var 1) (.lit (.int 3))) (.lit (.int 12)))), (.bin .add (.lit (.int 13)) (.bin .mod (.bin .fdiv (.var 1) (.lit (.int 3))) (.lit (.int 20))))]) (.bi .int [(.cmp .eq (.bin .mod (.var 1) (.lit (.int 3))) (.lit (.int 2)))]))]
theorem q3 (c : Int) : binD .fdiv (.int c) (.int 3) = some (.sh (.int (c / 3))) := b_fdiv _ _ (by decide)
theorem q4 (c : Int) : binD .fdiv (.int c) (.int 4) = some (.sh (.int (c / 4))) := b_fdiv _ _ (by decide)
theorem q64 (c : Int) : binD .fdiv (.int c) (.int 64) = some (.sh (.int (c / 64))) := b_fdiv _ _ (by decide)
theorem q128 (c : Int) : binD .fdiv (.int c) (.int 128) = some (.sh (.int (c / 128))) := b_fdiv _ _ (by decide)
theorem d2 (c : Int) : binD .mod (.int c) (.int 2) = some (.sh (.int (c % 2))) := b_mod _ _ (by decide)
theorem d4 (c : Int) : binD .mod (.int c) (.int 4) = some (.sh (.int (c % 4))) := b_mod _ _ (by decide)
theorem d12 (c : Int) : binD .mod (.int c) (.int 12) = some (.sh (.int (c % 12))) := b_mod _ _ (by decide)
theorem d20 (c : Int) : binD .mod (.int c) (.int 20) = some (.sh (.int (c % 20))) := b_mod _ _ (by decide)
/-- the script's numbers by the def that reads them -/
def AtOk (G : Tab) (ns : List Int) : Prop := ∀ k : Nat, k < 2 ^ 60 → G.fn 2 [.scr ns, .int k] = .ok (.sh (.int (atF ns k)))
theorem run_many {G : Tab} {ns : List Int} (hA : AtOk G ns) : run G ⟨1, 2, bodyMany, none⟩ [.scr ns] = .ok (.sh (.int (manyF ns))) := by
  have h0 : G.fn 2 [.scr ns, .int 0] = .ok (.sh (.int (atF ns 0))) := hA 0 (by decide)
  rw [run_eq rfl rfl]
  by_cases h : atF ns 0 % 3 = 2
  · have e : (13 : Int) + atF ns 0 / 3 % 20 = (manyF ns : Nat) := by unfold manyF; rw [if_pos h]; omega
    simp -implicitDefEqProofs only [exB_nil, exB_cons, y_pass, y_set, y_unp, y_par, y_sti, y_app, y_rem, y_appc, y_ex, y_ife, y_whl, y_for1, y_forN, y_ret, y_retN, y_rai, y_try, y_tryR, x_var, x_lit, x_bin, x_neg, x_cmp, x_chain, x_chain3, x_cio, x_ciL, x_addv, x_and, x_or, x_not, x_tup, x_lst, x_sub, x_slice, x_call, x_bi, x_meth, x_isi, x_range, x_enum, x_zip, x_zips, c_nes, x_dict, x_ditn, evs, evb, evo, tst, brw, isVar, bor, rd, bd_ok, bd_er, bd_st, of_some, of_none, s_ok, s_er, s_st, sb_nx, sb_rt, sb_er, sb_st, val_sh, val_ol, val_od, val_ot, val_er, val_st, blR_bl, truth_bl, truth_lst, intOf_int, c_eq, c_ne, c_lt, c_le, c_gt, c_ge, c_inn, c_nin, c_isN, c_notN, n_non, n_int, n_str, n_tup, n_lst, b_add, b_sub, bi_max2, bi_min2, bi_intB, bi_intI, bi_lenL, bi_lenT, bi_lenS, bi_listL, bi_listT, bi_strS, sub_lst, sub_tup, sub_scr, sub_dic, slc_lst, slc_tup, atI0, atI1, atI2, atI3, atI4, eqV_int, eqV_bl, isi_int, isi_intb, isi_bl, isi_lst, isi_tup, isi_str, fp_sh, fp_ol, fp_nx, sz_0, sz_1, sz_2, sz_3, sz_4, sz_5, sz_6, sz_7, fp_er, res_ok, res_er, itm_lst, itm_tup, itm_str, env0, moved, Option.map_some, Option.map_none, Option.bind_some, List.getElem?_cons_zero, List.getElem?_cons_succ, List.set_cons_zero, List.set_cons_succ, List.map_cons, List.map_nil, List.cons_append, List.nil_append, List.length_cons, List.length_nil, List.replicate, if_true, if_false, Bool.false_eq_true, reduceIte, Bool.not_true, Bool.not_false, bodyMany, h0, q3, d3, d12, d20, h, beq_self_eq_true, e]
  · have e : (1 : Int) + atF ns 0 / 3 % 12 = (manyF ns : Nat) := by unfold manyF; rw [if_neg h]; omega
    simp -implicitDefEqProofs only [exB_nil, exB_cons, y_pass, y_set, y_unp, y_par, y_sti, y_app, y_rem, y_appc, y_ex, y_ife, y_whl, y_for1, y_forN, y_ret, y_retN, y_rai, y_try, y_tryR, x_var, x_lit, x_bin, x_neg, x_cmp, x_chain, x_chain3, x_cio, x_ciL, x_addv, x_and, x_or, x_not, x_tup, x_lst, x_sub, x_slice, x_call, x_bi, x_meth, x_isi, x_range, x_enum, x_zip, x_zips, c_nes, x_dict, x_ditn, evs, evb, evo, tst, brw, isVar, bor, rd, bd_ok, bd_er, bd_st, of_some, of_none, s_ok, s_er, s_st, sb_nx, sb_rt, sb_er, sb_st, val_sh, val_ol, val_od, val_ot, val_er, val_st, blR_bl, truth_bl, truth_lst, intOf_int, c_eq, c_ne, c_lt, c_le, c_gt, c_ge, c_inn, c_nin, c_isN, c_notN, n_non, n_int, n_str, n_tup, n_lst, b_add, b_sub, bi_max2, bi_min2, bi_intB, bi_intI, bi_lenL, bi_lenT, bi_lenS, bi_listL, bi_listT, bi_strS, sub_lst, sub_tup, sub_scr, sub_dic, slc_lst, slc_tup, atI0, atI1, atI2, atI3, atI4, eqV_int, eqV_bl, isi_int, isi_intb, isi_bl, isi_lst, isi_tup, isi_str, fp_sh, fp_ol, fp_nx, sz_0, sz_1, sz_2, sz_3, sz_4, sz_5, sz_6, sz_7, fp_er, res_ok, res_er, itm_lst, itm_tup, itm_str, env0, moved, Option.map_some, Option.map_none, Option.bind_some, List.getElem?_cons_zero, List.getElem?_cons_succ, List.set_cons_zero, List.set_cons_succ, List.map_cons, List.map_nil, List.cons_append, List.nil_append, List.length_cons, List.length_nil, List.replicate, if_true, if_false, Bool.false_eq_true, reduceIte, Bool.not_true, Bool.not_false, bodyMany, h0, q3, d3, d12, d20, beq_eq_false_iff_ne.mpr h, e]
def secF (ns : List Int) : Int := if atF ns 2 % 4 = 3 then atF ns 1 else atF ns 2
def bodySecond : List S := [.ife (.cmp .eq (.bin .mod (.call 2 [(.var 0), (.lit (.int 2))]) (.lit (.int 4))) (.lit (.int 3))) [.ret (.call 2 [(.var 0), (.lit (.int 1))])] [], .ret (.call 2 [(.var 0), (.lit (.int 2))])]
theorem run_second {G : Tab} {ns : List Int} (hA : AtOk G ns) : run G ⟨1, 1, bodySecond, none⟩ [.scr ns] = .ok (.sh (.int (secF ns))) := by
  have h1 : G.fn 2 [.scr ns, .int 1] = .ok (.sh (.int (atF ns 1))) := hA 1 (by decide)
  have h2 : G.fn 2 [.scr ns, .int 2] = .ok (.sh (.int (atF ns 2))) := hA 2 (by decide)
  rw [run_eq rfl rfl]
  unfold secF
  by_cases h : atF ns 2 % 4 = 3
  · simp -implicitDefEqProofs only [exB_nil, exB_cons, y_pass, y_set, y_unp, y_par, y_sti, y_app, y_rem, y_appc, y_ex, y_ife, y_whl, y_for1, y_forN, y_ret, y_retN, y_rai, y_try, y_tryR, x_var, x_lit, x_bin, x_neg, x_cmp, x_chain, x_chain3, x_cio, x_ciL, x_addv, x_and, x_or, x_not, x_tup, x_lst, x_sub, x_slice, x_call, x_bi, x_meth, x_isi, x_range, x_enum, x_zip, x_zips, c_nes, x_dict, x_ditn, evs, evb, evo, tst, brw, isVar, bor, rd, bd_ok, bd_er, bd_st, of_some, of_none, s_ok, s_er, s_st, sb_nx, sb_rt, sb_er, sb_st, val_sh, val_ol, val_od, val_ot, val_er, val_st, blR_bl, truth_bl, truth_lst, intOf_int, c_eq, c_ne, c_lt, c_le, c_gt, c_ge, c_inn, c_nin, c_isN, c_notN, n_non, n_int, n_str, n_tup, n_lst, b_add, b_sub, bi_max2, bi_min2, bi_intB, bi_intI, bi_lenL, bi_lenT, bi_lenS, bi_listL, bi_listT, bi_strS, sub_lst, sub_tup, sub_scr, sub_dic, slc_lst, slc_tup, atI0, atI1, atI2, atI3, atI4, eqV_int, eqV_bl, isi_int, isi_intb, isi_bl, isi_lst, isi_tup, isi_str, fp_sh, fp_ol, fp_nx, sz_0, sz_1, sz_2, sz_3, sz_4, sz_5, sz_6, sz_7, fp_er, res_ok, res_er, itm_lst, itm_tup, itm_str, env0, moved, Option.map_some, Option.map_none, Option.bind_some, List.getElem?_cons_zero, List.getElem?_cons_succ, List.set_cons_zero, List.set_cons_succ, List.map_cons, List.map_nil, List.cons_append, List.nil_append, List.length_cons, List.length_nil, List.replicate, if_true, if_false, Bool.false_eq_true, reduceIte, Bool.not_true, Bool.not_false, bodySecond, h1, h2, d4, h, beq_self_eq_true]
  · simp -implicitDefEqProofs only [exB_nil, exB_cons, y_pass, y_set, y_unp, y_par, y_sti, y_app, y_rem, y_appc, y_ex, y_ife, y_whl, y_for1, y_forN, y_ret, y_retN, y_rai, y_try, y_tryR, x_var, x_lit, x_bin, x_neg, x_cmp, x_chain, x_chain3, x_cio, x_ciL, x_addv, x_and, x_or, x_not, x_tup, x_lst, x_sub, x_slice, x_call, x_bi, x_meth, x_isi, x_range, x_enum, x_zip, x_zips, c_nes, x_dict, x_ditn, evs, evb, evo, tst, brw, isVar, bor, rd, bd_ok, bd_er, bd_st, of_some, of_none, s_ok, s_er, s_st, sb_nx, sb_rt, sb_er, sb_st, val_sh, val_ol, val_od, val_ot, val_er, val_st, blR_bl, truth_bl, truth_lst, intOf_int, c_eq, c_ne, c_lt, c_le, c_gt, c_ge, c_inn, c_nin, c_isN, c_notN, n_non, n_int, n_str, n_tup, n_lst, b_add, b_sub, bi_max2, bi_min2, bi_intB, bi_intI, bi_lenL, bi_lenT, bi_lenS, bi_listL, bi_listT, bi_strS, sub_lst, sub_tup, sub_scr, sub_dic, slc_lst, slc_tup, atI0, atI1, atI2, atI3, atI4, eqV_int, eqV_bl, isi_int, isi_intb, isi_bl, isi_lst, isi_tup, isi_str, fp_sh, fp_ol, fp_nx, sz_0, sz_1, sz_2, sz_3, sz_4, sz_5, sz_6, sz_7, fp_er, res_ok, res_er, itm_lst, itm_tup, itm_str, env0, moved, Option.map_some, Option.map_none, Option.bind_some, List.getElem?_cons_zero, List.getElem?_cons_succ, List.set_cons_zero, List.set_cons_succ, List.map_cons, List.map_nil, List.cons_append, List.nil_append, List.length_cons, List.length_nil, List.replicate, if_true, if_false, Bool.false_eq_true, reduceIte, Bool.not_true, Bool.not_false, bodySecond, h1, h2, d4, beq_eq_false_iff_ne.mpr h, h]
/-! the tree -/
def Tr.names : Tr → List T
  | .leaf x => [x]
  | .knot _ l r => l.names ++ r.names
def Tr.deeds : Tr → List T
  | .leaf _ => []
  | .knot f l r => f :: (l.deeds ++ r.deeds)
theorem Tr.deep_le (t : Tr) : 1 ≤ t.names.length ∧ t.deep ≤ t.names.length := by
  induction t with
  | leaf x => simp [Tr.names, Tr.deep]
  | knot f l r h1 h2 => simp only [Tr.names, Tr.deep, List.length_append]; omega
structure Forest (ts : List Tr) (names ds : List T) : Prop where
  nm : (ts.map Tr.names).flatten.Perm names
  dd : ∀ t ∈ ts, ∀ f ∈ t.deeds, f ∈ ds
theorem cut_to {α : Type} (xs : List α) (p : Nat) (h : p ≤ xs.length) : cut xs none (some (p : Int)) = xs.take p := by
  have e : sIx xs.length xs.length (some (p : Int)) = p := by
    simp only [sIx]
    rw [if_neg (by omega), Int.toNat_natCast]
    omega
  unfold cut
  rw [e]
  rfl
theorem cut_from {α : Type} (xs : List α) (p : Nat) (h : p ≤ xs.length) : cut xs (some (p : Int)) none = xs.drop p := by
  have e : sIx xs.length 0 (some (p : Int)) = p := by
    simp only [sIx]
    rw [if_neg (by omega), Int.toNat_natCast]
    omega
  unfold cut
  rw [e]
  show (xs.drop p).take (xs.length - p) = _
  exact List.take_of_length_le (by simp)
theorem forest_step {ts : List Tr} {names ds : List T} (h : Forest ts names ds) {p : Nat} {a b : Tr} (ha : ts[p]? = some a) (hb : ts[p + 1]? = some b) (f : T) (hf : f ∈ ds) (sw : Bool) :
    Forest (ts.take p ++ [if sw then Tr.knot f b a else Tr.knot f a b] ++ ts.drop (p + 2)) names ds := by
  have hp : p + 1 < ts.length := (List.getElem?_eq_some_iff.mp hb).1
  have e : ts = ts.take p ++ (a :: b :: ts.drop (p + 2)) := by
    have h1 : ts.drop p = a :: ts.drop (p + 1) := by
      rw [List.drop_eq_getElem_cons (by omega)]
      congr 1
      rw [List.getElem?_eq_getElem (by omega)] at ha
      exact Option.some.inj ha
    have h2 : ts.drop (p + 1) = b :: ts.drop (p + 2) := by
      rw [List.drop_eq_getElem_cons hp]
      congr 1
      rw [List.getElem?_eq_getElem hp] at hb
      exact Option.some.inj hb
    rw [← h2, ← h1, List.take_append_drop]
  refine ⟨?_, fun t ht g hg => ?_⟩
  · refine List.Perm.trans ?_ h.nm
    conv => rhs; rw [e]
    simp only [List.map_append, List.map_cons, List.map_nil, List.flatten_append, List.flatten_cons, List.flatten_nil, List.append_nil, List.append_assoc]
    refine List.Perm.append_left _ ?_
    cases sw with
    | true =>
      simp only [if_true, Tr.names, ← List.append_assoc]
      exact List.Perm.append_right _ List.perm_append_comm
    | false => simp only [Bool.false_eq_true, if_false, Tr.names, List.append_assoc]; exact List.Perm.refl _
  · have ma : ∀ x ∈ ts.take p, x ∈ ts := fun x hx => List.mem_of_mem_take hx
    have mb : ∀ x ∈ ts.drop (p + 2), x ∈ ts := fun x hx => List.mem_of_mem_drop hx
    have h1 : a ∈ ts := List.mem_of_getElem? ha
    have h2 : b ∈ ts := List.mem_of_getElem? hb
    rw [List.mem_append, List.mem_append, List.mem_singleton] at ht
    rcases ht with (ht | rfl) | ht
    · exact h.dd t (ma t ht) g hg
    · cases sw with
      | true =>
        simp only [if_true, Tr.deeds, List.mem_cons, List.mem_append] at hg
        rcases hg with rfl | hg | hg
        · exact hf
        · exact h.dd _ h2 g hg
        · exact h.dd _ h1 g hg
      | false =>
        simp only [Bool.false_eq_true, if_false, Tr.deeds, List.mem_cons, List.mem_append] at hg
        rcases hg with rfl | hg | hg
        · exact hf
        · exact h.dd _ h1 g hg
        · exact h.dd _ h2 g hg
    · exact h.dd t (mb t ht) g hg
theorem forest_len {ts : List Tr} {p : Nat} (hp : p + 1 < ts.length) (x : Tr) : (ts.take p ++ [x] ++ ts.drop (p + 2)).length + 1 = ts.length := by
  simp only [List.length_append, List.length_take, List.length_singleton, List.length_drop]
  omega
/-- how deep the trees of a row are, step by step, where there are more than 24 -/
def shpStep (i : Nat) (ds : List Nat) : List Nat := ds.take (i % (ds.length - 1)) ++ [1 + max (ds.getD (i % (ds.length - 1)) 0) (ds.getD (i % (ds.length - 1) + 1) 0)] ++ ds.drop (i % (ds.length - 1) + 2)
def shpRun : Nat → Nat → List Nat → List Nat
  | 0, _, ds => ds
  | m + 1, i, ds => shpRun m (i + 1) (shpStep i ds)
theorem shp_32 : ∀ k : Nat, k < 8 → ((shpRun (k + 24) 0 (List.replicate (k + 25) 1)).all (fun d => decide (d ≤ 24))) = true := by decide +kernel
theorem deep_knot (f : T) (a b : Tr) (sw : Bool) : (if sw then Tr.knot f b a else Tr.knot f a b).deep = 1 + max a.deep b.deep := by
  cases sw with
  | true => simp only [if_true, Tr.deep]; omega
  | false => simp only [Bool.false_eq_true, if_false, Tr.deep]
theorem shp_step {ts : List Tr} {p i : Nat} {a b : Tr} (ha : ts[p]? = some a) (hb : ts[p + 1]? = some b) (f : T) (sw : Bool) (hp : i % (ts.length - 1) = p) : (ts.take p ++ [if sw then Tr.knot f b a else Tr.knot f a b] ++ ts.drop (p + 2)).map Tr.deep = shpStep i (ts.map Tr.deep) := by
  have h1 : (ts.map Tr.deep).getD p 0 = a.deep := by rw [List.getD_eq_getElem?_getD, List.getElem?_map, ha]; rfl
  have h2 : (ts.map Tr.deep).getD (p + 1) 0 = b.deep := by rw [List.getD_eq_getElem?_getD, List.getElem?_map, hb]; rfl
  unfold shpStep
  rw [List.length_map, hp, h1, h2, List.map_append, List.map_append, List.map_take, List.map_drop, List.map_cons, List.map_nil, deep_knot]
def bodyTreeW : List S := [.set 6 (.call 2 [(.var 0), (.var 5)]), .set 7 (.bin .mod (.bin .fdiv (.var 6) (.lit (.int 4))) (.bin .sub (.bi .len [(.var 4)]) (.lit (.int 1)))), .ife (.or (.cmp .gt (.bin .mod (.var 6) (.lit (.int 4))) (.lit (.int 1))) (.cmp .gt (.var 2) (.lit (.int 24)))) [.set 7 (.bin .mod (.bin .sub (.bin .sub (.var 5) (.var 1)) (.lit (.int 2))) (.bin .sub (.bi .len [(.var 4)]) (.lit (.int 1))))] [], .set 8 (.lst [(.sub (.var 4) (.var 7)), (.sub (.var 4) (.bin .add (.var 7) (.lit (.int 1))))]), .set 9 (.bin .mod (.bin .fdiv (.var 6) (.lit (.int 64))) (.lit (.int 2))), .set 10 (.tup [(.lit (.str [107, 110, 111, 116])), (.sub (.var 3) (.bin .mod (.bin .fdiv (.var 6) (.lit (.int 128))) (.lit (.int 3)))), (.sub (.var 8) (.var 9)), (.sub (.var 8) (.bin .sub (.lit (.int 1)) (.var 9)))]), .set 4 (.bin .add (.bin .add (.slice (.var 4) none (some (.var 7))) (.lst [(.var 10)])) (.slice (.var 4) (some (.bin .add (.var 7) (.lit (.int 2)))) none)), .set 5 (.bin .add (.var 5) (.lit (.int 1)))]
def bodyTree : List S := [.set 3 (.call 3 [(.call 2 [(.var 0), (.var 1)]), (.lit (.int 3))]), .set 4 (.comp 11 (.call 3 [(.call 5 [(.var 0)]), (.var 2)]) none (.tup [(.lit (.str [108, 101, 97, 102])), (.var 11)])), .set 5 (.bin .add (.var 1) (.lit (.int 2))), .whl (.cmp .gt (.bi .len [(.var 4)]) (.lit (.int 1))) bodyTreeW, .ret (.sub (.var 4) (.lit (.int 0)))]
def tEnv (ns : List Int) (at_ many : Nat) (dl : List T) (ts : List Tr) (n : Nat) (j : List (Option DV)) : DEnv := some (.sh (.scr ns)) :: some (.sh (.int at_)) :: some (.sh (.int many)) :: some (.ol (dl.map .str)) :: some (.ol (ts.map Tr.enc)) :: some (.sh (.int n)) :: j
theorem tree_step {G : Tab} {ns : List Int} (hA : AtOk G ns) {at_ many n : Nat} {dl names : List T} {ts : List Tr} (hd : dl.length = 3) (hF : Forest ts names dl) (h1 : 1 < ts.length) (h2 : ts.length ≤ 64) (hn : n < 2 ^ 59) (hat : at_ + 2 ≤ n) (j0 j1 j2 j3 j4 j5 : Option DV) :
    ∃ (ts' : List Tr) (k0 k1 k2 k3 k4 : Option DV), exB G bodyTreeW (tEnv ns at_ many dl ts n [j0, j1, j2, j3, j4, j5]) = .nx (tEnv ns at_ many dl ts' (n + 1) [k0, k1, k2, k3, k4, j5]) ∧ Forest ts' names dl ∧ ts'.length + 1 = ts.length ∧ (24 < many → ts'.map Tr.deep = shpStep (n - at_ - 2) (ts.map Tr.deep)) := by
  have hc := hA n (by omega)
  generalize atF ns n = cell at hc
  -- the place
  have hl : (0 : Int) < ((ts.map Tr.enc).length : Int) - 1 := by rw [List.length_map]; omega
  obtain ⟨p, hp, hpe⟩ : ∃ p : Nat, p + 1 < ts.length ∧ (if (1 < cell % 4 ∨ 24 < many) then ((n : Int) - at_ - 2) % (((ts.map Tr.enc).length : Int) - 1) else cell / 4 % (((ts.map Tr.enc).length : Int) - 1)) = (p : Int) := by
    have key : ∀ z : Int, ∃ p : Nat, p + 1 < ts.length ∧ z % (((ts.map Tr.enc).length : Int) - 1) = (p : Int) := fun z => by
      have a1 := Int.emod_nonneg z (show (((ts.map Tr.enc).length : Int) - 1) ≠ 0 by omega)
      have a2 := Int.emod_lt_of_pos z hl
      rw [List.length_map] at a1 a2 ⊢
      exact ⟨(z % ((ts.length : Int) - 1)).toNat, by omega, by omega⟩
    split
    · exact key _
    · exact key _
  obtain ⟨a, ha⟩ := lt_of_get (l := ts) (i := p) (by omega)
  obtain ⟨b, hb⟩ := lt_of_get (l := ts) (i := p + 1) hp
  obtain ⟨f, hf⟩ := lt_of_get (l := dl) (i := (cell / 128 % 3).toNat) (by omega)
  have ga : Dl.atI (ts.map Tr.enc) (p : Int) = some a.enc := by rw [atI_nat, List.getElem?_map, ha]; rfl
  have gb : Dl.atI (ts.map Tr.enc) ((p : Int) + 1) = some b.enc := by
    have e : (p : Int) + 1 = ((p + 1 : Nat) : Int) := by omega
    rw [e, atI_nat, List.getElem?_map, hb]; rfl
  have gf : Dl.atI (dl.map D.str) (cell / 128 % 3) = some (.str f) := by
    have e : cell / 128 % 3 = (((cell / 128 % 3).toNat : Nat) : Int) := by omega
    rw [e, atI_nat, List.getElem?_map, hf]; rfl
  have c1 : cut (ts.map Tr.enc) none (some (p : Int)) = (ts.take p).map Tr.enc := by rw [cut_to _ _ (by rw [List.length_map]; omega), List.map_take]
  have c2 : cut (ts.map Tr.enc) (some ((p : Int) + 2)) none = (ts.drop (p + 2)).map Tr.enc := by
    have e : (p : Int) + 2 = ((p + 2 : Nat) : Int) := by omega
    rw [e, cut_from _ _ (by rw [List.length_map]; omega), List.map_drop]
  have n1 : (n : Int) + 1 = ((n + 1 : Nat) : Int) := by omega
  have hm : ∀ z : Int, binD .mod (.int z) (.int (((ts.map Tr.enc).length : Int) - 1)) = some (.sh (.int (z % (((ts.map Tr.enc).length : Int) - 1)))) := fun z => b_mod _ _ hl
  have add1 : ∀ x : D, binD .add (.lst ((ts.take p).map Tr.enc)) (.lst [x]) = some (.ol ((ts.take p).map Tr.enc ++ [x])) := fun x => b_addL _ _ (by simp only [List.length_map, List.length_take, List.length_singleton, szL]; omega)
  have add2 : ∀ x : D, binD .add (.lst ((ts.take p).map Tr.enc ++ [x])) (.lst ((ts.drop (p + 2)).map Tr.enc)) = some (.ol ((ts.take p).map Tr.enc ++ [x] ++ (ts.drop (p + 2)).map Tr.enc)) := fun x => b_addL _ _ (by simp only [List.length_append, List.length_map, List.length_take, List.length_drop, List.length_singleton, szL]; omega)
  have z1 : (1 : Int) - 0 = 1 := rfl
  have z2 : (1 : Int) - 1 = 0 := rfl
  have one := fun sw => forest_step hF ha hb f (List.mem_of_getElem? hf) sw
  have len := fun x => forest_len hp x
  have shp : ∀ sw : Bool, 24 < many → (ts.take p ++ [if sw then Tr.knot f b a else Tr.knot f a b] ++ ts.drop (p + 2)).map Tr.deep = shpStep (n - at_ - 2) (ts.map Tr.deep) := fun sw hm => by
    refine shp_step ha hb f sw ?_
    rw [if_pos (.inr hm), List.length_map] at hpe
    have e1 : (n : Int) - at_ - 2 = ((n - at_ - 2 : Nat) : Int) := by omega
    have e2 : (ts.length : Int) - 1 = ((ts.length - 1 : Nat) : Int) := by omega
    rw [e1, e2] at hpe
    exact Int.ofNat.inj hpe
  have hb1 : ∀ s : T, [(kKnot : T)] = [[107, 110, 111, 116]] := fun _ => rfl
  -- the first rows
  have first : ∀ (r : List S) , exB G (.set 6 (.call 2 [(.var 0), (.var 5)]) :: .set 7 (.bin .mod (.bin .fdiv (.var 6) (.lit (.int 4))) (.bin .sub (.bi .len [(.var 4)]) (.lit (.int 1)))) :: .ife (.or (.cmp .gt (.bin .mod (.var 6) (.lit (.int 4))) (.lit (.int 1))) (.cmp .gt (.var 2) (.lit (.int 24)))) [.set 7 (.bin .mod (.bin .sub (.bin .sub (.var 5) (.var 1)) (.lit (.int 2))) (.bin .sub (.bi .len [(.var 4)]) (.lit (.int 1))))] [] :: r) (tEnv ns at_ many dl ts n [j0, j1, j2, j3, j4, j5]) = exB G r (tEnv ns at_ many dl ts n [some (.sh (.int cell)), some (.sh (.int p)), j2, j3, j4, j5]) := by
    intro r
    by_cases q1 : 1 < cell % 4
    · rw [if_pos (.inl q1)] at hpe
      simp -implicitDefEqProofs only [exB_nil, exB_cons, y_pass, y_set, y_unp, y_par, y_sti, y_app, y_rem, y_appc, y_ex, y_ife, y_whl, y_for1, y_forN, y_ret, y_retN, y_rai, y_try, y_tryR, x_var, x_lit, x_bin, x_neg, x_cmp, x_chain, x_chain3, x_cio, x_ciL, x_addv, x_and, x_or, x_not, x_tup, x_lst, x_sub, x_slice, x_call, x_bi, x_meth, x_isi, x_range, x_enum, x_zip, x_zips, c_nes, x_dict, x_ditn, evs, evb, evo, tst, brw, isVar, bor, rd, bd_ok, bd_er, bd_st, of_some, of_none, s_ok, s_er, s_st, sb_nx, sb_rt, sb_er, sb_st, val_sh, val_ol, val_od, val_ot, val_er, val_st, blR_bl, truth_bl, truth_lst, intOf_int, c_eq, c_ne, c_lt, c_le, c_gt, c_ge, c_inn, c_nin, c_isN, c_notN, n_non, n_int, n_str, n_tup, n_lst, b_add, b_sub, bi_max2, bi_min2, bi_intB, bi_intI, bi_lenL, bi_lenT, bi_lenS, bi_listL, bi_listT, bi_strS, sub_lst, sub_tup, sub_scr, sub_dic, slc_lst, slc_tup, atI0, atI1, atI2, atI3, atI4, eqV_int, eqV_bl, isi_int, isi_intb, isi_bl, isi_lst, isi_tup, isi_str, fp_sh, fp_ol, fp_nx, sz_0, sz_1, sz_2, sz_3, sz_4, sz_5, sz_6, sz_7, fp_er, res_ok, res_er, itm_lst, itm_tup, itm_str, env0, moved, Option.map_some, Option.map_none, Option.bind_some, List.getElem?_cons_zero, List.getElem?_cons_succ, List.set_cons_zero, List.set_cons_succ, List.map_cons, List.map_nil, List.cons_append, List.nil_append, List.length_cons, List.length_nil, List.replicate, if_true, if_false, Bool.false_eq_true, reduceIte, Bool.not_true, Bool.not_false, tEnv, hc, q4, d4, hm, decide_eq_true q1, hpe]
    · by_cases q2 : 24 < many
      · rw [if_pos (.inr q2)] at hpe
        have q2' : (24 : Int) < (many : Int) := by omega
        simp -implicitDefEqProofs only [exB_nil, exB_cons, y_pass, y_set, y_unp, y_par, y_sti, y_app, y_rem, y_appc, y_ex, y_ife, y_whl, y_for1, y_forN, y_ret, y_retN, y_rai, y_try, y_tryR, x_var, x_lit, x_bin, x_neg, x_cmp, x_chain, x_chain3, x_cio, x_ciL, x_addv, x_and, x_or, x_not, x_tup, x_lst, x_sub, x_slice, x_call, x_bi, x_meth, x_isi, x_range, x_enum, x_zip, x_zips, c_nes, x_dict, x_ditn, evs, evb, evo, tst, brw, isVar, bor, rd, bd_ok, bd_er, bd_st, of_some, of_none, s_ok, s_er, s_st, sb_nx, sb_rt, sb_er, sb_st, val_sh, val_ol, val_od, val_ot, val_er, val_st, blR_bl, truth_bl, truth_lst, intOf_int, c_eq, c_ne, c_lt, c_le, c_gt, c_ge, c_inn, c_nin, c_isN, c_notN, n_non, n_int, n_str, n_tup, n_lst, b_add, b_sub, bi_max2, bi_min2, bi_intB, bi_intI, bi_lenL, bi_lenT, bi_lenS, bi_listL, bi_listT, bi_strS, sub_lst, sub_tup, sub_scr, sub_dic, slc_lst, slc_tup, atI0, atI1, atI2, atI3, atI4, eqV_int, eqV_bl, isi_int, isi_intb, isi_bl, isi_lst, isi_tup, isi_str, fp_sh, fp_ol, fp_nx, sz_0, sz_1, sz_2, sz_3, sz_4, sz_5, sz_6, sz_7, fp_er, res_ok, res_er, itm_lst, itm_tup, itm_str, env0, moved, Option.map_some, Option.map_none, Option.bind_some, List.getElem?_cons_zero, List.getElem?_cons_succ, List.set_cons_zero, List.set_cons_succ, List.map_cons, List.map_nil, List.cons_append, List.nil_append, List.length_cons, List.length_nil, List.replicate, if_true, if_false, Bool.false_eq_true, reduceIte, Bool.not_true, Bool.not_false, tEnv, hc, q4, d4, hm, decide_eq_false q1, decide_eq_true q2', hpe]
      · rw [if_neg (fun z => z.elim q1 q2)] at hpe
        have q2' : ¬ (24 : Int) < (many : Int) := by omega
        simp -implicitDefEqProofs only [exB_nil, exB_cons, y_pass, y_set, y_unp, y_par, y_sti, y_app, y_rem, y_appc, y_ex, y_ife, y_whl, y_for1, y_forN, y_ret, y_retN, y_rai, y_try, y_tryR, x_var, x_lit, x_bin, x_neg, x_cmp, x_chain, x_chain3, x_cio, x_ciL, x_addv, x_and, x_or, x_not, x_tup, x_lst, x_sub, x_slice, x_call, x_bi, x_meth, x_isi, x_range, x_enum, x_zip, x_zips, c_nes, x_dict, x_ditn, evs, evb, evo, tst, brw, isVar, bor, rd, bd_ok, bd_er, bd_st, of_some, of_none, s_ok, s_er, s_st, sb_nx, sb_rt, sb_er, sb_st, val_sh, val_ol, val_od, val_ot, val_er, val_st, blR_bl, truth_bl, truth_lst, intOf_int, c_eq, c_ne, c_lt, c_le, c_gt, c_ge, c_inn, c_nin, c_isN, c_notN, n_non, n_int, n_str, n_tup, n_lst, b_add, b_sub, bi_max2, bi_min2, bi_intB, bi_intI, bi_lenL, bi_lenT, bi_lenS, bi_listL, bi_listT, bi_strS, sub_lst, sub_tup, sub_scr, sub_dic, slc_lst, slc_tup, atI0, atI1, atI2, atI3, atI4, eqV_int, eqV_bl, isi_int, isi_intb, isi_bl, isi_lst, isi_tup, isi_str, fp_sh, fp_ol, fp_nx, sz_0, sz_1, sz_2, sz_3, sz_4, sz_5, sz_6, sz_7, fp_er, res_ok, res_er, itm_lst, itm_tup, itm_str, env0, moved, Option.map_some, Option.map_none, Option.bind_some, List.getElem?_cons_zero, List.getElem?_cons_succ, List.set_cons_zero, List.set_cons_succ, List.map_cons, List.map_nil, List.cons_append, List.nil_append, List.length_cons, List.length_nil, List.replicate, if_true, if_false, Bool.false_eq_true, reduceIte, Bool.not_true, Bool.not_false, tEnv, hc, q4, d4, hm, decide_eq_false q1, decide_eq_false q2', hpe]
  unfold bodyTreeW
  rw [first]
  have hs : cell / 64 % 2 = 0 ∨ cell / 64 % 2 = 1 := by omega
  rcases hs with hs | hs
  · refine ⟨_, some (.sh (.int cell)), some (.sh (.int p)), some (.ol [a.enc, b.enc]), some (.sh (.int 0)), some (.sh (Tr.knot f a b).enc), ?_, one false, len _, shp false⟩
    simp -implicitDefEqProofs only [exB_nil, exB_cons, y_pass, y_set, y_unp, y_par, y_sti, y_app, y_rem, y_appc, y_ex, y_ife, y_whl, y_for1, y_forN, y_ret, y_retN, y_rai, y_try, y_tryR, x_var, x_lit, x_bin, x_neg, x_cmp, x_chain, x_chain3, x_cio, x_ciL, x_addv, x_and, x_or, x_not, x_tup, x_lst, x_sub, x_slice, x_call, x_bi, x_meth, x_isi, x_range, x_enum, x_zip, x_zips, c_nes, x_dict, x_ditn, evs, evb, evo, tst, brw, isVar, bor, rd, bd_ok, bd_er, bd_st, of_some, of_none, s_ok, s_er, s_st, sb_nx, sb_rt, sb_er, sb_st, val_sh, val_ol, val_od, val_ot, val_er, val_st, blR_bl, truth_bl, truth_lst, intOf_int, c_eq, c_ne, c_lt, c_le, c_gt, c_ge, c_inn, c_nin, c_isN, c_notN, n_non, n_int, n_str, n_tup, n_lst, b_add, b_sub, bi_max2, bi_min2, bi_intB, bi_intI, bi_lenL, bi_lenT, bi_lenS, bi_listL, bi_listT, bi_strS, sub_lst, sub_tup, sub_scr, sub_dic, slc_lst, slc_tup, atI0, atI1, atI2, atI3, atI4, eqV_int, eqV_bl, isi_int, isi_intb, isi_bl, isi_lst, isi_tup, isi_str, fp_sh, fp_ol, fp_nx, sz_0, sz_1, sz_2, sz_3, sz_4, sz_5, sz_6, sz_7, fp_er, res_ok, res_er, itm_lst, itm_tup, itm_str, env0, moved, Option.map_some, Option.map_none, Option.bind_some, List.getElem?_cons_zero, List.getElem?_cons_succ, List.set_cons_zero, List.set_cons_succ, List.map_cons, List.map_nil, List.cons_append, List.nil_append, List.length_cons, List.length_nil, List.replicate, if_true, if_false, Bool.false_eq_true, reduceIte, Bool.not_true, Bool.not_false, tEnv, ga, gb, gf, q64, q128, d2, d3, hs, z1, c1, c2, add1, add2, n1, List.map_append, Tr.enc]
  · refine ⟨_, some (.sh (.int cell)), some (.sh (.int p)), some (.ol [a.enc, b.enc]), some (.sh (.int 1)), some (.sh (Tr.knot f b a).enc), ?_, one true, len _, shp true⟩
    simp -implicitDefEqProofs only [exB_nil, exB_cons, y_pass, y_set, y_unp, y_par, y_sti, y_app, y_rem, y_appc, y_ex, y_ife, y_whl, y_for1, y_forN, y_ret, y_retN, y_rai, y_try, y_tryR, x_var, x_lit, x_bin, x_neg, x_cmp, x_chain, x_chain3, x_cio, x_ciL, x_addv, x_and, x_or, x_not, x_tup, x_lst, x_sub, x_slice, x_call, x_bi, x_meth, x_isi, x_range, x_enum, x_zip, x_zips, c_nes, x_dict, x_ditn, evs, evb, evo, tst, brw, isVar, bor, rd, bd_ok, bd_er, bd_st, of_some, of_none, s_ok, s_er, s_st, sb_nx, sb_rt, sb_er, sb_st, val_sh, val_ol, val_od, val_ot, val_er, val_st, blR_bl, truth_bl, truth_lst, intOf_int, c_eq, c_ne, c_lt, c_le, c_gt, c_ge, c_inn, c_nin, c_isN, c_notN, n_non, n_int, n_str, n_tup, n_lst, b_add, b_sub, bi_max2, bi_min2, bi_intB, bi_intI, bi_lenL, bi_lenT, bi_lenS, bi_listL, bi_listT, bi_strS, sub_lst, sub_tup, sub_scr, sub_dic, slc_lst, slc_tup, atI0, atI1, atI2, atI3, atI4, eqV_int, eqV_bl, isi_int, isi_intb, isi_bl, isi_lst, isi_tup, isi_str, fp_sh, fp_ol, fp_nx, sz_0, sz_1, sz_2, sz_3, sz_4, sz_5, sz_6, sz_7, fp_er, res_ok, res_er, itm_lst, itm_tup, itm_str, env0, moved, Option.map_some, Option.map_none, Option.bind_some, List.getElem?_cons_zero, List.getElem?_cons_succ, List.set_cons_zero, List.set_cons_succ, List.map_cons, List.map_nil, List.cons_append, List.nil_append, List.length_cons, List.length_nil, List.replicate, if_true, if_false, Bool.false_eq_true, reduceIte, Bool.not_true, Bool.not_false, tEnv, ga, gb, gf, q64, q128, d2, d3, hs, z2, c1, c2, add1, add2, n1, List.map_append, Tr.enc]
/-- what a law's tree is -/
structure TreeOk (ns : List Int) (at_ many : Nat) (t : Tr) : Prop where
  nm : t.names.Perm (namesF (secF ns) many)
  dd : ∀ f ∈ t.deeds, f ∈ namesF (atF ns at_) 3
  dp : many ≤ 32 → t.deep ≤ 24
theorem tree_loop {G : Tab} {ns : List Int} (hA : AtOk G ns) {at_ many : Nat} {dl names : List T} (hd : dl.length = 3) (hn : names.length ≤ 64) (hat : at_ < 2 ^ 50) (j5 : Option DV) : ∀ (m : Nat) (ts : List Tr) (n : Nat) (j0 j1 j2 j3 j4 : Option DV), Forest ts names dl → ts.length = m + 1 → n + m < 2 ^ 58 → at_ + 2 ≤ n → ∀ fuel, m < fuel →
    ∃ (t : Tr) (n' : Nat) (k0 k1 k2 k3 k4 : Option DV), whileL (tst G (.cmp .gt (.bi .len [(.var 4)]) (.lit (.int 1)))) (exB G bodyTreeW) fuel (tEnv ns at_ many dl ts n [j0, j1, j2, j3, j4, j5]) = .nx (tEnv ns at_ many dl [t] n' [k0, k1, k2, k3, k4, j5]) ∧ Forest [t] names dl ∧ (24 < many → [t.deep] = shpRun m (n - at_ - 2) (ts.map Tr.deep)) := by
  intro m
  induction m with
  | zero =>
    intro ts n j0 j1 j2 j3 j4 hF hl hb hat2 fuel hf
    obtain ⟨t, rfl⟩ : ∃ t, ts = [t] := by
      cases ts with
      | nil => cases hl
      | cons t r => cases r with
        | nil => exact ⟨t, rfl⟩
        | cons _ _ => simp at hl
    obtain ⟨fuel, rfl⟩ : ∃ k, fuel = k + 1 := ⟨fuel - 1, by omega⟩
    refine ⟨t, n, j0, j1, j2, j3, j4, ?_, hF, fun _ => rfl⟩
    unfold whileL
    simp -implicitDefEqProofs only [exB_nil, exB_cons, y_pass, y_set, y_unp, y_par, y_sti, y_app, y_rem, y_appc, y_ex, y_ife, y_whl, y_for1, y_forN, y_ret, y_retN, y_rai, y_try, y_tryR, x_var, x_lit, x_bin, x_neg, x_cmp, x_chain, x_chain3, x_cio, x_ciL, x_addv, x_and, x_or, x_not, x_tup, x_lst, x_sub, x_slice, x_call, x_bi, x_meth, x_isi, x_range, x_enum, x_zip, x_zips, c_nes, x_dict, x_ditn, evs, evb, evo, tst, brw, isVar, bor, rd, bd_ok, bd_er, bd_st, of_some, of_none, s_ok, s_er, s_st, sb_nx, sb_rt, sb_er, sb_st, val_sh, val_ol, val_od, val_ot, val_er, val_st, blR_bl, truth_bl, truth_lst, intOf_int, c_eq, c_ne, c_lt, c_le, c_gt, c_ge, c_inn, c_nin, c_isN, c_notN, n_non, n_int, n_str, n_tup, n_lst, b_add, b_sub, bi_max2, bi_min2, bi_intB, bi_intI, bi_lenL, bi_lenT, bi_lenS, bi_listL, bi_listT, bi_strS, sub_lst, sub_tup, sub_scr, sub_dic, slc_lst, slc_tup, atI0, atI1, atI2, atI3, atI4, eqV_int, eqV_bl, isi_int, isi_intb, isi_bl, isi_lst, isi_tup, isi_str, fp_sh, fp_ol, fp_nx, sz_0, sz_1, sz_2, sz_3, sz_4, sz_5, sz_6, sz_7, fp_er, res_ok, res_er, itm_lst, itm_tup, itm_str, env0, moved, Option.map_some, Option.map_none, Option.bind_some, List.getElem?_cons_zero, List.getElem?_cons_succ, List.set_cons_zero, List.set_cons_succ, List.map_cons, List.map_nil, List.cons_append, List.nil_append, List.length_cons, List.length_nil, List.replicate, if_true, if_false, Bool.false_eq_true, reduceIte, Bool.not_true, Bool.not_false, tEnv]
    rfl
  | succ m ih =>
    intro ts n j0 j1 j2 j3 j4 hF hl hb hat2 fuel hf
    obtain ⟨fuel, rfl⟩ : ∃ k, fuel = k + 1 := ⟨fuel - 1, by omega⟩
    have hnl : ts.length ≤ names.length := by
      have h1 := hF.nm.length_eq
      rw [← h1]
      have key : ∀ l : List Tr, l.length ≤ (l.map Tr.names).flatten.length := by
        intro l
        induction l with
        | nil => simp
        | cons x r ih => have := x.deep_le; simp only [List.map_cons, List.flatten_cons, List.length_append, List.length_cons]; omega
      exact key ts
    obtain ⟨ts', k0, k1, k2, k3, k4, e, hF', hl', hs1⟩ := tree_step hA hd hF (by omega) (by omega) (by omega) hat2 j0 j1 j2 j3 j4 j5
    obtain ⟨t, n', i0, i1, i2, i3, i4, e2, hF2, hs2⟩ := ih ts' (n + 1) k0 k1 k2 k3 k4 hF' (by omega) (by omega) (by omega) fuel (by omega)
    refine ⟨t, n', i0, i1, i2, i3, i4, ?_, hF2, fun hm => ?_⟩
    rotate_left
    · rw [hs2 hm, hs1 hm]
      have e1 : n + 1 - at_ - 2 = n - at_ - 2 + 1 := by omega
      rw [e1]
      rfl
    have hc : tst G (.cmp .gt (.bi .len [(.var 4)]) (.lit (.int 1))) (tEnv ns at_ many dl ts n [j0, j1, j2, j3, j4, j5]) = .ok true (tEnv ns at_ many dl ts n [j0, j1, j2, j3, j4, j5]) := by
      have q : (1 : Int) < ((ts.map Tr.enc).length : Int) := by rw [List.length_map]; omega
      simp -implicitDefEqProofs only [exB_nil, exB_cons, y_pass, y_set, y_unp, y_par, y_sti, y_app, y_rem, y_appc, y_ex, y_ife, y_whl, y_for1, y_forN, y_ret, y_retN, y_rai, y_try, y_tryR, x_var, x_lit, x_bin, x_neg, x_cmp, x_chain, x_chain3, x_cio, x_ciL, x_addv, x_and, x_or, x_not, x_tup, x_lst, x_sub, x_slice, x_call, x_bi, x_meth, x_isi, x_range, x_enum, x_zip, x_zips, c_nes, x_dict, x_ditn, evs, evb, evo, tst, brw, isVar, bor, rd, bd_ok, bd_er, bd_st, of_some, of_none, s_ok, s_er, s_st, sb_nx, sb_rt, sb_er, sb_st, val_sh, val_ol, val_od, val_ot, val_er, val_st, blR_bl, truth_bl, truth_lst, intOf_int, c_eq, c_ne, c_lt, c_le, c_gt, c_ge, c_inn, c_nin, c_isN, c_notN, n_non, n_int, n_str, n_tup, n_lst, b_add, b_sub, bi_max2, bi_min2, bi_intB, bi_intI, bi_lenL, bi_lenT, bi_lenS, bi_listL, bi_listT, bi_strS, sub_lst, sub_tup, sub_scr, sub_dic, slc_lst, slc_tup, atI0, atI1, atI2, atI3, atI4, eqV_int, eqV_bl, isi_int, isi_intb, isi_bl, isi_lst, isi_tup, isi_str, fp_sh, fp_ol, fp_nx, sz_0, sz_1, sz_2, sz_3, sz_4, sz_5, sz_6, sz_7, fp_er, res_ok, res_er, itm_lst, itm_tup, itm_str, env0, moved, Option.map_some, Option.map_none, Option.bind_some, List.getElem?_cons_zero, List.getElem?_cons_succ, List.set_cons_zero, List.set_cons_succ, List.map_cons, List.map_nil, List.cons_append, List.nil_append, List.length_cons, List.length_nil, List.replicate, if_true, if_false, Bool.false_eq_true, reduceIte, Bool.not_true, Bool.not_false, tEnv, decide_eq_true q]
    unfold whileL
    rw [hc]
    show ((exB G bodyTreeW _).bd fun env => whileL _ _ fuel env) = _
    rw [e]
    exact e2
theorem forest_leaves (l : List T) (ds : List T) : Forest (l.map Tr.leaf) l ds := by
  refine ⟨?_, fun t ht f hf => ?_⟩
  · have e : ((l.map Tr.leaf).map Tr.names).flatten = l := by
      induction l with
      | nil => rfl
      | cons x r ih => simp only [List.map_cons, List.flatten_cons, ih]; rfl
    rw [e]
  · obtain ⟨x, _, rfl⟩ := List.mem_map.mp ht
    cases hf
theorem namesF_len (cell : Int) (many : Nat) : (namesF cell many).length = many := by simp [namesF]
theorem run_tree {G : Tab} {ns : List Int} (hA : AtOk G ns) (hN : ∀ (c : Int) (m : Nat), m ≤ 64 → G.fn 3 [.int c, .int m] = .ok (.ol ((namesF c m).map .str))) (hS : G.fn 5 [.scr ns] = .ok (.sh (.int (secF ns)))) {at_ many : Nat} (hat : at_ < 2 ^ 50) (h1 : 1 ≤ many) (h2 : many ≤ 64) :
    ∃ t : Tr, run G ⟨3, 12, bodyTree, none⟩ [.scr ns, .int at_, .int many] = .ok (.sh t.enc) ∧ TreeOk ns at_ many t := by
  obtain ⟨t, n', k0, k1, k2, k3, k4, e, hF, hsh⟩ := tree_loop (G := G) hA (at_ := at_) (many := many) (dl := namesF (atF ns at_) 3) (names := namesF (secF ns) many) (namesF_len _ _) (by rw [namesF_len]; exact h2) hat none (many - 1) ((namesF (secF ns) many).map Tr.leaf) (at_ + 2) none none none none none (forest_leaves _ _) (by rw [List.length_map, namesF_len]; omega) (by omega) (by omega) whF (by unfold whF; omega)
  refine ⟨t, ?_, ?_⟩
  · rw [run_eq rfl rfl]
    have hn3 : G.fn 3 [.int (atF ns at_), .int 3] = .ok (.ol ((namesF (atF ns at_) 3).map .str)) := hN _ 3 (by decide)
    have ha := hA at_ (by omega)
    have hcast : (at_ : Int) + 2 = ((at_ + 2 : Nat) : Int) := by omega
    have hc : ev G (.comp 11 (.call 3 [(.call 5 [(.var 0)]), (.var 2)]) none (.tup [(.lit (.str [108, 101, 97, 102])), (.var 11)])) [some (.sh (.scr ns)), some (.sh (.int at_)), some (.sh (.int many)), some (.ol ((namesF (atF ns at_) 3).map .str)), none, none, none, none, none, none, none, none] =
        .ok (.ol (((namesF (secF ns) many).map .str).map fun x => .tup [.str kLeaf, x])) [some (.sh (.scr ns)), some (.sh (.int at_)), some (.sh (.int many)), some (.ol ((namesF (atF ns at_) 3).map .str)), none, none, none, none, none, none, none, none] := by
      refine comp_map (d := .lst ((namesF (secF ns) many).map .str)) (o := none) ?_ rfl rfl (fun x hx => ?_) ?_
      · simp -implicitDefEqProofs only [exB_nil, exB_cons, y_pass, y_set, y_unp, y_par, y_sti, y_app, y_rem, y_appc, y_ex, y_ife, y_whl, y_for1, y_forN, y_ret, y_retN, y_rai, y_try, y_tryR, x_var, x_lit, x_bin, x_neg, x_cmp, x_chain, x_chain3, x_cio, x_ciL, x_addv, x_and, x_or, x_not, x_tup, x_lst, x_sub, x_slice, x_call, x_bi, x_meth, x_isi, x_range, x_enum, x_zip, x_zips, c_nes, x_dict, x_ditn, evs, evb, evo, tst, brw, isVar, bor, rd, bd_ok, bd_er, bd_st, of_some, of_none, s_ok, s_er, s_st, sb_nx, sb_rt, sb_er, sb_st, val_sh, val_ol, val_od, val_ot, val_er, val_st, blR_bl, truth_bl, truth_lst, intOf_int, c_eq, c_ne, c_lt, c_le, c_gt, c_ge, c_inn, c_nin, c_isN, c_notN, n_non, n_int, n_str, n_tup, n_lst, b_add, b_sub, bi_max2, bi_min2, bi_intB, bi_intI, bi_lenL, bi_lenT, bi_lenS, bi_listL, bi_listT, bi_strS, sub_lst, sub_tup, sub_scr, sub_dic, slc_lst, slc_tup, atI0, atI1, atI2, atI3, atI4, eqV_int, eqV_bl, isi_int, isi_intb, isi_bl, isi_lst, isi_tup, isi_str, fp_sh, fp_ol, fp_nx, sz_0, sz_1, sz_2, sz_3, sz_4, sz_5, sz_6, sz_7, fp_er, res_ok, res_er, itm_lst, itm_tup, itm_str, env0, moved, Option.map_some, Option.map_none, Option.bind_some, List.getElem?_cons_zero, List.getElem?_cons_succ, List.set_cons_zero, List.set_cons_succ, List.map_cons, List.map_nil, List.cons_append, List.nil_append, List.length_cons, List.length_nil, List.replicate, if_true, if_false, Bool.false_eq_true, reduceIte, Bool.not_true, Bool.not_false, hS, hN _ _ h2]
      · simp -implicitDefEqProofs only [exB_nil, exB_cons, y_pass, y_set, y_unp, y_par, y_sti, y_app, y_rem, y_appc, y_ex, y_ife, y_whl, y_for1, y_forN, y_ret, y_retN, y_rai, y_try, y_tryR, x_var, x_lit, x_bin, x_neg, x_cmp, x_chain, x_chain3, x_cio, x_ciL, x_addv, x_and, x_or, x_not, x_tup, x_lst, x_sub, x_slice, x_call, x_bi, x_meth, x_isi, x_range, x_enum, x_zip, x_zips, c_nes, x_dict, x_ditn, evs, evb, evo, tst, brw, isVar, bor, rd, bd_ok, bd_er, bd_st, of_some, of_none, s_ok, s_er, s_st, sb_nx, sb_rt, sb_er, sb_st, val_sh, val_ol, val_od, val_ot, val_er, val_st, blR_bl, truth_bl, truth_lst, intOf_int, c_eq, c_ne, c_lt, c_le, c_gt, c_ge, c_inn, c_nin, c_isN, c_notN, n_non, n_int, n_str, n_tup, n_lst, b_add, b_sub, bi_max2, bi_min2, bi_intB, bi_intI, bi_lenL, bi_lenT, bi_lenS, bi_listL, bi_listT, bi_strS, sub_lst, sub_tup, sub_scr, sub_dic, slc_lst, slc_tup, atI0, atI1, atI2, atI3, atI4, eqV_int, eqV_bl, isi_int, isi_intb, isi_bl, isi_lst, isi_tup, isi_str, fp_sh, fp_ol, fp_nx, sz_0, sz_1, sz_2, sz_3, sz_4, sz_5, sz_6, sz_7, fp_er, res_ok, res_er, itm_lst, itm_tup, itm_str, env0, moved, Option.map_some, Option.map_none, Option.bind_some, List.getElem?_cons_zero, List.getElem?_cons_succ, List.set_cons_zero, List.set_cons_succ, List.map_cons, List.map_nil, List.cons_append, List.nil_append, List.length_cons, List.length_nil, List.replicate, if_true, if_false, Bool.false_eq_true, reduceIte, Bool.not_true, Bool.not_false]
      · rw [List.length_map, namesF_len]; unfold szL; omega
    rw [List.map_map] at hc
    have e1 : ((fun x => D.tup [.str kLeaf, x]) ∘ D.str) = Tr.enc ∘ Tr.leaf := rfl
    rw [e1, ← List.map_map] at hc
    unfold tEnv at e
    simp -implicitDefEqProofs only [exB_nil, exB_cons, y_pass, y_set, y_unp, y_par, y_sti, y_app, y_rem, y_appc, y_ex, y_ife, y_whl, y_for1, y_forN, y_ret, y_retN, y_rai, y_try, y_tryR, x_var, x_lit, x_bin, x_neg, x_cmp, x_chain, x_chain3, x_cio, x_ciL, x_addv, x_and, x_or, x_not, x_tup, x_lst, x_sub, x_slice, x_call, x_bi, x_meth, x_isi, x_range, x_enum, x_zip, x_zips, c_nes, x_dict, x_ditn, evs, evb, evo, tst, brw, isVar, bor, rd, bd_ok, bd_er, bd_st, of_some, of_none, s_ok, s_er, s_st, sb_nx, sb_rt, sb_er, sb_st, val_sh, val_ol, val_od, val_ot, val_er, val_st, blR_bl, truth_bl, truth_lst, intOf_int, c_eq, c_ne, c_lt, c_le, c_gt, c_ge, c_inn, c_nin, c_isN, c_notN, n_non, n_int, n_str, n_tup, n_lst, b_add, b_sub, bi_max2, bi_min2, bi_intB, bi_intI, bi_lenL, bi_lenT, bi_lenS, bi_listL, bi_listT, bi_strS, sub_lst, sub_tup, sub_scr, sub_dic, slc_lst, slc_tup, atI0, atI1, atI2, atI3, atI4, eqV_int, eqV_bl, isi_int, isi_intb, isi_bl, isi_lst, isi_tup, isi_str, fp_sh, fp_ol, fp_nx, sz_0, sz_1, sz_2, sz_3, sz_4, sz_5, sz_6, sz_7, fp_er, res_ok, res_er, itm_lst, itm_tup, itm_str, env0, moved, Option.map_some, Option.map_none, Option.bind_some, List.getElem?_cons_zero, List.getElem?_cons_succ, List.set_cons_zero, List.set_cons_succ, List.map_cons, List.map_nil, List.cons_append, List.nil_append, List.length_cons, List.length_nil, List.replicate, if_true, if_false, Bool.false_eq_true, reduceIte, Bool.not_true, Bool.not_false, bodyTree, hn3, ha, hc, hcast, e]
  · have hnm : t.names.Perm (namesF (secF ns) many) := by
      have := hF.nm
      simpa using this
    refine ⟨hnm, fun f hf => hF.dd t (by simp) f hf, fun h32 => ?_⟩
    by_cases h24 : 24 < many
    · have h := hsh h24
      have e0 : at_ + 2 - at_ - 2 = 0 := by omega
      have e1 : ((namesF (secF ns) many).map Tr.leaf).map Tr.deep = List.replicate many 1 := by
        have gen : ∀ l : List T, (l.map Tr.leaf).map Tr.deep = List.replicate l.length 1 := by
          intro l
          induction l with
          | nil => rfl
          | cons x r ih => rw [List.map_cons, List.map_cons, ih, List.length_cons, List.replicate_succ]; rfl
        rw [gen, namesF_len]
      rw [e0, e1] at h
      have k := shp_32 (many - 25) (by omega)
      have e2 : many - 25 + 24 = many - 1 := by omega
      have e3 : many - 25 + 25 = many := by omega
      rw [e2, e3, ← h] at k
      simpa using k
    · have h := t.deep_le
      rw [hnm.length_eq, namesF_len] at h
      omega
/-! at a table -/
section
variable {P : List (Nat × Def)} {k : Nat}
theorem atOk_tab (h2 : look 2 P = some ⟨2, 3, bodyAt, none⟩) (ns : List Int) : AtOk (tabOf P (k + 1)) ns := fun j hj => by
  rw [tab_fn h2]
  exact run_at ns j hj
theorem fn_names (h3 : look 3 P = some ⟨2, 7, bodyNames, none⟩) (c : Int) (m : Nat) (hm : m ≤ 64) : (tabOf P (k + 1)).fn 3 [.int c, .int m] = .ok (.ol ((namesF c m).map .str)) := by
  rw [tab_fn h3]
  exact run_names c m hm
theorem fn_many (h2 : look 2 P = some ⟨2, 3, bodyAt, none⟩) (h4 : look 4 P = some ⟨1, 2, bodyMany, none⟩) (ns : List Int) : (tabOf P (k + 2)).fn 4 [.scr ns] = .ok (.sh (.int (manyF ns))) := by
  rw [tab_fn h4]
  exact run_many (atOk_tab h2 ns)
theorem fn_second (h2 : look 2 P = some ⟨2, 3, bodyAt, none⟩) (h5 : look 5 P = some ⟨1, 1, bodySecond, none⟩) (ns : List Int) : (tabOf P (k + 2)).fn 5 [.scr ns] = .ok (.sh (.int (secF ns))) := by
  rw [tab_fn h5]
  exact run_second (atOk_tab h2 ns)
theorem fn_tree (h2 : look 2 P = some ⟨2, 3, bodyAt, none⟩) (h3 : look 3 P = some ⟨2, 7, bodyNames, none⟩) (h5 : look 5 P = some ⟨1, 1, bodySecond, none⟩) (h6 : look 6 P = some ⟨3, 12, bodyTree, none⟩) (ns : List Int) {at_ many : Nat} (hat : at_ < 2 ^ 50) (h1 : 1 ≤ many) (hm : many ≤ 64) :
    ∃ t : Tr, (tabOf P (k + 3)).fn 6 [.scr ns, .int at_, .int many] = .ok (.sh t.enc) ∧ TreeOk ns at_ many t := by
  rw [tab_fn h6]
  exact run_tree (atOk_tab h2 ns) (fun c m hm => fn_names h3 c m hm) (fn_second h2 h5 ns) hat h1 hm
end
end Dl

namespace Dl
/-! ### names -/
theorem forL_retB {step : D → DEnv → SR} {I : DEnv → Prop} {q : D → Option D} : ∀ (xs : List D) (env : DEnv), I env → (∀ x ∈ xs, ∀ env, I env → match q x with | some v => ∃ e, step x env = .rt (.sh v) e | none => ∃ e, step x env = .nx e ∧ I e) →
    match xs.findSome? q with | some v => ∃ e, forL step xs env = .rt (.sh v) e | none => ∃ e, forL step xs env = .nx e ∧ I e
  | [], env, h, _ => ⟨env, rfl, h⟩
  | x :: r, env, h, hs => by
    have h1 := hs x (by simp) env h
    rw [List.findSome?_cons]
    cases hq : q x with
    | some v =>
      rw [hq] at h1
      obtain ⟨e, he⟩ := h1
      exact ⟨e, by rw [forL_cons, he, sb_rt]⟩
    | none =>
      rw [hq] at h1
      obtain ⟨e, he, hi⟩ := h1
      have h2 := forL_retB r e hi fun y hy => hs y (by simp [hy])
      rw [forL_cons, he, sb_nx]
      exact h2
def isNm (s : T) : Bool := decide (1 ≤ s.length ∧ s.length ≤ 8) && s.all fun c => abc.contains c
def bNmL : List S := [.ife (.cmp .nin (.var 1) (.lit (.str [97, 98, 99, 100, 101, 102, 103, 104, 105, 106, 107, 108, 109, 110, 111, 112, 113, 114, 115, 116, 117, 118, 119, 120, 121, 122]))) [.ret (.lit (.bl false))] []]
def bodyNm1 : List S := [.ife (.or (.cmp .lt (.bi .len [(.var 0)]) (.lit (.int 1))) (.cmp .gt (.bi .len [(.var 0)]) (.lit (.int 8)))) [.ret (.lit (.bl false))] [], .for1 1 (.var 0) bNmL, .ret (.lit (.bl true))]
theorem in_str (c : Nat) (y : T) : inD (.str [c]) (.str y) = some (y.contains c) := rfl
theorem run_isname {G : Tab} (s : T) (hs : s.length ≤ szL) : run G ⟨1, 2, bodyNm1, none⟩ [.str s] = .ok (.sh (.bl (isNm s))) := by
  rw [run_eq rfl rfl]
  have hl := bi_lenX s hs
  have habc : ([97, 98, 99, 100, 101, 102, 103, 104, 105, 106, 107, 108, 109, 110, 111, 112, 113, 114, 115, 116, 117, 118, 119, 120, 121, 122] : T) = abc := rfl
  by_cases h1 : 1 ≤ s.length
  · have h1' : decide ((s.length : Int) < 1) = false := decide_eq_false (by omega)
    by_cases h8 : s.length ≤ 8
    · have h8' : decide ((8 : Int) < (s.length : Int)) = false := decide_eq_false (by omega)
      have key := forL_retB (step := fun x env => exB G bNmL (env.set 1 (some (.sh x)))) (I := fun env => ∃ u, env = [some (.sh (.str s)), u]) (q := fun x => match x with | .str [c] => if abc.contains c then none else some (D.bl false) | _ => none) (s.map fun c => .str [c]) [some (.sh (.str s)), none] ⟨none, rfl⟩ (by
        rintro x hx env ⟨u, rfl⟩
        obtain ⟨c, _, rfl⟩ := List.mem_map.mp hx
        have hi := in_str c abc
        cases hc : abc.contains c with
        | true =>
          rw [hc] at hi
          simp only [hc, if_true]
          refine ⟨[some (.sh (.str s)), some (.sh (.str [c]))], ?_, _, rfl⟩
          simp -implicitDefEqProofs only [exB_nil, exB_cons, y_pass, y_set, y_unp, y_par, y_sti, y_app, y_rem, y_appc, y_ex, y_ife, y_whl, y_for1, y_forN, y_ret, y_retN, y_rai, y_try, y_tryR, x_var, x_lit, x_bin, x_neg, x_cmp, x_chain, x_chain3, x_cio, x_ciL, x_addv, x_and, x_or, x_not, x_tup, x_lst, x_sub, x_slice, x_call, x_bi, x_meth, x_isi, x_range, x_enum, x_zip, x_zips, c_nes, x_dict, x_ditn, evs, evb, evo, tst, brw, isVar, bor, rd, bd_ok, bd_er, bd_st, of_some, of_none, s_ok, s_er, s_st, sb_nx, sb_rt, sb_er, sb_st, val_sh, val_ol, val_od, val_ot, val_er, val_st, blR_bl, truth_bl, truth_lst, intOf_int, c_eq, c_ne, c_lt, c_le, c_gt, c_ge, c_inn, c_nin, c_isN, c_notN, n_non, n_int, n_str, n_tup, n_lst, b_add, b_sub, bi_max2, bi_min2, bi_intB, bi_intI, bi_lenL, bi_lenT, bi_lenS, bi_listL, bi_listT, bi_strS, sub_lst, sub_tup, sub_scr, sub_dic, slc_lst, slc_tup, atI0, atI1, atI2, atI3, atI4, eqV_int, eqV_bl, isi_int, isi_intb, isi_bl, isi_lst, isi_tup, isi_str, fp_sh, fp_ol, fp_nx, sz_0, sz_1, sz_2, sz_3, sz_4, sz_5, sz_6, sz_7, fp_er, res_ok, res_er, itm_lst, itm_tup, itm_str, env0, moved, Option.map_some, Option.map_none, Option.bind_some, List.getElem?_cons_zero, List.getElem?_cons_succ, List.set_cons_zero, List.set_cons_succ, List.map_cons, List.map_nil, List.cons_append, List.nil_append, List.length_cons, List.length_nil, List.replicate, if_true, if_false, Bool.false_eq_true, reduceIte, Bool.not_true, Bool.not_false, bNmL, habc, hi]
        | false =>
          rw [hc] at hi
          simp only [hc, Bool.false_eq_true, if_false]
          refine ⟨[some (.sh (.str s)), some (.sh (.str [c]))], ?_⟩
          simp -implicitDefEqProofs only [exB_nil, exB_cons, y_pass, y_set, y_unp, y_par, y_sti, y_app, y_rem, y_appc, y_ex, y_ife, y_whl, y_for1, y_forN, y_ret, y_retN, y_rai, y_try, y_tryR, x_var, x_lit, x_bin, x_neg, x_cmp, x_chain, x_chain3, x_cio, x_ciL, x_addv, x_and, x_or, x_not, x_tup, x_lst, x_sub, x_slice, x_call, x_bi, x_meth, x_isi, x_range, x_enum, x_zip, x_zips, c_nes, x_dict, x_ditn, evs, evb, evo, tst, brw, isVar, bor, rd, bd_ok, bd_er, bd_st, of_some, of_none, s_ok, s_er, s_st, sb_nx, sb_rt, sb_er, sb_st, val_sh, val_ol, val_od, val_ot, val_er, val_st, blR_bl, truth_bl, truth_lst, intOf_int, c_eq, c_ne, c_lt, c_le, c_gt, c_ge, c_inn, c_nin, c_isN, c_notN, n_non, n_int, n_str, n_tup, n_lst, b_add, b_sub, bi_max2, bi_min2, bi_intB, bi_intI, bi_lenL, bi_lenT, bi_lenS, bi_listL, bi_listT, bi_strS, sub_lst, sub_tup, sub_scr, sub_dic, slc_lst, slc_tup, atI0, atI1, atI2, atI3, atI4, eqV_int, eqV_bl, isi_int, isi_intb, isi_bl, isi_lst, isi_tup, isi_str, fp_sh, fp_ol, fp_nx, sz_0, sz_1, sz_2, sz_3, sz_4, sz_5, sz_6, sz_7, fp_er, res_ok, res_er, itm_lst, itm_tup, itm_str, env0, moved, Option.map_some, Option.map_none, Option.bind_some, List.getElem?_cons_zero, List.getElem?_cons_succ, List.set_cons_zero, List.set_cons_succ, List.map_cons, List.map_nil, List.cons_append, List.nil_append, List.length_cons, List.length_nil, List.replicate, if_true, if_false, Bool.false_eq_true, reduceIte, Bool.not_true, Bool.not_false, bNmL, habc, hi])
      have fs : ∀ l : T, (l.map fun c => D.str [c]).findSome? (fun x => match x with | .str [c] => if abc.contains c then none else some (D.bl false) | _ => none) = if (l.all fun c => abc.contains c) = true then none else some (D.bl false) := by
        intro l
        induction l with
        | nil => rfl
        | cons c l ih =>
          rw [List.map_cons, List.findSome?_cons, List.all_cons]
          cases hc : abc.contains c with
          | true => simp only [hc, if_true, Bool.true_and]; exact ih
          | false => simp only [hc, Bool.false_eq_true, if_false, Bool.false_and]
      rw [fs] at key
      have e : isNm s = s.all fun c => abc.contains c := by unfold isNm; rw [decide_eq_true ⟨h1, h8⟩]; rfl
      rw [e]
      cases ha : s.all fun c => abc.contains c with
      | true =>
        rw [ha, if_pos rfl] at key
        obtain ⟨e, key, u, rfl⟩ := key
        simp -implicitDefEqProofs only [exB_nil, exB_cons, y_pass, y_set, y_unp, y_par, y_sti, y_app, y_rem, y_appc, y_ex, y_ife, y_whl, y_for1, y_forN, y_ret, y_retN, y_rai, y_try, y_tryR, x_var, x_lit, x_bin, x_neg, x_cmp, x_chain, x_chain3, x_cio, x_ciL, x_addv, x_and, x_or, x_not, x_tup, x_lst, x_sub, x_slice, x_call, x_bi, x_meth, x_isi, x_range, x_enum, x_zip, x_zips, c_nes, x_dict, x_ditn, evs, evb, evo, tst, brw, isVar, bor, rd, bd_ok, bd_er, bd_st, of_some, of_none, s_ok, s_er, s_st, sb_nx, sb_rt, sb_er, sb_st, val_sh, val_ol, val_od, val_ot, val_er, val_st, blR_bl, truth_bl, truth_lst, intOf_int, c_eq, c_ne, c_lt, c_le, c_gt, c_ge, c_inn, c_nin, c_isN, c_notN, n_non, n_int, n_str, n_tup, n_lst, b_add, b_sub, bi_max2, bi_min2, bi_intB, bi_intI, bi_lenL, bi_lenT, bi_lenS, bi_listL, bi_listT, bi_strS, sub_lst, sub_tup, sub_scr, sub_dic, slc_lst, slc_tup, atI0, atI1, atI2, atI3, atI4, eqV_int, eqV_bl, isi_int, isi_intb, isi_bl, isi_lst, isi_tup, isi_str, fp_sh, fp_ol, fp_nx, sz_0, sz_1, sz_2, sz_3, sz_4, sz_5, sz_6, sz_7, fp_er, res_ok, res_er, itm_lst, itm_tup, itm_str, env0, moved, Option.map_some, Option.map_none, Option.bind_some, List.getElem?_cons_zero, List.getElem?_cons_succ, List.set_cons_zero, List.set_cons_succ, List.map_cons, List.map_nil, List.cons_append, List.nil_append, List.length_cons, List.length_nil, List.replicate, if_true, if_false, Bool.false_eq_true, reduceIte, Bool.not_true, Bool.not_false, bodyNm1, hl, h1', h8', key]
      | false =>
        rw [ha, if_neg Bool.false_ne_true] at key
        obtain ⟨e, key⟩ := key
        simp -implicitDefEqProofs only [exB_nil, exB_cons, y_pass, y_set, y_unp, y_par, y_sti, y_app, y_rem, y_appc, y_ex, y_ife, y_whl, y_for1, y_forN, y_ret, y_retN, y_rai, y_try, y_tryR, x_var, x_lit, x_bin, x_neg, x_cmp, x_chain, x_chain3, x_cio, x_ciL, x_addv, x_and, x_or, x_not, x_tup, x_lst, x_sub, x_slice, x_call, x_bi, x_meth, x_isi, x_range, x_enum, x_zip, x_zips, c_nes, x_dict, x_ditn, evs, evb, evo, tst, brw, isVar, bor, rd, bd_ok, bd_er, bd_st, of_some, of_none, s_ok, s_er, s_st, sb_nx, sb_rt, sb_er, sb_st, val_sh, val_ol, val_od, val_ot, val_er, val_st, blR_bl, truth_bl, truth_lst, intOf_int, c_eq, c_ne, c_lt, c_le, c_gt, c_ge, c_inn, c_nin, c_isN, c_notN, n_non, n_int, n_str, n_tup, n_lst, b_add, b_sub, bi_max2, bi_min2, bi_intB, bi_intI, bi_lenL, bi_lenT, bi_lenS, bi_listL, bi_listT, bi_strS, sub_lst, sub_tup, sub_scr, sub_dic, slc_lst, slc_tup, atI0, atI1, atI2, atI3, atI4, eqV_int, eqV_bl, isi_int, isi_intb, isi_bl, isi_lst, isi_tup, isi_str, fp_sh, fp_ol, fp_nx, sz_0, sz_1, sz_2, sz_3, sz_4, sz_5, sz_6, sz_7, fp_er, res_ok, res_er, itm_lst, itm_tup, itm_str, env0, moved, Option.map_some, Option.map_none, Option.bind_some, List.getElem?_cons_zero, List.getElem?_cons_succ, List.set_cons_zero, List.set_cons_succ, List.map_cons, List.map_nil, List.cons_append, List.nil_append, List.length_cons, List.length_nil, List.replicate, if_true, if_false, Bool.false_eq_true, reduceIte, Bool.not_true, Bool.not_false, bodyNm1, hl, h1', h8', key]
    · have h8' : decide ((8 : Int) < (s.length : Int)) = true := decide_eq_true (by omega)
      have e : isNm s = false := by unfold isNm; rw [decide_eq_false (fun z => h8 z.2)]; rfl
      rw [e]
      simp -implicitDefEqProofs only [exB_nil, exB_cons, y_pass, y_set, y_unp, y_par, y_sti, y_app, y_rem, y_appc, y_ex, y_ife, y_whl, y_for1, y_forN, y_ret, y_retN, y_rai, y_try, y_tryR, x_var, x_lit, x_bin, x_neg, x_cmp, x_chain, x_chain3, x_cio, x_ciL, x_addv, x_and, x_or, x_not, x_tup, x_lst, x_sub, x_slice, x_call, x_bi, x_meth, x_isi, x_range, x_enum, x_zip, x_zips, c_nes, x_dict, x_ditn, evs, evb, evo, tst, brw, isVar, bor, rd, bd_ok, bd_er, bd_st, of_some, of_none, s_ok, s_er, s_st, sb_nx, sb_rt, sb_er, sb_st, val_sh, val_ol, val_od, val_ot, val_er, val_st, blR_bl, truth_bl, truth_lst, intOf_int, c_eq, c_ne, c_lt, c_le, c_gt, c_ge, c_inn, c_nin, c_isN, c_notN, n_non, n_int, n_str, n_tup, n_lst, b_add, b_sub, bi_max2, bi_min2, bi_intB, bi_intI, bi_lenL, bi_lenT, bi_lenS, bi_listL, bi_listT, bi_strS, sub_lst, sub_tup, sub_scr, sub_dic, slc_lst, slc_tup, atI0, atI1, atI2, atI3, atI4, eqV_int, eqV_bl, isi_int, isi_intb, isi_bl, isi_lst, isi_tup, isi_str, fp_sh, fp_ol, fp_nx, sz_0, sz_1, sz_2, sz_3, sz_4, sz_5, sz_6, sz_7, fp_er, res_ok, res_er, itm_lst, itm_tup, itm_str, env0, moved, Option.map_some, Option.map_none, Option.bind_some, List.getElem?_cons_zero, List.getElem?_cons_succ, List.set_cons_zero, List.set_cons_succ, List.map_cons, List.map_nil, List.cons_append, List.nil_append, List.length_cons, List.length_nil, List.replicate, if_true, if_false, Bool.false_eq_true, reduceIte, Bool.not_true, Bool.not_false, bodyNm1, hl, h1', h8']
  · have h1' : decide ((s.length : Int) < 1) = true := decide_eq_true (by omega)
    have e : isNm s = false := by unfold isNm; rw [decide_eq_false (fun z => h1 z.1)]; rfl
    rw [e]
    simp -implicitDefEqProofs only [exB_nil, exB_cons, y_pass, y_set, y_unp, y_par, y_sti, y_app, y_rem, y_appc, y_ex, y_ife, y_whl, y_for1, y_forN, y_ret, y_retN, y_rai, y_try, y_tryR, x_var, x_lit, x_bin, x_neg, x_cmp, x_chain, x_chain3, x_cio, x_ciL, x_addv, x_and, x_or, x_not, x_tup, x_lst, x_sub, x_slice, x_call, x_bi, x_meth, x_isi, x_range, x_enum, x_zip, x_zips, c_nes, x_dict, x_ditn, evs, evb, evo, tst, brw, isVar, bor, rd, bd_ok, bd_er, bd_st, of_some, of_none, s_ok, s_er, s_st, sb_nx, sb_rt, sb_er, sb_st, val_sh, val_ol, val_od, val_ot, val_er, val_st, blR_bl, truth_bl, truth_lst, intOf_int, c_eq, c_ne, c_lt, c_le, c_gt, c_ge, c_inn, c_nin, c_isN, c_notN, n_non, n_int, n_str, n_tup, n_lst, b_add, b_sub, bi_max2, bi_min2, bi_intB, bi_intI, bi_lenL, bi_lenT, bi_lenS, bi_listL, bi_listT, bi_strS, sub_lst, sub_tup, sub_scr, sub_dic, slc_lst, slc_tup, atI0, atI1, atI2, atI3, atI4, eqV_int, eqV_bl, isi_int, isi_intb, isi_bl, isi_lst, isi_tup, isi_str, fp_sh, fp_ol, fp_nx, sz_0, sz_1, sz_2, sz_3, sz_4, sz_5, sz_6, sz_7, fp_er, res_ok, res_er, itm_lst, itm_tup, itm_str, env0, moved, Option.map_some, Option.map_none, Option.bind_some, List.getElem?_cons_zero, List.getElem?_cons_succ, List.set_cons_zero, List.set_cons_succ, List.map_cons, List.map_nil, List.cons_append, List.nil_append, List.length_cons, List.length_nil, List.replicate, if_true, if_false, Bool.false_eq_true, reduceIte, Bool.not_true, Bool.not_false, bodyNm1, hl, h1']
end Dl

namespace Dl
/-! ### places and parts -/
def bI (b : Bool) : Int := if b then 1 else 0
def pl (p : List Bool) : D := .tup (p.map fun b => .int (bI b))
def Tr.places : Tr → List (List Bool)
  | .leaf _ => [[]]
  | .knot _ l r => [] :: (l.places.map (false :: ·) ++ r.places.map (true :: ·))
def Tr.part : Tr → List Bool → Option Tr
  | t, [] => some t
  | .leaf _, _ :: _ => none
  | .knot _ l r, b :: p => (if b then r else l).part p
theorem part_nil (t : Tr) : t.part [] = some t := by cases t <;> rfl
theorem part_of {t : Tr} : ∀ p ∈ t.places, ∃ u, t.part p = some u := by
  induction t with
  | leaf x => intro p hp; simp only [Tr.places, List.mem_singleton] at hp; subst hp; exact ⟨_, part_nil _⟩
  | knot f l r h1 h2 =>
    intro p hp
    simp only [Tr.places, List.mem_cons, List.mem_append, List.mem_map] at hp
    rcases hp with rfl | ⟨q, hq, rfl⟩ | ⟨q, hq, rfl⟩
    · exact ⟨_, part_nil _⟩
    · exact h1 q hq
    · exact h2 q hq
theorem places_len (t : Tr) : t.places.length + 1 = 2 * t.names.length := by
  induction t with
  | leaf x => rfl
  | knot f l r h1 h2 => simp only [Tr.places, Tr.names, List.length_cons, List.length_append, List.length_map]; omega
theorem place_len {t : Tr} : ∀ p ∈ t.places, p.length + 1 ≤ t.deep := by
  induction t with
  | leaf x => intro p hp; simp only [Tr.places, List.mem_singleton] at hp; subst hp; simp [Tr.deep]
  | knot f l r h1 h2 =>
    intro p hp
    simp only [Tr.places, List.mem_cons, List.mem_append, List.mem_map] at hp
    simp only [Tr.deep]
    rcases hp with rfl | ⟨q, hq, rfl⟩ | ⟨q, hq, rfl⟩
    · simp only [List.length_nil]; omega
    · have := h1 q hq; simp only [List.length_cons]; omega
    · have := h2 q hq; simp only [List.length_cons]; omega
def bodyPlaces : List S := [.ife (.cmp .eq (.sub (.var 0) (.lit (.int 0))) (.lit (.str [108, 101, 97, 102]))) [.ret (.lst [(.tup [])])] [], .set 1 (.comp 2 (.call 10 [(.sub (.var 0) (.lit (.int 2)))]) none (.bin .add (.tup [(.lit (.int 0))]) (.var 2))), .ret (.bin .add (.bin .add (.lst [(.tup [])]) (.var 1)) (.comp 2 (.call 10 [(.sub (.var 0) (.lit (.int 3)))]) none (.bin .add (.tup [(.lit (.int 1))]) (.var 2))))]
theorem pl_cons (b : Bool) (p : List Bool) (h : p.length < 1000) : binD .add (.tup [.int (bI b)]) (pl p) = some (.sh (pl (b :: p))) := by
  unfold pl
  rw [b_addT _ _ (by simp only [List.length_map, List.length_cons, List.length_nil, szL]; omega)]
  rfl
theorem run_places {G : Tab} (t : Tr) (hn : t.names.length ≤ 900) (hl : ∀ u : Tr, u.deep < t.deep → u.names.length ≤ t.names.length → G.fn 10 [u.enc] = .ok (.ol (u.places.map pl))) : run G ⟨1, 3, bodyPlaces, none⟩ [t.enc] = .ok (.ol (t.places.map pl)) := by
  rw [run_eq rfl rfl]
  cases t with
  | leaf x => simp -implicitDefEqProofs only [exB_nil, exB_cons, y_pass, y_set, y_unp, y_par, y_sti, y_app, y_rem, y_appc, y_ex, y_ife, y_whl, y_for1, y_forN, y_ret, y_retN, y_rai, y_try, y_tryR, x_var, x_lit, x_bin, x_neg, x_cmp, x_chain, x_chain3, x_cio, x_ciL, x_addv, x_and, x_or, x_not, x_tup, x_lst, x_sub, x_slice, x_call, x_bi, x_meth, x_isi, x_range, x_enum, x_zip, x_zips, c_nes, x_dict, x_ditn, evs, evb, evo, tst, brw, isVar, bor, rd, bd_ok, bd_er, bd_st, of_some, of_none, s_ok, s_er, s_st, sb_nx, sb_rt, sb_er, sb_st, val_sh, val_ol, val_od, val_ot, val_er, val_st, blR_bl, truth_bl, truth_lst, intOf_int, c_eq, c_ne, c_lt, c_le, c_gt, c_ge, c_inn, c_nin, c_isN, c_notN, n_non, n_int, n_str, n_tup, n_lst, b_add, b_sub, bi_max2, bi_min2, bi_intB, bi_intI, bi_lenL, bi_lenT, bi_lenS, bi_listL, bi_listT, bi_strS, sub_lst, sub_tup, sub_scr, sub_dic, slc_lst, slc_tup, atI0, atI1, atI2, atI3, atI4, eqV_int, eqV_bl, isi_int, isi_intb, isi_bl, isi_lst, isi_tup, isi_str, fp_sh, fp_ol, fp_nx, sz_0, sz_1, sz_2, sz_3, sz_4, sz_5, sz_6, sz_7, fp_er, res_ok, res_er, itm_lst, itm_tup, itm_str, env0, moved, Option.map_some, Option.map_none, Option.bind_some, List.getElem?_cons_zero, List.getElem?_cons_succ, List.set_cons_zero, List.set_cons_succ, List.map_cons, List.map_nil, List.cons_append, List.nil_append, List.length_cons, List.length_nil, List.replicate, if_true, if_false, Bool.false_eq_true, reduceIte, Bool.not_true, Bool.not_false, bodyPlaces, sub_leaf, eqV_ll, Tr.places, pl]
  | knot f l r =>
    have h1 := hl l (by simp only [Tr.deep]; omega) (by simp only [Tr.names, List.length_append]; omega)
    have h2 := hl r (by simp only [Tr.deep]; omega) (by simp only [Tr.names, List.length_append]; omega)
    have hd := (Tr.knot f l r).deep_le
    simp only [Tr.names, List.length_append] at hn hd
    have pl1 := places_len l
    have pl2 := places_len r
    have c1 : ev G (.comp 2 (.call 10 [(.sub (.var 0) (.lit (.int 2)))]) none (.bin .add (.tup [(.lit (.int 0))]) (.var 2))) [some (.sh (Tr.knot f l r).enc), none, none] = .ok (.ol ((l.places.map (false :: ·)).map pl)) [some (.sh (Tr.knot f l r).enc), none, none] := by
      have e := comp_map (G := G) (s := 2) (it := .call 10 [(.sub (.var 0) (.lit (.int 2)))]) (elt := .bin .add (.tup [(.lit (.int 0))]) (.var 2)) (env := [some (.sh (Tr.knot f l r).enc), none, none]) (env1 := [some (.sh (Tr.knot f l r).enc), none, none]) (d := .lst (l.places.map pl)) (xs := l.places.map pl) (o := none) (f := fun x => match x with | .tup y => .tup (.int 0 :: y) | _ => x) (by simp -implicitDefEqProofs only [exB_nil, exB_cons, y_pass, y_set, y_unp, y_par, y_sti, y_app, y_rem, y_appc, y_ex, y_ife, y_whl, y_for1, y_forN, y_ret, y_retN, y_rai, y_try, y_tryR, x_var, x_lit, x_bin, x_neg, x_cmp, x_chain, x_chain3, x_cio, x_ciL, x_addv, x_and, x_or, x_not, x_tup, x_lst, x_sub, x_slice, x_call, x_bi, x_meth, x_isi, x_range, x_enum, x_zip, x_zips, c_nes, x_dict, x_ditn, evs, evb, evo, tst, brw, isVar, bor, rd, bd_ok, bd_er, bd_st, of_some, of_none, s_ok, s_er, s_st, sb_nx, sb_rt, sb_er, sb_st, val_sh, val_ol, val_od, val_ot, val_er, val_st, blR_bl, truth_bl, truth_lst, intOf_int, c_eq, c_ne, c_lt, c_le, c_gt, c_ge, c_inn, c_nin, c_isN, c_notN, n_non, n_int, n_str, n_tup, n_lst, b_add, b_sub, bi_max2, bi_min2, bi_intB, bi_intI, bi_lenL, bi_lenT, bi_lenS, bi_listL, bi_listT, bi_strS, sub_lst, sub_tup, sub_scr, sub_dic, slc_lst, slc_tup, atI0, atI1, atI2, atI3, atI4, eqV_int, eqV_bl, isi_int, isi_intb, isi_bl, isi_lst, isi_tup, isi_str, fp_sh, fp_ol, fp_nx, sz_0, sz_1, sz_2, sz_3, sz_4, sz_5, sz_6, sz_7, fp_er, res_ok, res_er, itm_lst, itm_tup, itm_str, env0, moved, Option.map_some, Option.map_none, Option.bind_some, List.getElem?_cons_zero, List.getElem?_cons_succ, List.set_cons_zero, List.set_cons_succ, List.map_cons, List.map_nil, List.cons_append, List.nil_append, List.length_cons, List.length_nil, List.replicate, if_true, if_false, Bool.false_eq_true, reduceIte, Bool.not_true, Bool.not_false, sub_knot2, h1]) rfl rfl (fun x hx => by
        obtain ⟨p, hp, rfl⟩ := List.mem_map.mp hx
        have := place_len p hp
        have hdl := l.deep_le
        have ec := pl_cons false p (by omega)
        have ec : binD .add (.tup [.int 0]) (pl p) = some (.sh (pl (false :: p))) := ec
        simp -implicitDefEqProofs only [exB_nil, exB_cons, y_pass, y_set, y_unp, y_par, y_sti, y_app, y_rem, y_appc, y_ex, y_ife, y_whl, y_for1, y_forN, y_ret, y_retN, y_rai, y_try, y_tryR, x_var, x_lit, x_bin, x_neg, x_cmp, x_chain, x_chain3, x_cio, x_ciL, x_addv, x_and, x_or, x_not, x_tup, x_lst, x_sub, x_slice, x_call, x_bi, x_meth, x_isi, x_range, x_enum, x_zip, x_zips, c_nes, x_dict, x_ditn, evs, evb, evo, tst, brw, isVar, bor, rd, bd_ok, bd_er, bd_st, of_some, of_none, s_ok, s_er, s_st, sb_nx, sb_rt, sb_er, sb_st, val_sh, val_ol, val_od, val_ot, val_er, val_st, blR_bl, truth_bl, truth_lst, intOf_int, c_eq, c_ne, c_lt, c_le, c_gt, c_ge, c_inn, c_nin, c_isN, c_notN, n_non, n_int, n_str, n_tup, n_lst, b_add, b_sub, bi_max2, bi_min2, bi_intB, bi_intI, bi_lenL, bi_lenT, bi_lenS, bi_listL, bi_listT, bi_strS, sub_lst, sub_tup, sub_scr, sub_dic, slc_lst, slc_tup, atI0, atI1, atI2, atI3, atI4, eqV_int, eqV_bl, isi_int, isi_intb, isi_bl, isi_lst, isi_tup, isi_str, fp_sh, fp_ol, fp_nx, sz_0, sz_1, sz_2, sz_3, sz_4, sz_5, sz_6, sz_7, fp_er, res_ok, res_er, itm_lst, itm_tup, itm_str, env0, moved, Option.map_some, Option.map_none, Option.bind_some, List.getElem?_cons_zero, List.getElem?_cons_succ, List.set_cons_zero, List.set_cons_succ, List.map_cons, List.map_nil, List.cons_append, List.nil_append, List.length_cons, List.length_nil, List.replicate, if_true, if_false, Bool.false_eq_true, reduceIte, Bool.not_true, Bool.not_false, ec]
        rfl) (by rw [List.length_map]; unfold szL; omega)
      rw [e, List.map_map, List.map_map]
      rfl
    have c2 : ∀ X : List D, ev G (.comp 2 (.call 10 [(.sub (.var 0) (.lit (.int 3)))]) none (.bin .add (.tup [(.lit (.int 1))]) (.var 2))) [some (.sh (Tr.knot f l r).enc), some (.ol X), none] = .ok (.ol ((r.places.map (true :: ·)).map pl)) [some (.sh (Tr.knot f l r).enc), some (.ol X), none] := fun X => by
      have e := comp_map (G := G) (s := 2) (it := .call 10 [(.sub (.var 0) (.lit (.int 3)))]) (elt := .bin .add (.tup [(.lit (.int 1))]) (.var 2)) (env := [some (.sh (Tr.knot f l r).enc), some (.ol X), none]) (env1 := [some (.sh (Tr.knot f l r).enc), some (.ol X), none]) (d := .lst (r.places.map pl)) (xs := r.places.map pl) (o := none) (f := fun x => match x with | .tup y => .tup (.int 1 :: y) | _ => x) (by simp -implicitDefEqProofs only [exB_nil, exB_cons, y_pass, y_set, y_unp, y_par, y_sti, y_app, y_rem, y_appc, y_ex, y_ife, y_whl, y_for1, y_forN, y_ret, y_retN, y_rai, y_try, y_tryR, x_var, x_lit, x_bin, x_neg, x_cmp, x_chain, x_chain3, x_cio, x_ciL, x_addv, x_and, x_or, x_not, x_tup, x_lst, x_sub, x_slice, x_call, x_bi, x_meth, x_isi, x_range, x_enum, x_zip, x_zips, c_nes, x_dict, x_ditn, evs, evb, evo, tst, brw, isVar, bor, rd, bd_ok, bd_er, bd_st, of_some, of_none, s_ok, s_er, s_st, sb_nx, sb_rt, sb_er, sb_st, val_sh, val_ol, val_od, val_ot, val_er, val_st, blR_bl, truth_bl, truth_lst, intOf_int, c_eq, c_ne, c_lt, c_le, c_gt, c_ge, c_inn, c_nin, c_isN, c_notN, n_non, n_int, n_str, n_tup, n_lst, b_add, b_sub, bi_max2, bi_min2, bi_intB, bi_intI, bi_lenL, bi_lenT, bi_lenS, bi_listL, bi_listT, bi_strS, sub_lst, sub_tup, sub_scr, sub_dic, slc_lst, slc_tup, atI0, atI1, atI2, atI3, atI4, eqV_int, eqV_bl, isi_int, isi_intb, isi_bl, isi_lst, isi_tup, isi_str, fp_sh, fp_ol, fp_nx, sz_0, sz_1, sz_2, sz_3, sz_4, sz_5, sz_6, sz_7, fp_er, res_ok, res_er, itm_lst, itm_tup, itm_str, env0, moved, Option.map_some, Option.map_none, Option.bind_some, List.getElem?_cons_zero, List.getElem?_cons_succ, List.set_cons_zero, List.set_cons_succ, List.map_cons, List.map_nil, List.cons_append, List.nil_append, List.length_cons, List.length_nil, List.replicate, if_true, if_false, Bool.false_eq_true, reduceIte, Bool.not_true, Bool.not_false, sub_knot3, h2]) rfl rfl (fun x hx => by
        obtain ⟨p, hp, rfl⟩ := List.mem_map.mp hx
        have := place_len p hp
        have hdl := r.deep_le
        have ec := pl_cons true p (by omega)
        have ec : binD .add (.tup [.int 1]) (pl p) = some (.sh (pl (true :: p))) := ec
        simp -implicitDefEqProofs only [exB_nil, exB_cons, y_pass, y_set, y_unp, y_par, y_sti, y_app, y_rem, y_appc, y_ex, y_ife, y_whl, y_for1, y_forN, y_ret, y_retN, y_rai, y_try, y_tryR, x_var, x_lit, x_bin, x_neg, x_cmp, x_chain, x_chain3, x_cio, x_ciL, x_addv, x_and, x_or, x_not, x_tup, x_lst, x_sub, x_slice, x_call, x_bi, x_meth, x_isi, x_range, x_enum, x_zip, x_zips, c_nes, x_dict, x_ditn, evs, evb, evo, tst, brw, isVar, bor, rd, bd_ok, bd_er, bd_st, of_some, of_none, s_ok, s_er, s_st, sb_nx, sb_rt, sb_er, sb_st, val_sh, val_ol, val_od, val_ot, val_er, val_st, blR_bl, truth_bl, truth_lst, intOf_int, c_eq, c_ne, c_lt, c_le, c_gt, c_ge, c_inn, c_nin, c_isN, c_notN, n_non, n_int, n_str, n_tup, n_lst, b_add, b_sub, bi_max2, bi_min2, bi_intB, bi_intI, bi_lenL, bi_lenT, bi_lenS, bi_listL, bi_listT, bi_strS, sub_lst, sub_tup, sub_scr, sub_dic, slc_lst, slc_tup, atI0, atI1, atI2, atI3, atI4, eqV_int, eqV_bl, isi_int, isi_intb, isi_bl, isi_lst, isi_tup, isi_str, fp_sh, fp_ol, fp_nx, sz_0, sz_1, sz_2, sz_3, sz_4, sz_5, sz_6, sz_7, fp_er, res_ok, res_er, itm_lst, itm_tup, itm_str, env0, moved, Option.map_some, Option.map_none, Option.bind_some, List.getElem?_cons_zero, List.getElem?_cons_succ, List.set_cons_zero, List.set_cons_succ, List.map_cons, List.map_nil, List.cons_append, List.nil_append, List.length_cons, List.length_nil, List.replicate, if_true, if_false, Bool.false_eq_true, reduceIte, Bool.not_true, Bool.not_false, ec]
        rfl) (by rw [List.length_map]; unfold szL; omega)
      rw [e, List.map_map, List.map_map]
      rfl
    have a1 : binD .add (.lst [.tup []]) (.lst ((l.places.map (false :: ·)).map pl)) = some (.ol ([.tup []] ++ (l.places.map (false :: ·)).map pl)) := b_addL _ _ (by simp only [List.length_map, List.length_cons, List.length_nil, szL]; omega)
    have a2 : binD .add (.lst ([.tup []] ++ (l.places.map (false :: ·)).map pl)) (.lst ((r.places.map (true :: ·)).map pl)) = some (.ol ([.tup []] ++ (l.places.map (false :: ·)).map pl ++ (r.places.map (true :: ·)).map pl)) := b_addL _ _ (by simp only [List.length_append, List.length_map, List.length_cons, List.length_nil, szL]; omega)
    simp only [List.cons_append, List.nil_append] at a1 a2
    have e0 : (Tr.knot f l r).places.map pl = .tup [] :: ((l.places.map (false :: ·)).map pl ++ (r.places.map (true :: ·)).map pl) := by
      simp only [Tr.places, List.map_cons, List.map_append]
      rfl
    rw [e0]
    simp -implicitDefEqProofs only [exB_nil, exB_cons, y_pass, y_set, y_unp, y_par, y_sti, y_app, y_rem, y_appc, y_ex, y_ife, y_whl, y_for1, y_forN, y_ret, y_retN, y_rai, y_try, y_tryR, x_var, x_lit, x_bin, x_neg, x_cmp, x_chain, x_chain3, x_cio, x_ciL, x_addv, x_and, x_or, x_not, x_tup, x_lst, x_sub, x_slice, x_call, x_bi, x_meth, x_isi, x_range, x_enum, x_zip, x_zips, c_nes, x_dict, x_ditn, evs, evb, evo, tst, brw, isVar, bor, rd, bd_ok, bd_er, bd_st, of_some, of_none, s_ok, s_er, s_st, sb_nx, sb_rt, sb_er, sb_st, val_sh, val_ol, val_od, val_ot, val_er, val_st, blR_bl, truth_bl, truth_lst, intOf_int, c_eq, c_ne, c_lt, c_le, c_gt, c_ge, c_inn, c_nin, c_isN, c_notN, n_non, n_int, n_str, n_tup, n_lst, b_add, b_sub, bi_max2, bi_min2, bi_intB, bi_intI, bi_lenL, bi_lenT, bi_lenS, bi_listL, bi_listT, bi_strS, sub_lst, sub_tup, sub_scr, sub_dic, slc_lst, slc_tup, atI0, atI1, atI2, atI3, atI4, eqV_int, eqV_bl, isi_int, isi_intb, isi_bl, isi_lst, isi_tup, isi_str, fp_sh, fp_ol, fp_nx, sz_0, sz_1, sz_2, sz_3, sz_4, sz_5, sz_6, sz_7, fp_er, res_ok, res_er, itm_lst, itm_tup, itm_str, env0, moved, Option.map_some, Option.map_none, Option.bind_some, List.getElem?_cons_zero, List.getElem?_cons_succ, List.set_cons_zero, List.set_cons_succ, List.map_cons, List.map_nil, List.cons_append, List.nil_append, List.length_cons, List.length_nil, List.replicate, if_true, if_false, Bool.false_eq_true, reduceIte, Bool.not_true, Bool.not_false, bodyPlaces, sub_knot, eqV_kk, c1, c2, a1, a2]
theorem fn_places {P : List (Nat × Def)} (hP : look 10 P = some ⟨1, 3, bodyPlaces, none⟩) : ∀ (k : Nat) (t : Tr), t.deep ≤ k → t.names.length ≤ 900 → (tabOf P k).fn 10 [t.enc] = .ok (.ol (t.places.map pl))
  | 0, t, h, _ => by have := t.deep_le; cases t <;> simp only [Tr.deep] at h <;> omega
  | k + 1, t, h, hn => by
    rw [tab_fn hP]
    exact run_places t hn fun u hu hun => fn_places hP k u (by omega) (by omega)
def bodyPartL : List S := [.set 0 (.sub (.var 0) (.bin .add (.lit (.int 2)) (.var 2)))]
def bodyPart : List S := [.for1 2 (.var 1) bodyPartL, .ret (.var 0)]
theorem run_part {G : Tab} (t u : Tr) (p : List Bool) (h : t.part p = some u) : run G ⟨2, 3, bodyPart, none⟩ [t.enc, pl p] = .ok (.sh u.enc) := by
  have key : ∀ (p : List Bool) (t : Tr) (v : D) (w : Option DV), t.part p = some u → ∃ w', forL (fun x env => exB G bodyPartL (env.set 2 (some (.sh x)))) (p.map fun b => .int (bI b)) [some (.sh t.enc), some (.sh v), w] = .nx [some (.sh u.enc), some (.sh v), w'] := by
    intro p
    induction p with
    | nil => intro t v w h; rw [part_nil] at h; cases h; exact ⟨w, rfl⟩
    | cons b p ih =>
      intro t v w h
      cases t with
      | leaf x => cases h
      | knot f l r =>
        obtain ⟨w', e⟩ := ih (if b then r else l) v (some (.sh (.int (bI b)))) h
        refine ⟨w', ?_⟩
        rw [List.map_cons, forL_cons]
        have st : exB G bodyPartL ([some (.sh (Tr.knot f l r).enc), some (.sh v), w].set 2 (some (.sh (.int (bI b))))) = .nx [some (.sh (if b then r else l).enc), some (.sh v), some (.sh (.int (bI b)))] := by
          cases b with
          | true =>
            have e3 : (2 : Int) + bI true = 3 := rfl
            simp -implicitDefEqProofs only [exB_nil, exB_cons, y_pass, y_set, y_unp, y_par, y_sti, y_app, y_rem, y_appc, y_ex, y_ife, y_whl, y_for1, y_forN, y_ret, y_retN, y_rai, y_try, y_tryR, x_var, x_lit, x_bin, x_neg, x_cmp, x_chain, x_chain3, x_cio, x_ciL, x_addv, x_and, x_or, x_not, x_tup, x_lst, x_sub, x_slice, x_call, x_bi, x_meth, x_isi, x_range, x_enum, x_zip, x_zips, c_nes, x_dict, x_ditn, evs, evb, evo, tst, brw, isVar, bor, rd, bd_ok, bd_er, bd_st, of_some, of_none, s_ok, s_er, s_st, sb_nx, sb_rt, sb_er, sb_st, val_sh, val_ol, val_od, val_ot, val_er, val_st, blR_bl, truth_bl, truth_lst, intOf_int, c_eq, c_ne, c_lt, c_le, c_gt, c_ge, c_inn, c_nin, c_isN, c_notN, n_non, n_int, n_str, n_tup, n_lst, b_add, b_sub, bi_max2, bi_min2, bi_intB, bi_intI, bi_lenL, bi_lenT, bi_lenS, bi_listL, bi_listT, bi_strS, sub_lst, sub_tup, sub_scr, sub_dic, slc_lst, slc_tup, atI0, atI1, atI2, atI3, atI4, eqV_int, eqV_bl, isi_int, isi_intb, isi_bl, isi_lst, isi_tup, isi_str, fp_sh, fp_ol, fp_nx, sz_0, sz_1, sz_2, sz_3, sz_4, sz_5, sz_6, sz_7, fp_er, res_ok, res_er, itm_lst, itm_tup, itm_str, env0, moved, Option.map_some, Option.map_none, Option.bind_some, List.getElem?_cons_zero, List.getElem?_cons_succ, List.set_cons_zero, List.set_cons_succ, List.map_cons, List.map_nil, List.cons_append, List.nil_append, List.length_cons, List.length_nil, List.replicate, if_true, if_false, Bool.false_eq_true, reduceIte, Bool.not_true, Bool.not_false, e3, sub_knot3, bodyPartL]
          | false =>
            have e3 : (2 : Int) + bI false = 2 := rfl
            simp -implicitDefEqProofs only [exB_nil, exB_cons, y_pass, y_set, y_unp, y_par, y_sti, y_app, y_rem, y_appc, y_ex, y_ife, y_whl, y_for1, y_forN, y_ret, y_retN, y_rai, y_try, y_tryR, x_var, x_lit, x_bin, x_neg, x_cmp, x_chain, x_chain3, x_cio, x_ciL, x_addv, x_and, x_or, x_not, x_tup, x_lst, x_sub, x_slice, x_call, x_bi, x_meth, x_isi, x_range, x_enum, x_zip, x_zips, c_nes, x_dict, x_ditn, evs, evb, evo, tst, brw, isVar, bor, rd, bd_ok, bd_er, bd_st, of_some, of_none, s_ok, s_er, s_st, sb_nx, sb_rt, sb_er, sb_st, val_sh, val_ol, val_od, val_ot, val_er, val_st, blR_bl, truth_bl, truth_lst, intOf_int, c_eq, c_ne, c_lt, c_le, c_gt, c_ge, c_inn, c_nin, c_isN, c_notN, n_non, n_int, n_str, n_tup, n_lst, b_add, b_sub, bi_max2, bi_min2, bi_intB, bi_intI, bi_lenL, bi_lenT, bi_lenS, bi_listL, bi_listT, bi_strS, sub_lst, sub_tup, sub_scr, sub_dic, slc_lst, slc_tup, atI0, atI1, atI2, atI3, atI4, eqV_int, eqV_bl, isi_int, isi_intb, isi_bl, isi_lst, isi_tup, isi_str, fp_sh, fp_ol, fp_nx, sz_0, sz_1, sz_2, sz_3, sz_4, sz_5, sz_6, sz_7, fp_er, res_ok, res_er, itm_lst, itm_tup, itm_str, env0, moved, Option.map_some, Option.map_none, Option.bind_some, List.getElem?_cons_zero, List.getElem?_cons_succ, List.set_cons_zero, List.set_cons_succ, List.map_cons, List.map_nil, List.cons_append, List.nil_append, List.length_cons, List.length_nil, List.replicate, if_true, if_false, Bool.false_eq_true, reduceIte, Bool.not_true, Bool.not_false, e3, sub_knot2, bodyPartL]
        rw [st]
        exact e
  obtain ⟨w', e⟩ := key p t (pl p) none h
  rw [run_eq rfl rfl]
  have ei : itemsD (pl p) = some (p.map fun b => .int (bI b)) := rfl
  simp -implicitDefEqProofs only [exB_nil, exB_cons, y_pass, y_set, y_unp, y_par, y_sti, y_app, y_rem, y_appc, y_ex, y_ife, y_whl, y_for1, y_forN, y_ret, y_retN, y_rai, y_try, y_tryR, x_var, x_lit, x_bin, x_neg, x_cmp, x_chain, x_chain3, x_cio, x_ciL, x_addv, x_and, x_or, x_not, x_tup, x_lst, x_sub, x_slice, x_call, x_bi, x_meth, x_isi, x_range, x_enum, x_zip, x_zips, c_nes, x_dict, x_ditn, evs, evb, evo, tst, brw, isVar, bor, rd, bd_ok, bd_er, bd_st, of_some, of_none, s_ok, s_er, s_st, sb_nx, sb_rt, sb_er, sb_st, val_sh, val_ol, val_od, val_ot, val_er, val_st, blR_bl, truth_bl, truth_lst, intOf_int, c_eq, c_ne, c_lt, c_le, c_gt, c_ge, c_inn, c_nin, c_isN, c_notN, n_non, n_int, n_str, n_tup, n_lst, b_add, b_sub, bi_max2, bi_min2, bi_intB, bi_intI, bi_lenL, bi_lenT, bi_lenS, bi_listL, bi_listT, bi_strS, sub_lst, sub_tup, sub_scr, sub_dic, slc_lst, slc_tup, atI0, atI1, atI2, atI3, atI4, eqV_int, eqV_bl, isi_int, isi_intb, isi_bl, isi_lst, isi_tup, isi_str, fp_sh, fp_ol, fp_nx, sz_0, sz_1, sz_2, sz_3, sz_4, sz_5, sz_6, sz_7, fp_er, res_ok, res_er, itm_lst, itm_tup, itm_str, env0, moved, Option.map_some, Option.map_none, Option.bind_some, List.getElem?_cons_zero, List.getElem?_cons_succ, List.set_cons_zero, List.set_cons_succ, List.map_cons, List.map_nil, List.cons_append, List.nil_append, List.length_cons, List.length_nil, List.replicate, if_true, if_false, Bool.false_eq_true, reduceIte, Bool.not_true, Bool.not_false, bodyPart, ei, e]
theorem fn_part {P : List (Nat × Def)} {k : Nat} (hP : look 11 P = some ⟨2, 3, bodyPart, none⟩) {t u : Tr} {p : List Bool} (h : t.part p = some u) : (tabOf P (k + 1)).fn 11 [t.enc, pl p] = .ok (.sh u.enc) := by
  rw [tab_fn hP]
  exact run_part t u p h
/-! equal values -/
mutual
theorem eqD_refl : ∀ (d : D) (n : Nat), okD d n = true → eqD d d = true
  | .non, _, _ => rfl
  | .bl b, _, _ => by simp [eqD]
  | .int i, _, _ => by simp [eqD]
  | .str s, _, _ => by simp [eqD]
  | .tup xs, n, h => by
    cases n with
    | zero => cases h
    | succ n => exact eqDs_refl xs n h
  | .lst xs, n, h => by
    cases n with
    | zero => cases h
    | succ n => exact eqDs_refl xs n h
  | .scr _, _, h => by cases h
  | .dic _, _, h => by cases h
  | .dit _, _, h => by cases h
theorem eqDs_refl : ∀ (d : List D) (n : Nat), okDs d n = true → eqDs d d = true
  | [], _, _ => rfl
  | x :: r, n, h => by
    simp only [okDs, Bool.and_eq_true] at h
    simp only [eqDs, eqD_refl x n h.1, eqDs_refl r n h.2, Bool.and_self]
end
theorem eqV_refl {d : D} (h : okD d 64 = true) : eqV d d = some true := by
  unfold eqV
  rw [h, eqD_refl d 64 h]
  rfl
theorem okDs_all {ds : List D} {n : Nat} (h : ∀ d ∈ ds, okD d n = true) : okDs ds n = true := by
  induction ds with
  | nil => rfl
  | cons x r ih => simp only [okDs, h x (by simp), ih fun d hd => h d (by simp [hd]), Bool.and_self]
theorem ok_pl (p : List Bool) (n : Nat) : okD (pl p) (n + 1) = true := okDs_all fun d hd => by
  obtain ⟨b, _, rfl⟩ := List.mem_map.mp hd
  rfl
theorem ok_pls (l : List (List Bool)) (n : Nat) : okD (.lst (l.map pl)) (n + 2) = true := okDs_all fun d hd => by
  obtain ⟨b, _, rfl⟩ := List.mem_map.mp hd
  exact ok_pl b n
mutual
theorem okD_succ : ∀ (d : D) (n : Nat), okD d n = true → okD d (n + 1) = true
  | .non, _, _ => rfl
  | .bl _, _, _ => rfl
  | .int _, _, _ => rfl
  | .str _, _, h => h
  | .tup xs, n, h => by
    cases n with
    | zero => cases h
    | succ n => exact okDs_succ xs n h
  | .lst xs, n, h => by
    cases n with
    | zero => cases h
    | succ n => exact okDs_succ xs n h
  | .scr _, _, h => by cases h
  | .dic _, _, h => by cases h
  | .dit _, _, h => by cases h
theorem okDs_succ : ∀ (d : List D) (n : Nat), okDs d n = true → okDs d (n + 1) = true
  | [], _, _ => rfl
  | x :: r, n, h => by
    simp only [okDs, Bool.and_eq_true] at h ⊢
    exact ⟨okD_succ x n h.1, okDs_succ r n h.2⟩
end
theorem ne_self {d : D} (h : okD d 64 = true) : (eqV d d).map (!·) = some false := by rw [eqV_refl h]; rfl
end Dl

namespace Dl
/-! ### what the drawn names are -/
def okNm (s : T) : Prop := 1 ≤ s.length ∧ s.length ≤ 8 ∧ ∀ c ∈ s, 97 ≤ c ∧ c < 123
theorem abc_in : ∀ c : Nat, c < 123 → 97 ≤ c → abc.contains c = true := by decide
theorem isNm_ok {s : T} (h : okNm s) : isNm s = true := by
  unfold isNm
  rw [decide_eq_true ⟨h.1, h.2.1⟩, Bool.true_and, List.all_eq_true]
  exact fun c hc => abc_in c (h.2.2 c hc).2 (h.2.2 c hc).1
theorem okNm_of {s : T} (h : isNm s = true) : okNm s := by
  unfold isNm at h
  rw [Bool.and_eq_true, List.all_eq_true] at h
  have h1 := of_decide_eq_true h.1
  refine ⟨h1.1, h1.2, fun c hc => ?_⟩
  have h2 := h.2 c hc
  have key : ∀ c ∈ abc, 97 ≤ c ∧ c < 123 := by decide
  exact key c (List.contains_iff_mem.mp h2)
theorem okNm_str {s : T} (h : okNm s) (n : Nat) : okD (.str s) n = true := by
  cases n <;> exact List.all_eq_true.mpr fun c hc => decide_eq_true (by have := (h.2.2 c hc).2; omega)
theorem name_mem {cell : Int} {many k : Nat} {c : Nat} (h : c ∈ nameF cell many k) : c = 97 + (cell % 26).toNat ∨ c = 97 + ((cell + 1 + (k : Int) % 24) % 26).toNat := by
  unfold nameF at h
  split at h
  · exact .inl (List.eq_of_mem_replicate h)
  · rcases List.mem_append.mp h with h | h
    · rcases List.mem_or_eq_of_mem_set h with h | h
      · exact .inl (List.eq_of_mem_replicate h)
      · exact .inr h
    · split at h
      · exact .inl (List.mem_singleton.mp h)
      · cases h
theorem name_len (cell : Int) (many k : Nat) : (nameF cell many k).length = if cell / 1664 % 3 = 0 ∧ many ≤ 8 then 1 + ((cell + k) % 8).toNat else sizF cell many + if k > 23 then 1 else 0 := by
  unfold nameF
  split
  · rw [List.length_replicate]
  · rw [List.length_append, List.length_set, List.length_replicate]
    split <;> rfl
theorem name_ok {cell : Int} {many k : Nat} (hm : many ≤ 32) (hk : k < many) : okNm (nameF cell many k) := by
  have hs := siz_le cell many
  refine ⟨?_, ?_, fun c hc => ?_⟩
  · rw [name_len]
    split <;> omega
  · rw [name_len]
    split
    · omega
    · split
      · have : sizF cell many ≤ 7 := by
          unfold sizF
          rw [if_pos (by omega)]
          omega
        omega
      · omega
  · rcases name_mem hc with rfl | rfl <;> omega
theorem name_get {cell : Int} {many k : Nat} (h : ¬ (cell / 1664 % 3 = 0 ∧ many ≤ 8)) : (nameF cell many k)[(cell / 208 % (sizF cell many : Int)).toNat]? = some (97 + ((cell + 1 + (k : Int) % 24) % 26).toNat) := by
  have hs := siz_le cell many
  have h0 := Int.emod_nonneg (cell / 208) (show (sizF cell many : Int) ≠ 0 by omega)
  have h1 := Int.emod_lt_of_pos (cell / 208) (show (0 : Int) < (sizF cell many : Int) by omega)
  have hp : (cell / 208 % (sizF cell many : Int)).toNat < sizF cell many := by omega
  unfold nameF
  rw [if_neg h, List.getElem?_append_left (by rw [List.length_set, List.length_replicate]; exact hp), List.getElem?_set_self (by rw [List.length_replicate]; exact hp)]
theorem name_inj {cell : Int} {many i j : Nat} (hm : many ≤ 32) (hi : i < many) (hj : j < many) (h : nameF cell many i = nameF cell many j) : i = j := by
  have hl := congrArg List.length h
  rw [name_len, name_len] at hl
  by_cases hA : cell / 1664 % 3 = 0 ∧ many ≤ 8
  · rw [if_pos hA, if_pos hA] at hl
    omega
  · rw [if_neg hA, if_neg hA] at hl
    have g1 := name_get (k := i) hA
    have g2 := name_get (k := j) hA
    rw [h, g2] at g1
    have g := Option.some.inj g1
    split at hl <;> split at hl <;> omega
theorem names_nodup (cell : Int) {many : Nat} (hm : many ≤ 32) : (namesF cell many).Nodup := by
  unfold namesF List.Nodup
  rw [List.pairwise_map]
  refine List.Pairwise.imp_of_mem (R := fun a b => a ≠ b) (fun {a b} ha hb hab => ?_) List.nodup_range
  exact fun z => hab (name_inj hm (List.mem_range.mp ha) (List.mem_range.mp hb) z)
theorem names_ok {cell : Int} {many : Nat} (hm : many ≤ 32) : ∀ s ∈ namesF cell many, okNm s := fun s hs => by
  obtain ⟨k, hk, rfl⟩ := List.mem_map.mp hs
  exact name_ok hm (List.mem_range.mp hk)
theorem names_two {cell : Int} {many : Nat} : ∀ s ∈ namesF cell many, ∃ a b, ∀ c ∈ s, c = a ∨ c = b := fun s hs => by
  obtain ⟨k, hk, rfl⟩ := List.mem_map.mp hs
  exact ⟨_, _, fun c hc => name_mem hc⟩
/-- a tree whose names are names, each once, not too deep -/
structure TrOk (t : Tr) : Prop where
  nm : ∀ s ∈ t.names, okNm s
  nd : t.names.Nodup
  dd : ∀ f ∈ t.deeds, okNm f
  dp : t.deep ≤ 24
  ln : t.names.length ≤ 32
theorem TreeOk.tr {ns : List Int} {at_ many : Nat} {t : Tr} (h : TreeOk ns at_ many t) (hm : many ≤ 32) : TrOk t :=
  ⟨fun s hs => names_ok hm s (h.nm.mem_iff.mp hs), h.nm.nodup_iff.mpr (names_nodup _ hm), fun f hf => names_ok (by decide) f (h.dd f hf), h.dp hm, by rw [h.nm.length_eq, namesF_len]; exact hm⟩
theorem TreeOk.no3 {ns : List Int} {at_ many : Nat} {t : Tr} (h : TreeOk ns at_ many t) {s : T} {a b c : Nat} (ha : a ∈ s) (hb : b ∈ s) (hc : c ∈ s) (h1 : a ≠ b) (h2 : b ≠ c) (h3 : a ≠ c) : s ∉ t.names := fun hs => by
  obtain ⟨x, y, k⟩ := names_two s (h.nm.mem_iff.mp hs)
  rcases k a ha with rfl | rfl <;> rcases k b hb with h | h <;> rcases k c hc with h' | h' <;> omega
theorem enc_ok {t : Tr} (h1 : ∀ s ∈ t.names, okNm s) (h2 : ∀ s ∈ t.deeds, okNm s) : ∀ n, t.deep ≤ n → okD t.enc n = true := by
  induction t with
  | leaf x =>
    intro n hn
    cases n with
    | zero => simp [Tr.deep] at hn
    | succ n =>
      have a := okNm_str (h1 x (by simp [Tr.names])) n
      show (okD (.str kLeaf) n && (okD (.str x) n && true)) = true
      rw [a]
      cases n <;> rfl
  | knot f l r h3 h4 =>
    intro n hn
    cases n with
    | zero => simp [Tr.deep] at hn
    | succ n =>
      simp only [Tr.deep] at hn
      have a := okNm_str (h2 f (by simp [Tr.deeds])) n
      have b := h3 (fun s hs => h1 s (by simp [Tr.names, hs])) (fun s hs => h2 s (by simp [Tr.deeds, hs])) n (by omega)
      have c := h4 (fun s hs => h1 s (by simp [Tr.names, hs])) (fun s hs => h2 s (by simp [Tr.deeds, hs])) n (by omega)
      show (okD (.str kKnot) n && (okD (.str f) n && (okD l.enc n && (okD r.enc n && true)))) = true
      rw [a, b, c]
      cases n <;> rfl
theorem okD_le {d : D} {n m : Nat} (h : okD d n = true) (hm : n ≤ m) : okD d m = true := by
  induction m with
  | zero => have : n = 0 := by omega
            subst this; exact h
  | succ m ih =>
    by_cases e : n = m + 1
    · subst e; exact h
    · exact okD_succ d m (ih (by omega))
end Dl

namespace Dl
/-! ### leaves, and ways that stand open -/
theorem forL_ret {step : D → DEnv → SR} {I : DEnv → Prop} {q : D → Option D} : ∀ (xs : List D) (env : DEnv), I env → (∀ x ∈ xs, ∀ env, I env → match q x with | some v => ∃ e, step x env = .rt (.sh v) e | none => ∃ e, step x env = .nx e ∧ I e) →
    match xs.findSome? q with | some v => ∃ e, forL step xs env = .rt (.sh v) e | none => ∃ e, forL step xs env = .nx e ∧ I e
  | [], env, h, _ => ⟨env, rfl, h⟩
  | x :: r, env, h, hs => by
    have h1 := hs x (by simp) env h
    rw [List.findSome?_cons]
    cases hq : q x with
    | some v =>
      rw [hq] at h1
      obtain ⟨e, he⟩ := h1
      exact ⟨e, by rw [forL_cons, he, sb_rt]⟩
    | none =>
      rw [hq] at h1
      obtain ⟨e, he, hi⟩ := h1
      have h2 := forL_ret r e hi fun y hy => hs y (by simp [hy])
      rw [forL_cons, he, sb_nx]
      exact h2
def Tr.lvs : Tr → List (List Bool)
  | .leaf _ => [[]]
  | .knot _ l r => l.lvs.map (false :: ·) ++ r.lvs.map (true :: ·)
def isLf (t : Tr) (p : List Bool) : Bool := match t.part p with
  | some (.leaf _) => true
  | _ => false
theorem lvs_filter : ∀ t : Tr, t.places.filter (isLf t) = t.lvs
  | .leaf x => rfl
  | .knot f l r => by
    have h0 : isLf (.knot f l r) [] = false := rfl
    have h1 : (isLf (.knot f l r) ∘ fun x => false :: x) = isLf l := by funext p; rfl
    have h2 : (isLf (.knot f l r) ∘ fun x => true :: x) = isLf r := by funext p; rfl
    simp only [Tr.places, List.filter_cons, List.filter_append, List.filter_map, h0, h1, h2, lvs_filter l, lvs_filter r, Tr.lvs]
    rfl
theorem lvs_sub {t : Tr} : ∀ p ∈ t.lvs, p ∈ t.places := fun p hp => by
  rw [← lvs_filter] at hp
  exact (List.mem_filter.mp hp).1
theorem lvs_len (t : Tr) : t.lvs.length = t.names.length := by
  induction t with
  | leaf x => rfl
  | knot f l r h1 h2 => simp only [Tr.lvs, Tr.names, List.length_append, List.length_map]; omega
/-- the place in a value -/
def unpl : D → List Bool
  | .tup xs => xs.map fun d => match d with | .int i => decide (i = 1) | _ => false
  | _ => []
theorem unpl_pl (p : List Bool) : unpl (pl p) = p := by
  show (p.map fun b => D.int (bI b)).map _ = p
  rw [List.map_map]
  conv => rhs; rw [← List.map_id p]
  apply List.map_congr_left
  intro b _
  cases b <;> rfl
theorem filter_pl (q : List Bool → Bool) (l : List (List Bool)) : (l.map pl).filter (fun x => q (unpl x)) = (l.filter q).map pl := by
  rw [List.filter_map]
  have : ((fun x => q (unpl x)) ∘ pl) = q := by funext p; simp [unpl_pl]
  rw [this]
def bodyLeaves : List S := [.ret (.comp 1 (.call 10 [(.var 0)]) (some (.cmp .eq (.sub (.call 11 [(.var 0), (.var 1)]) (.lit (.int 0))) (.lit (.str [108, 101, 97, 102])))) (.var 1))]
theorem run_leaves {G : Tab} (t : Tr) (hn : t.names.length ≤ 900) (hp : G.fn 10 [t.enc] = .ok (.ol (t.places.map pl))) (hq : ∀ p u, t.part p = some u → G.fn 11 [t.enc, pl p] = .ok (.sh u.enc)) : run G ⟨1, 2, bodyLeaves, none⟩ [t.enc] = .ok (.ol (t.lvs.map pl)) := by
  have hlen := places_len t
  have e := comp_filt (G := G) (s := 1) (it := .call 10 [(.var 0)]) (c := .cmp .eq (.sub (.call 11 [(.var 0), (.var 1)]) (.lit (.int 0))) (.lit (.str [108, 101, 97, 102]))) (elt := .var 1) (env := [some (.sh t.enc), none]) (env1 := [some (.sh t.enc), none]) (d := .lst (t.places.map pl)) (xs := t.places.map pl) (o := none) (p := fun x => isLf t (unpl x)) (f := id) (by simp -implicitDefEqProofs only [exB_nil, exB_cons, y_pass, y_set, y_unp, y_par, y_sti, y_app, y_rem, y_appc, y_ex, y_ife, y_whl, y_for1, y_forN, y_ret, y_retN, y_rai, y_try, y_tryR, x_var, x_lit, x_bin, x_neg, x_cmp, x_chain, x_chain3, x_cio, x_ciL, x_addv, x_and, x_or, x_not, x_tup, x_lst, x_sub, x_slice, x_call, x_bi, x_meth, x_isi, x_range, x_enum, x_zip, x_zips, c_nes, x_dict, x_ditn, evs, evb, evo, tst, brw, isVar, bor, rd, bd_ok, bd_er, bd_st, of_some, of_none, s_ok, s_er, s_st, sb_nx, sb_rt, sb_er, sb_st, val_sh, val_ol, val_od, val_ot, val_er, val_st, blR_bl, truth_bl, truth_lst, intOf_int, c_eq, c_ne, c_lt, c_le, c_gt, c_ge, c_inn, c_nin, c_isN, c_notN, n_non, n_int, n_str, n_tup, n_lst, b_add, b_sub, bi_max2, bi_min2, bi_intB, bi_intI, bi_lenL, bi_lenT, bi_lenS, bi_listL, bi_listT, bi_strS, sub_lst, sub_tup, sub_scr, sub_dic, slc_lst, slc_tup, atI0, atI1, atI2, atI3, atI4, eqV_int, eqV_bl, isi_int, isi_intb, isi_bl, isi_lst, isi_tup, isi_str, fp_sh, fp_ol, fp_nx, sz_0, sz_1, sz_2, sz_3, sz_4, sz_5, sz_6, sz_7, fp_er, res_ok, res_er, itm_lst, itm_tup, itm_str, env0, moved, Option.map_some, Option.map_none, Option.bind_some, List.getElem?_cons_zero, List.getElem?_cons_succ, List.set_cons_zero, List.set_cons_succ, List.map_cons, List.map_nil, List.cons_append, List.nil_append, List.length_cons, List.length_nil, List.replicate, if_true, if_false, Bool.false_eq_true, reduceIte, Bool.not_true, Bool.not_false, hp]) rfl rfl (fun x hx => by
      obtain ⟨p, hp, rfl⟩ := List.mem_map.mp hx
      obtain ⟨u, hu⟩ := part_of p hp
      have h1 := hq p u hu
      cases u with
      | leaf x =>
        rw [show isLf t (unpl (pl p)) = true by rw [unpl_pl]; unfold isLf; rw [hu]]
        simp -implicitDefEqProofs only [exB_nil, exB_cons, y_pass, y_set, y_unp, y_par, y_sti, y_app, y_rem, y_appc, y_ex, y_ife, y_whl, y_for1, y_forN, y_ret, y_retN, y_rai, y_try, y_tryR, x_var, x_lit, x_bin, x_neg, x_cmp, x_chain, x_chain3, x_cio, x_ciL, x_addv, x_and, x_or, x_not, x_tup, x_lst, x_sub, x_slice, x_call, x_bi, x_meth, x_isi, x_range, x_enum, x_zip, x_zips, c_nes, x_dict, x_ditn, evs, evb, evo, tst, brw, isVar, bor, rd, bd_ok, bd_er, bd_st, of_some, of_none, s_ok, s_er, s_st, sb_nx, sb_rt, sb_er, sb_st, val_sh, val_ol, val_od, val_ot, val_er, val_st, blR_bl, truth_bl, truth_lst, intOf_int, c_eq, c_ne, c_lt, c_le, c_gt, c_ge, c_inn, c_nin, c_isN, c_notN, n_non, n_int, n_str, n_tup, n_lst, b_add, b_sub, bi_max2, bi_min2, bi_intB, bi_intI, bi_lenL, bi_lenT, bi_lenS, bi_listL, bi_listT, bi_strS, sub_lst, sub_tup, sub_scr, sub_dic, slc_lst, slc_tup, atI0, atI1, atI2, atI3, atI4, eqV_int, eqV_bl, isi_int, isi_intb, isi_bl, isi_lst, isi_tup, isi_str, fp_sh, fp_ol, fp_nx, sz_0, sz_1, sz_2, sz_3, sz_4, sz_5, sz_6, sz_7, fp_er, res_ok, res_er, itm_lst, itm_tup, itm_str, env0, moved, Option.map_some, Option.map_none, Option.bind_some, List.getElem?_cons_zero, List.getElem?_cons_succ, List.set_cons_zero, List.set_cons_succ, List.map_cons, List.map_nil, List.cons_append, List.nil_append, List.length_cons, List.length_nil, List.replicate, if_true, if_false, Bool.false_eq_true, reduceIte, Bool.not_true, Bool.not_false, h1, sub_leaf, eqV_ll]
      | knot f l r =>
        rw [show isLf t (unpl (pl p)) = false by rw [unpl_pl]; unfold isLf; rw [hu]]
        simp -implicitDefEqProofs only [exB_nil, exB_cons, y_pass, y_set, y_unp, y_par, y_sti, y_app, y_rem, y_appc, y_ex, y_ife, y_whl, y_for1, y_forN, y_ret, y_retN, y_rai, y_try, y_tryR, x_var, x_lit, x_bin, x_neg, x_cmp, x_chain, x_chain3, x_cio, x_ciL, x_addv, x_and, x_or, x_not, x_tup, x_lst, x_sub, x_slice, x_call, x_bi, x_meth, x_isi, x_range, x_enum, x_zip, x_zips, c_nes, x_dict, x_ditn, evs, evb, evo, tst, brw, isVar, bor, rd, bd_ok, bd_er, bd_st, of_some, of_none, s_ok, s_er, s_st, sb_nx, sb_rt, sb_er, sb_st, val_sh, val_ol, val_od, val_ot, val_er, val_st, blR_bl, truth_bl, truth_lst, intOf_int, c_eq, c_ne, c_lt, c_le, c_gt, c_ge, c_inn, c_nin, c_isN, c_notN, n_non, n_int, n_str, n_tup, n_lst, b_add, b_sub, bi_max2, bi_min2, bi_intB, bi_intI, bi_lenL, bi_lenT, bi_lenS, bi_listL, bi_listT, bi_strS, sub_lst, sub_tup, sub_scr, sub_dic, slc_lst, slc_tup, atI0, atI1, atI2, atI3, atI4, eqV_int, eqV_bl, isi_int, isi_intb, isi_bl, isi_lst, isi_tup, isi_str, fp_sh, fp_ol, fp_nx, sz_0, sz_1, sz_2, sz_3, sz_4, sz_5, sz_6, sz_7, fp_er, res_ok, res_er, itm_lst, itm_tup, itm_str, env0, moved, Option.map_some, Option.map_none, Option.bind_some, List.getElem?_cons_zero, List.getElem?_cons_succ, List.set_cons_zero, List.set_cons_succ, List.map_cons, List.map_nil, List.cons_append, List.nil_append, List.length_cons, List.length_nil, List.replicate, if_true, if_false, Bool.false_eq_true, reduceIte, Bool.not_true, Bool.not_false, h1, sub_knot, eqV_kk]) (fun x hx _ => by simp -implicitDefEqProofs only [exB_nil, exB_cons, y_pass, y_set, y_unp, y_par, y_sti, y_app, y_rem, y_appc, y_ex, y_ife, y_whl, y_for1, y_forN, y_ret, y_retN, y_rai, y_try, y_tryR, x_var, x_lit, x_bin, x_neg, x_cmp, x_chain, x_chain3, x_cio, x_ciL, x_addv, x_and, x_or, x_not, x_tup, x_lst, x_sub, x_slice, x_call, x_bi, x_meth, x_isi, x_range, x_enum, x_zip, x_zips, c_nes, x_dict, x_ditn, evs, evb, evo, tst, brw, isVar, bor, rd, bd_ok, bd_er, bd_st, of_some, of_none, s_ok, s_er, s_st, sb_nx, sb_rt, sb_er, sb_st, val_sh, val_ol, val_od, val_ot, val_er, val_st, blR_bl, truth_bl, truth_lst, intOf_int, c_eq, c_ne, c_lt, c_le, c_gt, c_ge, c_inn, c_nin, c_isN, c_notN, n_non, n_int, n_str, n_tup, n_lst, b_add, b_sub, bi_max2, bi_min2, bi_intB, bi_intI, bi_lenL, bi_lenT, bi_lenS, bi_listL, bi_listT, bi_strS, sub_lst, sub_tup, sub_scr, sub_dic, slc_lst, slc_tup, atI0, atI1, atI2, atI3, atI4, eqV_int, eqV_bl, isi_int, isi_intb, isi_bl, isi_lst, isi_tup, isi_str, fp_sh, fp_ol, fp_nx, sz_0, sz_1, sz_2, sz_3, sz_4, sz_5, sz_6, sz_7, fp_er, res_ok, res_er, itm_lst, itm_tup, itm_str, env0, moved, Option.map_some, Option.map_none, Option.bind_some, List.getElem?_cons_zero, List.getElem?_cons_succ, List.set_cons_zero, List.set_cons_succ, List.map_cons, List.map_nil, List.cons_append, List.nil_append, List.length_cons, List.length_nil, List.replicate, if_true, if_false, Bool.false_eq_true, reduceIte, Bool.not_true, Bool.not_false]; rfl) (by rw [List.length_map]; unfold szL; omega)
  rw [filter_pl, lvs_filter, List.map_id] at e
  rw [run_eq rfl rfl]
  simp -implicitDefEqProofs only [exB_nil, exB_cons, y_pass, y_set, y_unp, y_par, y_sti, y_app, y_rem, y_appc, y_ex, y_ife, y_whl, y_for1, y_forN, y_ret, y_retN, y_rai, y_try, y_tryR, x_var, x_lit, x_bin, x_neg, x_cmp, x_chain, x_chain3, x_cio, x_ciL, x_addv, x_and, x_or, x_not, x_tup, x_lst, x_sub, x_slice, x_call, x_bi, x_meth, x_isi, x_range, x_enum, x_zip, x_zips, c_nes, x_dict, x_ditn, evs, evb, evo, tst, brw, isVar, bor, rd, bd_ok, bd_er, bd_st, of_some, of_none, s_ok, s_er, s_st, sb_nx, sb_rt, sb_er, sb_st, val_sh, val_ol, val_od, val_ot, val_er, val_st, blR_bl, truth_bl, truth_lst, intOf_int, c_eq, c_ne, c_lt, c_le, c_gt, c_ge, c_inn, c_nin, c_isN, c_notN, n_non, n_int, n_str, n_tup, n_lst, b_add, b_sub, bi_max2, bi_min2, bi_intB, bi_intI, bi_lenL, bi_lenT, bi_lenS, bi_listL, bi_listT, bi_strS, sub_lst, sub_tup, sub_scr, sub_dic, slc_lst, slc_tup, atI0, atI1, atI2, atI3, atI4, eqV_int, eqV_bl, isi_int, isi_intb, isi_bl, isi_lst, isi_tup, isi_str, fp_sh, fp_ol, fp_nx, sz_0, sz_1, sz_2, sz_3, sz_4, sz_5, sz_6, sz_7, fp_er, res_ok, res_er, itm_lst, itm_tup, itm_str, env0, moved, Option.map_some, Option.map_none, Option.bind_some, List.getElem?_cons_zero, List.getElem?_cons_succ, List.set_cons_zero, List.set_cons_succ, List.map_cons, List.map_nil, List.cons_append, List.nil_append, List.length_cons, List.length_nil, List.replicate, if_true, if_false, Bool.false_eq_true, reduceIte, Bool.not_true, Bool.not_false, bodyLeaves, e]
theorem fn_leaves {P : List (Nat × Def)} {k : Nat} (h10 : look 10 P = some ⟨1, 3, bodyPlaces, none⟩) (h11 : look 11 P = some ⟨2, 3, bodyPart, none⟩) (h12 : look 12 P = some ⟨1, 2, bodyLeaves, none⟩) (t : Tr) (hd : t.deep ≤ k + 1) (hn : t.names.length ≤ 900) : (tabOf P (k + 2)).fn 12 [t.enc] = .ok (.ol (t.lvs.map pl)) := by
  rw [tab_fn h12]
  exact run_leaves t hn (fn_places h10 _ t hd hn) fun p u hu => fn_part h11 hu
/-! what is held -/
def hasP (held : List D) (q : List Bool) : Bool := held.any fun z => eqD z (pl q)
def shutP (held : List D) (p : List Bool) : List Nat := (List.range (p.length + 1)).filter fun n => hasP held (p.take n)
theorem in_held {held : List D} (h : okD (.lst held) 64 = true) (q : List Bool) : inD (pl q) (.lst held) = some (hasP held q) := by
  have h1 : okD (pl q) 63 = true := ok_pl q 62
  simp only [inD, h, h1, Bool.and_self, if_true, hasP]
theorem pl_take (p : List Bool) (n : Nat) (h : n ≤ p.length) : sliceD (pl p) none (some (n : Int)) = some (.sh (pl (p.take n))) := by
  unfold pl
  rw [slc_tup, cut_to _ _ (by rw [List.length_map]; exact h), List.map_take]
theorem len_pl (p : List Bool) : biD .len [pl p] = some (.sh (.int p.length)) := by
  unfold pl
  rw [bi_lenT, List.length_map]
/-- the numbers of the places on a way that are held: slots a (the place), h (what is held), s (the comprehension's own) -/
theorem shut_comp {G : Tab} {a h s : Nat} {env : DEnv} {p : List Bool} {held : List D} {o : Option DV} (hl : p.length < 1000) (hk : okD (.lst held) 64 = true) (e1 : bor a env = .ok (pl p) env) (hs : slotN env s = some o) (e2 : ∀ x, bor a (env.set s (some (.sh x))) = .ok (pl p) (env.set s (some (.sh x)))) (e3 : ∀ x, bor h (env.set s (some (.sh x))) = .ok (.lst held) (env.set s (some (.sh x)))) (e4 : ∀ x, rd s (env.set s (some (.sh x))) = .ok (.sh x) (env.set s (some (.sh x)))) :
    ev G (.comp s (.range [(.bin .add (.bi .len [(.var a)]) (.lit (.int 1)))]) (some (.cmp .inn (.slice (.var a) none (some (.var s))) (.var h))) (.var s)) env = .ok (.ol ((shutP held p).map fun (n : Nat) => D.int (n : Int))) env := by
  have e0 : (p.length : Int) + 1 = ((p.length + 1 : Nat) : Int) := by omega
  have hr := rng_1 (p.length + 1) (by omega)
  have lp := len_pl p
  have e := comp_filt (G := G) (s := s) (it := .range [(.bin .add (.bi .len [(.var a)]) (.lit (.int 1)))]) (c := .cmp .inn (.slice (.var a) none (some (.var s))) (.var h)) (elt := .var s) (env := env) (env1 := env) (d := .lst ((List.range (p.length + 1)).map fun (n : Nat) => D.int (n : Int))) (xs := (List.range (p.length + 1)).map fun (n : Nat) => D.int (n : Int)) (o := o) (p := fun x => match x with | .int i => hasP held (p.take i.toNat) | _ => false) (f := id) (by
      simp -implicitDefEqProofs only [x_range, x_bin, x_bi, x_var, x_lit, evs, evb, brw, isVar, e1, bd_ok, lp, of_some, val_sh, b_add, e0, hr, Option.map_some]) rfl hs (fun x hx => by
      obtain ⟨n, hn, rfl⟩ := List.mem_map.mp hx
      have hn' : n ≤ p.length := by have := List.mem_range.mp hn; omega
      have ht := pl_take p n hn'
      have hi := in_held hk (p.take n)
      simp -implicitDefEqProofs only [tst, x_cmp, x_slice, x_var, brw, isVar, evo, e2, e3, e4, bd_ok, val_sh, intOf_int, Option.map_some, of_some, ht, c_inn, hi, truth_bl, Int.toNat_natCast]) (fun x hx _ => by
      simp -implicitDefEqProofs only [x_var, e4, val_sh, id]) (by simp [szL]; omega)
  rw [e, List.map_id, List.filter_map]
  congr 3
def openP (held : List D) (p : List Bool) : Bool := (shutP held p).isEmpty
def bOpenL : List S := [.set 3 (.comp 4 (.range [(.bin .add (.bi .len [(.var 2)]) (.lit (.int 1)))]) (some (.cmp .inn (.slice (.var 2) none (some (.var 4))) (.var 1))) (.var 4)), .ife (.not (.var 3)) [.ret (.var 2)] []]
def bodyOpen : List S := [.for1 2 (.call 12 [(.var 0)]) bOpenL, .ret (.lit .non)]
def optPl : Option (List Bool) → D
  | some p => pl p
  | none => .non
theorem run_open {G : Tab} (t : Tr) (held : List D) (hn : t.names.length ≤ 900) (hk : okD (.lst held) 64 = true) (hl : G.fn 12 [t.enc] = .ok (.ol (t.lvs.map pl))) : run G ⟨2, 5, bodyOpen, none⟩ [t.enc, .lst held] = .ok (.sh (optPl (t.lvs.find? (openP held)))) := by
  rw [run_eq rfl rfl]
  have key := forL_ret (step := fun x env => exB G bOpenL (env.set 2 (some (.sh x)))) (I := fun env => ∃ u v, env = [some (.sh t.enc), some (.sh (.lst held)), u, v, none]) (q := fun x => if openP held (unpl x) then some x else none) (t.lvs.map pl) [some (.sh t.enc), some (.sh (.lst held)), none, none, none] ⟨none, none, rfl⟩ (by
    rintro x hx env ⟨u, v, rfl⟩
    obtain ⟨p, hp, rfl⟩ := List.mem_map.mp hx
    have h1 := place_len p (lvs_sub p hp)
    have h2 := t.deep_le
    have hc := shut_comp (G := G) (a := 2) (h := 1) (s := 4) (env := [some (.sh t.enc), some (.sh (.lst held)), some (.sh (pl p)), v, none]) (p := p) (held := held) (o := none) (by omega) hk rfl rfl (fun _ => rfl) (fun _ => rfl) (fun _ => rfl)
    rw [unpl_pl]
    have ht : ((shutP held p).map fun (n : Nat) => D.int (n : Int)).isEmpty = openP held p := by unfold openP; cases shutP held p <;> rfl
    cases ho : openP held p with
    | true =>
      rw [ho] at ht
      rw [if_pos rfl]
      refine ⟨[some (.sh t.enc), some (.sh (.lst held)), some (.sh (pl p)), some (.ol ((shutP held p).map fun (n : Nat) => D.int (n : Int))), none], ?_⟩
      simp -implicitDefEqProofs only [exB_nil, exB_cons, y_pass, y_set, y_unp, y_par, y_sti, y_app, y_rem, y_appc, y_ex, y_ife, y_whl, y_for1, y_forN, y_ret, y_retN, y_rai, y_try, y_tryR, x_var, x_lit, x_bin, x_neg, x_cmp, x_chain, x_chain3, x_cio, x_ciL, x_addv, x_and, x_or, x_not, x_tup, x_lst, x_sub, x_slice, x_call, x_bi, x_meth, x_isi, x_range, x_enum, x_zip, x_zips, c_nes, x_dict, x_ditn, evs, evb, evo, tst, brw, isVar, bor, rd, bd_ok, bd_er, bd_st, of_some, of_none, s_ok, s_er, s_st, sb_nx, sb_rt, sb_er, sb_st, val_sh, val_ol, val_od, val_ot, val_er, val_st, blR_bl, truth_bl, truth_lst, intOf_int, c_eq, c_ne, c_lt, c_le, c_gt, c_ge, c_inn, c_nin, c_isN, c_notN, n_non, n_int, n_str, n_tup, n_lst, b_add, b_sub, bi_max2, bi_min2, bi_intB, bi_intI, bi_lenL, bi_lenT, bi_lenS, bi_listL, bi_listT, bi_strS, sub_lst, sub_tup, sub_scr, sub_dic, slc_lst, slc_tup, atI0, atI1, atI2, atI3, atI4, eqV_int, eqV_bl, isi_int, isi_intb, isi_bl, isi_lst, isi_tup, isi_str, fp_sh, fp_ol, fp_nx, sz_0, sz_1, sz_2, sz_3, sz_4, sz_5, sz_6, sz_7, fp_er, res_ok, res_er, itm_lst, itm_tup, itm_str, env0, moved, Option.map_some, Option.map_none, Option.bind_some, List.getElem?_cons_zero, List.getElem?_cons_succ, List.set_cons_zero, List.set_cons_succ, List.map_cons, List.map_nil, List.cons_append, List.nil_append, List.length_cons, List.length_nil, List.replicate, if_true, if_false, Bool.false_eq_true, reduceIte, Bool.not_true, Bool.not_false, bOpenL, hc, ht]
    | false =>
      rw [ho] at ht
      rw [if_neg Bool.false_ne_true]
      refine ⟨[some (.sh t.enc), some (.sh (.lst held)), some (.sh (pl p)), some (.ol ((shutP held p).map fun (n : Nat) => D.int (n : Int))), none], ?_, _, _, rfl⟩
      simp -implicitDefEqProofs only [exB_nil, exB_cons, y_pass, y_set, y_unp, y_par, y_sti, y_app, y_rem, y_appc, y_ex, y_ife, y_whl, y_for1, y_forN, y_ret, y_retN, y_rai, y_try, y_tryR, x_var, x_lit, x_bin, x_neg, x_cmp, x_chain, x_chain3, x_cio, x_ciL, x_addv, x_and, x_or, x_not, x_tup, x_lst, x_sub, x_slice, x_call, x_bi, x_meth, x_isi, x_range, x_enum, x_zip, x_zips, c_nes, x_dict, x_ditn, evs, evb, evo, tst, brw, isVar, bor, rd, bd_ok, bd_er, bd_st, of_some, of_none, s_ok, s_er, s_st, sb_nx, sb_rt, sb_er, sb_st, val_sh, val_ol, val_od, val_ot, val_er, val_st, blR_bl, truth_bl, truth_lst, intOf_int, c_eq, c_ne, c_lt, c_le, c_gt, c_ge, c_inn, c_nin, c_isN, c_notN, n_non, n_int, n_str, n_tup, n_lst, b_add, b_sub, bi_max2, bi_min2, bi_intB, bi_intI, bi_lenL, bi_lenT, bi_lenS, bi_listL, bi_listT, bi_strS, sub_lst, sub_tup, sub_scr, sub_dic, slc_lst, slc_tup, atI0, atI1, atI2, atI3, atI4, eqV_int, eqV_bl, isi_int, isi_intb, isi_bl, isi_lst, isi_tup, isi_str, fp_sh, fp_ol, fp_nx, sz_0, sz_1, sz_2, sz_3, sz_4, sz_5, sz_6, sz_7, fp_er, res_ok, res_er, itm_lst, itm_tup, itm_str, env0, moved, Option.map_some, Option.map_none, Option.bind_some, List.getElem?_cons_zero, List.getElem?_cons_succ, List.set_cons_zero, List.set_cons_succ, List.map_cons, List.map_nil, List.cons_append, List.nil_append, List.length_cons, List.length_nil, List.replicate, if_true, if_false, Bool.false_eq_true, reduceIte, Bool.not_true, Bool.not_false, bOpenL, hc, ht])
  have fs : ∀ l : List (List Bool), (l.map pl).findSome? (fun x => if openP held (unpl x) then some x else none) = (l.find? (openP held)).map pl := by
    intro l
    induction l with
    | nil => rfl
    | cons p l ih =>
      rw [List.map_cons, List.findSome?_cons, List.find?_cons, unpl_pl]
      cases openP held p with
      | true => rfl
      | false => exact ih
  rw [fs] at key
  cases ef : t.lvs.find? (openP held) with
  | some p =>
    rw [ef] at key
    obtain ⟨e, key⟩ := key
    simp -implicitDefEqProofs only [exB_nil, exB_cons, y_pass, y_set, y_unp, y_par, y_sti, y_app, y_rem, y_appc, y_ex, y_ife, y_whl, y_for1, y_forN, y_ret, y_retN, y_rai, y_try, y_tryR, x_var, x_lit, x_bin, x_neg, x_cmp, x_chain, x_chain3, x_cio, x_ciL, x_addv, x_and, x_or, x_not, x_tup, x_lst, x_sub, x_slice, x_call, x_bi, x_meth, x_isi, x_range, x_enum, x_zip, x_zips, c_nes, x_dict, x_ditn, evs, evb, evo, tst, brw, isVar, bor, rd, bd_ok, bd_er, bd_st, of_some, of_none, s_ok, s_er, s_st, sb_nx, sb_rt, sb_er, sb_st, val_sh, val_ol, val_od, val_ot, val_er, val_st, blR_bl, truth_bl, truth_lst, intOf_int, c_eq, c_ne, c_lt, c_le, c_gt, c_ge, c_inn, c_nin, c_isN, c_notN, n_non, n_int, n_str, n_tup, n_lst, b_add, b_sub, bi_max2, bi_min2, bi_intB, bi_intI, bi_lenL, bi_lenT, bi_lenS, bi_listL, bi_listT, bi_strS, sub_lst, sub_tup, sub_scr, sub_dic, slc_lst, slc_tup, atI0, atI1, atI2, atI3, atI4, eqV_int, eqV_bl, isi_int, isi_intb, isi_bl, isi_lst, isi_tup, isi_str, fp_sh, fp_ol, fp_nx, sz_0, sz_1, sz_2, sz_3, sz_4, sz_5, sz_6, sz_7, fp_er, res_ok, res_er, itm_lst, itm_tup, itm_str, env0, moved, Option.map_some, Option.map_none, Option.bind_some, List.getElem?_cons_zero, List.getElem?_cons_succ, List.set_cons_zero, List.set_cons_succ, List.map_cons, List.map_nil, List.cons_append, List.nil_append, List.length_cons, List.length_nil, List.replicate, if_true, if_false, Bool.false_eq_true, reduceIte, Bool.not_true, Bool.not_false, bodyOpen, hl, key, optPl]
  | none =>
    rw [ef] at key
    obtain ⟨e, key, u, v, rfl⟩ := key
    simp -implicitDefEqProofs only [exB_nil, exB_cons, y_pass, y_set, y_unp, y_par, y_sti, y_app, y_rem, y_appc, y_ex, y_ife, y_whl, y_for1, y_forN, y_ret, y_retN, y_rai, y_try, y_tryR, x_var, x_lit, x_bin, x_neg, x_cmp, x_chain, x_chain3, x_cio, x_ciL, x_addv, x_and, x_or, x_not, x_tup, x_lst, x_sub, x_slice, x_call, x_bi, x_meth, x_isi, x_range, x_enum, x_zip, x_zips, c_nes, x_dict, x_ditn, evs, evb, evo, tst, brw, isVar, bor, rd, bd_ok, bd_er, bd_st, of_some, of_none, s_ok, s_er, s_st, sb_nx, sb_rt, sb_er, sb_st, val_sh, val_ol, val_od, val_ot, val_er, val_st, blR_bl, truth_bl, truth_lst, intOf_int, c_eq, c_ne, c_lt, c_le, c_gt, c_ge, c_inn, c_nin, c_isN, c_notN, n_non, n_int, n_str, n_tup, n_lst, b_add, b_sub, bi_max2, bi_min2, bi_intB, bi_intI, bi_lenL, bi_lenT, bi_lenS, bi_listL, bi_listT, bi_strS, sub_lst, sub_tup, sub_scr, sub_dic, slc_lst, slc_tup, atI0, atI1, atI2, atI3, atI4, eqV_int, eqV_bl, isi_int, isi_intb, isi_bl, isi_lst, isi_tup, isi_str, fp_sh, fp_ol, fp_nx, sz_0, sz_1, sz_2, sz_3, sz_4, sz_5, sz_6, sz_7, fp_er, res_ok, res_er, itm_lst, itm_tup, itm_str, env0, moved, Option.map_some, Option.map_none, Option.bind_some, List.getElem?_cons_zero, List.getElem?_cons_succ, List.set_cons_zero, List.set_cons_succ, List.map_cons, List.map_nil, List.cons_append, List.nil_append, List.length_cons, List.length_nil, List.replicate, if_true, if_false, Bool.false_eq_true, reduceIte, Bool.not_true, Bool.not_false, bodyOpen, hl, key, optPl]
end Dl

namespace Dl
/-! ### formulas looked at -/
def bodyDepth : List S := [.ife (.cmp .eq (.sub (.var 0) (.lit (.int 0))) (.lit (.str [108, 101, 97, 102]))) [.ret (.lit (.int 1))] [], .ret (.bin .add (.lit (.int 1)) (.bi .max [(.call 14 [(.sub (.var 0) (.lit (.int 2)))]), (.call 14 [(.sub (.var 0) (.lit (.int 3)))])]))]
theorem run_depth {G : Tab} (t : Tr) (hl : ∀ f l r, t = .knot f l r → G.fn 14 [l.enc] = .ok (.sh (.int l.deep)) ∧ G.fn 14 [r.enc] = .ok (.sh (.int r.deep))) : run G ⟨1, 1, bodyDepth, none⟩ [t.enc] = .ok (.sh (.int t.deep)) := by
  rw [run_eq rfl rfl]
  cases t with
  | leaf x => simp -implicitDefEqProofs only [exB_nil, exB_cons, y_pass, y_set, y_unp, y_par, y_sti, y_app, y_rem, y_appc, y_ex, y_ife, y_whl, y_for1, y_forN, y_ret, y_retN, y_rai, y_try, y_tryR, x_var, x_lit, x_bin, x_neg, x_cmp, x_chain, x_chain3, x_cio, x_ciL, x_addv, x_and, x_or, x_not, x_tup, x_lst, x_sub, x_slice, x_call, x_bi, x_meth, x_isi, x_range, x_enum, x_zip, x_zips, c_nes, x_dict, x_ditn, evs, evb, evo, tst, brw, isVar, bor, rd, bd_ok, bd_er, bd_st, of_some, of_none, s_ok, s_er, s_st, sb_nx, sb_rt, sb_er, sb_st, val_sh, val_ol, val_od, val_ot, val_er, val_st, blR_bl, truth_bl, truth_lst, intOf_int, c_eq, c_ne, c_lt, c_le, c_gt, c_ge, c_inn, c_nin, c_isN, c_notN, n_non, n_int, n_str, n_tup, n_lst, b_add, b_sub, bi_max2, bi_min2, bi_intB, bi_intI, bi_lenL, bi_lenT, bi_lenS, bi_listL, bi_listT, bi_strS, sub_lst, sub_tup, sub_scr, sub_dic, slc_lst, slc_tup, atI0, atI1, atI2, atI3, atI4, eqV_int, eqV_bl, isi_int, isi_intb, isi_bl, isi_lst, isi_tup, isi_str, fp_sh, fp_ol, fp_nx, sz_0, sz_1, sz_2, sz_3, sz_4, sz_5, sz_6, sz_7, fp_er, res_ok, res_er, itm_lst, itm_tup, itm_str, env0, moved, Option.map_some, Option.map_none, Option.bind_some, List.getElem?_cons_zero, List.getElem?_cons_succ, List.set_cons_zero, List.set_cons_succ, List.map_cons, List.map_nil, List.cons_append, List.nil_append, List.length_cons, List.length_nil, List.replicate, if_true, if_false, Bool.false_eq_true, reduceIte, Bool.not_true, Bool.not_false, bodyDepth, sub_leaf, eqV_ll, Tr.deep]; rfl
  | knot f l r =>
    obtain ⟨h1, h2⟩ := hl f l r rfl
    have e : (1 : Int) + (if (r.deep : Int) > l.deep then (r.deep : Int) else l.deep) = ((1 + max l.deep r.deep : Nat) : Int) := by split <;> omega
    simp -implicitDefEqProofs only [exB_nil, exB_cons, y_pass, y_set, y_unp, y_par, y_sti, y_app, y_rem, y_appc, y_ex, y_ife, y_whl, y_for1, y_forN, y_ret, y_retN, y_rai, y_try, y_tryR, x_var, x_lit, x_bin, x_neg, x_cmp, x_chain, x_chain3, x_cio, x_ciL, x_addv, x_and, x_or, x_not, x_tup, x_lst, x_sub, x_slice, x_call, x_bi, x_meth, x_isi, x_range, x_enum, x_zip, x_zips, c_nes, x_dict, x_ditn, evs, evb, evo, tst, brw, isVar, bor, rd, bd_ok, bd_er, bd_st, of_some, of_none, s_ok, s_er, s_st, sb_nx, sb_rt, sb_er, sb_st, val_sh, val_ol, val_od, val_ot, val_er, val_st, blR_bl, truth_bl, truth_lst, intOf_int, c_eq, c_ne, c_lt, c_le, c_gt, c_ge, c_inn, c_nin, c_isN, c_notN, n_non, n_int, n_str, n_tup, n_lst, b_add, b_sub, bi_max2, bi_min2, bi_intB, bi_intI, bi_lenL, bi_lenT, bi_lenS, bi_listL, bi_listT, bi_strS, sub_lst, sub_tup, sub_scr, sub_dic, slc_lst, slc_tup, atI0, atI1, atI2, atI3, atI4, eqV_int, eqV_bl, isi_int, isi_intb, isi_bl, isi_lst, isi_tup, isi_str, fp_sh, fp_ol, fp_nx, sz_0, sz_1, sz_2, sz_3, sz_4, sz_5, sz_6, sz_7, fp_er, res_ok, res_er, itm_lst, itm_tup, itm_str, env0, moved, Option.map_some, Option.map_none, Option.bind_some, List.getElem?_cons_zero, List.getElem?_cons_succ, List.set_cons_zero, List.set_cons_succ, List.map_cons, List.map_nil, List.cons_append, List.nil_append, List.length_cons, List.length_nil, List.replicate, if_true, if_false, Bool.false_eq_true, reduceIte, Bool.not_true, Bool.not_false, bodyDepth, sub_knot, sub_knot2, sub_knot3, eqV_kk, h1, h2, Tr.deep, e]
theorem fn_depth {P : List (Nat × Def)} (hP : look 14 P = some ⟨1, 1, bodyDepth, none⟩) : ∀ (t : Tr) (k : Nat), t.deep ≤ k → (tabOf P k).fn 14 [t.enc] = .ok (.sh (.int t.deep))
  | t, 0, h => by cases t <;> simp only [Tr.deep] at h <;> omega
  | t, k + 1, h => by
    rw [tab_fn hP]
    refine run_depth t fun f l r e => ?_
    subst e
    simp only [Tr.deep] at h
    exact ⟨fn_depth hP l k (by omega), fn_depth hP r k (by omega)⟩
/-! parts -/
def Tr.lab : Tr → T
  | .leaf x => x
  | .knot f _ _ => f
def Tr.parts : Tr → List Tr
  | .leaf x => [.leaf x]
  | .knot f l r => .knot f l r :: (l.parts ++ r.parts)
theorem places_part (t : Tr) : t.places.map t.part = t.parts.map some := by
  induction t with
  | leaf x => rfl
  | knot f l r h1 h2 =>
    have e1 : (Tr.knot f l r).part ∘ (fun x => false :: x) = l.part := by funext p; rfl
    have e2 : (Tr.knot f l r).part ∘ (fun x => true :: x) = r.part := by funext p; rfl
    simp only [Tr.places, Tr.parts, List.map_cons, List.map_append, List.map_map, e1, e2, h1, h2, part_nil]
theorem parts_len (t : Tr) : t.parts.length = t.places.length := by
  have := congrArg List.length (places_part t)
  simpa using this.symm
theorem sub_lab (t : Tr) : subD t.enc (.int 1) = some (.str t.lab) := by cases t <;> rfl
/-- the first wrong place -/
def scanF : List Tr → List T → Option Nat
  | [], _ => none
  | u :: r, seen => if isNm u.lab then (match u with
    | .leaf x => if x ∈ seen then some 2 else scanF r (seen ++ [x])
    | .knot _ _ _ => scanF r seen) else some 1
def formF (t : Tr) : Option Nat := if 32 < t.names.length ∨ 24 < t.deep then some 3 else scanF t.parts []
def bFmL : List S := [.set 3 (.call 11 [(.var 0), (.var 2)]), .ife (.not (.call 9 [(.sub (.var 3) (.lit (.int 1)))])) [.rai 1] [], .ife (.cmp .eq (.sub (.var 3) (.lit (.int 0))) (.lit (.str [108, 101, 97, 102]))) [.ife (.cmp .inn (.sub (.var 3) (.lit (.int 1))) (.var 1)) [.rai 2] [], .sti 1 (.sub (.var 3) (.lit (.int 1))) (.lit (.bl true))] []]
def bodyFm : List S := [.ife (.or (.cmp .gt (.bi .len [(.call 12 [(.var 0)])]) (.lit (.int 32))) (.cmp .gt (.call 14 [(.var 0)]) (.lit (.int 24)))) [.rai 3] [], .set 1 (.dict [] []), .for1 2 (.call 10 [(.var 0)]) bFmL, .ret (.var 0)]
def seenD (l : List T) : List (T × D) := l.map fun x => (x, .bl true)
theorem look_seen (x : T) : ∀ l : List T, (look x (seenD l)).isSome = decide (x ∈ l)
  | [] => rfl
  | y :: r => by
    have ih := look_seen x r
    show (if y = x then some (D.bl true) else look x (seenD r)).isSome = _
    by_cases h : y = x
    · rw [if_pos h, h]; simp
    · have h' : ¬ x = y := fun z => h z.symm
      rw [if_neg h, ih]; simp [h']
theorem put_seen {x : T} {l : List T} (h : x ∉ l) : put x (.bl true) (seenD l) = seenD (l ++ [x]) := by
  unfold put seenD
  rw [if_neg, List.map_append]
  · rfl
  · intro z
    rw [List.any_eq_true] at z
    obtain ⟨y, hy, hz⟩ := z
    obtain ⟨w, hw, rfl⟩ := List.mem_map.mp hy
    have := of_decide_eq_true hz
    subst this
    exact h hw
theorem in_dic (x : T) (l : List T) : inD (.str x) (.dic (seenD l)) = some (decide (x ∈ l)) := by
  show some (look x (seenD l)).isSome = _
  rw [look_seen]
theorem run_form {G : Tab} (t : Tr) (hn : t.names.length ≤ 900) (hl : G.fn 12 [t.enc] = .ok (.ol (t.lvs.map pl))) (hd : G.fn 14 [t.enc] = .ok (.sh (.int t.deep))) (hp : G.fn 10 [t.enc] = .ok (.ol (t.places.map pl))) (hq : ∀ p u, t.part p = some u → G.fn 11 [t.enc, pl p] = .ok (.sh u.enc))
    (hi : ∀ u ∈ t.parts, G.fn 9 [.str u.lab] = .ok (.sh (.bl (isNm u.lab)))) : run G ⟨1, 4, bodyFm, none⟩ [t.enc] = match formF t with | some c => .er c | none => .ok (.sh t.enc) := by
  have ll := lvs_len t
  have pn := places_len t
  have pa := parts_len t
  have loop : ∀ (ps : List Tr) (l : List (List Bool)) (seen : List T) (w z : Option DV), (∀ u ∈ ps, u ∈ t.parts) → l.map t.part = ps.map some → seen.length + ps.length ≤ 4000 →
      match scanF ps seen with
      | some c => ∃ e, forL (fun x env => exB G bFmL (env.set 2 (some (.sh x)))) (l.map pl) [some (.sh t.enc), some (.od (seenD seen)), w, z] = .er c e
      | none => ∃ s' w' z', forL (fun x env => exB G bFmL (env.set 2 (some (.sh x)))) (l.map pl) [some (.sh t.enc), some (.od (seenD seen)), w, z] = .nx [some (.sh t.enc), some (.od s'), w', z'] := by
    intro ps
    induction ps with
    | nil =>
      intro l seen w z _ hl _
      have : l = [] := by cases l with | nil => rfl | cons _ _ => cases hl
      subst this
      exact ⟨_, _, _, rfl⟩
    | cons u r ih =>
      intro l seen w z hm hl hb
      cases l with
      | nil => cases hl
      | cons p l =>
        rw [List.map_cons, List.map_cons, List.cons.injEq] at hl
        have h11 := hq p u hl.1
        have h9 := hi u (hm u (by simp))
        have hlab := sub_lab u
        rw [List.map_cons, forL_cons]
        unfold scanF
        simp only [List.length_cons] at hb
        cases hnm : isNm u.lab with
        | false =>
          rw [hnm] at h9
          have st : ∃ e, exB G bFmL ([some (.sh t.enc), some (.od (seenD seen)), w, z].set 2 (some (.sh (pl p)))) = .er 1 e := ⟨[some (.sh t.enc), some (.od (seenD seen)), some (.sh (pl p)), some (.sh u.enc)], by simp -implicitDefEqProofs only [exB_nil, exB_cons, y_pass, y_set, y_unp, y_par, y_sti, y_app, y_rem, y_appc, y_ex, y_ife, y_whl, y_for1, y_forN, y_ret, y_retN, y_rai, y_try, y_tryR, x_var, x_lit, x_bin, x_neg, x_cmp, x_chain, x_chain3, x_cio, x_ciL, x_addv, x_and, x_or, x_not, x_tup, x_lst, x_sub, x_slice, x_call, x_bi, x_meth, x_isi, x_range, x_enum, x_zip, x_zips, c_nes, x_dict, x_ditn, evs, evb, evo, tst, brw, isVar, bor, rd, bd_ok, bd_er, bd_st, of_some, of_none, s_ok, s_er, s_st, sb_nx, sb_rt, sb_er, sb_st, val_sh, val_ol, val_od, val_ot, val_er, val_st, blR_bl, truth_bl, truth_lst, intOf_int, c_eq, c_ne, c_lt, c_le, c_gt, c_ge, c_inn, c_nin, c_isN, c_notN, n_non, n_int, n_str, n_tup, n_lst, b_add, b_sub, bi_max2, bi_min2, bi_intB, bi_intI, bi_lenL, bi_lenT, bi_lenS, bi_listL, bi_listT, bi_strS, sub_lst, sub_tup, sub_scr, sub_dic, slc_lst, slc_tup, atI0, atI1, atI2, atI3, atI4, eqV_int, eqV_bl, isi_int, isi_intb, isi_bl, isi_lst, isi_tup, isi_str, fp_sh, fp_ol, fp_nx, sz_0, sz_1, sz_2, sz_3, sz_4, sz_5, sz_6, sz_7, fp_er, res_ok, res_er, itm_lst, itm_tup, itm_str, env0, moved, Option.map_some, Option.map_none, Option.bind_some, List.getElem?_cons_zero, List.getElem?_cons_succ, List.set_cons_zero, List.set_cons_succ, List.map_cons, List.map_nil, List.cons_append, List.nil_append, List.length_cons, List.length_nil, List.replicate, if_true, if_false, Bool.false_eq_true, reduceIte, Bool.not_true, Bool.not_false, bFmL, h11, hlab, h9]⟩
          obtain ⟨e, st⟩ := st
          rw [if_neg Bool.false_ne_true, st]
          exact ⟨e, rfl⟩
        | true =>
          rw [hnm] at h9
          rw [if_pos rfl]
          cases u with
          | knot f a b =>
            have st : exB G bFmL ([some (.sh t.enc), some (.od (seenD seen)), w, z].set 2 (some (.sh (pl p)))) = .nx [some (.sh t.enc), some (.od (seenD seen)), some (.sh (pl p)), some (.sh (Tr.knot f a b).enc)] := by simp -implicitDefEqProofs only [exB_nil, exB_cons, y_pass, y_set, y_unp, y_par, y_sti, y_app, y_rem, y_appc, y_ex, y_ife, y_whl, y_for1, y_forN, y_ret, y_retN, y_rai, y_try, y_tryR, x_var, x_lit, x_bin, x_neg, x_cmp, x_chain, x_chain3, x_cio, x_ciL, x_addv, x_and, x_or, x_not, x_tup, x_lst, x_sub, x_slice, x_call, x_bi, x_meth, x_isi, x_range, x_enum, x_zip, x_zips, c_nes, x_dict, x_ditn, evs, evb, evo, tst, brw, isVar, bor, rd, bd_ok, bd_er, bd_st, of_some, of_none, s_ok, s_er, s_st, sb_nx, sb_rt, sb_er, sb_st, val_sh, val_ol, val_od, val_ot, val_er, val_st, blR_bl, truth_bl, truth_lst, intOf_int, c_eq, c_ne, c_lt, c_le, c_gt, c_ge, c_inn, c_nin, c_isN, c_notN, n_non, n_int, n_str, n_tup, n_lst, b_add, b_sub, bi_max2, bi_min2, bi_intB, bi_intI, bi_lenL, bi_lenT, bi_lenS, bi_listL, bi_listT, bi_strS, sub_lst, sub_tup, sub_scr, sub_dic, slc_lst, slc_tup, atI0, atI1, atI2, atI3, atI4, eqV_int, eqV_bl, isi_int, isi_intb, isi_bl, isi_lst, isi_tup, isi_str, fp_sh, fp_ol, fp_nx, sz_0, sz_1, sz_2, sz_3, sz_4, sz_5, sz_6, sz_7, fp_er, res_ok, res_er, itm_lst, itm_tup, itm_str, env0, moved, Option.map_some, Option.map_none, Option.bind_some, List.getElem?_cons_zero, List.getElem?_cons_succ, List.set_cons_zero, List.set_cons_succ, List.map_cons, List.map_nil, List.cons_append, List.nil_append, List.length_cons, List.length_nil, List.replicate, if_true, if_false, Bool.false_eq_true, reduceIte, Bool.not_true, Bool.not_false, bFmL, h11, hlab, h9, sub_knot, eqV_kk]
            rw [st, sb_nx]
            exact ih l seen _ _ (fun u hu => hm u (by simp [hu])) hl.2 (by omega)
          | leaf x =>
            have hx : subD (Tr.leaf x).enc (.int 1) = some (.str x) := hlab
            have h9 : G.fn 9 [.str x] = .ok (.sh (.bl true)) := h9
            have hin := in_dic x seen
            by_cases hxs : x ∈ seen
            · rw [decide_eq_true hxs] at hin
              have st : exB G bFmL ([some (.sh t.enc), some (.od (seenD seen)), w, z].set 2 (some (.sh (pl p)))) = .er 2 [some (.sh t.enc), some (.od (seenD seen)), some (.sh (pl p)), some (.sh (Tr.leaf x).enc)] := by simp -implicitDefEqProofs only [exB_nil, exB_cons, y_pass, y_set, y_unp, y_par, y_sti, y_app, y_rem, y_appc, y_ex, y_ife, y_whl, y_for1, y_forN, y_ret, y_retN, y_rai, y_try, y_tryR, x_var, x_lit, x_bin, x_neg, x_cmp, x_chain, x_chain3, x_cio, x_ciL, x_addv, x_and, x_or, x_not, x_tup, x_lst, x_sub, x_slice, x_call, x_bi, x_meth, x_isi, x_range, x_enum, x_zip, x_zips, c_nes, x_dict, x_ditn, evs, evb, evo, tst, brw, isVar, bor, rd, bd_ok, bd_er, bd_st, of_some, of_none, s_ok, s_er, s_st, sb_nx, sb_rt, sb_er, sb_st, val_sh, val_ol, val_od, val_ot, val_er, val_st, blR_bl, truth_bl, truth_lst, intOf_int, c_eq, c_ne, c_lt, c_le, c_gt, c_ge, c_inn, c_nin, c_isN, c_notN, n_non, n_int, n_str, n_tup, n_lst, b_add, b_sub, bi_max2, bi_min2, bi_intB, bi_intI, bi_lenL, bi_lenT, bi_lenS, bi_listL, bi_listT, bi_strS, sub_lst, sub_tup, sub_scr, sub_dic, slc_lst, slc_tup, atI0, atI1, atI2, atI3, atI4, eqV_int, eqV_bl, isi_int, isi_intb, isi_bl, isi_lst, isi_tup, isi_str, fp_sh, fp_ol, fp_nx, sz_0, sz_1, sz_2, sz_3, sz_4, sz_5, sz_6, sz_7, fp_er, res_ok, res_er, itm_lst, itm_tup, itm_str, env0, moved, Option.map_some, Option.map_none, Option.bind_some, List.getElem?_cons_zero, List.getElem?_cons_succ, List.set_cons_zero, List.set_cons_succ, List.map_cons, List.map_nil, List.cons_append, List.nil_append, List.length_cons, List.length_nil, List.replicate, if_true, if_false, Bool.false_eq_true, reduceIte, Bool.not_true, Bool.not_false, bFmL, h11, hx, h9, sub_leaf, eqV_ll, hin]
              simp only [if_pos hxs]
              rw [st]
              exact ⟨_, rfl⟩
            · rw [decide_eq_false hxs] at hin
              have sd : stiD (.od (seenD seen)) (.str x) (.bl true) = some (.od (seenD (seen ++ [x]))) := by
                show (if (seenD seen).length < szL then some (DV.od (put x (.bl true) (seenD seen))) else none) = _
                rw [if_pos (by unfold seenD; rw [List.length_map]; unfold szL; omega), put_seen hxs]
              have st : exB G bFmL ([some (.sh t.enc), some (.od (seenD seen)), w, z].set 2 (some (.sh (pl p)))) = .nx [some (.sh t.enc), some (.od (seenD (seen ++ [x]))), some (.sh (pl p)), some (.sh (Tr.leaf x).enc)] := by simp -implicitDefEqProofs only [exB_nil, exB_cons, y_pass, y_set, y_unp, y_par, y_sti, y_app, y_rem, y_appc, y_ex, y_ife, y_whl, y_for1, y_forN, y_ret, y_retN, y_rai, y_try, y_tryR, x_var, x_lit, x_bin, x_neg, x_cmp, x_chain, x_chain3, x_cio, x_ciL, x_addv, x_and, x_or, x_not, x_tup, x_lst, x_sub, x_slice, x_call, x_bi, x_meth, x_isi, x_range, x_enum, x_zip, x_zips, c_nes, x_dict, x_ditn, evs, evb, evo, tst, brw, isVar, bor, rd, bd_ok, bd_er, bd_st, of_some, of_none, s_ok, s_er, s_st, sb_nx, sb_rt, sb_er, sb_st, val_sh, val_ol, val_od, val_ot, val_er, val_st, blR_bl, truth_bl, truth_lst, intOf_int, c_eq, c_ne, c_lt, c_le, c_gt, c_ge, c_inn, c_nin, c_isN, c_notN, n_non, n_int, n_str, n_tup, n_lst, b_add, b_sub, bi_max2, bi_min2, bi_intB, bi_intI, bi_lenL, bi_lenT, bi_lenS, bi_listL, bi_listT, bi_strS, sub_lst, sub_tup, sub_scr, sub_dic, slc_lst, slc_tup, atI0, atI1, atI2, atI3, atI4, eqV_int, eqV_bl, isi_int, isi_intb, isi_bl, isi_lst, isi_tup, isi_str, fp_sh, fp_ol, fp_nx, sz_0, sz_1, sz_2, sz_3, sz_4, sz_5, sz_6, sz_7, fp_er, res_ok, res_er, itm_lst, itm_tup, itm_str, env0, moved, Option.map_some, Option.map_none, Option.bind_some, List.getElem?_cons_zero, List.getElem?_cons_succ, List.set_cons_zero, List.set_cons_succ, List.map_cons, List.map_nil, List.cons_append, List.nil_append, List.length_cons, List.length_nil, List.replicate, if_true, if_false, Bool.false_eq_true, reduceIte, Bool.not_true, Bool.not_false, bFmL, h11, hx, h9, sub_leaf, eqV_ll, hin, isOw, DV.own, upS, sd]
              simp only [if_neg hxs]
              rw [st, sb_nx]
              exact ih l (seen ++ [x]) _ _ (fun u hu => hm u (by simp [hu])) hl.2 (by simp only [List.length_append, List.length_singleton]; omega)
  have loop := loop t.parts t.places [] none none (fun u hu => hu) (places_part t) (by simp only [List.length_nil]; omega)
  have ed : ([] : List T).length = ([] : List D).length ∧ ([] : List T).length ≤ 15 ∧ ([] : List T).Nodup := ⟨rfl, by decide, List.nodup_nil⟩
  have hll : ((t.lvs.map pl).length : Int) = (t.names.length : Int) := by rw [List.length_map, ll]
  have dd : ∀ e : DEnv, ev G (.dict [] []) e = .ok (.od (seenD [])) e := fun e => by
    rw [x_dict]
    simp only [evs, bd_ok, if_pos ed]
    rfl
  rw [run_eq rfl rfl]
  unfold formF
  by_cases h1 : 32 < t.names.length
  · have h1' : decide ((32 : Int) < (t.names.length : Int)) = true := decide_eq_true (by omega)
    rw [if_pos (.inl h1)]
    simp -implicitDefEqProofs only [exB_nil, exB_cons, y_pass, y_set, y_unp, y_par, y_sti, y_app, y_rem, y_appc, y_ex, y_ife, y_whl, y_for1, y_forN, y_ret, y_retN, y_rai, y_try, y_tryR, x_var, x_lit, x_bin, x_neg, x_cmp, x_chain, x_chain3, x_cio, x_ciL, x_addv, x_and, x_or, x_not, x_tup, x_lst, x_sub, x_slice, x_call, x_bi, x_meth, x_isi, x_range, x_enum, x_zip, x_zips, c_nes, x_dict, x_ditn, evs, evb, evo, tst, brw, isVar, bor, rd, bd_ok, bd_er, bd_st, of_some, of_none, s_ok, s_er, s_st, sb_nx, sb_rt, sb_er, sb_st, val_sh, val_ol, val_od, val_ot, val_er, val_st, blR_bl, truth_bl, truth_lst, intOf_int, c_eq, c_ne, c_lt, c_le, c_gt, c_ge, c_inn, c_nin, c_isN, c_notN, n_non, n_int, n_str, n_tup, n_lst, b_add, b_sub, bi_max2, bi_min2, bi_intB, bi_intI, bi_lenL, bi_lenT, bi_lenS, bi_listL, bi_listT, bi_strS, sub_lst, sub_tup, sub_scr, sub_dic, slc_lst, slc_tup, atI0, atI1, atI2, atI3, atI4, eqV_int, eqV_bl, isi_int, isi_intb, isi_bl, isi_lst, isi_tup, isi_str, fp_sh, fp_ol, fp_nx, sz_0, sz_1, sz_2, sz_3, sz_4, sz_5, sz_6, sz_7, fp_er, res_ok, res_er, itm_lst, itm_tup, itm_str, env0, moved, Option.map_some, Option.map_none, Option.bind_some, List.getElem?_cons_zero, List.getElem?_cons_succ, List.set_cons_zero, List.set_cons_succ, List.map_cons, List.map_nil, List.cons_append, List.nil_append, List.length_cons, List.length_nil, List.replicate, if_true, if_false, Bool.false_eq_true, reduceIte, Bool.not_true, Bool.not_false, bodyFm, hl, hll, h1']
  · have h1' : decide ((32 : Int) < (t.names.length : Int)) = false := decide_eq_false (by omega)
    by_cases h2 : 24 < t.deep
    · have h2' : decide ((24 : Int) < (t.deep : Int)) = true := decide_eq_true (by omega)
      rw [if_pos (.inr h2)]
      simp -implicitDefEqProofs only [exB_nil, exB_cons, y_pass, y_set, y_unp, y_par, y_sti, y_app, y_rem, y_appc, y_ex, y_ife, y_whl, y_for1, y_forN, y_ret, y_retN, y_rai, y_try, y_tryR, x_var, x_lit, x_bin, x_neg, x_cmp, x_chain, x_chain3, x_cio, x_ciL, x_addv, x_and, x_or, x_not, x_tup, x_lst, x_sub, x_slice, x_call, x_bi, x_meth, x_isi, x_range, x_enum, x_zip, x_zips, c_nes, x_dict, x_ditn, evs, evb, evo, tst, brw, isVar, bor, rd, bd_ok, bd_er, bd_st, of_some, of_none, s_ok, s_er, s_st, sb_nx, sb_rt, sb_er, sb_st, val_sh, val_ol, val_od, val_ot, val_er, val_st, blR_bl, truth_bl, truth_lst, intOf_int, c_eq, c_ne, c_lt, c_le, c_gt, c_ge, c_inn, c_nin, c_isN, c_notN, n_non, n_int, n_str, n_tup, n_lst, b_add, b_sub, bi_max2, bi_min2, bi_intB, bi_intI, bi_lenL, bi_lenT, bi_lenS, bi_listL, bi_listT, bi_strS, sub_lst, sub_tup, sub_scr, sub_dic, slc_lst, slc_tup, atI0, atI1, atI2, atI3, atI4, eqV_int, eqV_bl, isi_int, isi_intb, isi_bl, isi_lst, isi_tup, isi_str, fp_sh, fp_ol, fp_nx, sz_0, sz_1, sz_2, sz_3, sz_4, sz_5, sz_6, sz_7, fp_er, res_ok, res_er, itm_lst, itm_tup, itm_str, env0, moved, Option.map_some, Option.map_none, Option.bind_some, List.getElem?_cons_zero, List.getElem?_cons_succ, List.set_cons_zero, List.set_cons_succ, List.map_cons, List.map_nil, List.cons_append, List.nil_append, List.length_cons, List.length_nil, List.replicate, if_true, if_false, Bool.false_eq_true, reduceIte, Bool.not_true, Bool.not_false, bodyFm, hl, hll, hd, h1', h2']
    · have h2' : decide ((24 : Int) < (t.deep : Int)) = false := decide_eq_false (by omega)
      rw [if_neg (fun z => z.elim h1 h2)]
      cases hs : scanF t.parts [] with
      | some c =>
        rw [hs] at loop
        obtain ⟨e, loop⟩ := loop
        simp -implicitDefEqProofs only [exB_nil, exB_cons, y_pass, y_set, y_unp, y_par, y_sti, y_app, y_rem, y_appc, y_ex, y_ife, y_whl, y_for1, y_forN, y_ret, y_retN, y_rai, y_try, y_tryR, x_var, x_lit, x_bin, x_neg, x_cmp, x_chain, x_chain3, x_cio, x_ciL, x_addv, x_and, x_or, x_not, x_tup, x_lst, x_sub, x_slice, x_call, x_bi, x_meth, x_isi, x_range, x_enum, x_zip, x_zips, c_nes, x_dict, x_ditn, evs, evb, evo, tst, brw, isVar, bor, rd, bd_ok, bd_er, bd_st, of_some, of_none, s_ok, s_er, s_st, sb_nx, sb_rt, sb_er, sb_st, val_sh, val_ol, val_od, val_ot, val_er, val_st, blR_bl, truth_bl, truth_lst, intOf_int, c_eq, c_ne, c_lt, c_le, c_gt, c_ge, c_inn, c_nin, c_isN, c_notN, n_non, n_int, n_str, n_tup, n_lst, b_add, b_sub, bi_max2, bi_min2, bi_intB, bi_intI, bi_lenL, bi_lenT, bi_lenS, bi_listL, bi_listT, bi_strS, sub_lst, sub_tup, sub_scr, sub_dic, slc_lst, slc_tup, atI0, atI1, atI2, atI3, atI4, eqV_int, eqV_bl, isi_int, isi_intb, isi_bl, isi_lst, isi_tup, isi_str, fp_sh, fp_ol, fp_nx, sz_0, sz_1, sz_2, sz_3, sz_4, sz_5, sz_6, sz_7, fp_er, res_ok, res_er, itm_lst, itm_tup, itm_str, env0, moved, Option.map_some, Option.map_none, Option.bind_some, List.getElem?_cons_zero, List.getElem?_cons_succ, List.set_cons_zero, List.set_cons_succ, List.map_cons, List.map_nil, List.cons_append, List.nil_append, List.length_cons, List.length_nil, List.replicate, if_true, if_false, Bool.false_eq_true, reduceIte, Bool.not_true, Bool.not_false, bodyFm, hl, hll, hd, hp, h1', h2', dd, loop]
      | none =>
        rw [hs] at loop
        obtain ⟨s', w', z', loop⟩ := loop
        simp -implicitDefEqProofs only [exB_nil, exB_cons, y_pass, y_set, y_unp, y_par, y_sti, y_app, y_rem, y_appc, y_ex, y_ife, y_whl, y_for1, y_forN, y_ret, y_retN, y_rai, y_try, y_tryR, x_var, x_lit, x_bin, x_neg, x_cmp, x_chain, x_chain3, x_cio, x_ciL, x_addv, x_and, x_or, x_not, x_tup, x_lst, x_sub, x_slice, x_call, x_bi, x_meth, x_isi, x_range, x_enum, x_zip, x_zips, c_nes, x_dict, x_ditn, evs, evb, evo, tst, brw, isVar, bor, rd, bd_ok, bd_er, bd_st, of_some, of_none, s_ok, s_er, s_st, sb_nx, sb_rt, sb_er, sb_st, val_sh, val_ol, val_od, val_ot, val_er, val_st, blR_bl, truth_bl, truth_lst, intOf_int, c_eq, c_ne, c_lt, c_le, c_gt, c_ge, c_inn, c_nin, c_isN, c_notN, n_non, n_int, n_str, n_tup, n_lst, b_add, b_sub, bi_max2, bi_min2, bi_intB, bi_intI, bi_lenL, bi_lenT, bi_lenS, bi_listL, bi_listT, bi_strS, sub_lst, sub_tup, sub_scr, sub_dic, slc_lst, slc_tup, atI0, atI1, atI2, atI3, atI4, eqV_int, eqV_bl, isi_int, isi_intb, isi_bl, isi_lst, isi_tup, isi_str, fp_sh, fp_ol, fp_nx, sz_0, sz_1, sz_2, sz_3, sz_4, sz_5, sz_6, sz_7, fp_er, res_ok, res_er, itm_lst, itm_tup, itm_str, env0, moved, Option.map_some, Option.map_none, Option.bind_some, List.getElem?_cons_zero, List.getElem?_cons_succ, List.set_cons_zero, List.set_cons_succ, List.map_cons, List.map_nil, List.cons_append, List.nil_append, List.length_cons, List.length_nil, List.replicate, if_true, if_false, Bool.false_eq_true, reduceIte, Bool.not_true, Bool.not_false, bodyFm, hl, hll, hd, hp, h1', h2', dd, loop]
theorem scan_none : ∀ (ps : List Tr) (seen : List T), (∀ u ∈ ps, isNm u.lab = true) → (seen ++ ps.flatMap (fun u => match u with | .leaf x => [x] | .knot _ _ _ => [])).Nodup → scanF ps seen = none
  | [], _, _, _ => rfl
  | u :: r, seen, h, hn => by
    unfold scanF
    rw [if_pos (h u (by simp))]
    cases u with
    | knot f a b => exact scan_none r seen (fun u hu => h u (by simp [hu])) hn
    | leaf x =>
      have hx : x ∉ seen := fun z => by
        rw [List.nodup_append] at hn
        exact hn.2.2 x z x (by simp) rfl
      simp only [if_neg hx]
      refine scan_none r (seen ++ [x]) (fun u hu => h u (by simp [hu])) ?_
      rw [List.append_assoc]
      exact hn
theorem parts_names (t : Tr) : t.parts.flatMap (fun u => match u with | .leaf x => [x] | .knot _ _ _ => []) = t.names := by
  induction t with
  | leaf x => rfl
  | knot f l r h1 h2 => simp only [Tr.parts, Tr.names, List.flatMap_cons, List.flatMap_append, h1, h2, List.nil_append]
theorem parts_lab (t : Tr) : ∀ u ∈ t.parts, u.lab ∈ t.names ∨ u.lab ∈ t.deeds := by
  induction t with
  | leaf x => intro u hu; simp only [Tr.parts, List.mem_singleton] at hu; subst hu; exact .inl (by simp [Tr.lab, Tr.names])
  | knot f l r h1 h2 =>
    intro u hu
    simp only [Tr.parts, List.mem_cons, List.mem_append] at hu
    simp only [Tr.names, Tr.deeds, List.mem_cons, List.mem_append]
    rcases hu with rfl | hu | hu
    · exact .inr (.inl rfl)
    · rcases h1 u hu with h | h
      · exact .inl (.inl h)
      · exact .inr (.inr (.inl h))
    · rcases h2 u hu with h | h
      · exact .inl (.inr h)
      · exact .inr (.inr (.inr h))
theorem form_ok {t : Tr} (h : TrOk t) : formF t = none := by
  unfold formF
  rw [if_neg (fun z => z.elim (fun z => by have := h.ln; omega) (fun z => by have := h.dp; omega))]
  refine scan_none _ _ (fun u hu => ?_) ?_
  · rcases parts_lab t u hu with z | z
    · exact isNm_ok (h.nm _ z)
    · exact isNm_ok (h.dd _ z)
  · rw [parts_names]
    exact h.nd
section
variable {P : List (Nat × Def)} {k : Nat}
theorem fn_isname (h9 : look 9 P = some ⟨1, 2, bodyNm1, none⟩) (s : T) (hs : s.length ≤ szL) : (tabOf P (k + 1)).fn 9 [.str s] = .ok (.sh (.bl (isNm s))) := by
  rw [tab_fn h9]
  exact run_isname s hs
theorem fn_form (h9 : look 9 P = some ⟨1, 2, bodyNm1, none⟩) (h10 : look 10 P = some ⟨1, 3, bodyPlaces, none⟩) (h11 : look 11 P = some ⟨2, 3, bodyPart, none⟩) (h12 : look 12 P = some ⟨1, 2, bodyLeaves, none⟩) (h14 : look 14 P = some ⟨1, 1, bodyDepth, none⟩) (h15 : look 15 P = some ⟨1, 4, bodyFm, none⟩) (t : Tr) (hd : t.deep ≤ k + 1) (hn : t.names.length ≤ 900)
    (hs : ∀ u ∈ t.parts, u.lab.length ≤ szL) : (tabOf P (k + 3)).fn 15 [t.enc] = match formF t with | some c => .er c | none => .ok (.sh t.enc) := by
  rw [tab_fn h15]
  exact run_form t hn (fn_leaves h10 h11 h12 t hd hn) (fn_depth h14 t _ (by omega)) (fn_places h10 _ t (by omega) hn) (fun p u hu => fn_part h11 hu) fun u hu => fn_isname h9 _ (hs u hu)
end
end Dl

namespace Dl
/-! ### formulas as texts -/
def txF : Tr → T
  | .leaf x => x
  | .knot f l r => f ++ [40] ++ txF l ++ [32] ++ txF r ++ [41]
def bodyShow (id : Nat) : List S := [.ife (.cmp .eq (.sub (.var 0) (.lit (.int 0))) (.lit (.str [108, 101, 97, 102]))) [.ret (.sub (.var 0) (.lit (.int 1)))] [], .ret (.bin .add (.bin .add (.bin .add (.bin .add (.bin .add (.sub (.var 0) (.lit (.int 1))) (.lit (.str [40]))) (.call id [(.sub (.var 0) (.lit (.int 2)))])) (.lit (.str [32]))) (.call id [(.sub (.var 0) (.lit (.int 3)))])) (.lit (.str [41])))]
theorem tx_len : ∀ {t : Tr}, (∀ s ∈ t.names, s.length ≤ 8) → (∀ s ∈ t.deeds, s.length ≤ 8) → (txF t).length + 12 ≤ 20 * t.names.length
  | .leaf x, h, _ => by
    have := h x (by simp [Tr.names])
    simp only [txF, Tr.names, List.length_cons, List.length_nil]
    omega
  | .knot f l r, h, g => by
    have a := tx_len (t := l) (fun s hs => h s (by simp [Tr.names, hs])) (fun s hs => g s (by simp [Tr.deeds, hs]))
    have b := tx_len (t := r) (fun s hs => h s (by simp [Tr.names, hs])) (fun s hs => g s (by simp [Tr.deeds, hs]))
    have c := g f (by simp [Tr.deeds])
    simp only [txF, Tr.names, List.length_append, List.length_cons, List.length_nil]
    omega
theorem run_show {G : Tab} (id : Nat) (t : Tr) (hz : (txF t).length ≤ szL) (hl : ∀ f l r, t = .knot f l r → G.fn id [l.enc] = .ok (.sh (.str (txF l))) ∧ G.fn id [r.enc] = .ok (.sh (.str (txF r)))) : run G ⟨1, 1, bodyShow id, none⟩ [t.enc] = .ok (.sh (.str (txF t))) := by
  rw [run_eq rfl rfl]
  cases t with
  | leaf x =>
    have hx : subD (Tr.leaf x).enc (.int 1) = some (.str x) := rfl
    simp -implicitDefEqProofs only [exB_nil, exB_cons, y_pass, y_set, y_unp, y_par, y_sti, y_app, y_rem, y_appc, y_ex, y_ife, y_whl, y_for1, y_forN, y_ret, y_retN, y_rai, y_try, y_tryR, x_var, x_lit, x_bin, x_neg, x_cmp, x_chain, x_chain3, x_cio, x_ciL, x_addv, x_and, x_or, x_not, x_tup, x_lst, x_sub, x_slice, x_call, x_bi, x_meth, x_isi, x_range, x_enum, x_zip, x_zips, c_nes, x_dict, x_ditn, evs, evb, evo, tst, brw, isVar, bor, rd, bd_ok, bd_er, bd_st, of_some, of_none, s_ok, s_er, s_st, sb_nx, sb_rt, sb_er, sb_st, val_sh, val_ol, val_od, val_ot, val_er, val_st, blR_bl, truth_bl, truth_lst, intOf_int, c_eq, c_ne, c_lt, c_le, c_gt, c_ge, c_inn, c_nin, c_isN, c_notN, n_non, n_int, n_str, n_tup, n_lst, b_add, b_sub, bi_max2, bi_min2, bi_intB, bi_intI, bi_lenL, bi_lenT, bi_lenS, bi_listL, bi_listT, bi_strS, sub_lst, sub_tup, sub_scr, sub_dic, slc_lst, slc_tup, atI0, atI1, atI2, atI3, atI4, eqV_int, eqV_bl, isi_int, isi_intb, isi_bl, isi_lst, isi_tup, isi_str, fp_sh, fp_ol, fp_nx, sz_0, sz_1, sz_2, sz_3, sz_4, sz_5, sz_6, sz_7, fp_er, res_ok, res_er, itm_lst, itm_tup, itm_str, env0, moved, Option.map_some, Option.map_none, Option.bind_some, List.getElem?_cons_zero, List.getElem?_cons_succ, List.set_cons_zero, List.set_cons_succ, List.map_cons, List.map_nil, List.cons_append, List.nil_append, List.length_cons, List.length_nil, List.replicate, if_true, if_false, Bool.false_eq_true, reduceIte, Bool.not_true, Bool.not_false, bodyShow, sub_leaf, eqV_ll, hx, txF]
  | knot f l r =>
    obtain ⟨h1, h2⟩ := hl f l r rfl
    have hx : subD (Tr.knot f l r).enc (.int 1) = some (.str f) := rfl
    have e : txF (.knot f l r) = f ++ [40] ++ txF l ++ [32] ++ txF r ++ [41] := rfl
    rw [e] at hz ⊢
    generalize txF l = tl at h1 hz ⊢
    generalize txF r = tr at h2 hz ⊢
    simp only [List.length_append, List.length_cons, List.length_nil] at hz
    have a1 : binD .add (.str f) (.str [40]) = some (.sh (.str (f ++ [40]))) := b_addS _ _ (by simp only [List.length_cons, List.length_nil]; omega)
    have a2 : binD .add (.str (f ++ [40])) (.str tl) = some (.sh (.str (f ++ [40] ++ tl))) := b_addS _ _ (by simp only [List.length_append, List.length_cons, List.length_nil]; omega)
    have a3 : binD .add (.str (f ++ [40] ++ tl)) (.str [32]) = some (.sh (.str (f ++ [40] ++ tl ++ [32]))) := b_addS _ _ (by simp only [List.length_append, List.length_cons, List.length_nil]; omega)
    have a4 : binD .add (.str (f ++ [40] ++ tl ++ [32])) (.str tr) = some (.sh (.str (f ++ [40] ++ tl ++ [32] ++ tr))) := b_addS _ _ (by simp only [List.length_append, List.length_cons, List.length_nil]; omega)
    have a5 : binD .add (.str (f ++ [40] ++ tl ++ [32] ++ tr)) (.str [41]) = some (.sh (.str (f ++ [40] ++ tl ++ [32] ++ tr ++ [41]))) := b_addS _ _ (by simp only [List.length_append, List.length_cons, List.length_nil]; omega)
    generalize f ++ [40] ++ tl ++ [32] ++ tr ++ [41] = s5 at a5 ⊢
    generalize f ++ [40] ++ tl ++ [32] ++ tr = s4 at a4 a5
    generalize f ++ [40] ++ tl ++ [32] = s3 at a3 a4
    generalize f ++ [40] ++ tl = s2 at a2 a3
    generalize f ++ [40] = s1 at a1 a2
    simp -implicitDefEqProofs only [exB_nil, exB_cons, y_pass, y_set, y_unp, y_par, y_sti, y_app, y_rem, y_appc, y_ex, y_ife, y_whl, y_for1, y_forN, y_ret, y_retN, y_rai, y_try, y_tryR, x_var, x_lit, x_bin, x_neg, x_cmp, x_chain, x_chain3, x_cio, x_ciL, x_addv, x_and, x_or, x_not, x_tup, x_lst, x_sub, x_slice, x_call, x_bi, x_meth, x_isi, x_range, x_enum, x_zip, x_zips, c_nes, x_dict, x_ditn, evs, evb, evo, tst, brw, isVar, bor, rd, bd_ok, bd_er, bd_st, of_some, of_none, s_ok, s_er, s_st, sb_nx, sb_rt, sb_er, sb_st, val_sh, val_ol, val_od, val_ot, val_er, val_st, blR_bl, truth_bl, truth_lst, intOf_int, c_eq, c_ne, c_lt, c_le, c_gt, c_ge, c_inn, c_nin, c_isN, c_notN, n_non, n_int, n_str, n_tup, n_lst, b_add, b_sub, bi_max2, bi_min2, bi_intB, bi_intI, bi_lenL, bi_lenT, bi_lenS, bi_listL, bi_listT, bi_strS, sub_lst, sub_tup, sub_scr, sub_dic, slc_lst, slc_tup, atI0, atI1, atI2, atI3, atI4, eqV_int, eqV_bl, isi_int, isi_intb, isi_bl, isi_lst, isi_tup, isi_str, fp_sh, fp_ol, fp_nx, sz_0, sz_1, sz_2, sz_3, sz_4, sz_5, sz_6, sz_7, fp_er, res_ok, res_er, itm_lst, itm_tup, itm_str, env0, moved, Option.map_some, Option.map_none, Option.bind_some, List.getElem?_cons_zero, List.getElem?_cons_succ, List.set_cons_zero, List.set_cons_succ, List.map_cons, List.map_nil, List.cons_append, List.nil_append, List.length_cons, List.length_nil, List.replicate, if_true, if_false, Bool.false_eq_true, reduceIte, Bool.not_true, Bool.not_false, bodyShow, sub_knot, sub_knot2, sub_knot3, eqV_kk, h1, h2, hx, a1, a2, a3, a4, a5]
theorem fn_show {P : List (Nat × Def)} {id : Nat} (hP : look id P = some ⟨1, 1, bodyShow id, none⟩) : ∀ (t : Tr) (k : Nat), t.deep ≤ k → (∀ s ∈ t.names, s.length ≤ 8) → (∀ s ∈ t.deeds, s.length ≤ 8) → t.names.length ≤ 1000 → (tabOf P k).fn id [t.enc] = .ok (.sh (.str (txF t)))
  | t, 0, h, _, _, _ => by cases t <;> simp only [Tr.deep] at h <;> omega
  | t, k + 1, h, hn, hd, hl => by
    rw [tab_fn hP]
    refine run_show id t (by have := tx_len hn hd; unfold szL; omega) fun f l r e => ?_
    subst e
    simp only [Tr.deep] at h
    simp only [Tr.names, List.length_append] at hl
    exact ⟨fn_show hP l k (by omega) (fun s hs => hn s (by simp [Tr.names, hs])) (fun s hs => hd s (by simp [Tr.deeds, hs])) (by omega), fn_show hP r k (by omega) (fun s hs => hn s (by simp [Tr.names, hs])) (fun s hs => hd s (by simp [Tr.deeds, hs])) (by omega)⟩
/-! cuts of texts -/
theorem cut_mid {α : Type} (xs : List α) (p q : Nat) (hp : p ≤ xs.length) (hq : p ≤ q) : cut xs (some (p : Int)) (some (q : Int)) = (xs.drop p).take (q - p) := by
  unfold cut
  have e1 : sIx xs.length 0 (some (p : Int)) = p := by
    show (if (p : Int) < 0 then ((p : Int) + (xs.length : Int)).toNat else min (p : Int).toNat xs.length) = p
    rw [if_neg (by omega), Int.toNat_natCast]
    omega
  have e2 : sIx xs.length xs.length (some (q : Int)) = min q xs.length := by
    show (if (q : Int) < 0 then ((q : Int) + (xs.length : Int)).toNat else min (q : Int).toNat xs.length) = _
    rw [if_neg (by omega), Int.toNat_natCast]
  rw [e1, e2]
  by_cases h : q ≤ xs.length
  · rw [Nat.min_eq_left (a := q) h]
  · have l : (xs.drop p).length = xs.length - p := List.length_drop
    rw [Nat.min_eq_right (by omega), List.take_of_length_le (i := xs.length - p) (by omega), List.take_of_length_le (i := q - p) (by omega)]
theorem atI_drop {x r : T} {e c : Nat} (h : x.drop e = c :: r) : Dl.atI x (e : Int) = some c ∧ e < x.length ∧ x.drop (e + 1) = r := by
  have l : e < x.length := by
    have := congrArg List.length h
    rw [List.length_drop, List.length_cons] at this
    omega
  have g : x[e]? = some c := by
    have := congrArg (fun l => l[0]?) h
    simpa using this
  refine ⟨by rw [atI_nat]; exact g, l, ?_⟩
  have := congrArg (List.drop 1) h
  rw [List.drop_drop] at this
  exact this
/-! a text is read -/
def abcB (c : Nat) : Bool := abc.contains c
def spW : T → T × T
  | [] => ([], [])
  | c :: r => if abcB c = true then (c :: (spW r).1, (spW r).2) else ([], c :: r)
theorem spW_ok : ∀ s : T, s = (spW s).1 ++ (spW s).2 ∧ (∀ c ∈ (spW s).1, abcB c = true) ∧ ∀ c r, (spW s).2 = c :: r → abcB c = false
  | [] => ⟨rfl, (fun c h => by cases h), (fun c r h => by cases h)⟩
  | c :: s => by
    obtain ⟨h1, h2, h3⟩ := spW_ok s
    unfold spW
    split
    · rename_i h
      refine ⟨by show _ = c :: ((spW s).1 ++ (spW s).2); rw [← h1], fun d hd => ?_, h3⟩
      rcases List.mem_cons.mp hd with rfl | hd
      · exact h
      · exact h2 d hd
    · rename_i h
      refine ⟨rfl, (fun d hd => by cases hd), fun d r e => ?_⟩
      cases e
      simpa using h
theorem spW_app : ∀ (w r : T), (∀ c ∈ w, abcB c = true) → (∀ c s, r = c :: s → abcB c = false) → spW (w ++ r) = (w, r)
  | [], r, _, h => by
    cases r with
    | nil => rfl
    | cons c s =>
      show (if abcB c = true then _ else _) = _
      rw [if_neg (by rw [h c s rfl]; decide)]
  | c :: w, r, hw, h => by
    show (if abcB c = true then (c :: (spW (w ++ r)).1, (spW (w ++ r)).2) else ([], c :: (w ++ r))) = _
    rw [if_pos (hw c (by simp)), spW_app w r (fun d hd => hw d (by simp [hd])) h]
def sgn (c : Nat) : T → Option T
  | [] => none
  | d :: r => if d = c then some r else none
def parS : Nat → T → Option (Tr × T)
  | 0, _ => none
  | n + 1, s => match (spW s).2 with
    | [] => some (.leaf (spW s).1, [])
    | c :: r => if c = 40 then (parS n r).bind fun a => (sgn 32 a.2).bind fun r2 => (parS n r2).bind fun b => (sgn 41 b.2).bind fun r4 => some (.knot (spW s).1 a.1 b.1, r4) else some (.leaf (spW s).1, c :: r)
theorem sgn_suf {c : Nat} {s r : T} (h : sgn c s = some r) : s = c :: r := by
  cases s with
  | nil => cases h
  | cons d s =>
    simp only [sgn] at h
    split at h
    · rename_i e; cases h; rw [e]
    · cases h
theorem par_suf : ∀ (n : Nat) (s : T) (t : Tr) (r : T), parS n s = some (t, r) → ∃ w, s = w ++ r
  | 0, s, t, r, h => by cases h
  | n + 1, s, t, r, h => by
    have hs := (spW_ok s).1
    unfold parS at h
    split at h
    · cases h
      exact ⟨s, by simp⟩
    · rename_i c q hq
      split at h
      · cases ha : parS n q with
        | none => rw [ha] at h; cases h
        | some a =>
          rw [ha] at h
          simp only [Option.bind_some] at h
          cases hb : sgn 32 a.2 with
          | none => rw [hb] at h; cases h
          | some r2 =>
            rw [hb] at h
            simp only [Option.bind_some] at h
            cases hc : parS n r2 with
            | none => rw [hc] at h; cases h
            | some b =>
              rw [hc] at h
              simp only [Option.bind_some] at h
              cases hd : sgn 41 b.2 with
              | none => rw [hd] at h; cases h
              | some r4 =>
                rw [hd] at h
                cases h
                obtain ⟨w1, e1⟩ := par_suf n q a.1 a.2 ha
                obtain ⟨w2, e2⟩ := par_suf n r2 b.1 b.2 hc
                have e3 := sgn_suf hb
                have e4 := sgn_suf hd
                refine ⟨(spW s).1 ++ c :: (w1 ++ 32 :: (w2 ++ [41])), ?_⟩
                have e5 : q = w1 ++ 32 :: (w2 ++ 41 :: r) := by rw [e1, e3, e2, e4]
                rw [hq, e5] at hs
                generalize (spW s).1 = p at hs ⊢
                rw [hs]
                simp
      · cases h
        rw [hq] at hs
        exact ⟨(spW s).1, hs⟩
def rtR (x : T) : Option (Tr × T) → FR
  | some a => .ok (.sh (.tup [a.1.enc, .int ((x.length - a.2.length : Nat) : Int)]))
  | none => .er 4
def wantR (x : T) (a c : Nat) : FR := if x[a]? = some c then .ok (.sh (.int ((a + 1 : Nat) : Int))) else .er 4
def bodyWant : List S := [.ife (.cmp .ne (.slice (.var 0) (some (.var 1)) (some (.bin .add (.var 1) (.lit (.int 1))))) (.var 2)) [.rai 4] [], .ret (.bin .add (.var 1) (.lit (.int 1)))]
theorem all_take {x : T} (h : x.all (· < 1114112) = true) (p n : Nat) : ((x.drop p).take n).all (· < 1114112) = true := by
  rw [List.all_eq_true] at h ⊢
  exact fun c hc => h c (List.mem_of_mem_drop (List.mem_of_mem_take hc))
theorem one_at {x : T} {a c : Nat} : ((x.drop a).take 1 == [c]) = decide (x[a]? = some c) := by
  have e : (x.drop a)[0]? = x[a]? := by simp
  cases h : x.drop a with
  | nil =>
    rw [h] at e
    rw [← e]
    rfl
  | cons d r =>
    rw [h] at e
    rw [← e]
    show ([d] == [c]) = decide (some d = some c)
    by_cases q : d = c
    · subst q; simp
    · simp [q]
theorem run_want {G : Tab} (x : T) (hx : x.length ≤ 100000) (ho : x.all (· < 1114112) = true) (a c : Nat) (ha : a ≤ x.length) (hc : c < 1114112) : run G ⟨3, 3, bodyWant, none⟩ [.str x, .int (a : Int), .str [c]] = wantR x a c := by
  have e1 : ((a : Nat) : Int) + 1 = ((a + 1 : Nat) : Int) := by omega
  have hs : sliceD (.str x) (some (a : Int)) (some ((a + 1 : Nat) : Int)) = some (.sh (.str ((x.drop a).take 1))) := by
    rw [slc_str _ _ _ (by unfold szL; omega), cut_mid _ _ _ ha (by omega)]
    have e : a + 1 - a = 1 := by omega
    rw [e]
  have he : eqV (.str ((x.drop a).take 1)) (.str [c]) = some (decide (x[a]? = some c)) := by
    rw [eqV_str _ _ (all_take ho a 1) (by simp [hc]), one_at]
  unfold wantR
  rw [run_eq rfl rfl]
  by_cases h : x[a]? = some c
  · rw [if_pos h]
    rw [decide_eq_true h] at he
    simp -implicitDefEqProofs only [exB_nil, exB_cons, y_pass, y_set, y_unp, y_par, y_sti, y_app, y_rem, y_appc, y_ex, y_ife, y_whl, y_for1, y_forN, y_ret, y_retN, y_rai, y_try, y_tryR, x_var, x_lit, x_bin, x_neg, x_cmp, x_chain, x_chain3, x_cio, x_ciL, x_addv, x_and, x_or, x_not, x_tup, x_lst, x_sub, x_slice, x_call, x_bi, x_meth, x_isi, x_range, x_enum, x_zip, x_zips, c_nes, x_dict, x_ditn, evs, evb, evo, tst, brw, isVar, bor, rd, bd_ok, bd_er, bd_st, of_some, of_none, s_ok, s_er, s_st, sb_nx, sb_rt, sb_er, sb_st, val_sh, val_ol, val_od, val_ot, val_er, val_st, blR_bl, truth_bl, truth_lst, intOf_int, c_eq, c_ne, c_lt, c_le, c_gt, c_ge, c_inn, c_nin, c_isN, c_notN, n_non, n_int, n_str, n_tup, n_lst, b_add, b_sub, bi_max2, bi_min2, bi_intB, bi_intI, bi_lenL, bi_lenT, bi_lenS, bi_listL, bi_listT, bi_strS, sub_lst, sub_tup, sub_scr, sub_dic, slc_lst, slc_tup, atI0, atI1, atI2, atI3, atI4, eqV_int, eqV_bl, isi_int, isi_intb, isi_bl, isi_lst, isi_tup, isi_str, fp_sh, fp_ol, fp_nx, sz_0, sz_1, sz_2, sz_3, sz_4, sz_5, sz_6, sz_7, fp_er, res_ok, res_er, itm_lst, itm_tup, itm_str, env0, moved, Option.map_some, Option.map_none, Option.bind_some, List.getElem?_cons_zero, List.getElem?_cons_succ, List.set_cons_zero, List.set_cons_succ, List.map_cons, List.map_nil, List.cons_append, List.nil_append, List.length_cons, List.length_nil, List.replicate, if_true, if_false, Bool.false_eq_true, reduceIte, Bool.not_true, Bool.not_false, bodyWant, e1, hs, he]
  · rw [if_neg h]
    rw [decide_eq_false h] at he
    simp -implicitDefEqProofs only [exB_nil, exB_cons, y_pass, y_set, y_unp, y_par, y_sti, y_app, y_rem, y_appc, y_ex, y_ife, y_whl, y_for1, y_forN, y_ret, y_retN, y_rai, y_try, y_tryR, x_var, x_lit, x_bin, x_neg, x_cmp, x_chain, x_chain3, x_cio, x_ciL, x_addv, x_and, x_or, x_not, x_tup, x_lst, x_sub, x_slice, x_call, x_bi, x_meth, x_isi, x_range, x_enum, x_zip, x_zips, c_nes, x_dict, x_ditn, evs, evb, evo, tst, brw, isVar, bor, rd, bd_ok, bd_er, bd_st, of_some, of_none, s_ok, s_er, s_st, sb_nx, sb_rt, sb_er, sb_st, val_sh, val_ol, val_od, val_ot, val_er, val_st, blR_bl, truth_bl, truth_lst, intOf_int, c_eq, c_ne, c_lt, c_le, c_gt, c_ge, c_inn, c_nin, c_isN, c_notN, n_non, n_int, n_str, n_tup, n_lst, b_add, b_sub, bi_max2, bi_min2, bi_intB, bi_intI, bi_lenL, bi_lenT, bi_lenS, bi_listL, bi_listT, bi_strS, sub_lst, sub_tup, sub_scr, sub_dic, slc_lst, slc_tup, atI0, atI1, atI2, atI3, atI4, eqV_int, eqV_bl, isi_int, isi_intb, isi_bl, isi_lst, isi_tup, isi_str, fp_sh, fp_ol, fp_nx, sz_0, sz_1, sz_2, sz_3, sz_4, sz_5, sz_6, sz_7, fp_er, res_ok, res_er, itm_lst, itm_tup, itm_str, env0, moved, Option.map_some, Option.map_none, Option.bind_some, List.getElem?_cons_zero, List.getElem?_cons_succ, List.set_cons_zero, List.set_cons_succ, List.map_cons, List.map_nil, List.cons_append, List.nil_append, List.length_cons, List.length_nil, List.replicate, if_true, if_false, Bool.false_eq_true, reduceIte, Bool.not_true, Bool.not_false, bodyWant, e1, hs, he]
def cScan : E := .and (.cmp .lt (.var 3) (.bi .len [(.var 0)])) (.cmp .inn (.sub (.var 0) (.var 3)) (.lit (.str [97, 98, 99, 100, 101, 102, 103, 104, 105, 106, 107, 108, 109, 110, 111, 112, 113, 114, 115, 116, 117, 118, 119, 120, 121, 122])))
def bScan : List S := [.set 3 (.bin .add (.var 3) (.lit (.int 1)))]
def bodyRt : List S := [.ife (.cmp .gt (.var 2) (.lit (.int 24))) [.rai 4] [], .set 3 (.var 1), .whl cScan bScan, .set 4 (.slice (.var 0) (some (.var 1)) (some (.var 3))), .ife (.cmp .ne (.slice (.var 0) (some (.var 3)) (some (.bin .add (.var 3) (.lit (.int 1))))) (.lit (.str [40]))) [.ret (.tup [(.tup [(.lit (.str [108, 101, 97, 102])), (.var 4)]), (.var 3)])] [], .unp [5, 3] (.call 24 [(.var 0), (.bin .add (.var 3) (.lit (.int 1))), (.bin .add (.var 2) (.lit (.int 1)))]), .unp [6, 3] (.call 24 [(.var 0), (.call 23 [(.var 0), (.var 3), (.lit (.str [32]))]), (.bin .add (.var 2) (.lit (.int 1)))]), .ret (.tup [(.tup [(.lit (.str [107, 110, 111, 116])), (.var 4), (.var 5), (.var 6)]), (.call 23 [(.var 0), (.var 3), (.lit (.str [41]))])])]
theorem scan_lp {G : Tab} {x : T} (hx : x.length ≤ 100000) (A1 A2 A4 A5 A6 : Option DV) : ∀ (w r : T) (e fuel : Nat), x.drop e = w ++ r → (∀ c ∈ w, abcB c = true) → (∀ c s, r = c :: s → abcB c = false) → e ≤ x.length → w.length < fuel →
    whileL (tst G cScan) (exB G bScan) fuel [some (.sh (.str x)), A1, A2, some (.sh (.int (e : Int))), A4, A5, A6] = .nx [some (.sh (.str x)), A1, A2, some (.sh (.int ((e + w.length : Nat) : Int))), A4, A5, A6] := by
  have bl : biD .len [.str x] = some (.sh (.int (x.length : Int))) := bi_lenX x (by unfold szL; omega)
  intro w
  induction w with
  | nil =>
    intro r e fuel h hw hr he hf
    obtain ⟨fuel, rfl⟩ : ∃ k, fuel = k + 1 := ⟨fuel - 1, by simp only [List.length_nil] at hf; omega⟩
    have hc : tst G cScan [some (.sh (.str x)), A1, A2, some (.sh (.int (e : Int))), A4, A5, A6] = .ok false [some (.sh (.str x)), A1, A2, some (.sh (.int (e : Int))), A4, A5, A6] := by
      cases r with
      | nil =>
        have hl : ¬ (e : Int) < (x.length : Int) := by
          have := congrArg List.length h
          simp only [List.length_drop, List.length_append, List.length_nil] at this
          omega
        simp -implicitDefEqProofs only [exB_nil, exB_cons, y_pass, y_set, y_unp, y_par, y_sti, y_app, y_rem, y_appc, y_ex, y_ife, y_whl, y_for1, y_forN, y_ret, y_retN, y_rai, y_try, y_tryR, x_var, x_lit, x_bin, x_neg, x_cmp, x_chain, x_chain3, x_cio, x_ciL, x_addv, x_and, x_or, x_not, x_tup, x_lst, x_sub, x_slice, x_call, x_bi, x_meth, x_isi, x_range, x_enum, x_zip, x_zips, c_nes, x_dict, x_ditn, evs, evb, evo, tst, brw, isVar, bor, rd, bd_ok, bd_er, bd_st, of_some, of_none, s_ok, s_er, s_st, sb_nx, sb_rt, sb_er, sb_st, val_sh, val_ol, val_od, val_ot, val_er, val_st, blR_bl, truth_bl, truth_lst, intOf_int, c_eq, c_ne, c_lt, c_le, c_gt, c_ge, c_inn, c_nin, c_isN, c_notN, n_non, n_int, n_str, n_tup, n_lst, b_add, b_sub, bi_max2, bi_min2, bi_intB, bi_intI, bi_lenL, bi_lenT, bi_lenS, bi_listL, bi_listT, bi_strS, sub_lst, sub_tup, sub_scr, sub_dic, slc_lst, slc_tup, atI0, atI1, atI2, atI3, atI4, eqV_int, eqV_bl, isi_int, isi_intb, isi_bl, isi_lst, isi_tup, isi_str, fp_sh, fp_ol, fp_nx, sz_0, sz_1, sz_2, sz_3, sz_4, sz_5, sz_6, sz_7, fp_er, res_ok, res_er, itm_lst, itm_tup, itm_str, env0, moved, Option.map_some, Option.map_none, Option.bind_some, List.getElem?_cons_zero, List.getElem?_cons_succ, List.set_cons_zero, List.set_cons_succ, List.map_cons, List.map_nil, List.cons_append, List.nil_append, List.length_cons, List.length_nil, List.replicate, if_true, if_false, Bool.false_eq_true, reduceIte, Bool.not_true, Bool.not_false, cScan, bl, decide_eq_false hl]
      | cons c s =>
        obtain ⟨g1, g2, g3⟩ := atI_drop (show x.drop e = c :: s from h)
        have hl : (e : Int) < (x.length : Int) := by omega
        have hs : subD (.str x) (.int (e : Int)) = some (.str [c]) := by rw [sub_str _ _ (by unfold szL; omega), g1]; rfl
        have hi : inD (.str [c]) (.str [97, 98, 99, 100, 101, 102, 103, 104, 105, 106, 107, 108, 109, 110, 111, 112, 113, 114, 115, 116, 117, 118, 119, 120, 121, 122]) = some false := by
          show some (abcB c) = _
          rw [hr c s rfl]
        simp -implicitDefEqProofs only [exB_nil, exB_cons, y_pass, y_set, y_unp, y_par, y_sti, y_app, y_rem, y_appc, y_ex, y_ife, y_whl, y_for1, y_forN, y_ret, y_retN, y_rai, y_try, y_tryR, x_var, x_lit, x_bin, x_neg, x_cmp, x_chain, x_chain3, x_cio, x_ciL, x_addv, x_and, x_or, x_not, x_tup, x_lst, x_sub, x_slice, x_call, x_bi, x_meth, x_isi, x_range, x_enum, x_zip, x_zips, c_nes, x_dict, x_ditn, evs, evb, evo, tst, brw, isVar, bor, rd, bd_ok, bd_er, bd_st, of_some, of_none, s_ok, s_er, s_st, sb_nx, sb_rt, sb_er, sb_st, val_sh, val_ol, val_od, val_ot, val_er, val_st, blR_bl, truth_bl, truth_lst, intOf_int, c_eq, c_ne, c_lt, c_le, c_gt, c_ge, c_inn, c_nin, c_isN, c_notN, n_non, n_int, n_str, n_tup, n_lst, b_add, b_sub, bi_max2, bi_min2, bi_intB, bi_intI, bi_lenL, bi_lenT, bi_lenS, bi_listL, bi_listT, bi_strS, sub_lst, sub_tup, sub_scr, sub_dic, slc_lst, slc_tup, atI0, atI1, atI2, atI3, atI4, eqV_int, eqV_bl, isi_int, isi_intb, isi_bl, isi_lst, isi_tup, isi_str, fp_sh, fp_ol, fp_nx, sz_0, sz_1, sz_2, sz_3, sz_4, sz_5, sz_6, sz_7, fp_er, res_ok, res_er, itm_lst, itm_tup, itm_str, env0, moved, Option.map_some, Option.map_none, Option.bind_some, List.getElem?_cons_zero, List.getElem?_cons_succ, List.set_cons_zero, List.set_cons_succ, List.map_cons, List.map_nil, List.cons_append, List.nil_append, List.length_cons, List.length_nil, List.replicate, if_true, if_false, Bool.false_eq_true, reduceIte, Bool.not_true, Bool.not_false, cScan, bl, decide_eq_true hl, hs, hi]
    show (tst G cScan _).s (fun k env => if k then (exB G bScan env).bd fun env => whileL (tst G cScan) (exB G bScan) fuel env else .nx env) = _
    rw [hc]
    rfl
  | cons c w ih =>
    intro r e fuel h hw hr he hf
    simp only [List.length_cons] at hf
    obtain ⟨fuel, rfl⟩ : ∃ k, fuel = k + 1 := ⟨fuel - 1, by omega⟩
    obtain ⟨g1, g2, g3⟩ := atI_drop (show x.drop e = c :: (w ++ r) from h)
    have hl : (e : Int) < (x.length : Int) := by omega
    have hs : subD (.str x) (.int (e : Int)) = some (.str [c]) := by rw [sub_str _ _ (by unfold szL; omega), g1]; rfl
    have hi : inD (.str [c]) (.str [97, 98, 99, 100, 101, 102, 103, 104, 105, 106, 107, 108, 109, 110, 111, 112, 113, 114, 115, 116, 117, 118, 119, 120, 121, 122]) = some true := by
      show some (abcB c) = _
      rw [hw c (by simp)]
    have hc : tst G cScan [some (.sh (.str x)), A1, A2, some (.sh (.int (e : Int))), A4, A5, A6] = .ok true [some (.sh (.str x)), A1, A2, some (.sh (.int (e : Int))), A4, A5, A6] := by
      simp -implicitDefEqProofs only [exB_nil, exB_cons, y_pass, y_set, y_unp, y_par, y_sti, y_app, y_rem, y_appc, y_ex, y_ife, y_whl, y_for1, y_forN, y_ret, y_retN, y_rai, y_try, y_tryR, x_var, x_lit, x_bin, x_neg, x_cmp, x_chain, x_chain3, x_cio, x_ciL, x_addv, x_and, x_or, x_not, x_tup, x_lst, x_sub, x_slice, x_call, x_bi, x_meth, x_isi, x_range, x_enum, x_zip, x_zips, c_nes, x_dict, x_ditn, evs, evb, evo, tst, brw, isVar, bor, rd, bd_ok, bd_er, bd_st, of_some, of_none, s_ok, s_er, s_st, sb_nx, sb_rt, sb_er, sb_st, val_sh, val_ol, val_od, val_ot, val_er, val_st, blR_bl, truth_bl, truth_lst, intOf_int, c_eq, c_ne, c_lt, c_le, c_gt, c_ge, c_inn, c_nin, c_isN, c_notN, n_non, n_int, n_str, n_tup, n_lst, b_add, b_sub, bi_max2, bi_min2, bi_intB, bi_intI, bi_lenL, bi_lenT, bi_lenS, bi_listL, bi_listT, bi_strS, sub_lst, sub_tup, sub_scr, sub_dic, slc_lst, slc_tup, atI0, atI1, atI2, atI3, atI4, eqV_int, eqV_bl, isi_int, isi_intb, isi_bl, isi_lst, isi_tup, isi_str, fp_sh, fp_ol, fp_nx, sz_0, sz_1, sz_2, sz_3, sz_4, sz_5, sz_6, sz_7, fp_er, res_ok, res_er, itm_lst, itm_tup, itm_str, env0, moved, Option.map_some, Option.map_none, Option.bind_some, List.getElem?_cons_zero, List.getElem?_cons_succ, List.set_cons_zero, List.set_cons_succ, List.map_cons, List.map_nil, List.cons_append, List.nil_append, List.length_cons, List.length_nil, List.replicate, if_true, if_false, Bool.false_eq_true, reduceIte, Bool.not_true, Bool.not_false, cScan, bl, decide_eq_true hl, hs, hi]
    have e1 : (e : Int) + 1 = ((e + 1 : Nat) : Int) := by omega
    have hb : exB G bScan [some (.sh (.str x)), A1, A2, some (.sh (.int (e : Int))), A4, A5, A6] = .nx [some (.sh (.str x)), A1, A2, some (.sh (.int ((e + 1 : Nat) : Int))), A4, A5, A6] := by
      simp -implicitDefEqProofs only [exB_nil, exB_cons, y_pass, y_set, y_unp, y_par, y_sti, y_app, y_rem, y_appc, y_ex, y_ife, y_whl, y_for1, y_forN, y_ret, y_retN, y_rai, y_try, y_tryR, x_var, x_lit, x_bin, x_neg, x_cmp, x_chain, x_chain3, x_cio, x_ciL, x_addv, x_and, x_or, x_not, x_tup, x_lst, x_sub, x_slice, x_call, x_bi, x_meth, x_isi, x_range, x_enum, x_zip, x_zips, c_nes, x_dict, x_ditn, evs, evb, evo, tst, brw, isVar, bor, rd, bd_ok, bd_er, bd_st, of_some, of_none, s_ok, s_er, s_st, sb_nx, sb_rt, sb_er, sb_st, val_sh, val_ol, val_od, val_ot, val_er, val_st, blR_bl, truth_bl, truth_lst, intOf_int, c_eq, c_ne, c_lt, c_le, c_gt, c_ge, c_inn, c_nin, c_isN, c_notN, n_non, n_int, n_str, n_tup, n_lst, b_add, b_sub, bi_max2, bi_min2, bi_intB, bi_intI, bi_lenL, bi_lenT, bi_lenS, bi_listL, bi_listT, bi_strS, sub_lst, sub_tup, sub_scr, sub_dic, slc_lst, slc_tup, atI0, atI1, atI2, atI3, atI4, eqV_int, eqV_bl, isi_int, isi_intb, isi_bl, isi_lst, isi_tup, isi_str, fp_sh, fp_ol, fp_nx, sz_0, sz_1, sz_2, sz_3, sz_4, sz_5, sz_6, sz_7, fp_er, res_ok, res_er, itm_lst, itm_tup, itm_str, env0, moved, Option.map_some, Option.map_none, Option.bind_some, List.getElem?_cons_zero, List.getElem?_cons_succ, List.set_cons_zero, List.set_cons_succ, List.map_cons, List.map_nil, List.cons_append, List.nil_append, List.length_cons, List.length_nil, List.replicate, if_true, if_false, Bool.false_eq_true, reduceIte, Bool.not_true, Bool.not_false, bScan, e1]
    show (tst G cScan _).s (fun k env => if k then (exB G bScan env).bd fun env => whileL (tst G cScan) (exB G bScan) fuel env else .nx env) = _
    rw [hc, s_ok, if_pos rfl, hb, sb_nx, ih r (e + 1) fuel g3 (fun d hd => hw d (by simp [hd])) hr (by omega) (by omega)]
    have e2 : e + 1 + w.length = e + (c :: w).length := by simp only [List.length_cons]; omega
    rw [e2]
theorem drop_suf {x s w r : T} {a : Nat} (ha : a ≤ x.length) (h : x.drop a = s) (hs : s = w ++ r) : x.drop (x.length - r.length) = r ∧ r.length ≤ x.length := by
  have l := congrArg List.length (h.trans hs)
  rw [List.length_drop, List.length_append] at l
  have e : x.length - r.length = a + w.length := by omega
  refine ⟨?_, by omega⟩
  rw [e, ← List.drop_drop, h, hs, List.drop_left]
theorem sgn_at {x r : T} (c : Nat) (h : x.drop (x.length - r.length) = r) : wantR x (x.length - r.length) c = match sgn c r with | some s => .ok (.sh (.int ((x.length - s.length : Nat) : Int))) | none => .er 4 := by
  have e : (x.drop (x.length - r.length))[0]? = x[x.length - r.length]? := by simp
  rw [h] at e
  unfold wantR
  rw [← e]
  cases r with
  | nil => rfl
  | cons d s =>
    have l := congrArg List.length h
    rw [List.length_drop] at l
    simp only [List.length_cons] at l
    show (if some d = some c then _ else _) = _
    by_cases q : d = c
    · subst q
      rw [if_pos rfl]
      have e2 : x.length - (d :: s).length + 1 = x.length - s.length := by simp only [List.length_cons]; omega
      rw [e2]
      simp only [sgn, if_true]
    · rw [if_neg (fun z => q (Option.some.inj z))]
      simp only [sgn, if_neg q]
theorem run_rt {G : Tab} {x : T} (hx : x.length ≤ 4000) (ho : x.all (· < 1114112) = true) (h23 : ∀ a c : Nat, a ≤ x.length → c < 1114112 → G.fn 23 [.str x, .int (a : Int), .str [c]] = wantR x a c) (n a deep : Nat) (hd : n + deep = 25) (ha : a ≤ x.length)
    (ih : ∀ m, n = m + 1 → ∀ b, b ≤ x.length → G.fn 24 [.str x, .int (b : Int), .int ((deep + 1 : Nat) : Int)] = rtR x (parS m (x.drop b))) : run G ⟨3, 7, bodyRt, none⟩ [.str x, .int (a : Int), .int (deep : Int)] = rtR x (parS n (x.drop a)) := by
  rw [run_eq rfl rfl]
  cases n with
  | zero =>
    have q : (24 : Int) < (deep : Int) := by omega
    simp -implicitDefEqProofs only [exB_nil, exB_cons, y_pass, y_set, y_unp, y_par, y_sti, y_app, y_rem, y_appc, y_ex, y_ife, y_whl, y_for1, y_forN, y_ret, y_retN, y_rai, y_try, y_tryR, x_var, x_lit, x_bin, x_neg, x_cmp, x_chain, x_chain3, x_cio, x_ciL, x_addv, x_and, x_or, x_not, x_tup, x_lst, x_sub, x_slice, x_call, x_bi, x_meth, x_isi, x_range, x_enum, x_zip, x_zips, c_nes, x_dict, x_ditn, evs, evb, evo, tst, brw, isVar, bor, rd, bd_ok, bd_er, bd_st, of_some, of_none, s_ok, s_er, s_st, sb_nx, sb_rt, sb_er, sb_st, val_sh, val_ol, val_od, val_ot, val_er, val_st, blR_bl, truth_bl, truth_lst, intOf_int, c_eq, c_ne, c_lt, c_le, c_gt, c_ge, c_inn, c_nin, c_isN, c_notN, n_non, n_int, n_str, n_tup, n_lst, b_add, b_sub, bi_max2, bi_min2, bi_intB, bi_intI, bi_lenL, bi_lenT, bi_lenS, bi_listL, bi_listT, bi_strS, sub_lst, sub_tup, sub_scr, sub_dic, slc_lst, slc_tup, atI0, atI1, atI2, atI3, atI4, eqV_int, eqV_bl, isi_int, isi_intb, isi_bl, isi_lst, isi_tup, isi_str, fp_sh, fp_ol, fp_nx, sz_0, sz_1, sz_2, sz_3, sz_4, sz_5, sz_6, sz_7, fp_er, res_ok, res_er, itm_lst, itm_tup, itm_str, env0, moved, Option.map_some, Option.map_none, Option.bind_some, List.getElem?_cons_zero, List.getElem?_cons_succ, List.set_cons_zero, List.set_cons_succ, List.map_cons, List.map_nil, List.cons_append, List.nil_append, List.length_cons, List.length_nil, List.replicate, if_true, if_false, Bool.false_eq_true, reduceIte, Bool.not_true, Bool.not_false, bodyRt, decide_eq_true q]
    rfl
  | succ m =>
    have ih := ih m rfl
    have q : ¬ (24 : Int) < (deep : Int) := by omega
    obtain ⟨s1, s2, s3⟩ := spW_ok (x.drop a)
    have hl := congrArg List.length s1
    rw [List.length_drop, List.length_append] at hl
    have sc := scan_lp (G := G) (x := x) (by omega) (some (.sh (.int (a : Int)))) (some (.sh (.int (deep : Int)))) none none none (spW (x.drop a)).1 (spW (x.drop a)).2 a whF s1 s2 s3 ha (by unfold whF; omega)
    have sN : sliceD (.str x) (some (a : Int)) (some ((a + (spW (x.drop a)).1.length : Nat) : Int)) = some (.sh (.str (spW (x.drop a)).1)) := by
      rw [slc_str _ _ _ (by unfold szL; omega), cut_mid _ _ _ ha (by omega)]
      have e : a + (spW (x.drop a)).1.length - a = (spW (x.drop a)).1.length := by omega
      rw [e]
      have k : ∀ l : T, l = (spW (x.drop a)).1 ++ (spW (x.drop a)).2 → l.take (spW (x.drop a)).1.length = (spW (x.drop a)).1 := fun l h => by rw [h, List.take_left]
      rw [k _ s1]
    have hr : x.drop (a + (spW (x.drop a)).1.length) = (spW (x.drop a)).2 := by
      have k : ∀ l : T, l = (spW (x.drop a)).1 ++ (spW (x.drop a)).2 → l.drop (spW (x.drop a)).1.length = (spW (x.drop a)).2 := fun l h => by rw [h, List.drop_left]
      rw [← List.drop_drop, k _ s1]
    have e1 : ∀ e : Nat, ((e : Nat) : Int) + 1 = ((e + 1 : Nat) : Int) := fun e => by omega
    have s1' : sliceD (.str x) (some ((a + (spW (x.drop a)).1.length : Nat) : Int)) (some ((a + (spW (x.drop a)).1.length + 1 : Nat) : Int)) = some (.sh (.str ((spW (x.drop a)).2.take 1))) := by
      rw [slc_str _ _ _ (by unfold szL; omega), cut_mid _ _ _ (by omega) (by omega), hr]
      have e : a + (spW (x.drop a)).1.length + 1 - (a + (spW (x.drop a)).1.length) = 1 := by omega
      rw [e]
    have ot : ((spW (x.drop a)).2.take 1).all (· < 1114112) = true := by rw [← hr]; exact all_take ho _ 1
    have he := eqV_str ((spW (x.drop a)).2.take 1) [40] ot (by decide)
    have hend : x.length - (spW (x.drop a)).2.length = a + (spW (x.drop a)).1.length := by omega
    unfold parS
    generalize (spW (x.drop a)).1 = w at *
    cases hq : (spW (x.drop a)).2 with
    | nil =>
      rw [hq] at s1' he hend
      have he : eqV (.str (List.take 1 ([] : T))) (.str [40]) = some false := he
      have hE : a + w.length = x.length := by rw [← hend]; simp
      rw [hE] at sc sN s1'
      simp only [rtR, Tr.enc, List.length_nil, Nat.sub_zero]
      simp -implicitDefEqProofs only [exB_nil, exB_cons, y_pass, y_set, y_unp, y_par, y_sti, y_app, y_rem, y_appc, y_ex, y_ife, y_whl, y_for1, y_forN, y_ret, y_retN, y_rai, y_try, y_tryR, x_var, x_lit, x_bin, x_neg, x_cmp, x_chain, x_chain3, x_cio, x_ciL, x_addv, x_and, x_or, x_not, x_tup, x_lst, x_sub, x_slice, x_call, x_bi, x_meth, x_isi, x_range, x_enum, x_zip, x_zips, c_nes, x_dict, x_ditn, evs, evb, evo, tst, brw, isVar, bor, rd, bd_ok, bd_er, bd_st, of_some, of_none, s_ok, s_er, s_st, sb_nx, sb_rt, sb_er, sb_st, val_sh, val_ol, val_od, val_ot, val_er, val_st, blR_bl, truth_bl, truth_lst, intOf_int, c_eq, c_ne, c_lt, c_le, c_gt, c_ge, c_inn, c_nin, c_isN, c_notN, n_non, n_int, n_str, n_tup, n_lst, b_add, b_sub, bi_max2, bi_min2, bi_intB, bi_intI, bi_lenL, bi_lenT, bi_lenS, bi_listL, bi_listT, bi_strS, sub_lst, sub_tup, sub_scr, sub_dic, slc_lst, slc_tup, atI0, atI1, atI2, atI3, atI4, eqV_int, eqV_bl, isi_int, isi_intb, isi_bl, isi_lst, isi_tup, isi_str, fp_sh, fp_ol, fp_nx, sz_0, sz_1, sz_2, sz_3, sz_4, sz_5, sz_6, sz_7, fp_er, res_ok, res_er, itm_lst, itm_tup, itm_str, env0, moved, Option.map_some, Option.map_none, Option.bind_some, List.getElem?_cons_zero, List.getElem?_cons_succ, List.set_cons_zero, List.set_cons_succ, List.map_cons, List.map_nil, List.cons_append, List.nil_append, List.length_cons, List.length_nil, List.replicate, if_true, if_false, Bool.false_eq_true, reduceIte, Bool.not_true, Bool.not_false, bodyRt, decide_eq_false q, sc, sN, e1, s1', he, kLeaf]
    | cons c r =>
      rw [hq] at s1' he hend hr
      by_cases hc : c = 40
      · subst hc
        have he : eqV (.str (List.take 1 (40 :: r))) (.str [40]) = some true := he
        obtain ⟨g1, g2, g3⟩ := atI_drop hr
        have c1 := ih (a + w.length + 1) (by omega)
        rw [g3] at c1
        simp only [if_true]
        cases ha1 : parS m r with
        | none =>
          rw [ha1] at c1
          simp only [Option.bind_none, rtR] at c1 ⊢
          simp -implicitDefEqProofs only [exB_nil, exB_cons, y_pass, y_set, y_unp, y_par, y_sti, y_app, y_rem, y_appc, y_ex, y_ife, y_whl, y_for1, y_forN, y_ret, y_retN, y_rai, y_try, y_tryR, x_var, x_lit, x_bin, x_neg, x_cmp, x_chain, x_chain3, x_cio, x_ciL, x_addv, x_and, x_or, x_not, x_tup, x_lst, x_sub, x_slice, x_call, x_bi, x_meth, x_isi, x_range, x_enum, x_zip, x_zips, c_nes, x_dict, x_ditn, evs, evb, evo, tst, brw, isVar, bor, rd, bd_ok, bd_er, bd_st, of_some, of_none, s_ok, s_er, s_st, sb_nx, sb_rt, sb_er, sb_st, val_sh, val_ol, val_od, val_ot, val_er, val_st, blR_bl, truth_bl, truth_lst, intOf_int, c_eq, c_ne, c_lt, c_le, c_gt, c_ge, c_inn, c_nin, c_isN, c_notN, n_non, n_int, n_str, n_tup, n_lst, b_add, b_sub, bi_max2, bi_min2, bi_intB, bi_intI, bi_lenL, bi_lenT, bi_lenS, bi_listL, bi_listT, bi_strS, sub_lst, sub_tup, sub_scr, sub_dic, slc_lst, slc_tup, atI0, atI1, atI2, atI3, atI4, eqV_int, eqV_bl, isi_int, isi_intb, isi_bl, isi_lst, isi_tup, isi_str, fp_sh, fp_ol, fp_nx, sz_0, sz_1, sz_2, sz_3, sz_4, sz_5, sz_6, sz_7, fp_er, res_ok, res_er, itm_lst, itm_tup, itm_str, env0, moved, Option.map_some, Option.map_none, Option.bind_some, List.getElem?_cons_zero, List.getElem?_cons_succ, List.set_cons_zero, List.set_cons_succ, List.map_cons, List.map_nil, List.cons_append, List.nil_append, List.length_cons, List.length_nil, List.replicate, if_true, if_false, Bool.false_eq_true, reduceIte, Bool.not_true, Bool.not_false, bodyRt, decide_eq_false q, sc, sN, e1, s1', he, c1]
        | some t1 =>
          rw [ha1] at c1
          simp only [Option.bind_some, rtR] at c1 ⊢
          obtain ⟨w1, f1⟩ := par_suf m r t1.1 t1.2 ha1
          obtain ⟨d1, l1⟩ := drop_suf (by omega) g3 f1
          have k1 := h23 (x.length - t1.2.length) 32 (by omega) (by decide)
          rw [sgn_at 32 d1] at k1
          cases hs1 : sgn 32 t1.2 with
          | none =>
            rw [hs1] at k1
            simp only [Option.bind_none]
            simp -implicitDefEqProofs only [exB_nil, exB_cons, y_pass, y_set, y_unp, y_par, y_sti, y_app, y_rem, y_appc, y_ex, y_ife, y_whl, y_for1, y_forN, y_ret, y_retN, y_rai, y_try, y_tryR, x_var, x_lit, x_bin, x_neg, x_cmp, x_chain, x_chain3, x_cio, x_ciL, x_addv, x_and, x_or, x_not, x_tup, x_lst, x_sub, x_slice, x_call, x_bi, x_meth, x_isi, x_range, x_enum, x_zip, x_zips, c_nes, x_dict, x_ditn, evs, evb, evo, tst, brw, isVar, bor, rd, bd_ok, bd_er, bd_st, of_some, of_none, s_ok, s_er, s_st, sb_nx, sb_rt, sb_er, sb_st, val_sh, val_ol, val_od, val_ot, val_er, val_st, blR_bl, truth_bl, truth_lst, intOf_int, c_eq, c_ne, c_lt, c_le, c_gt, c_ge, c_inn, c_nin, c_isN, c_notN, n_non, n_int, n_str, n_tup, n_lst, b_add, b_sub, bi_max2, bi_min2, bi_intB, bi_intI, bi_lenL, bi_lenT, bi_lenS, bi_listL, bi_listT, bi_strS, sub_lst, sub_tup, sub_scr, sub_dic, slc_lst, slc_tup, atI0, atI1, atI2, atI3, atI4, eqV_int, eqV_bl, isi_int, isi_intb, isi_bl, isi_lst, isi_tup, isi_str, fp_sh, fp_ol, fp_nx, sz_0, sz_1, sz_2, sz_3, sz_4, sz_5, sz_6, sz_7, fp_er, res_ok, res_er, itm_lst, itm_tup, itm_str, env0, moved, Option.map_some, Option.map_none, Option.bind_some, List.getElem?_cons_zero, List.getElem?_cons_succ, List.set_cons_zero, List.set_cons_succ, List.map_cons, List.map_nil, List.cons_append, List.nil_append, List.length_cons, List.length_nil, List.replicate, if_true, if_false, Bool.false_eq_true, reduceIte, Bool.not_true, Bool.not_false, bodyRt, decide_eq_false q, sc, sN, e1, s1', he, c1, k1, unpD, setAll]
          | some r2 =>
            rw [hs1] at k1
            simp only [Option.bind_some]
            have f2 := sgn_suf hs1
            obtain ⟨d2, l2⟩ := drop_suf (w := w1 ++ [32]) (r := r2) (by omega) g3 (by rw [f1, f2]; simp)
            have c2 := ih (x.length - r2.length) (by omega)
            rw [d2] at c2
            cases ha2 : parS m r2 with
            | none =>
              rw [ha2] at c2
              simp only [Option.bind_none, rtR] at c2 ⊢
              simp -implicitDefEqProofs only [exB_nil, exB_cons, y_pass, y_set, y_unp, y_par, y_sti, y_app, y_rem, y_appc, y_ex, y_ife, y_whl, y_for1, y_forN, y_ret, y_retN, y_rai, y_try, y_tryR, x_var, x_lit, x_bin, x_neg, x_cmp, x_chain, x_chain3, x_cio, x_ciL, x_addv, x_and, x_or, x_not, x_tup, x_lst, x_sub, x_slice, x_call, x_bi, x_meth, x_isi, x_range, x_enum, x_zip, x_zips, c_nes, x_dict, x_ditn, evs, evb, evo, tst, brw, isVar, bor, rd, bd_ok, bd_er, bd_st, of_some, of_none, s_ok, s_er, s_st, sb_nx, sb_rt, sb_er, sb_st, val_sh, val_ol, val_od, val_ot, val_er, val_st, blR_bl, truth_bl, truth_lst, intOf_int, c_eq, c_ne, c_lt, c_le, c_gt, c_ge, c_inn, c_nin, c_isN, c_notN, n_non, n_int, n_str, n_tup, n_lst, b_add, b_sub, bi_max2, bi_min2, bi_intB, bi_intI, bi_lenL, bi_lenT, bi_lenS, bi_listL, bi_listT, bi_strS, sub_lst, sub_tup, sub_scr, sub_dic, slc_lst, slc_tup, atI0, atI1, atI2, atI3, atI4, eqV_int, eqV_bl, isi_int, isi_intb, isi_bl, isi_lst, isi_tup, isi_str, fp_sh, fp_ol, fp_nx, sz_0, sz_1, sz_2, sz_3, sz_4, sz_5, sz_6, sz_7, fp_er, res_ok, res_er, itm_lst, itm_tup, itm_str, env0, moved, Option.map_some, Option.map_none, Option.bind_some, List.getElem?_cons_zero, List.getElem?_cons_succ, List.set_cons_zero, List.set_cons_succ, List.map_cons, List.map_nil, List.cons_append, List.nil_append, List.length_cons, List.length_nil, List.replicate, if_true, if_false, Bool.false_eq_true, reduceIte, Bool.not_true, Bool.not_false, bodyRt, decide_eq_false q, sc, sN, e1, s1', he, c1, k1, c2, unpD, setAll]
            | some t2 =>
              rw [ha2] at c2
              simp only [Option.bind_some, rtR] at c2 ⊢
              obtain ⟨w2, f3⟩ := par_suf m r2 t2.1 t2.2 ha2
              obtain ⟨d3, l3⟩ := drop_suf (by omega) d2 f3
              have k2 := h23 (x.length - t2.2.length) 41 (by omega) (by decide)
              rw [sgn_at 41 d3] at k2
              cases hs2 : sgn 41 t2.2 with
              | none =>
                rw [hs2] at k2
                simp only [Option.bind_none]
                simp -implicitDefEqProofs only [exB_nil, exB_cons, y_pass, y_set, y_unp, y_par, y_sti, y_app, y_rem, y_appc, y_ex, y_ife, y_whl, y_for1, y_forN, y_ret, y_retN, y_rai, y_try, y_tryR, x_var, x_lit, x_bin, x_neg, x_cmp, x_chain, x_chain3, x_cio, x_ciL, x_addv, x_and, x_or, x_not, x_tup, x_lst, x_sub, x_slice, x_call, x_bi, x_meth, x_isi, x_range, x_enum, x_zip, x_zips, c_nes, x_dict, x_ditn, evs, evb, evo, tst, brw, isVar, bor, rd, bd_ok, bd_er, bd_st, of_some, of_none, s_ok, s_er, s_st, sb_nx, sb_rt, sb_er, sb_st, val_sh, val_ol, val_od, val_ot, val_er, val_st, blR_bl, truth_bl, truth_lst, intOf_int, c_eq, c_ne, c_lt, c_le, c_gt, c_ge, c_inn, c_nin, c_isN, c_notN, n_non, n_int, n_str, n_tup, n_lst, b_add, b_sub, bi_max2, bi_min2, bi_intB, bi_intI, bi_lenL, bi_lenT, bi_lenS, bi_listL, bi_listT, bi_strS, sub_lst, sub_tup, sub_scr, sub_dic, slc_lst, slc_tup, atI0, atI1, atI2, atI3, atI4, eqV_int, eqV_bl, isi_int, isi_intb, isi_bl, isi_lst, isi_tup, isi_str, fp_sh, fp_ol, fp_nx, sz_0, sz_1, sz_2, sz_3, sz_4, sz_5, sz_6, sz_7, fp_er, res_ok, res_er, itm_lst, itm_tup, itm_str, env0, moved, Option.map_some, Option.map_none, Option.bind_some, List.getElem?_cons_zero, List.getElem?_cons_succ, List.set_cons_zero, List.set_cons_succ, List.map_cons, List.map_nil, List.cons_append, List.nil_append, List.length_cons, List.length_nil, List.replicate, if_true, if_false, Bool.false_eq_true, reduceIte, Bool.not_true, Bool.not_false, bodyRt, decide_eq_false q, sc, sN, e1, s1', he, c1, k1, c2, k2, unpD, setAll]
              | some r4 =>
                rw [hs2] at k2
                simp only [Option.bind_some, Tr.enc]
                simp -implicitDefEqProofs only [exB_nil, exB_cons, y_pass, y_set, y_unp, y_par, y_sti, y_app, y_rem, y_appc, y_ex, y_ife, y_whl, y_for1, y_forN, y_ret, y_retN, y_rai, y_try, y_tryR, x_var, x_lit, x_bin, x_neg, x_cmp, x_chain, x_chain3, x_cio, x_ciL, x_addv, x_and, x_or, x_not, x_tup, x_lst, x_sub, x_slice, x_call, x_bi, x_meth, x_isi, x_range, x_enum, x_zip, x_zips, c_nes, x_dict, x_ditn, evs, evb, evo, tst, brw, isVar, bor, rd, bd_ok, bd_er, bd_st, of_some, of_none, s_ok, s_er, s_st, sb_nx, sb_rt, sb_er, sb_st, val_sh, val_ol, val_od, val_ot, val_er, val_st, blR_bl, truth_bl, truth_lst, intOf_int, c_eq, c_ne, c_lt, c_le, c_gt, c_ge, c_inn, c_nin, c_isN, c_notN, n_non, n_int, n_str, n_tup, n_lst, b_add, b_sub, bi_max2, bi_min2, bi_intB, bi_intI, bi_lenL, bi_lenT, bi_lenS, bi_listL, bi_listT, bi_strS, sub_lst, sub_tup, sub_scr, sub_dic, slc_lst, slc_tup, atI0, atI1, atI2, atI3, atI4, eqV_int, eqV_bl, isi_int, isi_intb, isi_bl, isi_lst, isi_tup, isi_str, fp_sh, fp_ol, fp_nx, sz_0, sz_1, sz_2, sz_3, sz_4, sz_5, sz_6, sz_7, fp_er, res_ok, res_er, itm_lst, itm_tup, itm_str, env0, moved, Option.map_some, Option.map_none, Option.bind_some, List.getElem?_cons_zero, List.getElem?_cons_succ, List.set_cons_zero, List.set_cons_succ, List.map_cons, List.map_nil, List.cons_append, List.nil_append, List.length_cons, List.length_nil, List.replicate, if_true, if_false, Bool.false_eq_true, reduceIte, Bool.not_true, Bool.not_false, bodyRt, decide_eq_false q, sc, sN, e1, s1', he, c1, k1, c2, k2, unpD, setAll, kKnot]
      · simp only [if_neg hc]
        have he : eqV (.str (List.take 1 (c :: r))) (.str [40]) = some false := by
          rw [he]
          show some ([c] == [40]) = some false
          simp [hc]
        simp only [rtR, Tr.enc]
        rw [hend]
        simp -implicitDefEqProofs only [exB_nil, exB_cons, y_pass, y_set, y_unp, y_par, y_sti, y_app, y_rem, y_appc, y_ex, y_ife, y_whl, y_for1, y_forN, y_ret, y_retN, y_rai, y_try, y_tryR, x_var, x_lit, x_bin, x_neg, x_cmp, x_chain, x_chain3, x_cio, x_ciL, x_addv, x_and, x_or, x_not, x_tup, x_lst, x_sub, x_slice, x_call, x_bi, x_meth, x_isi, x_range, x_enum, x_zip, x_zips, c_nes, x_dict, x_ditn, evs, evb, evo, tst, brw, isVar, bor, rd, bd_ok, bd_er, bd_st, of_some, of_none, s_ok, s_er, s_st, sb_nx, sb_rt, sb_er, sb_st, val_sh, val_ol, val_od, val_ot, val_er, val_st, blR_bl, truth_bl, truth_lst, intOf_int, c_eq, c_ne, c_lt, c_le, c_gt, c_ge, c_inn, c_nin, c_isN, c_notN, n_non, n_int, n_str, n_tup, n_lst, b_add, b_sub, bi_max2, bi_min2, bi_intB, bi_intI, bi_lenL, bi_lenT, bi_lenS, bi_listL, bi_listT, bi_strS, sub_lst, sub_tup, sub_scr, sub_dic, slc_lst, slc_tup, atI0, atI1, atI2, atI3, atI4, eqV_int, eqV_bl, isi_int, isi_intb, isi_bl, isi_lst, isi_tup, isi_str, fp_sh, fp_ol, fp_nx, sz_0, sz_1, sz_2, sz_3, sz_4, sz_5, sz_6, sz_7, fp_er, res_ok, res_er, itm_lst, itm_tup, itm_str, env0, moved, Option.map_some, Option.map_none, Option.bind_some, List.getElem?_cons_zero, List.getElem?_cons_succ, List.set_cons_zero, List.set_cons_succ, List.map_cons, List.map_nil, List.cons_append, List.nil_append, List.length_cons, List.length_nil, List.replicate, if_true, if_false, Bool.false_eq_true, reduceIte, Bool.not_true, Bool.not_false, bodyRt, decide_eq_false q, sc, sN, e1, s1', he, kLeaf]
theorem fn_rt {P : List (Nat × Def)} {j : Nat} (h23 : look 23 P = some ⟨3, 3, bodyWant, none⟩) (h24 : look 24 P = some ⟨3, 7, bodyRt, none⟩) {x : T} (hx : x.length ≤ 4000) (ho : x.all (· < 1114112) = true) : ∀ (n a deep : Nat), n + deep = 25 → a ≤ x.length → (tabOf P (j + 2 + n)).fn 24 [.str x, .int (a : Int), .int (deep : Int)] = rtR x (parS n (x.drop a))
  | n, a, deep, hd, ha => by
    have e : j + 2 + n = (j + 1 + n) + 1 := by omega
    rw [e, tab_fn h24]
    refine run_rt hx ho (fun a c h1 h2 => ?_) n a deep hd ha fun m hm b hb => ?_
    · have e2 : j + 1 + n = (j + n) + 1 := by omega
      rw [e2, tab_fn h23]
      exact run_want x (by omega) ho a c h1 h2
    · subst hm
      have e3 : j + 1 + (m + 1) = j + 2 + m := by omega
      rw [e3]
      exact fn_rt h23 h24 hx ho m b (deep + 1) (by omega) hb
  termination_by n => n
/-! what is written is read -/
def nmB (s : T) : Prop := ∀ c ∈ s, abcB c = true
theorem nm_abc {s : T} (h : okNm s) : nmB s := fun c hc => abc_in c (h.2.2 c hc).2 (h.2.2 c hc).1
def endB (s : T) : Prop := ∀ c r, s = c :: r → abcB c = false ∧ c ≠ 40
theorem par_show : ∀ (t : Tr) (n : Nat) (s : T), t.deep ≤ n → (∀ x ∈ t.names, nmB x) → (∀ x ∈ t.deeds, nmB x) → endB s → parS n (txF t ++ s) = some (t, s)
  | t, 0, s, h, _, _, _ => by cases t <;> simp only [Tr.deep] at h <;> omega
  | .leaf x, n + 1, s, _, hn, _, he => by
    have e := spW_app x s (hn x (by simp [Tr.names])) fun c r z => (he c r z).1
    have et : txF (.leaf x) = x := rfl
    unfold parS
    rw [et, e]
    cases s with
    | nil => rfl
    | cons c r => simp only [if_neg (he c r rfl).2]
  | .knot f l r, n + 1, s, h, hn, hd, he => by
    simp only [Tr.deep] at h
    have e1 : txF (.knot f l r) ++ s = f ++ 40 :: (txF l ++ 32 :: (txF r ++ 41 :: s)) := by simp [txF]
    have e := spW_app f (40 :: (txF l ++ 32 :: (txF r ++ 41 :: s))) (hd f (by simp [Tr.deeds])) fun c r z => by cases z; decide
    have a := par_show l n (32 :: (txF r ++ 41 :: s)) (by omega) (fun x hx => hn x (by simp [Tr.names, hx])) (fun x hx => hd x (by simp [Tr.deeds, hx])) fun c r z => by cases z; decide
    have b := par_show r n (41 :: s) (by omega) (fun x hx => hn x (by simp [Tr.names, hx])) (fun x hx => hd x (by simp [Tr.deeds, hx])) fun c r z => by cases z; decide
    rw [e1]
    unfold parS
    rw [e]
    simp only [if_true, a, Option.bind_some, sgn, b]
def bodyRead : List S := [.unp [1, 2] (.call 24 [(.var 0), (.lit (.int 0)), (.lit (.int 1))]), .ife (.cmp .ne (.var 2) (.bi .len [(.var 0)])) [.rai 4] [], .tryR [.ex (.call 15 [(.var 1)])] 0 4, .ret (.var 1)]
theorem tx_all : ∀ {t : Tr}, (∀ s ∈ t.names, okNm s) → (∀ s ∈ t.deeds, okNm s) → (txF t).all (· < 1114112) = true := by
  have key : ∀ s : T, okNm s → s.all (· < 1114112) = true := fun s h => by
    rw [List.all_eq_true]
    intro c hc
    have := (h.2.2 c hc).2
    exact decide_eq_true (by omega)
  intro t
  induction t with
  | leaf x => intro h _; exact key x (h x (by simp [Tr.names]))
  | knot f l r ihl ihr =>
    intro h g
    have a := ihl (fun s hs => h s (by simp [Tr.names, hs])) (fun s hs => g s (by simp [Tr.deeds, hs]))
    have b := ihr (fun s hs => h s (by simp [Tr.names, hs])) (fun s hs => g s (by simp [Tr.deeds, hs]))
    have c := key f (g f (by simp [Tr.deeds]))
    show (f ++ [40] ++ txF l ++ [32] ++ txF r ++ [41]).all _ = true
    simp only [List.all_append, a, b, c]
    decide
end Dl

namespace Dl
/-! ### deeds -/
inductive Dd where
  | take (x : T) (i : Int) | join (f : T) (i j o : Int) | put (i s : Int) | fetch (s i : Int)
abbrev kTake : T := [116, 97, 107, 101]
abbrev kJoin : T := [106, 111, 105, 110]
abbrev kPut : T := [112, 117, 116]
abbrev kFetch : T := [102, 101, 116, 99, 104]
def Dd.enc : Dd → D
  | .take x i => .tup [.str kTake, .str x, .int i]
  | .join f i j o => .tup [.str kJoin, .str f, .int i, .int j, .int o]
  | .put i s => .tup [.str kPut, .int i, .int s]
  | .fetch s i => .tup [.str kFetch, .int s, .int i]
def Dd.word : Dd → T
  | .take _ _ => kTake
  | .join _ _ _ _ => kJoin
  | .put _ _ => kPut
  | .fetch _ _ => kFetch
def okT (s : T) : Bool := s.all (· < 1114112)
def Dd.ok : Dd → Bool
  | .take x _ => okT x
  | .join f _ _ _ => okT f
  | _ => true
theorem Dd.okD {d : Dd} (h : d.ok = true) (n : Nat) : Dl.okD d.enc (n + 1) = true := by
  cases d with
  | take x i =>
    have h : x.all (· < 1114112) = true := h
    simp only [Dd.enc, Dl.okD, okDs, h]
    decide
  | join f i j o =>
    have h : f.all (· < 1114112) = true := h
    simp only [Dd.enc, Dl.okD, okDs, h]
    decide
  | put i s => rfl
  | fetch s i => rfl
theorem ok_row {row : List Dd} (h : ∀ d ∈ row, d.ok = true) (n : Nat) : Dl.okD (.lst (row.map Dd.enc)) (n + 2) = true := okDs_all fun d hd => by
  obtain ⟨e, he, rfl⟩ := List.mem_map.mp hd
  exact Dd.okD (h e he) n
theorem dd_0 (d : Dd) : subD d.enc (.int 0) = some (.str d.word) := by cases d <;> exact atI0 _ _
theorem dd_t1 (x : T) (i : Int) : subD (Dd.take x i).enc (.int 1) = some (.str x) := atI1 _ _ _
theorem dd_t2 (x : T) (i : Int) : subD (Dd.take x i).enc (.int 2) = some (.int i) := atI2 _ _ _ _
theorem dd_j1 (f : T) (i j o : Int) : subD (Dd.join f i j o).enc (.int 1) = some (.str f) := atI1 _ _ _
theorem dd_j2 (f : T) (i j o : Int) : subD (Dd.join f i j o).enc (.int 2) = some (.int i) := atI2 _ _ _ _
theorem dd_j3 (f : T) (i j o : Int) : subD (Dd.join f i j o).enc (.int 3) = some (.int j) := atI3 _ _ _ _ _
theorem dd_j4 (f : T) (i j o : Int) : subD (Dd.join f i j o).enc (.int 4) = some (.int o) := atI4 _ _ _ _ _ _
theorem dd_p1 (i s : Int) : subD (Dd.put i s).enc (.int 1) = some (.int i) := atI1 _ _ _
theorem dd_p2 (i s : Int) : subD (Dd.put i s).enc (.int 2) = some (.int s) := atI2 _ _ _ _
theorem dd_f1 (s i : Int) : subD (Dd.fetch s i).enc (.int 1) = some (.int s) := atI1 _ _ _
theorem dd_f2 (s i : Int) : subD (Dd.fetch s i).enc (.int 2) = some (.int i) := atI2 _ _ _ _
def isTake : Dd → Bool
  | .take _ _ => true
  | _ => false
def isJoin : Dd → Bool
  | .join _ _ _ _ => true
  | _ => false
def isPut : Dd → Bool
  | .put _ _ => true
  | _ => false
def isFetch : Dd → Bool
  | .fetch _ _ => true
  | _ => false
theorem w_take (d : Dd) : eqV (.str d.word) (.str kTake) = some (isTake d) := by cases d <;> rfl
theorem w_join (d : Dd) : eqV (.str d.word) (.str kJoin) = some (isJoin d) := by cases d <;> rfl
theorem w_put (d : Dd) : eqV (.str d.word) (.str kPut) = some (isPut d) := by cases d <;> rfl
theorem w_fetch (d : Dd) : eqV (.str d.word) (.str kFetch) = some (isFetch d) := by cases d <;> rfl
/-! which fetch uses a put -/
def usedG (s : Int) : List Dd → Nat → Option Nat
  | [], _ => none
  | .fetch z _ :: r, m => if z = s then some m else usedG s r (m + 1)
  | .put _ z :: r, m => if z = s then none else usedG s r (m + 1)
  | _ :: r, m => usedG s r (m + 1)
def optI : Option Nat → D
  | some n => .int (n : Int)
  | none => .non
def bUsedL : List S := [.ife (.and (.cmp .eq (.sub (.sub (.var 0) (.var 3)) (.lit (.int 0))) (.lit (.str [102, 101, 116, 99, 104]))) (.cmp .eq (.sub (.sub (.var 0) (.var 3)) (.lit (.int 1))) (.var 2))) [.ret (.var 3)] [], .ife (.and (.cmp .eq (.sub (.sub (.var 0) (.var 3)) (.lit (.int 0))) (.lit (.str [112, 117, 116]))) (.cmp .eq (.sub (.sub (.var 0) (.var 3)) (.lit (.int 2))) (.var 2))) [.ret (.lit .non)] []]
def bodyUsed : List S := [.set 2 (.sub (.sub (.var 0) (.var 1)) (.lit (.int 2))), .for1 3 (.range [(.bin .add (.var 1) (.lit (.int 1))), (.bi .len [(.var 0)])]) bUsedL, .ret (.lit .non)]
theorem row_at {row : List Dd} {m : Nat} {d : Dd} (h : row[m]? = some d) : subD (.lst (row.map Dd.enc)) (.int m) = some d.enc := by
  rw [sub_lst, atI_nat, List.getElem?_map, h]
  rfl
def UsedR (r : SR) : Option Nat → Prop
  | some j => ∃ e, r = .rt (.sh (.int (j : Int))) e
  | none => ∃ e, r = .rt (.sh .non) e ∨ r = .nx e
theorem run_used {G : Tab} (row : List Dd) (n : Nat) (i s : Int) (hr : row.length < 100000) (hn : row[n]? = some (.put i s)) : run G ⟨2, 4, bodyUsed, none⟩ [.lst (row.map Dd.enc), .int n] = .ok (.sh (optI (usedG s (row.drop (n + 1)) (n + 1)))) := by
  have hnl : n < row.length := (List.getElem?_eq_some_iff.mp hn).1
  have lp : ∀ (k m : Nat) (w : Option DV), m + k = row.length → UsedR (forL (fun x env => exB G bUsedL (env.set 3 (some (.sh x)))) ((List.range k).map fun (j : Nat) => D.int ((m : Int) + (j : Int))) [some (.sh (.lst (row.map Dd.enc))), some (.sh (.int n)), some (.sh (.int s)), w]) (usedG s (row.drop m) m) := by
    intro k
    induction k with
    | zero =>
      intro m w hm
      have e : row.drop m = [] := List.drop_eq_nil_of_le (by omega)
      rw [e]
      exact ⟨_, .inr rfl⟩
    | succ k ih =>
      intro m w hm
      obtain ⟨d, hd⟩ := lt_of_get (l := row) (i := m) (by omega)
      have hdr : row.drop m = d :: row.drop (m + 1) := by
        rw [List.drop_eq_getElem_cons (by omega)]
        congr 1
        rw [List.getElem?_eq_getElem (by omega)] at hd
        exact Option.some.inj hd
      have ihm := ih (m + 1) (some (.sh (.int m))) (by omega)
      have er : ((List.range (k + 1)).map fun (j : Nat) => D.int ((m : Int) + (j : Int))) = .int (m : Int) :: ((List.range k).map fun (j : Nat) => D.int (((m + 1 : Nat) : Int) + (j : Int))) := by
        rw [List.range_succ_eq_map, List.map_cons, List.map_map]
        have h1 : D.int ((m : Int) + ((0 : Nat) : Int)) = D.int m := by first | (congr 1; done) | (congr 1; omega)
        rw [h1]
        refine congrArg _ (List.map_congr_left fun j _ => ?_)
        show D.int ((m : Int) + ((j + 1 : Nat) : Int)) = _
        congr 1
        omega
      rw [er, forL_cons, hdr]
      have ha := row_at hd
      have h0 := dd_0 d
      have wf := w_fetch d
      have wp := w_put d
      have cont : exB G bUsedL ([some (.sh (.lst (row.map Dd.enc))), some (.sh (.int n)), some (.sh (.int s)), w].set 3 (some (.sh (.int m)))) = .nx [some (.sh (.lst (row.map Dd.enc))), some (.sh (.int n)), some (.sh (.int s)), some (.sh (.int m))] → usedG s (d :: row.drop (m + 1)) m = usedG s (row.drop (m + 1)) (m + 1) →
          UsedR ((exB G bUsedL ([some (.sh (.lst (row.map Dd.enc))), some (.sh (.int n)), some (.sh (.int s)), w].set 3 (some (.sh (.int m))))).bd fun e => forL (fun x env => exB G bUsedL (env.set 3 (some (.sh x)))) ((List.range k).map fun (j : Nat) => D.int (((m + 1 : Nat) : Int) + (j : Int))) e) (usedG s (d :: row.drop (m + 1)) m) := by
        intro e1 e2
        rw [e1, e2]
        exact ihm
      cases d with
      | take x z =>
        refine cont ?_ rfl
        have wf : eqV (.str kTake) (.str kFetch) = some false := wf
        have wp : eqV (.str kTake) (.str kPut) = some false := wp
        simp -implicitDefEqProofs only [exB_nil, exB_cons, y_pass, y_set, y_unp, y_par, y_sti, y_app, y_rem, y_appc, y_ex, y_ife, y_whl, y_for1, y_forN, y_ret, y_retN, y_rai, y_try, y_tryR, x_var, x_lit, x_bin, x_neg, x_cmp, x_chain, x_chain3, x_cio, x_ciL, x_addv, x_and, x_or, x_not, x_tup, x_lst, x_sub, x_slice, x_call, x_bi, x_meth, x_isi, x_range, x_enum, x_zip, x_zips, c_nes, x_dict, x_ditn, evs, evb, evo, tst, brw, isVar, bor, rd, bd_ok, bd_er, bd_st, of_some, of_none, s_ok, s_er, s_st, sb_nx, sb_rt, sb_er, sb_st, val_sh, val_ol, val_od, val_ot, val_er, val_st, blR_bl, truth_bl, truth_lst, intOf_int, c_eq, c_ne, c_lt, c_le, c_gt, c_ge, c_inn, c_nin, c_isN, c_notN, n_non, n_int, n_str, n_tup, n_lst, b_add, b_sub, bi_max2, bi_min2, bi_intB, bi_intI, bi_lenL, bi_lenT, bi_lenS, bi_listL, bi_listT, bi_strS, sub_lst, sub_tup, sub_scr, sub_dic, slc_lst, slc_tup, atI0, atI1, atI2, atI3, atI4, eqV_int, eqV_bl, isi_int, isi_intb, isi_bl, isi_lst, isi_tup, isi_str, fp_sh, fp_ol, fp_nx, sz_0, sz_1, sz_2, sz_3, sz_4, sz_5, sz_6, sz_7, fp_er, res_ok, res_er, itm_lst, itm_tup, itm_str, env0, moved, Option.map_some, Option.map_none, Option.bind_some, List.getElem?_cons_zero, List.getElem?_cons_succ, List.set_cons_zero, List.set_cons_succ, List.map_cons, List.map_nil, List.cons_append, List.nil_append, List.length_cons, List.length_nil, List.replicate, if_true, if_false, Bool.false_eq_true, reduceIte, Bool.not_true, Bool.not_false, bUsedL, ha, h0, wf, wp, Dd.word]
      | join f z j o =>
        refine cont ?_ rfl
        have wf : eqV (.str kJoin) (.str kFetch) = some false := wf
        have wp : eqV (.str kJoin) (.str kPut) = some false := wp
        simp -implicitDefEqProofs only [exB_nil, exB_cons, y_pass, y_set, y_unp, y_par, y_sti, y_app, y_rem, y_appc, y_ex, y_ife, y_whl, y_for1, y_forN, y_ret, y_retN, y_rai, y_try, y_tryR, x_var, x_lit, x_bin, x_neg, x_cmp, x_chain, x_chain3, x_cio, x_ciL, x_addv, x_and, x_or, x_not, x_tup, x_lst, x_sub, x_slice, x_call, x_bi, x_meth, x_isi, x_range, x_enum, x_zip, x_zips, c_nes, x_dict, x_ditn, evs, evb, evo, tst, brw, isVar, bor, rd, bd_ok, bd_er, bd_st, of_some, of_none, s_ok, s_er, s_st, sb_nx, sb_rt, sb_er, sb_st, val_sh, val_ol, val_od, val_ot, val_er, val_st, blR_bl, truth_bl, truth_lst, intOf_int, c_eq, c_ne, c_lt, c_le, c_gt, c_ge, c_inn, c_nin, c_isN, c_notN, n_non, n_int, n_str, n_tup, n_lst, b_add, b_sub, bi_max2, bi_min2, bi_intB, bi_intI, bi_lenL, bi_lenT, bi_lenS, bi_listL, bi_listT, bi_strS, sub_lst, sub_tup, sub_scr, sub_dic, slc_lst, slc_tup, atI0, atI1, atI2, atI3, atI4, eqV_int, eqV_bl, isi_int, isi_intb, isi_bl, isi_lst, isi_tup, isi_str, fp_sh, fp_ol, fp_nx, sz_0, sz_1, sz_2, sz_3, sz_4, sz_5, sz_6, sz_7, fp_er, res_ok, res_er, itm_lst, itm_tup, itm_str, env0, moved, Option.map_some, Option.map_none, Option.bind_some, List.getElem?_cons_zero, List.getElem?_cons_succ, List.set_cons_zero, List.set_cons_succ, List.map_cons, List.map_nil, List.cons_append, List.nil_append, List.length_cons, List.length_nil, List.replicate, if_true, if_false, Bool.false_eq_true, reduceIte, Bool.not_true, Bool.not_false, bUsedL, ha, h0, wf, wp, Dd.word]
      | put z q =>
        have wf : eqV (.str kPut) (.str kFetch) = some false := wf
        have wp : eqV (.str kPut) (.str kPut) = some true := wp
        by_cases hq : q = s
        · subst hq
          have e : usedG q (.put z q :: row.drop (m + 1)) m = none := if_pos rfl
          rw [e]
          refine ⟨[some (.sh (.lst (row.map Dd.enc))), some (.sh (.int n)), some (.sh (.int q)), some (.sh (.int m))], .inl ?_⟩
          simp -implicitDefEqProofs only [exB_nil, exB_cons, y_pass, y_set, y_unp, y_par, y_sti, y_app, y_rem, y_appc, y_ex, y_ife, y_whl, y_for1, y_forN, y_ret, y_retN, y_rai, y_try, y_tryR, x_var, x_lit, x_bin, x_neg, x_cmp, x_chain, x_chain3, x_cio, x_ciL, x_addv, x_and, x_or, x_not, x_tup, x_lst, x_sub, x_slice, x_call, x_bi, x_meth, x_isi, x_range, x_enum, x_zip, x_zips, c_nes, x_dict, x_ditn, evs, evb, evo, tst, brw, isVar, bor, rd, bd_ok, bd_er, bd_st, of_some, of_none, s_ok, s_er, s_st, sb_nx, sb_rt, sb_er, sb_st, val_sh, val_ol, val_od, val_ot, val_er, val_st, blR_bl, truth_bl, truth_lst, intOf_int, c_eq, c_ne, c_lt, c_le, c_gt, c_ge, c_inn, c_nin, c_isN, c_notN, n_non, n_int, n_str, n_tup, n_lst, b_add, b_sub, bi_max2, bi_min2, bi_intB, bi_intI, bi_lenL, bi_lenT, bi_lenS, bi_listL, bi_listT, bi_strS, sub_lst, sub_tup, sub_scr, sub_dic, slc_lst, slc_tup, atI0, atI1, atI2, atI3, atI4, eqV_int, eqV_bl, isi_int, isi_intb, isi_bl, isi_lst, isi_tup, isi_str, fp_sh, fp_ol, fp_nx, sz_0, sz_1, sz_2, sz_3, sz_4, sz_5, sz_6, sz_7, fp_er, res_ok, res_er, itm_lst, itm_tup, itm_str, env0, moved, Option.map_some, Option.map_none, Option.bind_some, List.getElem?_cons_zero, List.getElem?_cons_succ, List.set_cons_zero, List.set_cons_succ, List.map_cons, List.map_nil, List.cons_append, List.nil_append, List.length_cons, List.length_nil, List.replicate, if_true, if_false, Bool.false_eq_true, reduceIte, Bool.not_true, Bool.not_false, bUsedL, ha, h0, wf, wp, Dd.word, dd_p2, beq_self_eq_true]
        · refine cont ?_ (if_neg hq)
          simp -implicitDefEqProofs only [exB_nil, exB_cons, y_pass, y_set, y_unp, y_par, y_sti, y_app, y_rem, y_appc, y_ex, y_ife, y_whl, y_for1, y_forN, y_ret, y_retN, y_rai, y_try, y_tryR, x_var, x_lit, x_bin, x_neg, x_cmp, x_chain, x_chain3, x_cio, x_ciL, x_addv, x_and, x_or, x_not, x_tup, x_lst, x_sub, x_slice, x_call, x_bi, x_meth, x_isi, x_range, x_enum, x_zip, x_zips, c_nes, x_dict, x_ditn, evs, evb, evo, tst, brw, isVar, bor, rd, bd_ok, bd_er, bd_st, of_some, of_none, s_ok, s_er, s_st, sb_nx, sb_rt, sb_er, sb_st, val_sh, val_ol, val_od, val_ot, val_er, val_st, blR_bl, truth_bl, truth_lst, intOf_int, c_eq, c_ne, c_lt, c_le, c_gt, c_ge, c_inn, c_nin, c_isN, c_notN, n_non, n_int, n_str, n_tup, n_lst, b_add, b_sub, bi_max2, bi_min2, bi_intB, bi_intI, bi_lenL, bi_lenT, bi_lenS, bi_listL, bi_listT, bi_strS, sub_lst, sub_tup, sub_scr, sub_dic, slc_lst, slc_tup, atI0, atI1, atI2, atI3, atI4, eqV_int, eqV_bl, isi_int, isi_intb, isi_bl, isi_lst, isi_tup, isi_str, fp_sh, fp_ol, fp_nx, sz_0, sz_1, sz_2, sz_3, sz_4, sz_5, sz_6, sz_7, fp_er, res_ok, res_er, itm_lst, itm_tup, itm_str, env0, moved, Option.map_some, Option.map_none, Option.bind_some, List.getElem?_cons_zero, List.getElem?_cons_succ, List.set_cons_zero, List.set_cons_succ, List.map_cons, List.map_nil, List.cons_append, List.nil_append, List.length_cons, List.length_nil, List.replicate, if_true, if_false, Bool.false_eq_true, reduceIte, Bool.not_true, Bool.not_false, bUsedL, ha, h0, wf, wp, Dd.word, dd_p2, beq_eq_false_iff_ne.mpr hq]
      | fetch q z =>
        have wf : eqV (.str kFetch) (.str kFetch) = some true := wf
        have wp : eqV (.str kFetch) (.str kPut) = some false := wp
        by_cases hq : q = s
        · subst hq
          have e : usedG q (.fetch q z :: row.drop (m + 1)) m = some m := if_pos rfl
          rw [e]
          refine ⟨[some (.sh (.lst (row.map Dd.enc))), some (.sh (.int n)), some (.sh (.int q)), some (.sh (.int m))], ?_⟩
          simp -implicitDefEqProofs only [exB_nil, exB_cons, y_pass, y_set, y_unp, y_par, y_sti, y_app, y_rem, y_appc, y_ex, y_ife, y_whl, y_for1, y_forN, y_ret, y_retN, y_rai, y_try, y_tryR, x_var, x_lit, x_bin, x_neg, x_cmp, x_chain, x_chain3, x_cio, x_ciL, x_addv, x_and, x_or, x_not, x_tup, x_lst, x_sub, x_slice, x_call, x_bi, x_meth, x_isi, x_range, x_enum, x_zip, x_zips, c_nes, x_dict, x_ditn, evs, evb, evo, tst, brw, isVar, bor, rd, bd_ok, bd_er, bd_st, of_some, of_none, s_ok, s_er, s_st, sb_nx, sb_rt, sb_er, sb_st, val_sh, val_ol, val_od, val_ot, val_er, val_st, blR_bl, truth_bl, truth_lst, intOf_int, c_eq, c_ne, c_lt, c_le, c_gt, c_ge, c_inn, c_nin, c_isN, c_notN, n_non, n_int, n_str, n_tup, n_lst, b_add, b_sub, bi_max2, bi_min2, bi_intB, bi_intI, bi_lenL, bi_lenT, bi_lenS, bi_listL, bi_listT, bi_strS, sub_lst, sub_tup, sub_scr, sub_dic, slc_lst, slc_tup, atI0, atI1, atI2, atI3, atI4, eqV_int, eqV_bl, isi_int, isi_intb, isi_bl, isi_lst, isi_tup, isi_str, fp_sh, fp_ol, fp_nx, sz_0, sz_1, sz_2, sz_3, sz_4, sz_5, sz_6, sz_7, fp_er, res_ok, res_er, itm_lst, itm_tup, itm_str, env0, moved, Option.map_some, Option.map_none, Option.bind_some, List.getElem?_cons_zero, List.getElem?_cons_succ, List.set_cons_zero, List.set_cons_succ, List.map_cons, List.map_nil, List.cons_append, List.nil_append, List.length_cons, List.length_nil, List.replicate, if_true, if_false, Bool.false_eq_true, reduceIte, Bool.not_true, Bool.not_false, bUsedL, ha, h0, wf, wp, Dd.word, dd_f1, beq_self_eq_true]
        · refine cont ?_ (if_neg hq)
          simp -implicitDefEqProofs only [exB_nil, exB_cons, y_pass, y_set, y_unp, y_par, y_sti, y_app, y_rem, y_appc, y_ex, y_ife, y_whl, y_for1, y_forN, y_ret, y_retN, y_rai, y_try, y_tryR, x_var, x_lit, x_bin, x_neg, x_cmp, x_chain, x_chain3, x_cio, x_ciL, x_addv, x_and, x_or, x_not, x_tup, x_lst, x_sub, x_slice, x_call, x_bi, x_meth, x_isi, x_range, x_enum, x_zip, x_zips, c_nes, x_dict, x_ditn, evs, evb, evo, tst, brw, isVar, bor, rd, bd_ok, bd_er, bd_st, of_some, of_none, s_ok, s_er, s_st, sb_nx, sb_rt, sb_er, sb_st, val_sh, val_ol, val_od, val_ot, val_er, val_st, blR_bl, truth_bl, truth_lst, intOf_int, c_eq, c_ne, c_lt, c_le, c_gt, c_ge, c_inn, c_nin, c_isN, c_notN, n_non, n_int, n_str, n_tup, n_lst, b_add, b_sub, bi_max2, bi_min2, bi_intB, bi_intI, bi_lenL, bi_lenT, bi_lenS, bi_listL, bi_listT, bi_strS, sub_lst, sub_tup, sub_scr, sub_dic, slc_lst, slc_tup, atI0, atI1, atI2, atI3, atI4, eqV_int, eqV_bl, isi_int, isi_intb, isi_bl, isi_lst, isi_tup, isi_str, fp_sh, fp_ol, fp_nx, sz_0, sz_1, sz_2, sz_3, sz_4, sz_5, sz_6, sz_7, fp_er, res_ok, res_er, itm_lst, itm_tup, itm_str, env0, moved, Option.map_some, Option.map_none, Option.bind_some, List.getElem?_cons_zero, List.getElem?_cons_succ, List.set_cons_zero, List.set_cons_succ, List.map_cons, List.map_nil, List.cons_append, List.nil_append, List.length_cons, List.length_nil, List.replicate, if_true, if_false, Bool.false_eq_true, reduceIte, Bool.not_true, Bool.not_false, bUsedL, ha, h0, wf, wp, Dd.word, dd_f1, beq_eq_false_iff_ne.mpr hq]
  have key := lp (row.length - (n + 1)) (n + 1) none (by omega)
  have ha := row_at hn
  have hrg : rngD [.int ((n : Int) + 1), .int ((row.map Dd.enc).length : Int)] = some ((List.range (row.length - (n + 1))).map fun (j : Nat) => D.int (((n + 1 : Nat) : Int) + (j : Int))) := by
    rw [rng_2 _ _ ⟨by omega, by omega, by omega, by rw [List.length_map]; omega⟩]
    have e1 : (((row.map Dd.enc).length : Int) - ((n : Int) + 1)).toNat = row.length - (n + 1) := by rw [List.length_map]; omega
    rw [e1]
    rfl
  rw [run_eq rfl rfl]
  cases hu : usedG s (row.drop (n + 1)) (n + 1) with
  | some j =>
    rw [hu] at key
    obtain ⟨e, key⟩ := key
    simp -implicitDefEqProofs only [exB_nil, exB_cons, y_pass, y_set, y_unp, y_par, y_sti, y_app, y_rem, y_appc, y_ex, y_ife, y_whl, y_for1, y_forN, y_ret, y_retN, y_rai, y_try, y_tryR, x_var, x_lit, x_bin, x_neg, x_cmp, x_chain, x_chain3, x_cio, x_ciL, x_addv, x_and, x_or, x_not, x_tup, x_lst, x_sub, x_slice, x_call, x_bi, x_meth, x_isi, x_range, x_enum, x_zip, x_zips, c_nes, x_dict, x_ditn, evs, evb, evo, tst, brw, isVar, bor, rd, bd_ok, bd_er, bd_st, of_some, of_none, s_ok, s_er, s_st, sb_nx, sb_rt, sb_er, sb_st, val_sh, val_ol, val_od, val_ot, val_er, val_st, blR_bl, truth_bl, truth_lst, intOf_int, c_eq, c_ne, c_lt, c_le, c_gt, c_ge, c_inn, c_nin, c_isN, c_notN, n_non, n_int, n_str, n_tup, n_lst, b_add, b_sub, bi_max2, bi_min2, bi_intB, bi_intI, bi_lenL, bi_lenT, bi_lenS, bi_listL, bi_listT, bi_strS, sub_lst, sub_tup, sub_scr, sub_dic, slc_lst, slc_tup, atI0, atI1, atI2, atI3, atI4, eqV_int, eqV_bl, isi_int, isi_intb, isi_bl, isi_lst, isi_tup, isi_str, fp_sh, fp_ol, fp_nx, sz_0, sz_1, sz_2, sz_3, sz_4, sz_5, sz_6, sz_7, fp_er, res_ok, res_er, itm_lst, itm_tup, itm_str, env0, moved, Option.map_some, Option.map_none, Option.bind_some, List.getElem?_cons_zero, List.getElem?_cons_succ, List.set_cons_zero, List.set_cons_succ, List.map_cons, List.map_nil, List.cons_append, List.nil_append, List.length_cons, List.length_nil, List.replicate, if_true, if_false, Bool.false_eq_true, reduceIte, Bool.not_true, Bool.not_false, bodyUsed, ha, dd_p2, hrg, key, optI]
  | none =>
    rw [hu] at key
    obtain ⟨e, key | key⟩ := key
    · simp -implicitDefEqProofs only [exB_nil, exB_cons, y_pass, y_set, y_unp, y_par, y_sti, y_app, y_rem, y_appc, y_ex, y_ife, y_whl, y_for1, y_forN, y_ret, y_retN, y_rai, y_try, y_tryR, x_var, x_lit, x_bin, x_neg, x_cmp, x_chain, x_chain3, x_cio, x_ciL, x_addv, x_and, x_or, x_not, x_tup, x_lst, x_sub, x_slice, x_call, x_bi, x_meth, x_isi, x_range, x_enum, x_zip, x_zips, c_nes, x_dict, x_ditn, evs, evb, evo, tst, brw, isVar, bor, rd, bd_ok, bd_er, bd_st, of_some, of_none, s_ok, s_er, s_st, sb_nx, sb_rt, sb_er, sb_st, val_sh, val_ol, val_od, val_ot, val_er, val_st, blR_bl, truth_bl, truth_lst, intOf_int, c_eq, c_ne, c_lt, c_le, c_gt, c_ge, c_inn, c_nin, c_isN, c_notN, n_non, n_int, n_str, n_tup, n_lst, b_add, b_sub, bi_max2, bi_min2, bi_intB, bi_intI, bi_lenL, bi_lenT, bi_lenS, bi_listL, bi_listT, bi_strS, sub_lst, sub_tup, sub_scr, sub_dic, slc_lst, slc_tup, atI0, atI1, atI2, atI3, atI4, eqV_int, eqV_bl, isi_int, isi_intb, isi_bl, isi_lst, isi_tup, isi_str, fp_sh, fp_ol, fp_nx, sz_0, sz_1, sz_2, sz_3, sz_4, sz_5, sz_6, sz_7, fp_er, res_ok, res_er, itm_lst, itm_tup, itm_str, env0, moved, Option.map_some, Option.map_none, Option.bind_some, List.getElem?_cons_zero, List.getElem?_cons_succ, List.set_cons_zero, List.set_cons_succ, List.map_cons, List.map_nil, List.cons_append, List.nil_append, List.length_cons, List.length_nil, List.replicate, if_true, if_false, Bool.false_eq_true, reduceIte, Bool.not_true, Bool.not_false, bodyUsed, ha, dd_p2, hrg, key, optI]
    · simp -implicitDefEqProofs only [exB_nil, exB_cons, y_pass, y_set, y_unp, y_par, y_sti, y_app, y_rem, y_appc, y_ex, y_ife, y_whl, y_for1, y_forN, y_ret, y_retN, y_rai, y_try, y_tryR, x_var, x_lit, x_bin, x_neg, x_cmp, x_chain, x_chain3, x_cio, x_ciL, x_addv, x_and, x_or, x_not, x_tup, x_lst, x_sub, x_slice, x_call, x_bi, x_meth, x_isi, x_range, x_enum, x_zip, x_zips, c_nes, x_dict, x_ditn, evs, evb, evo, tst, brw, isVar, bor, rd, bd_ok, bd_er, bd_st, of_some, of_none, s_ok, s_er, s_st, sb_nx, sb_rt, sb_er, sb_st, val_sh, val_ol, val_od, val_ot, val_er, val_st, blR_bl, truth_bl, truth_lst, intOf_int, c_eq, c_ne, c_lt, c_le, c_gt, c_ge, c_inn, c_nin, c_isN, c_notN, n_non, n_int, n_str, n_tup, n_lst, b_add, b_sub, bi_max2, bi_min2, bi_intB, bi_intI, bi_lenL, bi_lenT, bi_lenS, bi_listL, bi_listT, bi_strS, sub_lst, sub_tup, sub_scr, sub_dic, slc_lst, slc_tup, atI0, atI1, atI2, atI3, atI4, eqV_int, eqV_bl, isi_int, isi_intb, isi_bl, isi_lst, isi_tup, isi_str, fp_sh, fp_ol, fp_nx, sz_0, sz_1, sz_2, sz_3, sz_4, sz_5, sz_6, sz_7, fp_er, res_ok, res_er, itm_lst, itm_tup, itm_str, env0, moved, Option.map_some, Option.map_none, Option.bind_some, List.getElem?_cons_zero, List.getElem?_cons_succ, List.set_cons_zero, List.set_cons_succ, List.map_cons, List.map_nil, List.cons_append, List.nil_append, List.length_cons, List.length_nil, List.replicate, if_true, if_false, Bool.false_eq_true, reduceIte, Bool.not_true, Bool.not_false, bodyUsed, ha, dd_p2, hrg, key, optI]
end Dl

namespace Dl
/-! ### a formula's text, as a law reads it -/
def lawP : Nat → T → Tr × T
  | 0, s => (.leaf (spW s).1, (spW s).2)
  | n + 1, s => match (spW s).2 with
    | [] => (.leaf (spW s).1, [])
    | c :: r => if c = 40 then (match sgn 32 (lawP n r).2 with
      | none => (.leaf [], (lawP n r).2)
      | some r2 => (match sgn 41 (lawP n r2).2 with
        | none => (.leaf [], (lawP n r2).2)
        | some r4 => (.knot (spW s).1 (lawP n r).1 (lawP n r2).1, r4))) else (.leaf (spW s).1, c :: r)
theorem lawP_suf : ∀ (n : Nat) (s : T), (∃ w, s = w ++ (lawP n s).2) ∧ 3 * (lawP n s).1.names.length + (lawP n s).2.length ≤ s.length + 3
  | 0, s => by
    have hs := (spW_ok s).1
    have hl := congrArg List.length hs
    rw [List.length_append] at hl
    refine ⟨⟨_, hs⟩, ?_⟩
    show 3 * 1 + (spW s).2.length ≤ _
    omega
  | n + 1, s => by
    have hs := (spW_ok s).1
    have hl := congrArg List.length hs
    rw [List.length_append] at hl
    unfold lawP
    cases hq : (spW s).2 with
    | nil =>
      dsimp only
      exact ⟨⟨s, by simp⟩, by show 3 * 1 + 0 ≤ _; omega⟩
    | cons c r =>
      rw [hq] at hs hl
      simp only [List.length_cons] at hl
      dsimp only
      by_cases hc : c = 40
      · rw [if_pos hc]
        obtain ⟨⟨w1, e1⟩, b1⟩ := lawP_suf n r
        have l1 := congrArg List.length e1
        rw [List.length_append] at l1
        cases h1 : sgn 32 (lawP n r).2 with
        | none =>
          dsimp only
          refine ⟨⟨(spW s).1 ++ c :: w1, ?_⟩, ?_⟩
          · rw [List.append_assoc, List.cons_append, ← e1]; exact hs
          · show 3 * 1 + _ ≤ _; omega
        | some r2 =>
          dsimp only
          have e2 := sgn_suf h1
          obtain ⟨⟨w2, e3⟩, b2⟩ := lawP_suf n r2
          have l2 := congrArg List.length e2
          have l3 := congrArg List.length e3
          rw [List.length_append] at l3
          simp only [List.length_cons] at l2
          have er : r = w1 ++ 32 :: r2 := by rw [← e2]; exact e1
          cases h2 : sgn 41 (lawP n r2).2 with
          | none =>
            dsimp only
            refine ⟨⟨(spW s).1 ++ c :: (w1 ++ 32 :: w2), ?_⟩, ?_⟩
            · have : s = (spW s).1 ++ c :: (w1 ++ 32 :: (w2 ++ (lawP n r2).2)) := by rw [← e3, ← er]; exact hs
              generalize (spW s).1 = p at this ⊢
              rw [this]
              simp
            · show 3 * 1 + _ ≤ _; omega
          | some r4 =>
            dsimp only
            have e4 := sgn_suf h2
            have l4 := congrArg List.length e4
            simp only [List.length_cons] at l4
            refine ⟨⟨(spW s).1 ++ c :: (w1 ++ 32 :: (w2 ++ [41])), ?_⟩, ?_⟩
            · have : s = (spW s).1 ++ c :: (w1 ++ 32 :: (w2 ++ 41 :: r4)) := by rw [← e4, ← e3, ← er]; exact hs
              generalize (spW s).1 = p at this ⊢
              rw [this]
              simp
            · show 3 * ((lawP n r).1.names ++ (lawP n r2).1.names).length + _ ≤ _
              rw [List.length_append]
              omega
      · rw [if_neg hc]
        refine ⟨⟨(spW s).1, hs⟩, ?_⟩
        show 3 * 1 + (c :: r).length ≤ _
        simp only [List.length_cons]
        omega
theorem lawP_deep : ∀ (n : Nat) (s : T), (lawP n s).1.deep ≤ n + 1
  | 0, s => Nat.le_refl 1
  | n + 1, s => by
    have h1 : ∀ r, (lawP n r).1.deep ≤ n + 1 := fun r => lawP_deep n r
    have l1 : ∀ x : T, (Tr.leaf x).deep ≤ n + 1 + 1 := fun x => by show 1 ≤ _; omega
    unfold lawP
    cases (spW s).2 with
    | nil => exact l1 _
    | cons c q =>
      dsimp only
      by_cases hc : c = 40
      · rw [if_pos hc]
        cases sgn 32 (lawP n q).2 with
        | none => exact l1 _
        | some r2 =>
          dsimp only
          cases sgn 41 (lawP n r2).2 with
          | none => exact l1 _
          | some r4 =>
            have a := h1 q
            have b := h1 r2
            show 1 + max _ _ ≤ _
            omega
      · rw [if_neg hc]; exact l1 _
/-- what is read is read alike -/
theorem par_law : ∀ (n : Nat) (s : T) (t : Tr) (r : T), parS n s = some (t, r) → ∀ m, n ≤ m → lawP m s = (t, r)
  | 0, s, t, r, h => by cases h
  | n + 1, s, t, r, h => fun m hm => by
    obtain ⟨m, rfl⟩ : ∃ k, m = k + 1 := ⟨m - 1, by omega⟩
    unfold parS at h
    unfold lawP
    cases hq : (spW s).2 with
    | nil =>
      rw [hq] at h
      cases h
      rfl
    | cons c q =>
      rw [hq] at h
      dsimp only at h ⊢
      by_cases hc : c = 40
      · rw [if_pos hc] at h ⊢
        cases ha : parS n q with
        | none => rw [ha] at h; cases h
        | some a =>
          rw [ha] at h
          simp only [Option.bind_some] at h
          have i1 := par_law n q a.1 a.2 ha m (by omega)
          rw [i1]
          cases hb : sgn 32 a.2 with
          | none => rw [hb] at h; cases h
          | some r2 =>
            rw [hb] at h
            simp only [Option.bind_some] at h
            cases hd : parS n r2 with
            | none => rw [hd] at h; cases h
            | some b =>
              rw [hd] at h
              simp only [Option.bind_some] at h
              have i2 := par_law n r2 b.1 b.2 hd m (by omega)
              cases he : sgn 41 b.2 with
              | none => rw [he] at h; cases h
              | some r4 =>
                rw [he] at h
                cases h
                simp only [hb, i2, he]
      · rw [if_neg hc] at h ⊢
        cases h
        rfl
def labsOk (t : Tr) : Prop := ∀ u ∈ t.parts, u.lab ≠ []
theorem law_par : ∀ (m : Nat) (s : T) (n : Nat), n ≤ m → labsOk (lawP m s).1 → (lawP m s).1.deep ≤ n → parS n s = some (lawP m s)
  | 0, s, n, hn, _, hd => by
    have : (lawP 0 s).1.deep = 1 := rfl
    omega
  | m + 1, s, n, hn, ho, hd => by
    have d1 := (lawP (m + 1) s).1.deep_le
    obtain ⟨n, rfl⟩ : ∃ k, n = k + 1 := ⟨n - 1, by
      have : 1 ≤ (lawP (m + 1) s).1.deep := by cases (lawP (m + 1) s).1 <;> simp only [Tr.deep] <;> omega
      omega⟩
    have bad : ∀ z : T, ¬ labsOk (.leaf []) := fun z h => h (.leaf []) (by simp [Tr.parts]) rfl
    unfold lawP at ho hd ⊢
    unfold parS
    cases hq : (spW s).2 with
    | nil => rfl
    | cons c q =>
      rw [hq] at ho hd
      dsimp only at ho hd ⊢
      by_cases hc : c = 40
      · rw [if_pos hc] at ho hd ⊢
        rw [if_pos hc]
        cases hb : sgn 32 (lawP m q).2 with
        | none => rw [hb] at ho; exact absurd ho (bad [])
        | some r2 =>
          rw [hb] at ho hd
          dsimp only at ho hd ⊢
          cases he : sgn 41 (lawP m r2).2 with
          | none => rw [he] at ho; exact absurd ho (bad [])
          | some r4 =>
            rw [he] at ho hd
            dsimp only at ho hd ⊢
            simp only [Tr.deep] at hd
            have i1 := law_par m q n (by omega) (fun u hu => ho u (by simp [Tr.parts, hu])) (by omega)
            have i2 := law_par m r2 n (by omega) (fun u hu => ho u (by simp [Tr.parts, hu])) (by omega)
            rw [i1]
            simp only [Option.bind_some]
            rw [hb]
            simp only [Option.bind_some]
            rw [i2]
            simp only [Option.bind_some]
            rw [he]
            rfl
      · rw [if_neg hc] at ⊢
        rw [if_neg hc]
/-! the reader's walk -/
def ltR (x : T) (a : Tr × T) : FR := .ok (.sh (.tup [a.1.enc, .int ((x.length - a.2.length : Nat) : Int)]))
def bodyL5 : List S := [.set 3 (.var 1), .whl cScan bScan, .ife (.or (.cmp .ne (.slice (.var 0) (some (.var 3)) (some (.bin .add (.var 3) (.lit (.int 1))))) (.lit (.str [40]))) (.cmp .gt (.var 2) (.lit (.int 30)))) [.ret (.tup [(.tup [(.lit (.str [108, 101, 97, 102])), (.slice (.var 0) (some (.var 1)) (some (.var 3)))]), (.var 3)])] [], .unp [4, 5] (.call 29 [(.var 0), (.bin .add (.var 3) (.lit (.int 1))), (.bin .add (.var 2) (.lit (.int 1)))]), .ife (.cmp .ne (.slice (.var 0) (some (.var 5)) (some (.bin .add (.var 5) (.lit (.int 1))))) (.lit (.str [32]))) [.ret (.tup [(.tup [(.lit (.str [108, 101, 97, 102])), (.lit (.str []))]), (.var 5)])] [], .unp [6, 7] (.call 29 [(.var 0), (.bin .add (.var 5) (.lit (.int 1))), (.bin .add (.var 2) (.lit (.int 1)))]), .ife (.cmp .ne (.slice (.var 0) (some (.var 7)) (some (.bin .add (.var 7) (.lit (.int 1))))) (.lit (.str [41]))) [.ret (.tup [(.tup [(.lit (.str [108, 101, 97, 102])), (.lit (.str []))]), (.var 7)])] [], .ret (.tup [(.tup [(.lit (.str [107, 110, 111, 116])), (.slice (.var 0) (some (.var 1)) (some (.var 3))), (.var 4), (.var 6)]), (.bin .add (.var 7) (.lit (.int 1)))])]
theorem scan_lp8 {G : Tab} {x : T} (hx : x.length ≤ 100000) (A1 A2 A4 A5 A6 A7 : Option DV) : ∀ (w r : T) (e fuel : Nat), x.drop e = w ++ r → (∀ c ∈ w, abcB c = true) → (∀ c s, r = c :: s → abcB c = false) → e ≤ x.length → w.length < fuel →
    whileL (tst G cScan) (exB G bScan) fuel [some (.sh (.str x)), A1, A2, some (.sh (.int (e : Int))), A4, A5, A6, A7] = .nx [some (.sh (.str x)), A1, A2, some (.sh (.int ((e + w.length : Nat) : Int))), A4, A5, A6, A7] := by
  have bl : biD .len [.str x] = some (.sh (.int (x.length : Int))) := bi_lenX x (by unfold szL; omega)
  intro w
  induction w with
  | nil =>
    intro r e fuel h hw hr he hf
    obtain ⟨fuel, rfl⟩ : ∃ k, fuel = k + 1 := ⟨fuel - 1, by simp only [List.length_nil] at hf; omega⟩
    have hc : tst G cScan [some (.sh (.str x)), A1, A2, some (.sh (.int (e : Int))), A4, A5, A6, A7] = .ok false [some (.sh (.str x)), A1, A2, some (.sh (.int (e : Int))), A4, A5, A6, A7] := by
      cases r with
      | nil =>
        have hl : ¬ (e : Int) < (x.length : Int) := by
          have := congrArg List.length h
          simp only [List.length_drop, List.length_append, List.length_nil] at this
          omega
        simp -implicitDefEqProofs only [exB_nil, exB_cons, y_pass, y_set, y_unp, y_par, y_sti, y_app, y_rem, y_appc, y_ex, y_ife, y_whl, y_for1, y_forN, y_ret, y_retN, y_rai, y_try, y_tryR, x_var, x_lit, x_bin, x_neg, x_cmp, x_chain, x_chain3, x_cio, x_ciL, x_addv, x_and, x_or, x_not, x_tup, x_lst, x_sub, x_slice, x_call, x_bi, x_meth, x_isi, x_range, x_enum, x_zip, x_zips, c_nes, x_dict, x_ditn, evs, evb, evo, tst, brw, isVar, bor, rd, bd_ok, bd_er, bd_st, of_some, of_none, s_ok, s_er, s_st, sb_nx, sb_rt, sb_er, sb_st, val_sh, val_ol, val_od, val_ot, val_er, val_st, blR_bl, truth_bl, truth_lst, intOf_int, c_eq, c_ne, c_lt, c_le, c_gt, c_ge, c_inn, c_nin, c_isN, c_notN, n_non, n_int, n_str, n_tup, n_lst, b_add, b_sub, bi_max2, bi_min2, bi_intB, bi_intI, bi_lenL, bi_lenT, bi_lenS, bi_listL, bi_listT, bi_strS, sub_lst, sub_tup, sub_scr, sub_dic, slc_lst, slc_tup, atI0, atI1, atI2, atI3, atI4, eqV_int, eqV_bl, isi_int, isi_intb, isi_bl, isi_lst, isi_tup, isi_str, fp_sh, fp_ol, fp_nx, sz_0, sz_1, sz_2, sz_3, sz_4, sz_5, sz_6, sz_7, fp_er, res_ok, res_er, itm_lst, itm_tup, itm_str, env0, moved, Option.map_some, Option.map_none, Option.bind_some, List.getElem?_cons_zero, List.getElem?_cons_succ, List.set_cons_zero, List.set_cons_succ, List.map_cons, List.map_nil, List.cons_append, List.nil_append, List.length_cons, List.length_nil, List.replicate, if_true, if_false, Bool.false_eq_true, reduceIte, Bool.not_true, Bool.not_false, cScan, bl, decide_eq_false hl]
      | cons c s =>
        obtain ⟨g1, g2, g3⟩ := atI_drop (show x.drop e = c :: s from h)
        have hl : (e : Int) < (x.length : Int) := by omega
        have hs : subD (.str x) (.int (e : Int)) = some (.str [c]) := by rw [sub_str _ _ (by unfold szL; omega), g1]; rfl
        have hi : inD (.str [c]) (.str [97, 98, 99, 100, 101, 102, 103, 104, 105, 106, 107, 108, 109, 110, 111, 112, 113, 114, 115, 116, 117, 118, 119, 120, 121, 122]) = some false := by
          show some (abcB c) = _
          rw [hr c s rfl]
        simp -implicitDefEqProofs only [exB_nil, exB_cons, y_pass, y_set, y_unp, y_par, y_sti, y_app, y_rem, y_appc, y_ex, y_ife, y_whl, y_for1, y_forN, y_ret, y_retN, y_rai, y_try, y_tryR, x_var, x_lit, x_bin, x_neg, x_cmp, x_chain, x_chain3, x_cio, x_ciL, x_addv, x_and, x_or, x_not, x_tup, x_lst, x_sub, x_slice, x_call, x_bi, x_meth, x_isi, x_range, x_enum, x_zip, x_zips, c_nes, x_dict, x_ditn, evs, evb, evo, tst, brw, isVar, bor, rd, bd_ok, bd_er, bd_st, of_some, of_none, s_ok, s_er, s_st, sb_nx, sb_rt, sb_er, sb_st, val_sh, val_ol, val_od, val_ot, val_er, val_st, blR_bl, truth_bl, truth_lst, intOf_int, c_eq, c_ne, c_lt, c_le, c_gt, c_ge, c_inn, c_nin, c_isN, c_notN, n_non, n_int, n_str, n_tup, n_lst, b_add, b_sub, bi_max2, bi_min2, bi_intB, bi_intI, bi_lenL, bi_lenT, bi_lenS, bi_listL, bi_listT, bi_strS, sub_lst, sub_tup, sub_scr, sub_dic, slc_lst, slc_tup, atI0, atI1, atI2, atI3, atI4, eqV_int, eqV_bl, isi_int, isi_intb, isi_bl, isi_lst, isi_tup, isi_str, fp_sh, fp_ol, fp_nx, sz_0, sz_1, sz_2, sz_3, sz_4, sz_5, sz_6, sz_7, fp_er, res_ok, res_er, itm_lst, itm_tup, itm_str, env0, moved, Option.map_some, Option.map_none, Option.bind_some, List.getElem?_cons_zero, List.getElem?_cons_succ, List.set_cons_zero, List.set_cons_succ, List.map_cons, List.map_nil, List.cons_append, List.nil_append, List.length_cons, List.length_nil, List.replicate, if_true, if_false, Bool.false_eq_true, reduceIte, Bool.not_true, Bool.not_false, cScan, bl, decide_eq_true hl, hs, hi]
    show (tst G cScan _).s (fun k env => if k then (exB G bScan env).bd fun env => whileL (tst G cScan) (exB G bScan) fuel env else .nx env) = _
    rw [hc]
    rfl
  | cons c w ih =>
    intro r e fuel h hw hr he hf
    simp only [List.length_cons] at hf
    obtain ⟨fuel, rfl⟩ : ∃ k, fuel = k + 1 := ⟨fuel - 1, by omega⟩
    obtain ⟨g1, g2, g3⟩ := atI_drop (show x.drop e = c :: (w ++ r) from h)
    have hl : (e : Int) < (x.length : Int) := by omega
    have hs : subD (.str x) (.int (e : Int)) = some (.str [c]) := by rw [sub_str _ _ (by unfold szL; omega), g1]; rfl
    have hi : inD (.str [c]) (.str [97, 98, 99, 100, 101, 102, 103, 104, 105, 106, 107, 108, 109, 110, 111, 112, 113, 114, 115, 116, 117, 118, 119, 120, 121, 122]) = some true := by
      show some (abcB c) = _
      rw [hw c (by simp)]
    have hc : tst G cScan [some (.sh (.str x)), A1, A2, some (.sh (.int (e : Int))), A4, A5, A6, A7] = .ok true [some (.sh (.str x)), A1, A2, some (.sh (.int (e : Int))), A4, A5, A6, A7] := by
      simp -implicitDefEqProofs only [exB_nil, exB_cons, y_pass, y_set, y_unp, y_par, y_sti, y_app, y_rem, y_appc, y_ex, y_ife, y_whl, y_for1, y_forN, y_ret, y_retN, y_rai, y_try, y_tryR, x_var, x_lit, x_bin, x_neg, x_cmp, x_chain, x_chain3, x_cio, x_ciL, x_addv, x_and, x_or, x_not, x_tup, x_lst, x_sub, x_slice, x_call, x_bi, x_meth, x_isi, x_range, x_enum, x_zip, x_zips, c_nes, x_dict, x_ditn, evs, evb, evo, tst, brw, isVar, bor, rd, bd_ok, bd_er, bd_st, of_some, of_none, s_ok, s_er, s_st, sb_nx, sb_rt, sb_er, sb_st, val_sh, val_ol, val_od, val_ot, val_er, val_st, blR_bl, truth_bl, truth_lst, intOf_int, c_eq, c_ne, c_lt, c_le, c_gt, c_ge, c_inn, c_nin, c_isN, c_notN, n_non, n_int, n_str, n_tup, n_lst, b_add, b_sub, bi_max2, bi_min2, bi_intB, bi_intI, bi_lenL, bi_lenT, bi_lenS, bi_listL, bi_listT, bi_strS, sub_lst, sub_tup, sub_scr, sub_dic, slc_lst, slc_tup, atI0, atI1, atI2, atI3, atI4, eqV_int, eqV_bl, isi_int, isi_intb, isi_bl, isi_lst, isi_tup, isi_str, fp_sh, fp_ol, fp_nx, sz_0, sz_1, sz_2, sz_3, sz_4, sz_5, sz_6, sz_7, fp_er, res_ok, res_er, itm_lst, itm_tup, itm_str, env0, moved, Option.map_some, Option.map_none, Option.bind_some, List.getElem?_cons_zero, List.getElem?_cons_succ, List.set_cons_zero, List.set_cons_succ, List.map_cons, List.map_nil, List.cons_append, List.nil_append, List.length_cons, List.length_nil, List.replicate, if_true, if_false, Bool.false_eq_true, reduceIte, Bool.not_true, Bool.not_false, cScan, bl, decide_eq_true hl, hs, hi]
    have e1 : (e : Int) + 1 = ((e + 1 : Nat) : Int) := by omega
    have hb : exB G bScan [some (.sh (.str x)), A1, A2, some (.sh (.int (e : Int))), A4, A5, A6, A7] = .nx [some (.sh (.str x)), A1, A2, some (.sh (.int ((e + 1 : Nat) : Int))), A4, A5, A6, A7] := by
      simp -implicitDefEqProofs only [exB_nil, exB_cons, y_pass, y_set, y_unp, y_par, y_sti, y_app, y_rem, y_appc, y_ex, y_ife, y_whl, y_for1, y_forN, y_ret, y_retN, y_rai, y_try, y_tryR, x_var, x_lit, x_bin, x_neg, x_cmp, x_chain, x_chain3, x_cio, x_ciL, x_addv, x_and, x_or, x_not, x_tup, x_lst, x_sub, x_slice, x_call, x_bi, x_meth, x_isi, x_range, x_enum, x_zip, x_zips, c_nes, x_dict, x_ditn, evs, evb, evo, tst, brw, isVar, bor, rd, bd_ok, bd_er, bd_st, of_some, of_none, s_ok, s_er, s_st, sb_nx, sb_rt, sb_er, sb_st, val_sh, val_ol, val_od, val_ot, val_er, val_st, blR_bl, truth_bl, truth_lst, intOf_int, c_eq, c_ne, c_lt, c_le, c_gt, c_ge, c_inn, c_nin, c_isN, c_notN, n_non, n_int, n_str, n_tup, n_lst, b_add, b_sub, bi_max2, bi_min2, bi_intB, bi_intI, bi_lenL, bi_lenT, bi_lenS, bi_listL, bi_listT, bi_strS, sub_lst, sub_tup, sub_scr, sub_dic, slc_lst, slc_tup, atI0, atI1, atI2, atI3, atI4, eqV_int, eqV_bl, isi_int, isi_intb, isi_bl, isi_lst, isi_tup, isi_str, fp_sh, fp_ol, fp_nx, sz_0, sz_1, sz_2, sz_3, sz_4, sz_5, sz_6, sz_7, fp_er, res_ok, res_er, itm_lst, itm_tup, itm_str, env0, moved, Option.map_some, Option.map_none, Option.bind_some, List.getElem?_cons_zero, List.getElem?_cons_succ, List.set_cons_zero, List.set_cons_succ, List.map_cons, List.map_nil, List.cons_append, List.nil_append, List.length_cons, List.length_nil, List.replicate, if_true, if_false, Bool.false_eq_true, reduceIte, Bool.not_true, Bool.not_false, bScan, e1]
    show (tst G cScan _).s (fun k env => if k then (exB G bScan env).bd fun env => whileL (tst G cScan) (exB G bScan) fuel env else .nx env) = _
    rw [hc, s_ok, if_pos rfl, hb, sb_nx, ih r (e + 1) fuel g3 (fun d hd => hw d (by simp [hd])) hr (by omega) (by omega)]
    have e2 : e + 1 + w.length = e + (c :: w).length := by simp only [List.length_cons]; omega
    rw [e2]
/-- the sign at a place -/
theorem sgn_l5 {x r : T} (hx : x.length ≤ 4000) (ho : x.all (· < 1114112) = true) (c : Nat) (hc : c < 1114112) (h : x.drop (x.length - r.length) = r) (hr : r.length ≤ x.length) :
    ∃ y : T, sliceD (.str x) (some ((x.length - r.length : Nat) : Int)) (some ((x.length - r.length + 1 : Nat) : Int)) = some (.sh (.str y)) ∧ eqV (.str y) (.str [c]) = some (sgn c r).isSome ∧ ∀ s, sgn c r = some s → x.length - r.length + 1 = x.length - s.length := by
  refine ⟨r.take 1, ?_, ?_, ?_⟩
  · rw [slc_str _ _ _ (by unfold szL; omega), cut_mid _ _ _ (by omega) (by omega), h]
    have e : x.length - r.length + 1 - (x.length - r.length) = 1 := by omega
    rw [e]
  · have ot : (r.take 1).all (· < 1114112) = true := by rw [← h]; exact all_take ho _ 1
    rw [eqV_str _ _ ot (by simp [hc])]
    cases r with
    | nil => rfl
    | cons d s =>
      show some ([d] == [c]) = some (sgn c (d :: s)).isSome
      by_cases q : d = c
      · subst q; simp [sgn]
      · simp [sgn, q]
  · intro s hs
    have := congrArg List.length (sgn_suf hs)
    simp only [List.length_cons] at this
    omega
theorem run_l5 {G : Tab} {x : T} (hx : x.length ≤ 4000) (ho : x.all (· < 1114112) = true) (n a deep : Nat) (hd : n + deep = 31) (ha : a ≤ x.length)
    (ih : ∀ m, n = m + 1 → ∀ b, b ≤ x.length → G.fn 29 [.str x, .int (b : Int), .int ((deep + 1 : Nat) : Int)] = ltR x (lawP m (x.drop b))) : run G ⟨3, 8, bodyL5, none⟩ [.str x, .int (a : Int), .int (deep : Int)] = ltR x (lawP n (x.drop a)) := by
  rw [run_eq rfl rfl]
  obtain ⟨s1, s2, s3⟩ := spW_ok (x.drop a)
  have hl := congrArg List.length s1
  rw [List.length_drop, List.length_append] at hl
  have sc := scan_lp8 (G := G) (x := x) (by omega) (some (.sh (.int (a : Int)))) (some (.sh (.int (deep : Int)))) none none none none (spW (x.drop a)).1 (spW (x.drop a)).2 a whF s1 s2 s3 ha (by unfold whF; omega)
  have sN : sliceD (.str x) (some (a : Int)) (some ((a + (spW (x.drop a)).1.length : Nat) : Int)) = some (.sh (.str (spW (x.drop a)).1)) := by
    rw [slc_str _ _ _ (by unfold szL; omega), cut_mid _ _ _ ha (by omega)]
    have e : a + (spW (x.drop a)).1.length - a = (spW (x.drop a)).1.length := by omega
    rw [e]
    have k : ∀ l : T, l = (spW (x.drop a)).1 ++ (spW (x.drop a)).2 → l.take (spW (x.drop a)).1.length = (spW (x.drop a)).1 := fun l h => by rw [h, List.take_left]
    rw [k _ s1]
  have hr : x.drop (a + (spW (x.drop a)).1.length) = (spW (x.drop a)).2 := by
    have k : ∀ l : T, l = (spW (x.drop a)).1 ++ (spW (x.drop a)).2 → l.drop (spW (x.drop a)).1.length = (spW (x.drop a)).2 := fun l h => by rw [h, List.drop_left]
    rw [← List.drop_drop, k _ s1]
  have e1 : ∀ e : Nat, ((e : Nat) : Int) + 1 = ((e + 1 : Nat) : Int) := fun e => by omega
  have s1' : sliceD (.str x) (some ((a + (spW (x.drop a)).1.length : Nat) : Int)) (some ((a + (spW (x.drop a)).1.length + 1 : Nat) : Int)) = some (.sh (.str ((spW (x.drop a)).2.take 1))) := by
    rw [slc_str _ _ _ (by unfold szL; omega), cut_mid _ _ _ (by omega) (by omega), hr]
    have e : a + (spW (x.drop a)).1.length + 1 - (a + (spW (x.drop a)).1.length) = 1 := by omega
    rw [e]
  have ot : ((spW (x.drop a)).2.take 1).all (· < 1114112) = true := by rw [← hr]; exact all_take ho _ 1
  have he := eqV_str ((spW (x.drop a)).2.take 1) [40] ot (by decide)
  have hend : x.length - (spW (x.drop a)).2.length = a + (spW (x.drop a)).1.length := by omega
  cases n with
  | zero =>
    have q : (30 : Int) < (deep : Int) := by omega
    unfold lawP
    generalize (spW (x.drop a)).1 = w at *
    generalize (spW (x.drop a)).2 = r at *
    simp only [ltR, Tr.enc]
    rw [hend]
    cases hb : (r.take 1 == [40]) with
    | true =>
      rw [hb] at he
      simp -implicitDefEqProofs only [exB_nil, exB_cons, y_pass, y_set, y_unp, y_par, y_sti, y_app, y_rem, y_appc, y_ex, y_ife, y_whl, y_for1, y_forN, y_ret, y_retN, y_rai, y_try, y_tryR, x_var, x_lit, x_bin, x_neg, x_cmp, x_chain, x_chain3, x_cio, x_ciL, x_addv, x_and, x_or, x_not, x_tup, x_lst, x_sub, x_slice, x_call, x_bi, x_meth, x_isi, x_range, x_enum, x_zip, x_zips, c_nes, x_dict, x_ditn, evs, evb, evo, tst, brw, isVar, bor, rd, bd_ok, bd_er, bd_st, of_some, of_none, s_ok, s_er, s_st, sb_nx, sb_rt, sb_er, sb_st, val_sh, val_ol, val_od, val_ot, val_er, val_st, blR_bl, truth_bl, truth_lst, intOf_int, c_eq, c_ne, c_lt, c_le, c_gt, c_ge, c_inn, c_nin, c_isN, c_notN, n_non, n_int, n_str, n_tup, n_lst, b_add, b_sub, bi_max2, bi_min2, bi_intB, bi_intI, bi_lenL, bi_lenT, bi_lenS, bi_listL, bi_listT, bi_strS, sub_lst, sub_tup, sub_scr, sub_dic, slc_lst, slc_tup, atI0, atI1, atI2, atI3, atI4, eqV_int, eqV_bl, isi_int, isi_intb, isi_bl, isi_lst, isi_tup, isi_str, fp_sh, fp_ol, fp_nx, sz_0, sz_1, sz_2, sz_3, sz_4, sz_5, sz_6, sz_7, fp_er, res_ok, res_er, itm_lst, itm_tup, itm_str, env0, moved, Option.map_some, Option.map_none, Option.bind_some, List.getElem?_cons_zero, List.getElem?_cons_succ, List.set_cons_zero, List.set_cons_succ, List.map_cons, List.map_nil, List.cons_append, List.nil_append, List.length_cons, List.length_nil, List.replicate, if_true, if_false, Bool.false_eq_true, reduceIte, Bool.not_true, Bool.not_false, bodyL5, decide_eq_true q, sc, sN, e1, s1', he, kLeaf]
    | false =>
      rw [hb] at he
      simp -implicitDefEqProofs only [exB_nil, exB_cons, y_pass, y_set, y_unp, y_par, y_sti, y_app, y_rem, y_appc, y_ex, y_ife, y_whl, y_for1, y_forN, y_ret, y_retN, y_rai, y_try, y_tryR, x_var, x_lit, x_bin, x_neg, x_cmp, x_chain, x_chain3, x_cio, x_ciL, x_addv, x_and, x_or, x_not, x_tup, x_lst, x_sub, x_slice, x_call, x_bi, x_meth, x_isi, x_range, x_enum, x_zip, x_zips, c_nes, x_dict, x_ditn, evs, evb, evo, tst, brw, isVar, bor, rd, bd_ok, bd_er, bd_st, of_some, of_none, s_ok, s_er, s_st, sb_nx, sb_rt, sb_er, sb_st, val_sh, val_ol, val_od, val_ot, val_er, val_st, blR_bl, truth_bl, truth_lst, intOf_int, c_eq, c_ne, c_lt, c_le, c_gt, c_ge, c_inn, c_nin, c_isN, c_notN, n_non, n_int, n_str, n_tup, n_lst, b_add, b_sub, bi_max2, bi_min2, bi_intB, bi_intI, bi_lenL, bi_lenT, bi_lenS, bi_listL, bi_listT, bi_strS, sub_lst, sub_tup, sub_scr, sub_dic, slc_lst, slc_tup, atI0, atI1, atI2, atI3, atI4, eqV_int, eqV_bl, isi_int, isi_intb, isi_bl, isi_lst, isi_tup, isi_str, fp_sh, fp_ol, fp_nx, sz_0, sz_1, sz_2, sz_3, sz_4, sz_5, sz_6, sz_7, fp_er, res_ok, res_er, itm_lst, itm_tup, itm_str, env0, moved, Option.map_some, Option.map_none, Option.bind_some, List.getElem?_cons_zero, List.getElem?_cons_succ, List.set_cons_zero, List.set_cons_succ, List.map_cons, List.map_nil, List.cons_append, List.nil_append, List.length_cons, List.length_nil, List.replicate, if_true, if_false, Bool.false_eq_true, reduceIte, Bool.not_true, Bool.not_false, bodyL5, sc, sN, e1, s1', he, kLeaf]
  | succ m =>
    have ih := ih m rfl
    have q : ¬ (30 : Int) < (deep : Int) := by omega
    unfold lawP
    generalize (spW (x.drop a)).1 = w at *
    cases hq : (spW (x.drop a)).2 with
    | nil =>
      rw [hq] at s1' he hend
      have he : eqV (.str (List.take 1 ([] : T))) (.str [40]) = some false := he
      have hE : a + w.length = x.length := by rw [← hend]; simp
      rw [hE] at sc sN s1'
      simp only [ltR, Tr.enc, List.length_nil, Nat.sub_zero]
      simp -implicitDefEqProofs only [exB_nil, exB_cons, y_pass, y_set, y_unp, y_par, y_sti, y_app, y_rem, y_appc, y_ex, y_ife, y_whl, y_for1, y_forN, y_ret, y_retN, y_rai, y_try, y_tryR, x_var, x_lit, x_bin, x_neg, x_cmp, x_chain, x_chain3, x_cio, x_ciL, x_addv, x_and, x_or, x_not, x_tup, x_lst, x_sub, x_slice, x_call, x_bi, x_meth, x_isi, x_range, x_enum, x_zip, x_zips, c_nes, x_dict, x_ditn, evs, evb, evo, tst, brw, isVar, bor, rd, bd_ok, bd_er, bd_st, of_some, of_none, s_ok, s_er, s_st, sb_nx, sb_rt, sb_er, sb_st, val_sh, val_ol, val_od, val_ot, val_er, val_st, blR_bl, truth_bl, truth_lst, intOf_int, c_eq, c_ne, c_lt, c_le, c_gt, c_ge, c_inn, c_nin, c_isN, c_notN, n_non, n_int, n_str, n_tup, n_lst, b_add, b_sub, bi_max2, bi_min2, bi_intB, bi_intI, bi_lenL, bi_lenT, bi_lenS, bi_listL, bi_listT, bi_strS, sub_lst, sub_tup, sub_scr, sub_dic, slc_lst, slc_tup, atI0, atI1, atI2, atI3, atI4, eqV_int, eqV_bl, isi_int, isi_intb, isi_bl, isi_lst, isi_tup, isi_str, fp_sh, fp_ol, fp_nx, sz_0, sz_1, sz_2, sz_3, sz_4, sz_5, sz_6, sz_7, fp_er, res_ok, res_er, itm_lst, itm_tup, itm_str, env0, moved, Option.map_some, Option.map_none, Option.bind_some, List.getElem?_cons_zero, List.getElem?_cons_succ, List.set_cons_zero, List.set_cons_succ, List.map_cons, List.map_nil, List.cons_append, List.nil_append, List.length_cons, List.length_nil, List.replicate, if_true, if_false, Bool.false_eq_true, reduceIte, Bool.not_true, Bool.not_false, bodyL5, sc, sN, e1, s1', he, kLeaf]
    | cons c r =>
      rw [hq] at s1' he hend hr
      by_cases hc : c = 40
      · subst hc
        have he : eqV (.str (List.take 1 (40 :: r))) (.str [40]) = some true := he
        obtain ⟨g1, g2, g3⟩ := atI_drop hr
        have c1 := ih (a + w.length + 1) (by omega)
        rw [g3] at c1
        simp only [if_true]
        obtain ⟨⟨w1, f1⟩, _⟩ := lawP_suf m r
        obtain ⟨d1, l1⟩ := drop_suf (by omega) g3 f1
        obtain ⟨y1, k1, k2, k3⟩ := sgn_l5 hx ho 32 (by decide) d1 l1
        generalize hP1 : lawP m r = P1 at *
        cases hs1 : sgn 32 P1.2 with
        | none =>
          rw [hs1] at k2
          have k2 : eqV (.str y1) (.str [32]) = some false := k2
          simp only [ltR, Tr.enc] at c1 ⊢
          simp -implicitDefEqProofs only [exB_nil, exB_cons, y_pass, y_set, y_unp, y_par, y_sti, y_app, y_rem, y_appc, y_ex, y_ife, y_whl, y_for1, y_forN, y_ret, y_retN, y_rai, y_try, y_tryR, x_var, x_lit, x_bin, x_neg, x_cmp, x_chain, x_chain3, x_cio, x_ciL, x_addv, x_and, x_or, x_not, x_tup, x_lst, x_sub, x_slice, x_call, x_bi, x_meth, x_isi, x_range, x_enum, x_zip, x_zips, c_nes, x_dict, x_ditn, evs, evb, evo, tst, brw, isVar, bor, rd, bd_ok, bd_er, bd_st, of_some, of_none, s_ok, s_er, s_st, sb_nx, sb_rt, sb_er, sb_st, val_sh, val_ol, val_od, val_ot, val_er, val_st, blR_bl, truth_bl, truth_lst, intOf_int, c_eq, c_ne, c_lt, c_le, c_gt, c_ge, c_inn, c_nin, c_isN, c_notN, n_non, n_int, n_str, n_tup, n_lst, b_add, b_sub, bi_max2, bi_min2, bi_intB, bi_intI, bi_lenL, bi_lenT, bi_lenS, bi_listL, bi_listT, bi_strS, sub_lst, sub_tup, sub_scr, sub_dic, slc_lst, slc_tup, atI0, atI1, atI2, atI3, atI4, eqV_int, eqV_bl, isi_int, isi_intb, isi_bl, isi_lst, isi_tup, isi_str, fp_sh, fp_ol, fp_nx, sz_0, sz_1, sz_2, sz_3, sz_4, sz_5, sz_6, sz_7, fp_er, res_ok, res_er, itm_lst, itm_tup, itm_str, env0, moved, Option.map_some, Option.map_none, Option.bind_some, List.getElem?_cons_zero, List.getElem?_cons_succ, List.set_cons_zero, List.set_cons_succ, List.map_cons, List.map_nil, List.cons_append, List.nil_append, List.length_cons, List.length_nil, List.replicate, if_true, if_false, Bool.false_eq_true, reduceIte, Bool.not_true, Bool.not_false, bodyL5, decide_eq_false q, sc, sN, e1, s1', he, c1, k1, k2, unpD, setAll, kLeaf]
        | some r2 =>
          rw [hs1] at k2
          have k2 : eqV (.str y1) (.str [32]) = some true := k2
          have k3 := k3 r2 hs1
          rw [k3] at k1
          have f2 := sgn_suf hs1
          obtain ⟨d2, l2⟩ := drop_suf (w := w1 ++ [32]) (r := r2) (by omega) g3 (by rw [f1, f2]; simp)
          have c2 := ih (x.length - r2.length) (by omega)
          rw [d2] at c2
          dsimp only
          obtain ⟨⟨w2, f3⟩, _⟩ := lawP_suf m r2
          obtain ⟨d3, l3⟩ := drop_suf (by omega) d2 f3
          obtain ⟨y2, j1, j2, j3⟩ := sgn_l5 hx ho 41 (by decide) d3 l3
          generalize hP2 : lawP m r2 = P2 at *
          cases hs2 : sgn 41 P2.2 with
          | none =>
            rw [hs2] at j2
            have j2 : eqV (.str y2) (.str [41]) = some false := j2
            simp only [ltR, Tr.enc] at c1 c2 ⊢
            simp -implicitDefEqProofs only [exB_nil, exB_cons, y_pass, y_set, y_unp, y_par, y_sti, y_app, y_rem, y_appc, y_ex, y_ife, y_whl, y_for1, y_forN, y_ret, y_retN, y_rai, y_try, y_tryR, x_var, x_lit, x_bin, x_neg, x_cmp, x_chain, x_chain3, x_cio, x_ciL, x_addv, x_and, x_or, x_not, x_tup, x_lst, x_sub, x_slice, x_call, x_bi, x_meth, x_isi, x_range, x_enum, x_zip, x_zips, c_nes, x_dict, x_ditn, evs, evb, evo, tst, brw, isVar, bor, rd, bd_ok, bd_er, bd_st, of_some, of_none, s_ok, s_er, s_st, sb_nx, sb_rt, sb_er, sb_st, val_sh, val_ol, val_od, val_ot, val_er, val_st, blR_bl, truth_bl, truth_lst, intOf_int, c_eq, c_ne, c_lt, c_le, c_gt, c_ge, c_inn, c_nin, c_isN, c_notN, n_non, n_int, n_str, n_tup, n_lst, b_add, b_sub, bi_max2, bi_min2, bi_intB, bi_intI, bi_lenL, bi_lenT, bi_lenS, bi_listL, bi_listT, bi_strS, sub_lst, sub_tup, sub_scr, sub_dic, slc_lst, slc_tup, atI0, atI1, atI2, atI3, atI4, eqV_int, eqV_bl, isi_int, isi_intb, isi_bl, isi_lst, isi_tup, isi_str, fp_sh, fp_ol, fp_nx, sz_0, sz_1, sz_2, sz_3, sz_4, sz_5, sz_6, sz_7, fp_er, res_ok, res_er, itm_lst, itm_tup, itm_str, env0, moved, Option.map_some, Option.map_none, Option.bind_some, List.getElem?_cons_zero, List.getElem?_cons_succ, List.set_cons_zero, List.set_cons_succ, List.map_cons, List.map_nil, List.cons_append, List.nil_append, List.length_cons, List.length_nil, List.replicate, if_true, if_false, Bool.false_eq_true, reduceIte, Bool.not_true, Bool.not_false, bodyL5, decide_eq_false q, sc, sN, e1, s1', he, c1, k1, k2, k3, c2, j1, j2, unpD, setAll, kLeaf]
          | some r4 =>
            rw [hs2] at j2
            have j2 : eqV (.str y2) (.str [41]) = some true := j2
            have j3 := j3 r4 hs2
            rw [j3] at j1
            simp only [ltR, Tr.enc] at c1 c2 ⊢
            simp -implicitDefEqProofs only [exB_nil, exB_cons, y_pass, y_set, y_unp, y_par, y_sti, y_app, y_rem, y_appc, y_ex, y_ife, y_whl, y_for1, y_forN, y_ret, y_retN, y_rai, y_try, y_tryR, x_var, x_lit, x_bin, x_neg, x_cmp, x_chain, x_chain3, x_cio, x_ciL, x_addv, x_and, x_or, x_not, x_tup, x_lst, x_sub, x_slice, x_call, x_bi, x_meth, x_isi, x_range, x_enum, x_zip, x_zips, c_nes, x_dict, x_ditn, evs, evb, evo, tst, brw, isVar, bor, rd, bd_ok, bd_er, bd_st, of_some, of_none, s_ok, s_er, s_st, sb_nx, sb_rt, sb_er, sb_st, val_sh, val_ol, val_od, val_ot, val_er, val_st, blR_bl, truth_bl, truth_lst, intOf_int, c_eq, c_ne, c_lt, c_le, c_gt, c_ge, c_inn, c_nin, c_isN, c_notN, n_non, n_int, n_str, n_tup, n_lst, b_add, b_sub, bi_max2, bi_min2, bi_intB, bi_intI, bi_lenL, bi_lenT, bi_lenS, bi_listL, bi_listT, bi_strS, sub_lst, sub_tup, sub_scr, sub_dic, slc_lst, slc_tup, atI0, atI1, atI2, atI3, atI4, eqV_int, eqV_bl, isi_int, isi_intb, isi_bl, isi_lst, isi_tup, isi_str, fp_sh, fp_ol, fp_nx, sz_0, sz_1, sz_2, sz_3, sz_4, sz_5, sz_6, sz_7, fp_er, res_ok, res_er, itm_lst, itm_tup, itm_str, env0, moved, Option.map_some, Option.map_none, Option.bind_some, List.getElem?_cons_zero, List.getElem?_cons_succ, List.set_cons_zero, List.set_cons_succ, List.map_cons, List.map_nil, List.cons_append, List.nil_append, List.length_cons, List.length_nil, List.replicate, if_true, if_false, Bool.false_eq_true, reduceIte, Bool.not_true, Bool.not_false, bodyL5, decide_eq_false q, sc, sN, e1, s1', he, c1, k1, k2, k3, c2, j1, j2, j3, unpD, setAll, kKnot]
      · simp only [if_neg hc]
        have he : eqV (.str (List.take 1 (c :: r))) (.str [40]) = some false := by
          rw [he]
          show some ([c] == [40]) = some false
          simp [hc]
        simp only [ltR, Tr.enc]
        rw [hend]
        simp -implicitDefEqProofs only [exB_nil, exB_cons, y_pass, y_set, y_unp, y_par, y_sti, y_app, y_rem, y_appc, y_ex, y_ife, y_whl, y_for1, y_forN, y_ret, y_retN, y_rai, y_try, y_tryR, x_var, x_lit, x_bin, x_neg, x_cmp, x_chain, x_chain3, x_cio, x_ciL, x_addv, x_and, x_or, x_not, x_tup, x_lst, x_sub, x_slice, x_call, x_bi, x_meth, x_isi, x_range, x_enum, x_zip, x_zips, c_nes, x_dict, x_ditn, evs, evb, evo, tst, brw, isVar, bor, rd, bd_ok, bd_er, bd_st, of_some, of_none, s_ok, s_er, s_st, sb_nx, sb_rt, sb_er, sb_st, val_sh, val_ol, val_od, val_ot, val_er, val_st, blR_bl, truth_bl, truth_lst, intOf_int, c_eq, c_ne, c_lt, c_le, c_gt, c_ge, c_inn, c_nin, c_isN, c_notN, n_non, n_int, n_str, n_tup, n_lst, b_add, b_sub, bi_max2, bi_min2, bi_intB, bi_intI, bi_lenL, bi_lenT, bi_lenS, bi_listL, bi_listT, bi_strS, sub_lst, sub_tup, sub_scr, sub_dic, slc_lst, slc_tup, atI0, atI1, atI2, atI3, atI4, eqV_int, eqV_bl, isi_int, isi_intb, isi_bl, isi_lst, isi_tup, isi_str, fp_sh, fp_ol, fp_nx, sz_0, sz_1, sz_2, sz_3, sz_4, sz_5, sz_6, sz_7, fp_er, res_ok, res_er, itm_lst, itm_tup, itm_str, env0, moved, Option.map_some, Option.map_none, Option.bind_some, List.getElem?_cons_zero, List.getElem?_cons_succ, List.set_cons_zero, List.set_cons_succ, List.map_cons, List.map_nil, List.cons_append, List.nil_append, List.length_cons, List.length_nil, List.replicate, if_true, if_false, Bool.false_eq_true, reduceIte, Bool.not_true, Bool.not_false, bodyL5, sc, sN, e1, s1', he, kLeaf]
theorem fn_l5 {P : List (Nat × Def)} {j : Nat} (h29 : look 29 P = some ⟨3, 8, bodyL5, none⟩) {x : T} (hx : x.length ≤ 4000) (ho : x.all (· < 1114112) = true) : ∀ (n a deep : Nat), n + deep = 31 → a ≤ x.length → (tabOf P (j + 1 + n)).fn 29 [.str x, .int (a : Int), .int (deep : Int)] = ltR x (lawP n (x.drop a))
  | n, a, deep, hd, ha => by
    have e : j + 1 + n = (j + n) + 1 := by omega
    rw [e, tab_fn h29]
    refine run_l5 hx ho n a deep hd ha fun m hm b hb => ?_
    subst hm
    have e3 : j + (m + 1) = j + 1 + m := by omega
    rw [e3]
    exact fn_l5 h29 hx ho m b (deep + 1) (by omega) hb
  termination_by n => n
/-! read -/
theorem run_readG {G : Tab} {x : T} (hx : x.length ≤ 4000) (h24 : G.fn 24 [.str x, .int 0, .int 1] = rtR x (parS 24 x)) (h15 : ∀ t, parS 24 x = some (t, []) → G.fn 15 [t.enc] = match formF t with | some c => .er c | none => .ok (.sh t.enc)) (hc : ∀ t, subC ((formF t).getD 0) 0 = true) :
    run G ⟨1, 3, bodyRead, none⟩ [.str x] = match parS 24 x with | some (t, []) => (match formF t with | some _ => .er 4 | none => .ok (.sh t.enc)) | _ => .er 4 := by
  have bl : biD .len [.str x] = some (.sh (.int (x.length : Int))) := bi_lenX x (by unfold szL; omega)
  rw [run_eq rfl rfl]
  cases hp : parS 24 x with
  | none =>
    rw [hp] at h24
    have h24 : G.fn 24 [.str x, .int 0, .int 1] = .er 4 := h24
    simp -implicitDefEqProofs only [exB_nil, exB_cons, y_pass, y_set, y_unp, y_par, y_sti, y_app, y_rem, y_appc, y_ex, y_ife, y_whl, y_for1, y_forN, y_ret, y_retN, y_rai, y_try, y_tryR, x_var, x_lit, x_bin, x_neg, x_cmp, x_chain, x_chain3, x_cio, x_ciL, x_addv, x_and, x_or, x_not, x_tup, x_lst, x_sub, x_slice, x_call, x_bi, x_meth, x_isi, x_range, x_enum, x_zip, x_zips, c_nes, x_dict, x_ditn, evs, evb, evo, tst, brw, isVar, bor, rd, bd_ok, bd_er, bd_st, of_some, of_none, s_ok, s_er, s_st, sb_nx, sb_rt, sb_er, sb_st, val_sh, val_ol, val_od, val_ot, val_er, val_st, blR_bl, truth_bl, truth_lst, intOf_int, c_eq, c_ne, c_lt, c_le, c_gt, c_ge, c_inn, c_nin, c_isN, c_notN, n_non, n_int, n_str, n_tup, n_lst, b_add, b_sub, bi_max2, bi_min2, bi_intB, bi_intI, bi_lenL, bi_lenT, bi_lenS, bi_listL, bi_listT, bi_strS, sub_lst, sub_tup, sub_scr, sub_dic, slc_lst, slc_tup, atI0, atI1, atI2, atI3, atI4, eqV_int, eqV_bl, isi_int, isi_intb, isi_bl, isi_lst, isi_tup, isi_str, fp_sh, fp_ol, fp_nx, sz_0, sz_1, sz_2, sz_3, sz_4, sz_5, sz_6, sz_7, fp_er, res_ok, res_er, itm_lst, itm_tup, itm_str, env0, moved, Option.map_some, Option.map_none, Option.bind_some, List.getElem?_cons_zero, List.getElem?_cons_succ, List.set_cons_zero, List.set_cons_succ, List.map_cons, List.map_nil, List.cons_append, List.nil_append, List.length_cons, List.length_nil, List.replicate, if_true, if_false, Bool.false_eq_true, reduceIte, Bool.not_true, Bool.not_false, bodyRead, h24]
  | some a =>
    obtain ⟨t, r⟩ := a
    rw [hp] at h24
    obtain ⟨w, hw⟩ := par_suf 24 x t r hp
    have hl := congrArg List.length hw
    rw [List.length_append] at hl
    have h24 : G.fn 24 [.str x, .int 0, .int 1] = .ok (.sh (.tup [t.enc, .int ((x.length - r.length : Nat) : Int)])) := h24
    cases r with
    | nil =>
      have h15 := h15 t hp
      simp only [List.length_nil, Nat.sub_zero] at h24
      dsimp only
      cases hf : formF t with
      | none =>
        rw [hf] at h15
        have h15 : G.fn 15 [t.enc] = .ok (.sh t.enc) := h15
        generalize t.enc = te at *
        simp -implicitDefEqProofs only [exB_nil, exB_cons, y_pass, y_set, y_unp, y_par, y_sti, y_app, y_rem, y_appc, y_ex, y_ife, y_whl, y_for1, y_forN, y_ret, y_retN, y_rai, y_try, y_tryR, x_var, x_lit, x_bin, x_neg, x_cmp, x_chain, x_chain3, x_cio, x_ciL, x_addv, x_and, x_or, x_not, x_tup, x_lst, x_sub, x_slice, x_call, x_bi, x_meth, x_isi, x_range, x_enum, x_zip, x_zips, c_nes, x_dict, x_ditn, evs, evb, evo, tst, brw, isVar, bor, rd, bd_ok, bd_er, bd_st, of_some, of_none, s_ok, s_er, s_st, sb_nx, sb_rt, sb_er, sb_st, val_sh, val_ol, val_od, val_ot, val_er, val_st, blR_bl, truth_bl, truth_lst, intOf_int, c_eq, c_ne, c_lt, c_le, c_gt, c_ge, c_inn, c_nin, c_isN, c_notN, n_non, n_int, n_str, n_tup, n_lst, b_add, b_sub, bi_max2, bi_min2, bi_intB, bi_intI, bi_lenL, bi_lenT, bi_lenS, bi_listL, bi_listT, bi_strS, sub_lst, sub_tup, sub_scr, sub_dic, slc_lst, slc_tup, atI0, atI1, atI2, atI3, atI4, eqV_int, eqV_bl, isi_int, isi_intb, isi_bl, isi_lst, isi_tup, isi_str, fp_sh, fp_ol, fp_nx, sz_0, sz_1, sz_2, sz_3, sz_4, sz_5, sz_6, sz_7, fp_er, res_ok, res_er, itm_lst, itm_tup, itm_str, env0, moved, Option.map_some, Option.map_none, Option.bind_some, List.getElem?_cons_zero, List.getElem?_cons_succ, List.set_cons_zero, List.set_cons_succ, List.map_cons, List.map_nil, List.cons_append, List.nil_append, List.length_cons, List.length_nil, List.replicate, if_true, if_false, Bool.false_eq_true, reduceIte, Bool.not_true, Bool.not_false, bodyRead, h24, bl, h15, unpD, setAll, catchR, beq_self_eq_true]
      | some c =>
        rw [hf] at h15
        have h15 : G.fn 15 [t.enc] = .er c := h15
        have hs := hc t
        rw [hf] at hs
        have hs : subC c 0 = true := hs
        generalize t.enc = te at *
        simp -implicitDefEqProofs only [exB_nil, exB_cons, y_pass, y_set, y_unp, y_par, y_sti, y_app, y_rem, y_appc, y_ex, y_ife, y_whl, y_for1, y_forN, y_ret, y_retN, y_rai, y_try, y_tryR, x_var, x_lit, x_bin, x_neg, x_cmp, x_chain, x_chain3, x_cio, x_ciL, x_addv, x_and, x_or, x_not, x_tup, x_lst, x_sub, x_slice, x_call, x_bi, x_meth, x_isi, x_range, x_enum, x_zip, x_zips, c_nes, x_dict, x_ditn, evs, evb, evo, tst, brw, isVar, bor, rd, bd_ok, bd_er, bd_st, of_some, of_none, s_ok, s_er, s_st, sb_nx, sb_rt, sb_er, sb_st, val_sh, val_ol, val_od, val_ot, val_er, val_st, blR_bl, truth_bl, truth_lst, intOf_int, c_eq, c_ne, c_lt, c_le, c_gt, c_ge, c_inn, c_nin, c_isN, c_notN, n_non, n_int, n_str, n_tup, n_lst, b_add, b_sub, bi_max2, bi_min2, bi_intB, bi_intI, bi_lenL, bi_lenT, bi_lenS, bi_listL, bi_listT, bi_strS, sub_lst, sub_tup, sub_scr, sub_dic, slc_lst, slc_tup, atI0, atI1, atI2, atI3, atI4, eqV_int, eqV_bl, isi_int, isi_intb, isi_bl, isi_lst, isi_tup, isi_str, fp_sh, fp_ol, fp_nx, sz_0, sz_1, sz_2, sz_3, sz_4, sz_5, sz_6, sz_7, fp_er, res_ok, res_er, itm_lst, itm_tup, itm_str, env0, moved, Option.map_some, Option.map_none, Option.bind_some, List.getElem?_cons_zero, List.getElem?_cons_succ, List.set_cons_zero, List.set_cons_succ, List.map_cons, List.map_nil, List.cons_append, List.nil_append, List.length_cons, List.length_nil, List.replicate, if_true, if_false, Bool.false_eq_true, reduceIte, Bool.not_true, Bool.not_false, bodyRead, h24, bl, h15, unpD, setAll, catchR, beq_self_eq_true, hs]
    | cons c r =>
      have ne : (((x.length - (c :: r).length : Nat) : Int) == (x.length : Int)) = false := beq_eq_false_iff_ne.mpr (by simp only [List.length_cons] at hl ⊢; omega)
      generalize ((x.length - (c :: r).length : Nat) : Int) = z at h24 ne
      generalize t.enc = te at *
      simp -implicitDefEqProofs only [exB_nil, exB_cons, y_pass, y_set, y_unp, y_par, y_sti, y_app, y_rem, y_appc, y_ex, y_ife, y_whl, y_for1, y_forN, y_ret, y_retN, y_rai, y_try, y_tryR, x_var, x_lit, x_bin, x_neg, x_cmp, x_chain, x_chain3, x_cio, x_ciL, x_addv, x_and, x_or, x_not, x_tup, x_lst, x_sub, x_slice, x_call, x_bi, x_meth, x_isi, x_range, x_enum, x_zip, x_zips, c_nes, x_dict, x_ditn, evs, evb, evo, tst, brw, isVar, bor, rd, bd_ok, bd_er, bd_st, of_some, of_none, s_ok, s_er, s_st, sb_nx, sb_rt, sb_er, sb_st, val_sh, val_ol, val_od, val_ot, val_er, val_st, blR_bl, truth_bl, truth_lst, intOf_int, c_eq, c_ne, c_lt, c_le, c_gt, c_ge, c_inn, c_nin, c_isN, c_notN, n_non, n_int, n_str, n_tup, n_lst, b_add, b_sub, bi_max2, bi_min2, bi_intB, bi_intI, bi_lenL, bi_lenT, bi_lenS, bi_listL, bi_listT, bi_strS, sub_lst, sub_tup, sub_scr, sub_dic, slc_lst, slc_tup, atI0, atI1, atI2, atI3, atI4, eqV_int, eqV_bl, isi_int, isi_intb, isi_bl, isi_lst, isi_tup, isi_str, fp_sh, fp_ol, fp_nx, sz_0, sz_1, sz_2, sz_3, sz_4, sz_5, sz_6, sz_7, fp_er, res_ok, res_er, itm_lst, itm_tup, itm_str, env0, moved, Option.map_some, Option.map_none, Option.bind_some, List.getElem?_cons_zero, List.getElem?_cons_succ, List.set_cons_zero, List.set_cons_succ, List.map_cons, List.map_nil, List.cons_append, List.nil_append, List.length_cons, List.length_nil, List.replicate, if_true, if_false, Bool.false_eq_true, reduceIte, Bool.not_true, Bool.not_false, bodyRead, h24, bl, unpD, setAll, ne]
end Dl

set_option maxHeartbeats 4000000
namespace Dl
open PySem L2
def topS (i : Nat) : Stmt := PySem.Challenge.pw_fewboxes_k05_no_formulas_text.main.body.getD i (.Pass ⟨0, 0, 0, 0⟩)
def consL : List (Str × D) := [("LETTERS", .str [97, 98, 99, 100, 101, 102, 103, 104, 105, 106, 107, 108, 109, 110, 111, 112, 113, 114, 115, 116, 117, 118, 119, 120, 121, 122]), ("MOST_LEAVES", .int 32), ("MOST_DEEP", .int 24)]
def excsL : List (Str × Nat) := [("FewError", 0), ("NoName", 1), ("Twice", 2), ("TooBig", 3), ("NoText", 4)]
def dIsName : FD := ⟨"is_name", 9, ["text"], topS 10, ["text", "sign"], false,
  [.ife (.or (.cmp .lt (.bi .len [(.var 0)]) (.lit (.int 1))) (.cmp .gt (.bi .len [(.var 0)]) (.lit (.int 8)))) [.ret (.lit (.bl false))] [], .for1 1 (.var 0) [.ife (.cmp .nin (.var 1) (.lit (.str [97, 98, 99, 100, 101, 102, 103, 104, 105, 106, 107, 108, 109, 110, 111, 112, 113, 114, 115, 116, 117, 118, 119, 120, 121, 122]))) [.ret (.lit (.bl false))] []], .ret (.lit (.bl true))], none⟩
def dPlaces : FD := ⟨"places", 10, ["tree"], topS 11, ["tree", "left", "place"], false,
  [.ife (.cmp .eq (.sub (.var 0) (.lit (.int 0))) (.lit (.str [108, 101, 97, 102]))) [.ret (.lst [(.tup [])])] [], .set 1 (.comp 2 (.call 10 [(.sub (.var 0) (.lit (.int 2)))]) none (.bin .add (.tup [(.lit (.int 0))]) (.var 2))), .ret (.bin .add (.bin .add (.lst [(.tup [])]) (.var 1)) (.comp 2 (.call 10 [(.sub (.var 0) (.lit (.int 3)))]) none (.bin .add (.tup [(.lit (.int 1))]) (.var 2))))], none⟩
def dPartAt : FD := ⟨"part_at", 11, ["tree", "place"], topS 12, ["tree", "place", "side"], false,
  [.for1 2 (.var 1) [.set 0 (.sub (.var 0) (.bin .add (.lit (.int 2)) (.var 2)))], .ret (.var 0)], none⟩
def dLeaves : FD := ⟨"leaves", 12, ["tree"], topS 13, ["tree", "place"], false,
  [.ret (.comp 1 (.call 10 [(.var 0)]) (some (.cmp .eq (.sub (.call 11 [(.var 0), (.var 1)]) (.lit (.int 0))) (.lit (.str [108, 101, 97, 102])))) (.var 1))], none⟩
def dDepthOf : FD := ⟨"depth_of", 14, ["tree"], topS 14, ["tree"], false,
  [.ife (.cmp .eq (.sub (.var 0) (.lit (.int 0))) (.lit (.str [108, 101, 97, 102]))) [.ret (.lit (.int 1))] [], .ret (.bin .add (.lit (.int 1)) (.bi .max [(.call 14 [(.sub (.var 0) (.lit (.int 2)))]), (.call 14 [(.sub (.var 0) (.lit (.int 3)))])]))], none⟩
def dFormula : FD := ⟨"formula", 15, ["tree"], topS 15, ["tree", "seen", "place", "part"], false,
  [.ife (.or (.cmp .gt (.bi .len [(.call 12 [(.var 0)])]) (.lit (.int 32))) (.cmp .gt (.call 14 [(.var 0)]) (.lit (.int 24)))) [.rai 3] [], .set 1 (.dict [] []), .for1 2 (.call 10 [(.var 0)]) [.set 3 (.call 11 [(.var 0), (.var 2)]), .ife (.not (.call 9 [(.sub (.var 3) (.lit (.int 1)))])) [.rai 1] [], .ife (.cmp .eq (.sub (.var 3) (.lit (.int 0))) (.lit (.str [108, 101, 97, 102]))) [.ife (.cmp .inn (.sub (.var 3) (.lit (.int 1))) (.var 1)) [.rai 2] [], .sti 1 (.sub (.var 3) (.lit (.int 1))) (.lit (.bl true))] []], .ret (.var 0)], none⟩
def dWanted : FD := ⟨"wanted", 23, ["text", "at", "sign"], topS 17, ["text", "at", "sign"], false,
  [.ife (.cmp .ne (.slice (.var 0) (some (.var 1)) (some (.bin .add (.var 1) (.lit (.int 1))))) (.var 2)) [.rai 4] [], .ret (.bin .add (.var 1) (.lit (.int 1)))], none⟩
def dReadTree : FD := ⟨"read_tree", 24, ["text", "at", "deep"], topS 18, ["text", "at", "deep", "end", "name", "left", "right"], false,
  [.ife (.cmp .gt (.var 2) (.lit (.int 24))) [.rai 4] [], .set 3 (.var 1), .whl (.and (.cmp .lt (.var 3) (.bi .len [(.var 0)])) (.cmp .inn (.sub (.var 0) (.var 3)) (.lit (.str [97, 98, 99, 100, 101, 102, 103, 104, 105, 106, 107, 108, 109, 110, 111, 112, 113, 114, 115, 116, 117, 118, 119, 120, 121, 122])))) [.set 3 (.bin .add (.var 3) (.lit (.int 1)))], .set 4 (.slice (.var 0) (some (.var 1)) (some (.var 3))), .ife (.cmp .ne (.slice (.var 0) (some (.var 3)) (some (.bin .add (.var 3) (.lit (.int 1))))) (.lit (.str [40]))) [.ret (.tup [(.tup [(.lit (.str [108, 101, 97, 102])), (.var 4)]), (.var 3)])] [], .unp [5, 3] (.call 24 [(.var 0), (.bin .add (.var 3) (.lit (.int 1))), (.bin .add (.var 2) (.lit (.int 1)))]), .unp [6, 3] (.call 24 [(.var 0), (.call 23 [(.var 0), (.var 3), (.lit (.str [32]))]), (.bin .add (.var 2) (.lit (.int 1)))]), .ret (.tup [(.tup [(.lit (.str [107, 110, 111, 116])), (.var 4), (.var 5), (.var 6)]), (.call 23 [(.var 0), (.var 3), (.lit (.str [41]))])])], none⟩
def dRead : FD := ⟨"read", 25, ["text"], topS 19, ["text", "found", "end"], false,
  [.unp [1, 2] (.call 24 [(.var 0), (.lit (.int 0)), (.lit (.int 1))]), .ife (.cmp .ne (.var 2) (.bi .len [(.var 0)])) [.rai 4] [], .tryR [.ex (.call 15 [(.var 1)])] 0 4, .ret (.var 1)], none⟩
def dLawAt : FD := ⟨"_law_at", 2, ["script", "k"], topS 21, ["script", "k", "cell"], false,
  [.ife (.cmp .lt (.var 1) (.bi .len [(.var 0)])) [.ret (.sub (.var 0) (.var 1))] [], .set 2 (.bin .add (.bin .mul (.lit (.int 40692)) (.var 1)) (.lit (.int 1))), .ife (.cmp .gt (.bi .len [(.var 0)]) (.lit (.int 0))) [.set 2 (.bin .add (.var 2) (.bin .mod (.sub (.var 0) (.bin .mod (.bin .mul (.var 1) (.var 1)) (.bi .len [(.var 0)]))) (.lit (.int 2147483647))))] [], .set 2 (.bin .mod (.bin .mul (.var 2) (.lit (.int 48271))) (.lit (.int 2147483647))), .ret (.bin .mod (.bin .mul (.var 2) (.var 2)) (.lit (.int 2147483629)))], none⟩
def dLawNames : FD := ⟨"_law_names", 3, ["cell", "many"], topS 22, ["cell", "many", "letters", "size", "out", "k", "signs"], false,
  [.set 2 (.lit (.str [97, 98, 99, 100, 101, 102, 103, 104, 105, 106, 107, 108, 109, 110, 111, 112, 113, 114, 115, 116, 117, 118, 119, 120, 121, 122])), .set 3 (.bin .add (.lit (.int 1)) (.bin .mod (.bin .fdiv (.var 0) (.lit (.int 26))) (.sub (.lst [(.lit (.int 8)), (.lit (.int 7))]) (.bi .int [(.cmp .gt (.var 1) (.lit (.int 24)))])))), .set 4 (.lst []), .for1 5 (.range [(.var 1)]) [.set 6 (.bin .mul (.lst [(.sub (.var 2) (.bin .mod (.var 0) (.lit (.int 26))))]) (.var 3)), .sti 6 (.bin .mod (.bin .fdiv (.var 0) (.lit (.int 208))) (.var 3)) (.sub (.var 2) (.bin .mod (.bin .add (.bin .add (.var 0) (.lit (.int 1))) (.bin .mod (.var 5) (.lit (.int 24)))) (.lit (.int 26)))), .ife (.cmp .gt (.var 5) (.lit (.int 23))) [.app 6 (.sub (.var 2) (.bin .mod (.var 0) (.lit (.int 26))))] [], .ife (.and (.cmp .eq (.bin .mod (.bin .fdiv (.var 0) (.lit (.int 1664))) (.lit (.int 3))) (.lit (.int 0))) (.cmp .le (.var 1) (.lit (.int 8)))) [.set 6 (.bin .mul (.lst [(.sub (.var 2) (.bin .mod (.var 0) (.lit (.int 26))))]) (.bin .add (.lit (.int 1)) (.bin .mod (.bin .add (.var 0) (.var 5)) (.lit (.int 8)))))] [], .app 4 (.meth .join (.lit (.str [])) [(.var 6)])], .ret (.var 4)], none⟩
def dLawMany : FD := ⟨"_law_many", 4, ["script"], topS 23, ["script", "cell"], false,
  [.set 1 (.call 2 [(.var 0), (.lit (.int 0))]), .ret (.sub (.lst [(.bin .add (.lit (.int 1)) (.bin .mod (.bin .fdiv (.var 1) (.lit (.int 3))) (.lit (.int 12)))), (.bin .add (.lit (.int 13)) (.bin .mod (.bin .fdiv (.var 1) (.lit (.int 3))) (.lit (.int 20))))]) (.bi .int [(.cmp .eq (.bin .mod (.var 1) (.lit (.int 3))) (.lit (.int 2)))]))], none⟩
def dLawSecond : FD := ⟨"_law_second", 5, ["script"], topS 24, ["script"], false,
  [.ife (.cmp .eq (.bin .mod (.call 2 [(.var 0), (.lit (.int 2))]) (.lit (.int 4))) (.lit (.int 3))) [.ret (.call 2 [(.var 0), (.lit (.int 1))])] [], .ret (.call 2 [(.var 0), (.lit (.int 2))])], none⟩
def dLawTree : FD := ⟨"_law_tree", 6, ["script", "at", "many"], topS 25, ["script", "at", "many", "deeds", "trees", "n", "cell", "p", "two", "side", "knot", "x"], false,
  [.set 3 (.call 3 [(.call 2 [(.var 0), (.var 1)]), (.lit (.int 3))]), .set 4 (.comp 11 (.call 3 [(.call 5 [(.var 0)]), (.var 2)]) none (.tup [(.lit (.str [108, 101, 97, 102])), (.var 11)])), .set 5 (.bin .add (.var 1) (.lit (.int 2))), .whl (.cmp .gt (.bi .len [(.var 4)]) (.lit (.int 1))) [.set 6 (.call 2 [(.var 0), (.var 5)]), .set 7 (.bin .mod (.bin .fdiv (.var 6) (.lit (.int 4))) (.bin .sub (.bi .len [(.var 4)]) (.lit (.int 1)))), .ife (.or (.cmp .gt (.bin .mod (.var 6) (.lit (.int 4))) (.lit (.int 1))) (.cmp .gt (.var 2) (.lit (.int 24)))) [.set 7 (.bin .mod (.bin .sub (.bin .sub (.var 5) (.var 1)) (.lit (.int 2))) (.bin .sub (.bi .len [(.var 4)]) (.lit (.int 1))))] [], .set 8 (.lst [(.sub (.var 4) (.var 7)), (.sub (.var 4) (.bin .add (.var 7) (.lit (.int 1))))]), .set 9 (.bin .mod (.bin .fdiv (.var 6) (.lit (.int 64))) (.lit (.int 2))), .set 10 (.tup [(.lit (.str [107, 110, 111, 116])), (.sub (.var 3) (.bin .mod (.bin .fdiv (.var 6) (.lit (.int 128))) (.lit (.int 3)))), (.sub (.var 8) (.var 9)), (.sub (.var 8) (.bin .sub (.lit (.int 1)) (.var 9)))]), .set 4 (.bin .add (.bin .add (.slice (.var 4) none (some (.var 7))) (.lst [(.var 10)])) (.slice (.var 4) (some (.bin .add (.var 7) (.lit (.int 2)))) none)), .set 5 (.bin .add (.var 5) (.lit (.int 1)))], .ret (.sub (.var 4) (.lit (.int 0)))], none⟩
def dLawText : FD := ⟨"_law_text", 26, ["tree"], topS 26, ["tree"], false,
  [.ife (.cmp .eq (.sub (.var 0) (.lit (.int 0))) (.lit (.str [108, 101, 97, 102]))) [.ret (.sub (.var 0) (.lit (.int 1)))] [], .ret (.bin .add (.bin .add (.bin .add (.bin .add (.bin .add (.sub (.var 0) (.lit (.int 1))) (.lit (.str [40]))) (.call 26 [(.sub (.var 0) (.lit (.int 2)))])) (.lit (.str [32]))) (.call 26 [(.sub (.var 0) (.lit (.int 3)))])) (.lit (.str [41])))], none⟩
def dLawParts : FD := ⟨"_law_parts", 27, ["tree", "deep"], topS 27, ["tree", "deep"], false,
  [.ife (.cmp .eq (.sub (.var 0) (.lit (.int 0))) (.lit (.str [108, 101, 97, 102]))) [.ret (.lst [(.tup [(.sub (.var 0) (.lit (.int 1))), (.lit (.bl true)), (.var 1)])])] [], .ret (.bin .add (.bin .add (.lst [(.tup [(.sub (.var 0) (.lit (.int 1))), (.lit (.bl false)), (.var 1)])]) (.call 27 [(.sub (.var 0) (.lit (.int 2))), (.bin .add (.var 1) (.lit (.int 1)))])) (.call 27 [(.sub (.var 0) (.lit (.int 3))), (.bin .add (.var 1) (.lit (.int 1)))]))], none⟩
def dLawComb : FD := ⟨"_law_comb", 28, ["cell"], topS 28, ["cell", "letters", "many", "names", "k"], false,
  [.set 1 (.lit (.str [97, 98, 99, 100, 101, 102, 103, 104, 105, 106, 107, 108, 109, 110, 111, 112, 113, 114, 115, 116, 117, 118, 119, 120, 121, 122])), .set 2 (.bin .add (.lit (.int 22)) (.bin .mod (.var 0) (.lit (.int 4)))), .set 3 (.comp 4 (.range [(.lit (.int 26))]) none (.bin .add (.sub (.var 1) (.var 4)) (.sub (.var 1) (.bin .mod (.bin .fdiv (.var 0) (.lit (.int 4))) (.lit (.int 26)))))), .ife (.cmp .eq (.bin .mod (.bin .fdiv (.var 0) (.lit (.int 104))) (.lit (.int 2))) (.lit (.int 0))) [.ret (.bin .add (.bin .add (.bin .mul (.lit (.str [102, 40])) (.var 2)) (.sub (.var 3) (.lit (.int 25)))) (.meth .join (.lit (.str [])) [(.comp 4 (.range [(.var 2)]) none (.bin .add (.bin .add (.lit (.str [32])) (.sub (.var 3) (.var 4))) (.lit (.str [41]))))]))] [], .ret (.bin .add (.bin .add (.meth .join (.lit (.str [])) [(.comp 4 (.range [(.var 2)]) none (.bin .add (.bin .add (.lit (.str [102, 40])) (.sub (.var 3) (.var 4))) (.lit (.str [32]))))]) (.sub (.var 3) (.lit (.int 25)))) (.bin .mul (.lit (.str [41])) (.var 2)))], none⟩
def dLawRead : FD := ⟨"_law_read", 29, ["text", "at", "deep"], topS 29, ["text", "at", "deep", "end", "left", "middle", "right", "last"], false,
  [.set 3 (.var 1), .whl (.and (.cmp .lt (.var 3) (.bi .len [(.var 0)])) (.cmp .inn (.sub (.var 0) (.var 3)) (.lit (.str [97, 98, 99, 100, 101, 102, 103, 104, 105, 106, 107, 108, 109, 110, 111, 112, 113, 114, 115, 116, 117, 118, 119, 120, 121, 122])))) [.set 3 (.bin .add (.var 3) (.lit (.int 1)))], .ife (.or (.cmp .ne (.slice (.var 0) (some (.var 3)) (some (.bin .add (.var 3) (.lit (.int 1))))) (.lit (.str [40]))) (.cmp .gt (.var 2) (.lit (.int 30)))) [.ret (.tup [(.tup [(.lit (.str [108, 101, 97, 102])), (.slice (.var 0) (some (.var 1)) (some (.var 3)))]), (.var 3)])] [], .unp [4, 5] (.call 29 [(.var 0), (.bin .add (.var 3) (.lit (.int 1))), (.bin .add (.var 2) (.lit (.int 1)))]), .ife (.cmp .ne (.slice (.var 0) (some (.var 5)) (some (.bin .add (.var 5) (.lit (.int 1))))) (.lit (.str [32]))) [.ret (.tup [(.tup [(.lit (.str [108, 101, 97, 102])), (.lit (.str []))]), (.var 5)])] [], .unp [6, 7] (.call 29 [(.var 0), (.bin .add (.var 5) (.lit (.int 1))), (.bin .add (.var 2) (.lit (.int 1)))]), .ife (.cmp .ne (.slice (.var 0) (some (.var 7)) (some (.bin .add (.var 7) (.lit (.int 1))))) (.lit (.str [41]))) [.ret (.tup [(.tup [(.lit (.str [108, 101, 97, 102])), (.lit (.str []))]), (.var 7)])] [], .ret (.tup [(.tup [(.lit (.str [107, 110, 111, 116])), (.slice (.var 0) (some (.var 1)) (some (.var 3))), (.var 4), (.var 6)]), (.bin .add (.var 7) (.lit (.int 1)))])], none⟩
def dLawGood : FD := ⟨"_law_good", 30, ["tree"], topS 30, ["tree", "parts", "names", "name", "leaf", "deep", "small", "one", "sign"], false,
  [.set 1 (.call 27 [(.var 0), (.lit (.int 1))]), .set 2 (.comp 7 (.var 1) (some (.sub (.var 7) (.lit (.int 1)))) (.sub (.var 7) (.lit (.int 0)))), .ife (.or (.cmp .ne (.bi .lset [(.var 2)]) (.bi .len [(.var 2)])) (.or (.cmp .gt (.bi .len [(.var 2)]) (.lit (.int 32))) (.cmp .gt (.bi .max [(.comp 7 (.var 1) none (.sub (.var 7) (.lit (.int 2))))]) (.lit (.int 24))))) [.ret (.lit (.bl false))] [], .forN [3, 4, 5] (.var 1) [.set 6 (.comp 8 (.var 3) (some (.cmp .inn (.var 8) (.lit (.str [97, 98, 99, 100, 101, 102, 103, 104, 105, 106, 107, 108, 109, 110, 111, 112, 113, 114, 115, 116, 117, 118, 119, 120, 121, 122])))) (.var 8)), .ife (.or (.cmp .ne (.bi .len [(.var 6)]) (.bi .len [(.var 3)])) (.not (.chain .le .le (.lit (.int 1)) (.bi .len [(.var 3)]) (.lit (.int 8))))) [.ret (.lit (.bl false))] []], .ret (.lit (.bl true))], none⟩
def dLaw : FD := ⟨"law", 8, ["script"], topS 31, ["script", "good", "text", "n", "bits", "found", "e", "cell", "at", "more", "due", "end"], false,
  [.set 1 (.call 26 [(.call 6 [(.var 0), (.lit (.int 1)), (.call 4 [(.var 0)])])]), .set 2 (.var 1), .ife (.cmp .eq (.bin .mod (.call 2 [(.var 0), (.lit (.int 30))]) (.lit (.int 3))) (.lit (.int 1))) [.set 2 (.bin .add (.bin .add (.bin .mul (.lit (.str [102, 40])) (.bin .mod (.bin .fdiv (.call 2 [(.var 0), (.lit (.int 30))]) (.lit (.int 3))) (.lit (.int 301)))) (.lit (.str [97]))) (.bin .mul (.lit (.str [32, 98, 41])) (.bin .mod (.call 2 [(.var 0), (.lit (.int 31))]) (.lit (.int 301)))))] [], .ife (.cmp .eq (.bin .mod (.call 2 [(.var 0), (.lit (.int 30))]) (.lit (.int 12))) (.lit (.int 2))) [.set 2 (.bin .add (.bin .add (.bin .add (.bin .add (.lit (.str [102, 40])) (.var 1)) (.lit (.str [32]))) (.sub (.call 3 [(.call 5 [(.var 0)]), (.call 4 [(.var 0)])]) (.lit (.int 0)))) (.lit (.str [41])))] [], .ife (.cmp .eq (.bin .mod (.call 2 [(.var 0), (.lit (.int 30))]) (.lit (.int 12))) (.lit (.int 5))) [.set 2 (.bin .add (.bin .add (.lit (.str [102, 40])) (.var 1)) (.lit (.str [32, 97, 98, 99, 100, 101, 102, 103, 104, 41])))] [], .ife (.cmp .eq (.bin .mod (.call 2 [(.var 0), (.lit (.int 30))]) (.lit (.int 12))) (.lit (.int 8))) [.set 2 (.call 28 [(.call 2 [(.var 0), (.lit (.int 31))])])] [], .for1 3 (.range [(.bin .mod (.bin .fdiv (.call 2 [(.var 0), (.lit (.int 30))]) (.lit (.int 36))) (.lit (.int 4)))]) [.set 7 (.call 2 [(.var 0), (.bin .add (.lit (.int 32)) (.var 3))]), .set 8 (.bin .mod (.bin .fdiv (.var 7) (.lit (.int 2))) (.bin .add (.bi .len [(.var 2)]) (.lit (.int 1)))), .set 9 (.sub (.lst [(.lit (.str [40])), (.lit (.str [41])), (.lit (.str [32])), (.lit (.str [97])), (.lit (.str [122])), (.lit (.str [65])), (.lit (.str [48])), (.lit (.str [44])), (.lit (.str [126])), (.lit (.str [102, 40]))]) (.bin .mod (.call 2 [(.var 0), (.bin .add (.lit (.int 36)) (.var 3))]) (.lit (.int 10)))), .ife (.cmp .eq (.bin .mod (.var 7) (.lit (.int 2))) (.lit (.int 0))) [.set 2 (.bin .add (.bin .add (.slice (.var 2) none (some (.var 8))) (.var 9)) (.slice (.var 2) (some (.var 8)) none))] [.set 2 (.bin .add (.slice (.var 2) none (some (.var 8))) (.slice (.var 2) (some (.bin .add (.var 8) (.lit (.int 1)))) none))]], .set 4 (.lst []), .set 5 (.lit .non), .try_ [.set 5 (.call 25 [(.var 2)])] 0 (some 6) [.set 4 (.lst [(.isx 6 4), (.isx 6 8)])], .unp [10, 11] (.call 29 [(.var 2), (.lit (.int 0)), (.lit (.int 1))]), .ife (.and (.cmp .eq (.var 11) (.bi .len [(.var 2)])) (.call 30 [(.var 10)])) [.ret (.and (.cmp .eq (.var 4) (.lst [])) (.cmp .eq (.var 5) (.var 10)))] [], .ret (.cmp .eq (.var 4) (.lst [(.lit (.bl true)), (.lit (.bl true))]))], none⟩
def fds : List FD := [dIsName, dPlaces, dPartAt, dLeaves, dDepthOf, dFormula, dWanted, dReadTree, dRead, dLawAt, dLawNames, dLawMany, dLawSecond, dLawTree, dLawText, dLawParts, dLawComb, dLawRead, dLawGood, dLaw]
theorem says_dIsName : dIsName.says (fnsP fds) consL excsL := by show _ = _; kernel_rfl
theorem says_dPlaces : dPlaces.says (fnsP fds) consL excsL := by show _ = _; kernel_rfl
theorem says_dPartAt : dPartAt.says (fnsP fds) consL excsL := by show _ = _; kernel_rfl
theorem says_dLeaves : dLeaves.says (fnsP fds) consL excsL := by show _ = _; kernel_rfl
theorem says_dDepthOf : dDepthOf.says (fnsP fds) consL excsL := by show _ = _; kernel_rfl
theorem says_dFormula : dFormula.says (fnsP fds) consL excsL := by show _ = _; kernel_rfl
theorem says_dWanted : dWanted.says (fnsP fds) consL excsL := by show _ = _; kernel_rfl
theorem says_dReadTree : dReadTree.says (fnsP fds) consL excsL := by show _ = _; kernel_rfl
theorem says_dRead : dRead.says (fnsP fds) consL excsL := by show _ = _; kernel_rfl
theorem says_dLawAt : dLawAt.says (fnsP fds) consL excsL := by show _ = _; kernel_rfl
theorem says_dLawNames : dLawNames.says (fnsP fds) consL excsL := by show _ = _; kernel_rfl
theorem says_dLawMany : dLawMany.says (fnsP fds) consL excsL := by show _ = _; kernel_rfl
theorem says_dLawSecond : dLawSecond.says (fnsP fds) consL excsL := by show _ = _; kernel_rfl
theorem says_dLawTree : dLawTree.says (fnsP fds) consL excsL := by show _ = _; kernel_rfl
theorem says_dLawText : dLawText.says (fnsP fds) consL excsL := by show _ = _; kernel_rfl
theorem says_dLawParts : dLawParts.says (fnsP fds) consL excsL := by show _ = _; kernel_rfl
theorem says_dLawComb : dLawComb.says (fnsP fds) consL excsL := by show _ = _; kernel_rfl
theorem says_dLawRead : dLawRead.says (fnsP fds) consL excsL := by show _ = _; kernel_rfl
theorem says_dLawGood : dLawGood.says (fnsP fds) consL excsL := by show _ = _; kernel_rfl
theorem says_dLaw : dLaw.says (fnsP fds) consL excsL := by show _ = _; kernel_rfl
/-! the end -/
theorem bd_dIsName : BindD dIsName := fun _ _ _ _ _ _ us hl => match us, hl with | [_], _ => rfl
theorem sc_dIsName : FnScope dIsName.N dIsName.ps (defScope dIsName.st) := ⟨rfl, rfl, rfl, by decide +kernel, rfl, by decide +kernel, by decide +kernel⟩
theorem bd_dPlaces : BindD dPlaces := fun _ _ _ _ _ _ us hl => match us, hl with | [_], _ => rfl
theorem sc_dPlaces : FnScope dPlaces.N dPlaces.ps (defScope dPlaces.st) := ⟨rfl, rfl, rfl, by decide +kernel, rfl, by decide +kernel, by decide +kernel⟩
theorem bd_dPartAt : BindD dPartAt := fun _ _ _ _ _ _ us hl => match us, hl with | [_, _], _ => rfl
theorem sc_dPartAt : FnScope dPartAt.N dPartAt.ps (defScope dPartAt.st) := ⟨rfl, rfl, rfl, by decide +kernel, rfl, by decide +kernel, by decide +kernel⟩
theorem bd_dLeaves : BindD dLeaves := fun _ _ _ _ _ _ us hl => match us, hl with | [_], _ => rfl
theorem sc_dLeaves : FnScope dLeaves.N dLeaves.ps (defScope dLeaves.st) := ⟨rfl, rfl, rfl, by decide +kernel, rfl, by decide +kernel, by decide +kernel⟩
theorem bd_dDepthOf : BindD dDepthOf := fun _ _ _ _ _ _ us hl => match us, hl with | [_], _ => rfl
theorem sc_dDepthOf : FnScope dDepthOf.N dDepthOf.ps (defScope dDepthOf.st) := ⟨rfl, rfl, rfl, by decide +kernel, rfl, by decide +kernel, by decide +kernel⟩
theorem bd_dFormula : BindD dFormula := fun _ _ _ _ _ _ us hl => match us, hl with | [_], _ => rfl
theorem sc_dFormula : FnScope dFormula.N dFormula.ps (defScope dFormula.st) := ⟨rfl, rfl, rfl, by decide +kernel, rfl, by decide +kernel, by decide +kernel⟩
theorem bd_dWanted : BindD dWanted := fun _ _ _ _ _ _ us hl => match us, hl with | [_, _, _], _ => rfl
theorem sc_dWanted : FnScope dWanted.N dWanted.ps (defScope dWanted.st) := ⟨rfl, rfl, rfl, by decide +kernel, rfl, by decide +kernel, by decide +kernel⟩
theorem bd_dReadTree : BindD dReadTree := fun _ _ _ _ _ _ us hl => match us, hl with | [_, _, _], _ => rfl
theorem sc_dReadTree : FnScope dReadTree.N dReadTree.ps (defScope dReadTree.st) := ⟨rfl, rfl, rfl, by decide +kernel, rfl, by decide +kernel, by decide +kernel⟩
theorem bd_dRead : BindD dRead := fun _ _ _ _ _ _ us hl => match us, hl with | [_], _ => rfl
theorem sc_dRead : FnScope dRead.N dRead.ps (defScope dRead.st) := ⟨rfl, rfl, rfl, by decide +kernel, rfl, by decide +kernel, by decide +kernel⟩
theorem bd_dLawAt : BindD dLawAt := fun _ _ _ _ _ _ us hl => match us, hl with | [_, _], _ => rfl
theorem sc_dLawAt : FnScope dLawAt.N dLawAt.ps (defScope dLawAt.st) := ⟨rfl, rfl, rfl, by decide +kernel, rfl, by decide +kernel, by decide +kernel⟩
theorem bd_dLawNames : BindD dLawNames := fun _ _ _ _ _ _ us hl => match us, hl with | [_, _], _ => rfl
theorem sc_dLawNames : FnScope dLawNames.N dLawNames.ps (defScope dLawNames.st) := ⟨rfl, rfl, rfl, by decide +kernel, rfl, by decide +kernel, by decide +kernel⟩
theorem bd_dLawMany : BindD dLawMany := fun _ _ _ _ _ _ us hl => match us, hl with | [_], _ => rfl
theorem sc_dLawMany : FnScope dLawMany.N dLawMany.ps (defScope dLawMany.st) := ⟨rfl, rfl, rfl, by decide +kernel, rfl, by decide +kernel, by decide +kernel⟩
theorem bd_dLawSecond : BindD dLawSecond := fun _ _ _ _ _ _ us hl => match us, hl with | [_], _ => rfl
theorem sc_dLawSecond : FnScope dLawSecond.N dLawSecond.ps (defScope dLawSecond.st) := ⟨rfl, rfl, rfl, by decide +kernel, rfl, by decide +kernel, by decide +kernel⟩
theorem bd_dLawTree : BindD dLawTree := fun _ _ _ _ _ _ us hl => match us, hl with | [_, _, _], _ => rfl
theorem sc_dLawTree : FnScope dLawTree.N dLawTree.ps (defScope dLawTree.st) := ⟨rfl, rfl, rfl, by decide +kernel, rfl, by decide +kernel, by decide +kernel⟩
theorem bd_dLawText : BindD dLawText := fun _ _ _ _ _ _ us hl => match us, hl with | [_], _ => rfl
theorem sc_dLawText : FnScope dLawText.N dLawText.ps (defScope dLawText.st) := ⟨rfl, rfl, rfl, by decide +kernel, rfl, by decide +kernel, by decide +kernel⟩
theorem bd_dLawParts : BindD dLawParts := fun _ _ _ _ _ _ us hl => match us, hl with | [_, _], _ => rfl
theorem sc_dLawParts : FnScope dLawParts.N dLawParts.ps (defScope dLawParts.st) := ⟨rfl, rfl, rfl, by decide +kernel, rfl, by decide +kernel, by decide +kernel⟩
theorem bd_dLawComb : BindD dLawComb := fun _ _ _ _ _ _ us hl => match us, hl with | [_], _ => rfl
theorem sc_dLawComb : FnScope dLawComb.N dLawComb.ps (defScope dLawComb.st) := ⟨rfl, rfl, rfl, by decide +kernel, rfl, by decide +kernel, by decide +kernel⟩
theorem bd_dLawRead : BindD dLawRead := fun _ _ _ _ _ _ us hl => match us, hl with | [_, _, _], _ => rfl
theorem sc_dLawRead : FnScope dLawRead.N dLawRead.ps (defScope dLawRead.st) := ⟨rfl, rfl, rfl, by decide +kernel, rfl, by decide +kernel, by decide +kernel⟩
theorem bd_dLawGood : BindD dLawGood := fun _ _ _ _ _ _ us hl => match us, hl with | [_], _ => rfl
theorem sc_dLawGood : FnScope dLawGood.N dLawGood.ps (defScope dLawGood.st) := ⟨rfl, rfl, rfl, by decide +kernel, rfl, by decide +kernel, by decide +kernel⟩
theorem bd_dLaw : BindD dLaw := fun _ _ _ _ _ _ us hl => match us, hl with | [_], _ => rfl
theorem sc_dLaw : FnScope dLaw.N dLaw.ps (defScope dLaw.st) := ⟨rfl, rfl, rfl, by decide +kernel, rfl, by decide +kernel, by decide +kernel⟩
theorem says_all : ∀ d ∈ fds, d.says (fnsP fds) consL excsL := by
  intro d hd
  simp only [fds, List.mem_cons, List.not_mem_nil, or_false] at hd
  rcases hd with rfl | rfl | rfl | rfl | rfl | rfl | rfl | rfl | rfl | rfl | rfl | rfl | rfl | rfl | rfl | rfl | rfl | rfl | rfl | rfl
  · exact says_dIsName
  · exact says_dPlaces
  · exact says_dPartAt
  · exact says_dLeaves
  · exact says_dDepthOf
  · exact says_dFormula
  · exact says_dWanted
  · exact says_dReadTree
  · exact says_dRead
  · exact says_dLawAt
  · exact says_dLawNames
  · exact says_dLawMany
  · exact says_dLawSecond
  · exact says_dLawTree
  · exact says_dLawText
  · exact says_dLawParts
  · exact says_dLawComb
  · exact says_dLawRead
  · exact says_dLawGood
  · exact says_dLaw
theorem law_mem : dLaw ∈ fds := .tail _ (.tail _ (.tail _ (.tail _ (.tail _ (.tail _ (.tail _ (.tail _ (.tail _ (.tail _ (.tail _ (.tail _ (.tail _ (.tail _ (.tail _ (.tail _ (.tail _ (.tail _ (.tail _ (.head _)))))))))))))))))))
theorem ids_nd : (fds.map (·.id)).Nodup := by decide +kernel
/-! the law: no formula's text -/
def bodyLp : List S := [.ife (.cmp .eq (.sub (.var 0) (.lit (.int 0))) (.lit (.str [108, 101, 97, 102]))) [.ret (.lst [(.tup [(.sub (.var 0) (.lit (.int 1))), (.lit (.bl true)), (.var 1)])])] [], .ret (.bin .add (.bin .add (.lst [(.tup [(.sub (.var 0) (.lit (.int 1))), (.lit (.bl false)), (.var 1)])]) (.call 27 [(.sub (.var 0) (.lit (.int 2))), (.bin .add (.var 1) (.lit (.int 1)))])) (.call 27 [(.sub (.var 0) (.lit (.int 3))), (.bin .add (.var 1) (.lit (.int 1)))]))]
def bodyCb : List S := [.set 1 (.lit (.str [97, 98, 99, 100, 101, 102, 103, 104, 105, 106, 107, 108, 109, 110, 111, 112, 113, 114, 115, 116, 117, 118, 119, 120, 121, 122])), .set 2 (.bin .add (.lit (.int 22)) (.bin .mod (.var 0) (.lit (.int 4)))), .set 3 (.comp 4 (.range [(.lit (.int 26))]) none (.bin .add (.sub (.var 1) (.var 4)) (.sub (.var 1) (.bin .mod (.bin .fdiv (.var 0) (.lit (.int 4))) (.lit (.int 26)))))), .ife (.cmp .eq (.bin .mod (.bin .fdiv (.var 0) (.lit (.int 104))) (.lit (.int 2))) (.lit (.int 0))) [.ret (.bin .add (.bin .add (.bin .mul (.lit (.str [102, 40])) (.var 2)) (.sub (.var 3) (.lit (.int 25)))) (.meth .join (.lit (.str [])) [(.comp 4 (.range [(.var 2)]) none (.bin .add (.bin .add (.lit (.str [32])) (.sub (.var 3) (.var 4))) (.lit (.str [41]))))]))] [], .ret (.bin .add (.bin .add (.meth .join (.lit (.str [])) [(.comp 4 (.range [(.var 2)]) none (.bin .add (.bin .add (.lit (.str [102, 40])) (.sub (.var 3) (.var 4))) (.lit (.str [32]))))]) (.sub (.var 3) (.lit (.int 25)))) (.bin .mul (.lit (.str [41])) (.var 2)))]
def bGdL : List S := [.set 6 (.comp 8 (.var 3) (some (.cmp .inn (.var 8) (.lit (.str [97, 98, 99, 100, 101, 102, 103, 104, 105, 106, 107, 108, 109, 110, 111, 112, 113, 114, 115, 116, 117, 118, 119, 120, 121, 122])))) (.var 8)), .ife (.or (.cmp .ne (.bi .len [(.var 6)]) (.bi .len [(.var 3)])) (.not (.chain .le .le (.lit (.int 1)) (.bi .len [(.var 3)]) (.lit (.int 8))))) [.ret (.lit (.bl false))] []]
def bodyGd : List S := [.set 1 (.call 27 [(.var 0), (.lit (.int 1))]), .set 2 (.comp 7 (.var 1) (some (.sub (.var 7) (.lit (.int 1)))) (.sub (.var 7) (.lit (.int 0)))), .ife (.or (.cmp .ne (.bi .lset [(.var 2)]) (.bi .len [(.var 2)])) (.or (.cmp .gt (.bi .len [(.var 2)]) (.lit (.int 32))) (.cmp .gt (.bi .max [(.comp 7 (.var 1) none (.sub (.var 7) (.lit (.int 2))))]) (.lit (.int 24))))) [.ret (.lit (.bl false))] [], .forN [3, 4, 5] (.var 1) bGdL, .ret (.lit (.bl true))]
def bTx05 : List S := [.set 7 (.call 2 [(.var 0), (.bin .add (.lit (.int 32)) (.var 3))]), .set 8 (.bin .mod (.bin .fdiv (.var 7) (.lit (.int 2))) (.bin .add (.bi .len [(.var 2)]) (.lit (.int 1)))), .set 9 (.sub (.lst [(.lit (.str [40])), (.lit (.str [41])), (.lit (.str [32])), (.lit (.str [97])), (.lit (.str [122])), (.lit (.str [65])), (.lit (.str [48])), (.lit (.str [44])), (.lit (.str [126])), (.lit (.str [102, 40]))]) (.bin .mod (.call 2 [(.var 0), (.bin .add (.lit (.int 36)) (.var 3))]) (.lit (.int 10)))), .ife (.cmp .eq (.bin .mod (.var 7) (.lit (.int 2))) (.lit (.int 0))) [.set 2 (.bin .add (.bin .add (.slice (.var 2) none (some (.var 8))) (.var 9)) (.slice (.var 2) (some (.var 8)) none))] [.set 2 (.bin .add (.slice (.var 2) none (some (.var 8))) (.slice (.var 2) (some (.bin .add (.var 8) (.lit (.int 1)))) none))]]
def tb05 : List S := [.set 5 (.call 25 [(.var 2)])]
def th05 : List S := [.set 4 (.lst [(.isx 6 4), (.isx 6 8)])]
def i1_05 : S := .ife (.cmp .eq (.bin .mod (.call 2 [(.var 0), (.lit (.int 30))]) (.lit (.int 3))) (.lit (.int 1))) [.set 2 (.bin .add (.bin .add (.bin .mul (.lit (.str [102, 40])) (.bin .mod (.bin .fdiv (.call 2 [(.var 0), (.lit (.int 30))]) (.lit (.int 3))) (.lit (.int 301)))) (.lit (.str [97]))) (.bin .mul (.lit (.str [32, 98, 41])) (.bin .mod (.call 2 [(.var 0), (.lit (.int 31))]) (.lit (.int 301)))))] []
def i2_05 : S := .ife (.cmp .eq (.bin .mod (.call 2 [(.var 0), (.lit (.int 30))]) (.lit (.int 12))) (.lit (.int 2))) [.set 2 (.bin .add (.bin .add (.bin .add (.bin .add (.lit (.str [102, 40])) (.var 1)) (.lit (.str [32]))) (.sub (.call 3 [(.call 5 [(.var 0)]), (.call 4 [(.var 0)])]) (.lit (.int 0)))) (.lit (.str [41])))] []
def i3_05 : S := .ife (.cmp .eq (.bin .mod (.call 2 [(.var 0), (.lit (.int 30))]) (.lit (.int 12))) (.lit (.int 5))) [.set 2 (.bin .add (.bin .add (.lit (.str [102, 40])) (.var 1)) (.lit (.str [32, 97, 98, 99, 100, 101, 102, 103, 104, 41])))] []
def i4_05 : S := .ife (.cmp .eq (.bin .mod (.call 2 [(.var 0), (.lit (.int 30))]) (.lit (.int 12))) (.lit (.int 8))) [.set 2 (.call 28 [(.call 2 [(.var 0), (.lit (.int 31))])])] []
def lp05 : S := .for1 3 (.range [(.bin .mod (.bin .fdiv (.call 2 [(.var 0), (.lit (.int 30))]) (.lit (.int 36))) (.lit (.int 4)))]) bTx05
def tl05 : List S := [.set 4 (.lst []), .set 5 (.lit .non), .try_ tb05 0 (some 6) th05, .unp [10, 11] (.call 29 [(.var 2), (.lit (.int 0)), (.lit (.int 1))]), .ife (.and (.cmp .eq (.var 11) (.bi .len [(.var 2)])) (.call 30 [(.var 10)])) [.ret (.and (.cmp .eq (.var 4) (.lst [])) (.cmp .eq (.var 5) (.var 10)))] [], .ret (.cmp .eq (.var 4) (.lst [(.lit (.bl true)), (.lit (.bl true))]))]
def bodyLaw05 : List S := .set 1 (.call 26 [(.call 6 [(.var 0), (.lit (.int 1)), (.call 4 [(.var 0)])])]) :: .set 2 (.var 1) :: i1_05 :: i2_05 :: i3_05 :: i4_05 :: lp05 :: tl05
theorem okT_ap {x y : T} (hx : okT x = true) (hy : okT y = true) : okT (x ++ y) = true := by
  unfold okT at hx hy ⊢
  rw [List.all_append, hx, hy]
  rfl
theorem okT_rep {x : T} (hx : okT x = true) : ∀ k : Nat, okT (rep k x) = true ∧ (rep k x).length = k * x.length
  | 0 => ⟨rfl, by simp [rep]⟩
  | k + 1 => by
    obtain ⟨a, b⟩ := okT_rep hx k
    have e : rep (k + 1) x = x ++ rep k x := by unfold rep; rw [List.replicate_succ, List.flatten_cons]
    rw [e]
    exact ⟨okT_ap hx a, by rw [List.length_append, b, Nat.succ_mul]; omega⟩
theorem okT_cut (x : T) (lo hi : Option Int) (h : okT x = true) : okT (cut x lo hi) = true := by
  unfold cut
  unfold okT at h ⊢
  rw [List.all_eq_true] at h ⊢
  exact fun c hc => h c (List.mem_of_mem_drop (List.mem_of_mem_take hc))
theorem nx_one5 (a : Option DV) (r : DEnv) : noEx (a :: r) = (noEx [a] && noEx r) := by
  cases a with
  | none => rfl
  | some x => cases x <;> rfl
/-! parts -/
abbrev U5 := T × (Bool × Nat)
def parF : Tr → Nat → List U5
  | .leaf x, d => [(x, true, d)]
  | .knot f l r, d => (f, false, d) :: (parF l (d + 1) ++ parF r (d + 1))
def pD (p : U5) : D := .tup [.str p.1, .bl p.2.1, .int (p.2.2 : Int)]
theorem parF_len (t : Tr) : ∀ d, (parF t d).length = t.parts.length := by
  induction t with
  | leaf x => intro d; rfl
  | knot f l r h1 h2 => intro d; simp only [parF, Tr.parts, List.length_cons, List.length_append, h1, h2]
theorem parF_lab (t : Tr) : ∀ d, (parF t d).map (·.1) = t.parts.map Tr.lab := by
  induction t with
  | leaf x => intro d; rfl
  | knot f l r h1 h2 => intro d; simp only [parF, Tr.parts, List.map_cons, List.map_append, h1, h2, Tr.lab]
theorem parF_nm (t : Tr) : ∀ d, ((parF t d).filter (·.2.1)).map (·.1) = t.names := by
  induction t with
  | leaf x => intro d; rfl
  | knot f l r h1 h2 => intro d; simp [parF, Tr.names, List.filter_append, h1, h2]
def mxS (a : Int) (l : List Int) : Int := l.foldl (fun a b => if b > a then b else a) a
theorem parF_mx (t : Tr) : ∀ (d : Nat) (a : Int), mxS a ((parF t d).map fun p => (p.2.2 : Int)) = if ((d + t.deep - 1 : Nat) : Int) > a then ((d + t.deep - 1 : Nat) : Int) else a := by
  induction t with
  | leaf x => intro d a; rfl
  | knot f l r h1 h2 =>
    intro d a
    have e : (parF (Tr.knot f l r) d).map (fun p => (p.2.2 : Int)) = (d : Int) :: ((parF l (d + 1)).map (fun p => (p.2.2 : Int)) ++ (parF r (d + 1)).map fun p => (p.2.2 : Int)) := by
      simp [parF]
    rw [e]
    unfold mxS
    rw [List.foldl_cons, List.foldl_append]
    have g1 := h1 (d + 1) (if (d : Int) > a then (d : Int) else a)
    unfold mxS at g1
    rw [g1]
    have g2 := h2 (d + 1) (if ((d + 1 + l.deep - 1 : Nat) : Int) > (if (d : Int) > a then (d : Int) else a) then ((d + 1 + l.deep - 1 : Nat) : Int) else (if (d : Int) > a then (d : Int) else a))
    unfold mxS at g2
    rw [g2]
    have d1 : 1 ≤ l.deep := by cases l <;> simp only [Tr.deep] <;> omega
    have d2 : 1 ≤ r.deep := by cases r <;> simp only [Tr.deep] <;> omega
    have em : (Tr.knot f l r).deep = 1 + max l.deep r.deep := rfl
    generalize (Tr.knot f l r).deep = dd at em ⊢
    repeat' split
    all_goals omega
section
variable {G : Tab} {ns : List Int}
theorem run_lp (t : Tr) (d : Nat) (hn : t.names.length ≤ 3000) (hl : ∀ f l r, t = .knot f l r → G.fn 27 [l.enc, .int ((d + 1 : Nat) : Int)] = .ok (.ol ((parF l (d + 1)).map pD)) ∧ G.fn 27 [r.enc, .int ((d + 1 : Nat) : Int)] = .ok (.ol ((parF r (d + 1)).map pD))) : run G ⟨2, 2, bodyLp, none⟩ [t.enc, .int (d : Int)] = .ok (.ol ((parF t d).map pD)) := by
  rw [run_eq rfl rfl]
  cases t with
  | leaf x =>
    have e : (parF (Tr.leaf x) d).map pD = [.tup [.str x, .bl true, .int (d : Int)]] := rfl
    rw [e]
    have hx : subD (Tr.leaf x).enc (.int 1) = some (.str x) := rfl
    simp -implicitDefEqProofs only [exB_nil, exB_cons, y_pass, y_set, y_unp, y_par, y_sti, y_app, y_rem, y_appc, y_ex, y_ife, y_whl, y_for1, y_forN, y_ret, y_retN, y_rai, y_try, y_tryR, x_var, x_lit, x_bin, x_neg, x_cmp, x_chain, x_chain3, x_cio, x_ciL, x_addv, x_and, x_or, x_not, x_tup, x_lst, x_sub, x_slice, x_call, x_bi, x_meth, x_isi, x_range, x_enum, x_zip, x_zips, c_nes, x_dict, x_ditn, evs, evb, evo, tst, brw, isVar, bor, rd, bd_ok, bd_er, bd_st, of_some, of_none, s_ok, s_er, s_st, sb_nx, sb_rt, sb_er, sb_st, val_sh, val_ol, val_od, val_ot, val_er, val_st, blR_bl, truth_bl, truth_lst, intOf_int, c_eq, c_ne, c_lt, c_le, c_gt, c_ge, c_inn, c_nin, c_isN, c_notN, n_non, n_int, n_str, n_tup, n_lst, b_add, b_sub, bi_max2, bi_min2, bi_intB, bi_intI, bi_lenL, bi_lenT, bi_lenS, bi_listL, bi_listT, bi_strS, sub_lst, sub_tup, sub_scr, sub_dic, slc_lst, slc_tup, atI0, atI1, atI2, atI3, atI4, eqV_int, eqV_bl, isi_int, isi_intb, isi_bl, isi_lst, isi_tup, isi_str, fp_sh, fp_ol, fp_nx, sz_0, sz_1, sz_2, sz_3, sz_4, sz_5, sz_6, sz_7, fp_er, res_ok, res_er, itm_lst, itm_tup, itm_str, env0, moved, Option.map_some, Option.map_none, Option.bind_some, List.getElem?_cons_zero, List.getElem?_cons_succ, List.set_cons_zero, List.set_cons_succ, List.map_cons, List.map_nil, List.cons_append, List.nil_append, List.length_cons, List.length_nil, List.replicate, if_true, if_false, Bool.false_eq_true, reduceIte, Bool.not_true, Bool.not_false, bodyLp, sub_leaf, eqV_ll, hx]
  | knot f l r =>
    obtain ⟨h1, h2⟩ := hl f l r rfl
    have ed : (d : Int) + 1 = ((d + 1 : Nat) : Int) := by omega
    have hx : subD (Tr.knot f l r).enc (.int 1) = some (.str f) := rfl
    have p1 := parF_len l (d + 1)
    have p2 := parF_len r (d + 1)
    have q1 := parts_len l
    have q2 := parts_len r
    have r1 := places_len l
    have r2 := places_len r
    simp only [Tr.names, List.length_append] at hn
    have a1 : binD .add (.lst [.tup [.str f, .bl false, .int (d : Int)]]) (.lst ((parF l (d + 1)).map pD)) = some (.ol (.tup [.str f, .bl false, .int (d : Int)] :: (parF l (d + 1)).map pD)) := b_addL _ _ (by rw [List.length_map]; simp only [List.length_cons, List.length_nil]; unfold szL; omega)
    have a2 : binD .add (.lst (.tup [.str f, .bl false, .int (d : Int)] :: (parF l (d + 1)).map pD)) (.lst ((parF r (d + 1)).map pD)) = some (.ol ((parF (Tr.knot f l r) d).map pD)) := by
      rw [b_addL _ _ (by simp only [List.length_cons, List.length_map]; unfold szL; omega)]
      show some (DV.ol _) = some (DV.ol (pD (f, false, d) :: (parF l (d + 1) ++ parF r (d + 1)).map pD))
      rw [List.map_append]
      rfl
    generalize (parF (Tr.knot f l r) d).map pD = R at a2 ⊢
    generalize (parF l (d + 1)).map pD = L1 at *
    generalize (parF r (d + 1)).map pD = R1 at *
    simp -implicitDefEqProofs only [exB_nil, exB_cons, y_pass, y_set, y_unp, y_par, y_sti, y_app, y_rem, y_appc, y_ex, y_ife, y_whl, y_for1, y_forN, y_ret, y_retN, y_rai, y_try, y_tryR, x_var, x_lit, x_bin, x_neg, x_cmp, x_chain, x_chain3, x_cio, x_ciL, x_addv, x_and, x_or, x_not, x_tup, x_lst, x_sub, x_slice, x_call, x_bi, x_meth, x_isi, x_range, x_enum, x_zip, x_zips, c_nes, x_dict, x_ditn, evs, evb, evo, tst, brw, isVar, bor, rd, bd_ok, bd_er, bd_st, of_some, of_none, s_ok, s_er, s_st, sb_nx, sb_rt, sb_er, sb_st, val_sh, val_ol, val_od, val_ot, val_er, val_st, blR_bl, truth_bl, truth_lst, intOf_int, c_eq, c_ne, c_lt, c_le, c_gt, c_ge, c_inn, c_nin, c_isN, c_notN, n_non, n_int, n_str, n_tup, n_lst, b_add, b_sub, bi_max2, bi_min2, bi_intB, bi_intI, bi_lenL, bi_lenT, bi_lenS, bi_listL, bi_listT, bi_strS, sub_lst, sub_tup, sub_scr, sub_dic, slc_lst, slc_tup, atI0, atI1, atI2, atI3, atI4, eqV_int, eqV_bl, isi_int, isi_intb, isi_bl, isi_lst, isi_tup, isi_str, fp_sh, fp_ol, fp_nx, sz_0, sz_1, sz_2, sz_3, sz_4, sz_5, sz_6, sz_7, fp_er, res_ok, res_er, itm_lst, itm_tup, itm_str, env0, moved, Option.map_some, Option.map_none, Option.bind_some, List.getElem?_cons_zero, List.getElem?_cons_succ, List.set_cons_zero, List.set_cons_succ, List.map_cons, List.map_nil, List.cons_append, List.nil_append, List.length_cons, List.length_nil, List.replicate, if_true, if_false, Bool.false_eq_true, reduceIte, Bool.not_true, Bool.not_false, bodyLp, sub_knot, sub_knot2, sub_knot3, eqV_kk, hx, ed, h1, a1, h2, a2]
theorem fn_lp {P : List (Nat × Def)} (h27 : look 27 P = some ⟨2, 2, bodyLp, none⟩) : ∀ (t : Tr) (k d : Nat), t.deep ≤ k → t.names.length ≤ 3000 → (tabOf P k).fn 27 [t.enc, .int (d : Int)] = .ok (.ol ((parF t d).map pD))
  | t, 0, d, h, _ => by cases t <;> simp only [Tr.deep] at h <;> omega
  | t, k + 1, d, h, hn => by
    rw [tab_fn h27]
    refine run_lp t d hn fun f l r e => ?_
    subst e
    simp only [Tr.deep] at h
    simp only [Tr.names, List.length_append] at hn
    exact ⟨fn_lp h27 l k (d + 1) (by omega) (by omega), fn_lp h27 r k (d + 1) (by omega) (by omega)⟩
/-! whether it is good -/
theorem dnL_snoc (l : List T) (x : T) : dnL (l ++ [x]) = if x ∈ dnL l then dnL l else dnL l ++ [x] := by
  unfold dnL
  rw [List.foldl_append]
  rfl
theorem dnL_all : ∀ (n : Nat) (l : List T), l.length = n → (∀ y, y ∈ dnL l ↔ y ∈ l) ∧ (dnL l).length ≤ n ∧ ((dnL l).length = n ↔ l.Nodup)
  | 0, l, h => by
    have : l = [] := List.length_eq_zero_iff.mp h
    subst this
    exact ⟨fun y => Iff.rfl, Nat.le_refl 0, fun _ => List.nodup_nil, fun _ => rfl⟩
  | n + 1, l, h => by
    obtain ⟨m, x, rfl⟩ : ∃ m x, l = m ++ [x] := ⟨l.dropLast, l.getLast (by intro z; rw [z] at h; cases h), (List.dropLast_concat_getLast _).symm⟩
    rw [List.length_append, List.length_singleton] at h
    obtain ⟨a, b, c⟩ := dnL_all n m (by omega)
    rw [dnL_snoc]
    by_cases hx : x ∈ dnL m
    · rw [if_pos hx]
      refine ⟨fun y => ?_, by omega, ⟨fun z => by omega, fun z => ?_⟩⟩
      · rw [a, List.mem_append, List.mem_singleton]
        exact ⟨.inl, fun h => h.elim id fun e => by rw [e]; exact (a x).mp hx⟩
      · rw [List.nodup_append] at z
        exact absurd rfl (z.2.2 x ((a x).mp hx) x (by simp))
    · rw [if_neg hx]
      refine ⟨fun y => by rw [List.mem_append, List.mem_append, a], by rw [List.length_append, List.length_singleton]; omega, ?_⟩
      rw [List.length_append, List.length_singleton]
      constructor
      · intro z
        rw [List.nodup_append]
        refine ⟨c.mp (by omega), by simp, fun y hy w hw e => ?_⟩
        rw [List.mem_singleton] at hw
        exact hx ((a x).mpr (by rw [← hw, ← e]; exact hy))
      · intro z
        rw [List.nodup_append] at z
        have := c.mpr z.1
        omega
theorem dnT_nd (l : List T) : (dnT l == l.length) = decide l.Nodup := by
  have := (dnL_all l.length l rfl).2.2
  rw [Bool.eq_iff_iff, beq_iff_eq, decide_eq_true_eq]
  exact this
def goodB (t : Tr) : Bool := decide t.names.Nodup && (decide (t.names.length ≤ 32) && (decide (t.deep ≤ 24) && t.parts.all fun u => isNm u.lab))
def sgB (w : T) : Bool := w.all abc.contains
def chD5 (x : D) : Bool := match x with
  | .str [c] => abc.contains c
  | _ => false
theorem sg_filt : ∀ w : T, (((w.map fun c => D.str [c]).filter chD5).map fun x => x).length ≤ w.length ∧ ((((w.map fun c => D.str [c]).filter chD5).map fun x => x).length = w.length ↔ sgB w = true)
  | [] => ⟨Nat.le_refl _, by simp [sgB]⟩
  | c :: r => by
    obtain ⟨h1, h2⟩ := sg_filt r
    have e : chD5 (.str [c]) = abc.contains c := rfl
    unfold sgB at h2 ⊢
    rw [List.map_cons, List.filter_cons, e, List.all_cons]
    cases h : abc.contains c with
    | true =>
      rw [if_pos rfl, List.map_cons, List.length_cons, List.length_cons, Bool.true_and]
      exact ⟨by omega, ⟨fun z => h2.mp (by omega), fun z => by rw [h2.mpr z]⟩⟩
    | false =>
      rw [if_neg Bool.false_ne_true, List.length_cons, Bool.false_and]
      exact ⟨by omega, ⟨fun z => by omega, fun z => by cases z⟩⟩
theorem gd_step (A0 A1 A2 u3 u4 u5 u6 : Option DV) (p : U5) (hl : p.1.length ≤ 100000) : ∃ v6 : Option DV, stepN G [3, 4, 5] bGdL (pD p) [A0, A1, A2, u3, u4, u5, u6, none, none] = if isNm p.1 = true then .nx [A0, A1, A2, some (.sh (.str p.1)), some (.sh (.bl p.2.1)), some (.sh (.int (p.2.2 : Int))), v6, none, none] else .rt (.sh (.bl false)) [A0, A1, A2, some (.sh (.str p.1)), some (.sh (.bl p.2.1)), some (.sh (.int (p.2.2 : Int))), v6, none, none] := by
  obtain ⟨w, b, d⟩ := p
  have hl : w.length ≤ 100000 := hl
  have st := stepN_ok (G := G) (is := [3, 4, 5]) (b := bGdL) (x := pD (w, b, d)) (env := [A0, A1, A2, u3, u4, u5, u6, none, none]) (env1 := [A0, A1, A2, some (.sh (.str w)), some (.sh (.bl b)), some (.sh (.int (d : Int))), u6, none, none]) rfl
  rw [st]
  have lw : biD .len [.str w] = some (.sh (.int (w.length : Int))) := bi_lenX w (by unfold szL; omega)
  have cm := comp_filt (G := G) (s := 8) (it := .var 3) (c := .cmp .inn (.var 8) (.lit (.str [97, 98, 99, 100, 101, 102, 103, 104, 105, 106, 107, 108, 109, 110, 111, 112, 113, 114, 115, 116, 117, 118, 119, 120, 121, 122]))) (elt := .var 8) (env := [A0, A1, A2, some (.sh (.str w)), some (.sh (.bl b)), some (.sh (.int (d : Int))), u6, none, none]) (env1 := [A0, A1, A2, some (.sh (.str w)), some (.sh (.bl b)), some (.sh (.int (d : Int))), u6, none, none]) (d := .str w) (xs := w.map fun c => D.str [c]) (p := chD5) (f := fun x => x) (o := none) rfl rfl rfl (fun x hx => by
      obtain ⟨k, _, rfl⟩ := List.mem_map.mp hx
      have hi : inD (.str [k]) (.str [97, 98, 99, 100, 101, 102, 103, 104, 105, 106, 107, 108, 109, 110, 111, 112, 113, 114, 115, 116, 117, 118, 119, 120, 121, 122]) = some (chD5 (.str [k])) := rfl
      simp -implicitDefEqProofs only [exB_nil, exB_cons, y_pass, y_set, y_unp, y_par, y_sti, y_app, y_rem, y_appc, y_ex, y_ife, y_whl, y_for1, y_forN, y_ret, y_retN, y_rai, y_try, y_tryR, x_var, x_lit, x_bin, x_neg, x_cmp, x_chain, x_chain3, x_cio, x_ciL, x_addv, x_and, x_or, x_not, x_tup, x_lst, x_sub, x_slice, x_call, x_bi, x_meth, x_isi, x_range, x_enum, x_zip, x_zips, c_nes, x_dict, x_ditn, evs, evb, evo, tst, brw, isVar, bor, rd, bd_ok, bd_er, bd_st, of_some, of_none, s_ok, s_er, s_st, sb_nx, sb_rt, sb_er, sb_st, val_sh, val_ol, val_od, val_ot, val_er, val_st, blR_bl, truth_bl, truth_lst, intOf_int, c_eq, c_ne, c_lt, c_le, c_gt, c_ge, c_inn, c_nin, c_isN, c_notN, n_non, n_int, n_str, n_tup, n_lst, b_add, b_sub, bi_max2, bi_min2, bi_intB, bi_intI, bi_lenL, bi_lenT, bi_lenS, bi_listL, bi_listT, bi_strS, sub_lst, sub_tup, sub_scr, sub_dic, slc_lst, slc_tup, atI0, atI1, atI2, atI3, atI4, eqV_int, eqV_bl, isi_int, isi_intb, isi_bl, isi_lst, isi_tup, isi_str, fp_sh, fp_ol, fp_nx, sz_0, sz_1, sz_2, sz_3, sz_4, sz_5, sz_6, sz_7, fp_er, res_ok, res_er, itm_lst, itm_tup, itm_str, env0, moved, Option.map_some, Option.map_none, Option.bind_some, List.getElem?_cons_zero, List.getElem?_cons_succ, List.set_cons_zero, List.set_cons_succ, List.map_cons, List.map_nil, List.cons_append, List.nil_append, List.length_cons, List.length_nil, List.replicate, if_true, if_false, Bool.false_eq_true, reduceIte, Bool.not_true, Bool.not_false, hi]) (fun x hx _ => by
      obtain ⟨k, _, rfl⟩ := List.mem_map.mp hx
      rfl) (by rw [List.length_map]; unfold szL; omega)
  obtain ⟨f1, f2⟩ := sg_filt w
  generalize (((w.map fun c => D.str [c]).filter chD5).map fun x => x) = F at cm f1 f2
  have lf : biD .len [.lst F] = some (.sh (.int (F.length : Int))) := rfl
  refine ⟨some (.ol F), ?_⟩
  have en : isNm w = (decide (1 ≤ w.length ∧ w.length ≤ 8) && sgB w) := rfl
  show exB G bGdL _ = if isNm w = true then _ else _
  rw [en]
  cases hs : sgB w with
  | false =>
    have n1 : ((F.length : Int) == (w.length : Int)) = false := beq_eq_false_iff_ne.mpr fun z => by
      have := f2.mp (by omega)
      rw [hs] at this; cases this
    rw [Bool.and_false, if_neg Bool.false_ne_true]
    simp -implicitDefEqProofs only [exB_nil, exB_cons, y_pass, y_set, y_unp, y_par, y_sti, y_app, y_rem, y_appc, y_ex, y_ife, y_whl, y_for1, y_forN, y_ret, y_retN, y_rai, y_try, y_tryR, x_var, x_lit, x_bin, x_neg, x_cmp, x_chain, x_chain3, x_cio, x_ciL, x_addv, x_and, x_or, x_not, x_tup, x_lst, x_sub, x_slice, x_call, x_bi, x_meth, x_isi, x_range, x_enum, x_zip, x_zips, c_nes, x_dict, x_ditn, evs, evb, evo, tst, brw, isVar, bor, rd, bd_ok, bd_er, bd_st, of_some, of_none, s_ok, s_er, s_st, sb_nx, sb_rt, sb_er, sb_st, val_sh, val_ol, val_od, val_ot, val_er, val_st, blR_bl, truth_bl, truth_lst, intOf_int, c_eq, c_ne, c_lt, c_le, c_gt, c_ge, c_inn, c_nin, c_isN, c_notN, n_non, n_int, n_str, n_tup, n_lst, b_add, b_sub, bi_max2, bi_min2, bi_intB, bi_intI, bi_lenL, bi_lenT, bi_lenS, bi_listL, bi_listT, bi_strS, sub_lst, sub_tup, sub_scr, sub_dic, slc_lst, slc_tup, atI0, atI1, atI2, atI3, atI4, eqV_int, eqV_bl, isi_int, isi_intb, isi_bl, isi_lst, isi_tup, isi_str, fp_sh, fp_ol, fp_nx, sz_0, sz_1, sz_2, sz_3, sz_4, sz_5, sz_6, sz_7, fp_er, res_ok, res_er, itm_lst, itm_tup, itm_str, env0, moved, Option.map_some, Option.map_none, Option.bind_some, List.getElem?_cons_zero, List.getElem?_cons_succ, List.set_cons_zero, List.set_cons_succ, List.map_cons, List.map_nil, List.cons_append, List.nil_append, List.length_cons, List.length_nil, List.replicate, if_true, if_false, Bool.false_eq_true, reduceIte, Bool.not_true, Bool.not_false, bGdL, cm, lf, lw, n1]
  | true =>
    have n1 : ((F.length : Int) == (w.length : Int)) = true := beq_iff_eq.mpr (by have := f2.mpr hs; omega)
    rw [Bool.and_true]
    by_cases h1 : 1 ≤ w.length
    · have q1 : decide ((1 : Int) ≤ (w.length : Int)) = true := decide_eq_true (by omega)
      by_cases h8 : w.length ≤ 8
      · have q8 : decide ((w.length : Int) ≤ 8) = true := decide_eq_true (by omega)
        rw [if_pos (decide_eq_true ⟨h1, h8⟩)]
        simp -implicitDefEqProofs only [exB_nil, exB_cons, y_pass, y_set, y_unp, y_par, y_sti, y_app, y_rem, y_appc, y_ex, y_ife, y_whl, y_for1, y_forN, y_ret, y_retN, y_rai, y_try, y_tryR, x_var, x_lit, x_bin, x_neg, x_cmp, x_chain, x_chain3, x_cio, x_ciL, x_addv, x_and, x_or, x_not, x_tup, x_lst, x_sub, x_slice, x_call, x_bi, x_meth, x_isi, x_range, x_enum, x_zip, x_zips, c_nes, x_dict, x_ditn, evs, evb, evo, tst, brw, isVar, bor, rd, bd_ok, bd_er, bd_st, of_some, of_none, s_ok, s_er, s_st, sb_nx, sb_rt, sb_er, sb_st, val_sh, val_ol, val_od, val_ot, val_er, val_st, blR_bl, truth_bl, truth_lst, intOf_int, c_eq, c_ne, c_lt, c_le, c_gt, c_ge, c_inn, c_nin, c_isN, c_notN, n_non, n_int, n_str, n_tup, n_lst, b_add, b_sub, bi_max2, bi_min2, bi_intB, bi_intI, bi_lenL, bi_lenT, bi_lenS, bi_listL, bi_listT, bi_strS, sub_lst, sub_tup, sub_scr, sub_dic, slc_lst, slc_tup, atI0, atI1, atI2, atI3, atI4, eqV_int, eqV_bl, isi_int, isi_intb, isi_bl, isi_lst, isi_tup, isi_str, fp_sh, fp_ol, fp_nx, sz_0, sz_1, sz_2, sz_3, sz_4, sz_5, sz_6, sz_7, fp_er, res_ok, res_er, itm_lst, itm_tup, itm_str, env0, moved, Option.map_some, Option.map_none, Option.bind_some, List.getElem?_cons_zero, List.getElem?_cons_succ, List.set_cons_zero, List.set_cons_succ, List.map_cons, List.map_nil, List.cons_append, List.nil_append, List.length_cons, List.length_nil, List.replicate, if_true, if_false, Bool.false_eq_true, reduceIte, Bool.not_true, Bool.not_false, bGdL, cm, lf, lw, n1, q1, q8]
      · have q8 : decide ((w.length : Int) ≤ 8) = false := decide_eq_false (by omega)
        rw [if_neg (by rw [decide_eq_true_eq]; exact fun z => h8 z.2)]
        simp -implicitDefEqProofs only [exB_nil, exB_cons, y_pass, y_set, y_unp, y_par, y_sti, y_app, y_rem, y_appc, y_ex, y_ife, y_whl, y_for1, y_forN, y_ret, y_retN, y_rai, y_try, y_tryR, x_var, x_lit, x_bin, x_neg, x_cmp, x_chain, x_chain3, x_cio, x_ciL, x_addv, x_and, x_or, x_not, x_tup, x_lst, x_sub, x_slice, x_call, x_bi, x_meth, x_isi, x_range, x_enum, x_zip, x_zips, c_nes, x_dict, x_ditn, evs, evb, evo, tst, brw, isVar, bor, rd, bd_ok, bd_er, bd_st, of_some, of_none, s_ok, s_er, s_st, sb_nx, sb_rt, sb_er, sb_st, val_sh, val_ol, val_od, val_ot, val_er, val_st, blR_bl, truth_bl, truth_lst, intOf_int, c_eq, c_ne, c_lt, c_le, c_gt, c_ge, c_inn, c_nin, c_isN, c_notN, n_non, n_int, n_str, n_tup, n_lst, b_add, b_sub, bi_max2, bi_min2, bi_intB, bi_intI, bi_lenL, bi_lenT, bi_lenS, bi_listL, bi_listT, bi_strS, sub_lst, sub_tup, sub_scr, sub_dic, slc_lst, slc_tup, atI0, atI1, atI2, atI3, atI4, eqV_int, eqV_bl, isi_int, isi_intb, isi_bl, isi_lst, isi_tup, isi_str, fp_sh, fp_ol, fp_nx, sz_0, sz_1, sz_2, sz_3, sz_4, sz_5, sz_6, sz_7, fp_er, res_ok, res_er, itm_lst, itm_tup, itm_str, env0, moved, Option.map_some, Option.map_none, Option.bind_some, List.getElem?_cons_zero, List.getElem?_cons_succ, List.set_cons_zero, List.set_cons_succ, List.map_cons, List.map_nil, List.cons_append, List.nil_append, List.length_cons, List.length_nil, List.replicate, if_true, if_false, Bool.false_eq_true, reduceIte, Bool.not_true, Bool.not_false, bGdL, cm, lf, lw, n1, q1, q8]
    · have q1 : decide ((1 : Int) ≤ (w.length : Int)) = false := decide_eq_false (by omega)
      rw [if_neg (by rw [decide_eq_true_eq]; exact fun z => h1 z.1)]
      simp -implicitDefEqProofs only [exB_nil, exB_cons, y_pass, y_set, y_unp, y_par, y_sti, y_app, y_rem, y_appc, y_ex, y_ife, y_whl, y_for1, y_forN, y_ret, y_retN, y_rai, y_try, y_tryR, x_var, x_lit, x_bin, x_neg, x_cmp, x_chain, x_chain3, x_cio, x_ciL, x_addv, x_and, x_or, x_not, x_tup, x_lst, x_sub, x_slice, x_call, x_bi, x_meth, x_isi, x_range, x_enum, x_zip, x_zips, c_nes, x_dict, x_ditn, evs, evb, evo, tst, brw, isVar, bor, rd, bd_ok, bd_er, bd_st, of_some, of_none, s_ok, s_er, s_st, sb_nx, sb_rt, sb_er, sb_st, val_sh, val_ol, val_od, val_ot, val_er, val_st, blR_bl, truth_bl, truth_lst, intOf_int, c_eq, c_ne, c_lt, c_le, c_gt, c_ge, c_inn, c_nin, c_isN, c_notN, n_non, n_int, n_str, n_tup, n_lst, b_add, b_sub, bi_max2, bi_min2, bi_intB, bi_intI, bi_lenL, bi_lenT, bi_lenS, bi_listL, bi_listT, bi_strS, sub_lst, sub_tup, sub_scr, sub_dic, slc_lst, slc_tup, atI0, atI1, atI2, atI3, atI4, eqV_int, eqV_bl, isi_int, isi_intb, isi_bl, isi_lst, isi_tup, isi_str, fp_sh, fp_ol, fp_nx, sz_0, sz_1, sz_2, sz_3, sz_4, sz_5, sz_6, sz_7, fp_er, res_ok, res_er, itm_lst, itm_tup, itm_str, env0, moved, Option.map_some, Option.map_none, Option.bind_some, List.getElem?_cons_zero, List.getElem?_cons_succ, List.set_cons_zero, List.set_cons_succ, List.map_cons, List.map_nil, List.cons_append, List.nil_append, List.length_cons, List.length_nil, List.replicate, if_true, if_false, Bool.false_eq_true, reduceIte, Bool.not_true, Bool.not_false, bGdL, cm, lf, lw, n1, q1]
theorem gd_lp (A0 A1 A2 : Option DV) : ∀ (ps : List U5) (u3 u4 u5 u6 : Option DV), (∀ p ∈ ps, p.1.length ≤ 100000) → (ps.all (fun p => isNm p.1) = true → ∃ e, forL (stepN G [3, 4, 5] bGdL) (ps.map pD) [A0, A1, A2, u3, u4, u5, u6, none, none] = .nx e) ∧ (ps.all (fun p => isNm p.1) = false → ∃ e, forL (stepN G [3, 4, 5] bGdL) (ps.map pD) [A0, A1, A2, u3, u4, u5, u6, none, none] = .rt (.sh (.bl false)) e)
  | [], u3, u4, u5, u6, _ => ⟨fun _ => ⟨_, rfl⟩, fun h => by cases h⟩
  | p :: ps, u3, u4, u5, u6, h => by
    obtain ⟨v6, st⟩ := gd_step (G := G) A0 A1 A2 u3 u4 u5 u6 p (h p (by simp))
    obtain ⟨i1, i2⟩ := gd_lp A0 A1 A2 ps (some (.sh (.str p.1))) (some (.sh (.bl p.2.1))) (some (.sh (.int (p.2.2 : Int)))) v6 fun q hq => h q (by simp [hq])
    rw [List.map_cons, forL_cons, st, List.all_cons]
    cases hp : isNm p.1 with
    | true =>
      rw [if_pos rfl, sb_nx, Bool.true_and]
      exact ⟨i1, i2⟩
    | false =>
      rw [if_neg Bool.false_ne_true, sb_rt, Bool.false_and]
      exact ⟨(fun h => by cases h), fun _ => ⟨_, rfl⟩⟩
theorem strs_map5 : ∀ l : List T, strsD (l.map .str) = some l
  | [] => rfl
  | x :: l => by
    show (strsD (l.map .str)).map (x :: ·) = _
    rw [strs_map5 l]
    rfl
theorem ints_map5 : ∀ l : List Int, intsD (l.map .int) = some l
  | [] => rfl
  | x :: l => by
    show (intsD (l.map .int)).map (x :: ·) = _
    rw [ints_map5 l]
    rfl
theorem comp_filtA {α : Type} {s : Nat} {it c elt : E} {env : DEnv} {d : D} {l : List α} {e g : α → D} {p : α → Bool} {o : Option DV} (h1 : brw it (ev G it env) env = .ok d env) (h2 : itemsD d = some (l.map e)) (h3 : slotN env s = some o)
    (hc : ∀ a ∈ l, tst G c (env.set s (some (.sh (e a)))) = .ok (p a) (env.set s (some (.sh (e a))))) (h4 : ∀ a ∈ l, p a = true → (ev G elt (env.set s (some (.sh (e a))))).val = .ok (g a) (env.set s (some (.sh (e a))))) (hz : l.length ≤ szL) :
    ev G (.comp s it (some c) elt) env = .ok (.ol ((l.filter p).map g)) env := by
  have key : ∀ (l : List α) (env' : DEnv) (u : Option DV), env' = env.set s u → (∀ a ∈ l, tst G c (env.set s (some (.sh (e a)))) = .ok (p a) (env.set s (some (.sh (e a))))) → (∀ a ∈ l, p a = true → (ev G elt (env.set s (some (.sh (e a))))).val = .ok (g a) (env.set s (some (.sh (e a))))) → ∃ u', compL s (cndD G (some c)) (fun env => (ev G elt env).val) (l.map e) env' = .ok ((l.filter p).map g) (env.set s u') := by
    intro l
    induction l with
    | nil => intro env' u he _ _; exact ⟨u, by rw [he]; rfl⟩
    | cons a l ih =>
      intro env' u he hc h4
      obtain ⟨u', e'⟩ := ih (env.set s (some (.sh (e a)))) _ rfl (fun b hb => hc b (by simp [hb])) fun b hb => h4 b (by simp [hb])
      have ha := hc a (by simp)
      subst he
      refine ⟨u', ?_⟩
      show ((tst G c ((env.set s u).set s (some (.sh (e a))))).bd _) = _
      rw [List.set_set, ha, bd_ok, List.filter_cons]
      cases hp : p a with
      | true =>
        have hg := h4 a (by simp) hp
        show (((ev G elt (env.set s (some (.sh (e a))))).val).bd _) = _
        rw [hg, bd_ok]
        show ((compL s (cndD G (some c)) (fun env => (ev G elt env).val) (l.map e) _).bd _) = _
        rw [e', bd_ok]
        rfl
      | false => exact e'
  obtain ⟨u', e'⟩ := key l (env.set s none) none rfl hc h4
  have hl : ((l.filter p).map g).length ≤ szL := by rw [List.length_map]; exact Nat.le_trans (List.length_filter_le _ _) hz
  rw [ev_comp, h1, bd_ok, h2, of_some, bd_ok, h3, of_some, bd_ok, e']
  simp only [noEr, bd_ok, if_pos hl, List.set_set]
  rw [set_get (slotN_inv h3).1]
theorem comp_map2 {α : Type} {s : Nat} {it elt : E} {env : DEnv} {d : D} {l : List α} {e g : α → D} {o : Option DV} (h1 : brw it (ev G it env) env = .ok d env) (h2 : itemsD d = some (l.map e)) (h3 : slotN env s = some o) (h4 : ∀ a ∈ l, (ev G elt (env.set s (some (.sh (e a))))).val = .ok (g a) (env.set s (some (.sh (e a))))) (hz : l.length ≤ szL) :
    ev G (.comp s it none elt) env = .ok (.ol (l.map g)) env := by
  have key : ∀ (l : List α) (env' : DEnv) (u : Option DV), env' = env.set s u → (∀ a ∈ l, (ev G elt (env.set s (some (.sh (e a))))).val = .ok (g a) (env.set s (some (.sh (e a))))) → ∃ u', compL s (cndD G none) (fun env => (ev G elt env).val) (l.map e) env' = .ok (l.map g) (env.set s u') := by
    intro l
    induction l with
    | nil => intro env' u he _; exact ⟨u, by rw [he]; rfl⟩
    | cons a l ih =>
      intro env' u he h
      obtain ⟨u', e'⟩ := ih (env.set s (some (.sh (e a)))) _ rfl fun b hb => h b (by simp [hb])
      refine ⟨u', ?_⟩
      have ha := h a (by simp)
      subst he
      show ((Res.ok true _).bd _) = _
      rw [bd_ok]
      show ((ev G elt ((env.set s u).set s (some (.sh (e a))))).val.bd _) = _
      rw [List.set_set, ha, bd_ok]
      show ((compL s (cndD G none) (fun env => (ev G elt env).val) (l.map e) _).bd _) = _
      rw [e', bd_ok]
      rfl
  obtain ⟨u', e'⟩ := key l (env.set s none) none rfl h4
  rw [ev_comp, h1, bd_ok, h2, of_some, bd_ok, h3, of_some, bd_ok, e']
  simp only [noEr, bd_ok, List.length_map, if_pos hz, List.set_set]
  rw [set_get (slotN_inv h3).1]
theorem run_gd (t : Tr) (hn : t.names.length ≤ 3000) (hs : ∀ u ∈ t.parts, u.lab.length ≤ 100000) (h27 : G.fn 27 [t.enc, .int 1] = .ok (.ol ((parF t 1).map pD))) : run G ⟨1, 9, bodyGd, none⟩ [t.enc] = .ok (.sh (.bl (goodB t))) := by
  have p1 := parF_len t 1
  have q1 := parts_len t
  have r1 := places_len t
  have hnm := parF_nm t 1
  have hmx := parF_mx t 1 0
  have hlb := parF_lab t 1
  have c1 := comp_filtA (G := G) (s := 7) (it := .var 1) (c := .sub (.var 7) (.lit (.int 1))) (elt := .sub (.var 7) (.lit (.int 0))) (env := [some (.sh t.enc), some (.ol ((parF t 1).map pD)), none, none, none, none, none, none, none]) (d := .lst ((parF t 1).map pD)) (l := parF t 1) (e := pD) (g := fun p => .str p.1) (p := fun p => p.2.1) (o := none) rfl rfl rfl (fun a _ => by
      have s1 : subD (pD a) (.int 1) = some (.bl a.2.1) := rfl
      generalize pD a = da at s1 ⊢
      generalize (parF t 1).map pD = R
      generalize t.enc = te
      simp -implicitDefEqProofs only [exB_nil, exB_cons, y_pass, y_set, y_unp, y_par, y_sti, y_app, y_rem, y_appc, y_ex, y_ife, y_whl, y_for1, y_forN, y_ret, y_retN, y_rai, y_try, y_tryR, x_var, x_lit, x_bin, x_neg, x_cmp, x_chain, x_chain3, x_cio, x_ciL, x_addv, x_and, x_or, x_not, x_tup, x_lst, x_sub, x_slice, x_call, x_bi, x_meth, x_isi, x_range, x_enum, x_zip, x_zips, c_nes, x_dict, x_ditn, evs, evb, evo, tst, brw, isVar, bor, rd, bd_ok, bd_er, bd_st, of_some, of_none, s_ok, s_er, s_st, sb_nx, sb_rt, sb_er, sb_st, val_sh, val_ol, val_od, val_ot, val_er, val_st, blR_bl, truth_bl, truth_lst, intOf_int, c_eq, c_ne, c_lt, c_le, c_gt, c_ge, c_inn, c_nin, c_isN, c_notN, n_non, n_int, n_str, n_tup, n_lst, b_add, b_sub, bi_max2, bi_min2, bi_intB, bi_intI, bi_lenL, bi_lenT, bi_lenS, bi_listL, bi_listT, bi_strS, sub_lst, sub_tup, sub_scr, sub_dic, slc_lst, slc_tup, atI0, atI1, atI2, atI3, atI4, eqV_int, eqV_bl, isi_int, isi_intb, isi_bl, isi_lst, isi_tup, isi_str, fp_sh, fp_ol, fp_nx, sz_0, sz_1, sz_2, sz_3, sz_4, sz_5, sz_6, sz_7, fp_er, res_ok, res_er, itm_lst, itm_tup, itm_str, env0, moved, Option.map_some, Option.map_none, Option.bind_some, List.getElem?_cons_zero, List.getElem?_cons_succ, List.set_cons_zero, List.set_cons_succ, List.map_cons, List.map_nil, List.cons_append, List.nil_append, List.length_cons, List.length_nil, List.replicate, if_true, if_false, Bool.false_eq_true, reduceIte, Bool.not_true, Bool.not_false, s1]) (fun a _ _ => by
      have s1 : subD (pD a) (.int 0) = some (.str a.1) := rfl
      generalize pD a = da at s1 ⊢
      generalize (parF t 1).map pD = R
      generalize t.enc = te
      simp -implicitDefEqProofs only [exB_nil, exB_cons, y_pass, y_set, y_unp, y_par, y_sti, y_app, y_rem, y_appc, y_ex, y_ife, y_whl, y_for1, y_forN, y_ret, y_retN, y_rai, y_try, y_tryR, x_var, x_lit, x_bin, x_neg, x_cmp, x_chain, x_chain3, x_cio, x_ciL, x_addv, x_and, x_or, x_not, x_tup, x_lst, x_sub, x_slice, x_call, x_bi, x_meth, x_isi, x_range, x_enum, x_zip, x_zips, c_nes, x_dict, x_ditn, evs, evb, evo, tst, brw, isVar, bor, rd, bd_ok, bd_er, bd_st, of_some, of_none, s_ok, s_er, s_st, sb_nx, sb_rt, sb_er, sb_st, val_sh, val_ol, val_od, val_ot, val_er, val_st, blR_bl, truth_bl, truth_lst, intOf_int, c_eq, c_ne, c_lt, c_le, c_gt, c_ge, c_inn, c_nin, c_isN, c_notN, n_non, n_int, n_str, n_tup, n_lst, b_add, b_sub, bi_max2, bi_min2, bi_intB, bi_intI, bi_lenL, bi_lenT, bi_lenS, bi_listL, bi_listT, bi_strS, sub_lst, sub_tup, sub_scr, sub_dic, slc_lst, slc_tup, atI0, atI1, atI2, atI3, atI4, eqV_int, eqV_bl, isi_int, isi_intb, isi_bl, isi_lst, isi_tup, isi_str, fp_sh, fp_ol, fp_nx, sz_0, sz_1, sz_2, sz_3, sz_4, sz_5, sz_6, sz_7, fp_er, res_ok, res_er, itm_lst, itm_tup, itm_str, env0, moved, Option.map_some, Option.map_none, Option.bind_some, List.getElem?_cons_zero, List.getElem?_cons_succ, List.set_cons_zero, List.set_cons_succ, List.map_cons, List.map_nil, List.cons_append, List.nil_append, List.length_cons, List.length_nil, List.replicate, if_true, if_false, Bool.false_eq_true, reduceIte, Bool.not_true, Bool.not_false, s1]) (by unfold szL; omega)
  have en : ((parF t 1).filter fun p => p.2.1).map (fun p => D.str p.1) = t.names.map .str := by
    rw [← hnm, List.map_map]
    rfl
  rw [en] at c1
  have c2 := comp_map2 (G := G) (s := 7) (it := .var 1) (elt := .sub (.var 7) (.lit (.int 2))) (env := [some (.sh t.enc), some (.ol ((parF t 1).map pD)), some (.ol (t.names.map .str)), none, none, none, none, none, none]) (d := .lst ((parF t 1).map pD)) (l := parF t 1) (e := pD) (g := fun p => .int (p.2.2 : Int)) (o := none) rfl rfl rfl (fun a _ => by
      have s1 : subD (pD a) (.int 2) = some (.int (a.2.2 : Int)) := rfl
      generalize pD a = da at s1 ⊢
      generalize (parF t 1).map pD = R
      generalize t.names.map D.str = R2
      generalize t.enc = te
      simp -implicitDefEqProofs only [exB_nil, exB_cons, y_pass, y_set, y_unp, y_par, y_sti, y_app, y_rem, y_appc, y_ex, y_ife, y_whl, y_for1, y_forN, y_ret, y_retN, y_rai, y_try, y_tryR, x_var, x_lit, x_bin, x_neg, x_cmp, x_chain, x_chain3, x_cio, x_ciL, x_addv, x_and, x_or, x_not, x_tup, x_lst, x_sub, x_slice, x_call, x_bi, x_meth, x_isi, x_range, x_enum, x_zip, x_zips, c_nes, x_dict, x_ditn, evs, evb, evo, tst, brw, isVar, bor, rd, bd_ok, bd_er, bd_st, of_some, of_none, s_ok, s_er, s_st, sb_nx, sb_rt, sb_er, sb_st, val_sh, val_ol, val_od, val_ot, val_er, val_st, blR_bl, truth_bl, truth_lst, intOf_int, c_eq, c_ne, c_lt, c_le, c_gt, c_ge, c_inn, c_nin, c_isN, c_notN, n_non, n_int, n_str, n_tup, n_lst, b_add, b_sub, bi_max2, bi_min2, bi_intB, bi_intI, bi_lenL, bi_lenT, bi_lenS, bi_listL, bi_listT, bi_strS, sub_lst, sub_tup, sub_scr, sub_dic, slc_lst, slc_tup, atI0, atI1, atI2, atI3, atI4, eqV_int, eqV_bl, isi_int, isi_intb, isi_bl, isi_lst, isi_tup, isi_str, fp_sh, fp_ol, fp_nx, sz_0, sz_1, sz_2, sz_3, sz_4, sz_5, sz_6, sz_7, fp_er, res_ok, res_er, itm_lst, itm_tup, itm_str, env0, moved, Option.map_some, Option.map_none, Option.bind_some, List.getElem?_cons_zero, List.getElem?_cons_succ, List.set_cons_zero, List.set_cons_succ, List.map_cons, List.map_nil, List.cons_append, List.nil_append, List.length_cons, List.length_nil, List.replicate, if_true, if_false, Bool.false_eq_true, reduceIte, Bool.not_true, Bool.not_false, s1]) (by unfold szL; omega)
  have dv : biD .lset [.lst (t.names.map .str)] = some (.sh (.int (dnT t.names : Int))) := by
    show ((strsD (t.names.map .str)).bind fun l => if l.length < 4000 then some (DV.sh (.int (dnT l))) else none) = _
    rw [strs_map5, Option.bind_some, if_pos (by omega)]
  have ln : biD .len [.lst (t.names.map .str)] = some (.sh (.int (t.names.length : Int))) := by rw [bi_lenL, List.length_map]
  have dp1 : 1 ≤ t.deep := by cases t <;> simp only [Tr.deep] <;> omega
  have mx : biD .max [.lst ((parF t 1).map fun p => .int (p.2.2 : Int))] = some (.sh (.int (t.deep : Int))) := by
    have e : (parF t 1).map (fun p => D.int (p.2.2 : Int)) = ((parF t 1).map fun p => (p.2.2 : Int)).map .int := by rw [List.map_map]; rfl
    rw [e]
    show ((intsD _).bind fun l => (maxL l).map fun m => DV.sh (.int m)) = _
    rw [ints_map5, Option.bind_some]
    have hne : ∃ x l, (parF t 1).map (fun p => (p.2.2 : Int)) = x :: l ∧ 0 < x := by cases t <;> exact ⟨_, _, rfl, by show (0 : Int) < ((1 : Nat) : Int); decide⟩
    obtain ⟨x, l, ex, hx⟩ := hne
    rw [ex] at hmx ⊢
    have hm : mxS 0 (x :: l) = mxS x l := by
      unfold mxS
      rw [List.foldl_cons, if_pos hx]
    rw [hm] at hmx
    show (some (mxS x l)).map _ = _
    rw [hmx, if_pos (by omega)]
    have : 1 + t.deep - 1 = t.deep := by omega
    rw [this]
    rfl
  have nd := dnT_nd t.names
  obtain ⟨l1, l2⟩ := gd_lp (G := G) (some (.sh t.enc)) (some (.sh (.lst ((parF t 1).map pD)))) (some (.ol (t.names.map .str))) (parF t 1) none none none none (fun p hp => by
    have : p.1 ∈ (parF t 1).map (·.1) := List.mem_map_of_mem hp
    rw [hlb] at this
    obtain ⟨u, hu, e⟩ := List.mem_map.mp this
    rw [← e]
    exact hs u hu)
  have eal : (parF t 1).all (fun p => isNm p.1) = t.parts.all fun u => isNm u.lab := by
    have e1 : (parF t 1).all (fun p => isNm p.1) = ((parF t 1).map (·.1)).all isNm := by rw [List.all_map]; rfl
    have e2 : (t.parts.all fun u => isNm u.lab) = (t.parts.map Tr.lab).all isNm := by rw [List.all_map]; rfl
    rw [e1, e2, hlb]
  rw [eal] at l1 l2
  rw [run_eq rfl rfl]
  unfold goodB
  generalize (parF t 1).map (fun p => D.int (p.2.2 : Int)) = R3 at c2 mx
  generalize (parF t 1).map pD = R at *
  generalize t.names.map D.str = NM at *
  generalize t.enc = te at *
  have ne1 : (((dnT t.names : Nat) : Int) == (t.names.length : Int)) = decide t.names.Nodup := by
    rw [← nd, Bool.eq_iff_iff, beq_iff_eq, beq_iff_eq]
    omega
  cases hd : decide t.names.Nodup with
  | false =>
    rw [hd] at ne1
    simp -implicitDefEqProofs only [exB_nil, exB_cons, y_pass, y_set, y_unp, y_par, y_sti, y_app, y_rem, y_appc, y_ex, y_ife, y_whl, y_for1, y_forN, y_ret, y_retN, y_rai, y_try, y_tryR, x_var, x_lit, x_bin, x_neg, x_cmp, x_chain, x_chain3, x_cio, x_ciL, x_addv, x_and, x_or, x_not, x_tup, x_lst, x_sub, x_slice, x_call, x_bi, x_meth, x_isi, x_range, x_enum, x_zip, x_zips, c_nes, x_dict, x_ditn, evs, evb, evo, tst, brw, isVar, bor, rd, bd_ok, bd_er, bd_st, of_some, of_none, s_ok, s_er, s_st, sb_nx, sb_rt, sb_er, sb_st, val_sh, val_ol, val_od, val_ot, val_er, val_st, blR_bl, truth_bl, truth_lst, intOf_int, c_eq, c_ne, c_lt, c_le, c_gt, c_ge, c_inn, c_nin, c_isN, c_notN, n_non, n_int, n_str, n_tup, n_lst, b_add, b_sub, bi_max2, bi_min2, bi_intB, bi_intI, bi_lenL, bi_lenT, bi_lenS, bi_listL, bi_listT, bi_strS, sub_lst, sub_tup, sub_scr, sub_dic, slc_lst, slc_tup, atI0, atI1, atI2, atI3, atI4, eqV_int, eqV_bl, isi_int, isi_intb, isi_bl, isi_lst, isi_tup, isi_str, fp_sh, fp_ol, fp_nx, sz_0, sz_1, sz_2, sz_3, sz_4, sz_5, sz_6, sz_7, fp_er, res_ok, res_er, itm_lst, itm_tup, itm_str, env0, moved, Option.map_some, Option.map_none, Option.bind_some, List.getElem?_cons_zero, List.getElem?_cons_succ, List.set_cons_zero, List.set_cons_succ, List.map_cons, List.map_nil, List.cons_append, List.nil_append, List.length_cons, List.length_nil, List.replicate, if_true, if_false, Bool.false_eq_true, reduceIte, Bool.not_true, Bool.not_false, bodyGd, h27, c1, dv, ln, ne1, Bool.false_and]
  | true =>
    rw [hd] at ne1
    rw [Bool.true_and]
    by_cases h32 : t.names.length ≤ 32
    · have q32 : decide ((32 : Int) < (t.names.length : Int)) = false := decide_eq_false (by omega)
      rw [decide_eq_true h32, Bool.true_and]
      by_cases h24 : t.deep ≤ 24
      · have q24 : decide ((24 : Int) < (t.deep : Int)) = false := decide_eq_false (by omega)
        rw [decide_eq_true h24, Bool.true_and]
        cases ha : t.parts.all fun u => isNm u.lab with
        | true =>
          obtain ⟨e, he⟩ := l1 ha
          simp -implicitDefEqProofs only [exB_nil, exB_cons, y_pass, y_set, y_unp, y_par, y_sti, y_app, y_rem, y_appc, y_ex, y_ife, y_whl, y_for1, y_forN, y_ret, y_retN, y_rai, y_try, y_tryR, x_var, x_lit, x_bin, x_neg, x_cmp, x_chain, x_chain3, x_cio, x_ciL, x_addv, x_and, x_or, x_not, x_tup, x_lst, x_sub, x_slice, x_call, x_bi, x_meth, x_isi, x_range, x_enum, x_zip, x_zips, c_nes, x_dict, x_ditn, evs, evb, evo, tst, brw, isVar, bor, rd, bd_ok, bd_er, bd_st, of_some, of_none, s_ok, s_er, s_st, sb_nx, sb_rt, sb_er, sb_st, val_sh, val_ol, val_od, val_ot, val_er, val_st, blR_bl, truth_bl, truth_lst, intOf_int, c_eq, c_ne, c_lt, c_le, c_gt, c_ge, c_inn, c_nin, c_isN, c_notN, n_non, n_int, n_str, n_tup, n_lst, b_add, b_sub, bi_max2, bi_min2, bi_intB, bi_intI, bi_lenL, bi_lenT, bi_lenS, bi_listL, bi_listT, bi_strS, sub_lst, sub_tup, sub_scr, sub_dic, slc_lst, slc_tup, atI0, atI1, atI2, atI3, atI4, eqV_int, eqV_bl, isi_int, isi_intb, isi_bl, isi_lst, isi_tup, isi_str, fp_sh, fp_ol, fp_nx, sz_0, sz_1, sz_2, sz_3, sz_4, sz_5, sz_6, sz_7, fp_er, res_ok, res_er, itm_lst, itm_tup, itm_str, env0, moved, Option.map_some, Option.map_none, Option.bind_some, List.getElem?_cons_zero, List.getElem?_cons_succ, List.set_cons_zero, List.set_cons_succ, List.map_cons, List.map_nil, List.cons_append, List.nil_append, List.length_cons, List.length_nil, List.replicate, if_true, if_false, Bool.false_eq_true, reduceIte, Bool.not_true, Bool.not_false, bodyGd, h27, c1, dv, ln, ne1, q32, c2, mx, q24, he]
        | false =>
          obtain ⟨e, he⟩ := l2 ha
          simp -implicitDefEqProofs only [exB_nil, exB_cons, y_pass, y_set, y_unp, y_par, y_sti, y_app, y_rem, y_appc, y_ex, y_ife, y_whl, y_for1, y_forN, y_ret, y_retN, y_rai, y_try, y_tryR, x_var, x_lit, x_bin, x_neg, x_cmp, x_chain, x_chain3, x_cio, x_ciL, x_addv, x_and, x_or, x_not, x_tup, x_lst, x_sub, x_slice, x_call, x_bi, x_meth, x_isi, x_range, x_enum, x_zip, x_zips, c_nes, x_dict, x_ditn, evs, evb, evo, tst, brw, isVar, bor, rd, bd_ok, bd_er, bd_st, of_some, of_none, s_ok, s_er, s_st, sb_nx, sb_rt, sb_er, sb_st, val_sh, val_ol, val_od, val_ot, val_er, val_st, blR_bl, truth_bl, truth_lst, intOf_int, c_eq, c_ne, c_lt, c_le, c_gt, c_ge, c_inn, c_nin, c_isN, c_notN, n_non, n_int, n_str, n_tup, n_lst, b_add, b_sub, bi_max2, bi_min2, bi_intB, bi_intI, bi_lenL, bi_lenT, bi_lenS, bi_listL, bi_listT, bi_strS, sub_lst, sub_tup, sub_scr, sub_dic, slc_lst, slc_tup, atI0, atI1, atI2, atI3, atI4, eqV_int, eqV_bl, isi_int, isi_intb, isi_bl, isi_lst, isi_tup, isi_str, fp_sh, fp_ol, fp_nx, sz_0, sz_1, sz_2, sz_3, sz_4, sz_5, sz_6, sz_7, fp_er, res_ok, res_er, itm_lst, itm_tup, itm_str, env0, moved, Option.map_some, Option.map_none, Option.bind_some, List.getElem?_cons_zero, List.getElem?_cons_succ, List.set_cons_zero, List.set_cons_succ, List.map_cons, List.map_nil, List.cons_append, List.nil_append, List.length_cons, List.length_nil, List.replicate, if_true, if_false, Bool.false_eq_true, reduceIte, Bool.not_true, Bool.not_false, bodyGd, h27, c1, dv, ln, ne1, q32, c2, mx, q24, he]
      · have q24 : decide ((24 : Int) < (t.deep : Int)) = true := decide_eq_true (by omega)
        rw [decide_eq_false h24, Bool.false_and]
        simp -implicitDefEqProofs only [exB_nil, exB_cons, y_pass, y_set, y_unp, y_par, y_sti, y_app, y_rem, y_appc, y_ex, y_ife, y_whl, y_for1, y_forN, y_ret, y_retN, y_rai, y_try, y_tryR, x_var, x_lit, x_bin, x_neg, x_cmp, x_chain, x_chain3, x_cio, x_ciL, x_addv, x_and, x_or, x_not, x_tup, x_lst, x_sub, x_slice, x_call, x_bi, x_meth, x_isi, x_range, x_enum, x_zip, x_zips, c_nes, x_dict, x_ditn, evs, evb, evo, tst, brw, isVar, bor, rd, bd_ok, bd_er, bd_st, of_some, of_none, s_ok, s_er, s_st, sb_nx, sb_rt, sb_er, sb_st, val_sh, val_ol, val_od, val_ot, val_er, val_st, blR_bl, truth_bl, truth_lst, intOf_int, c_eq, c_ne, c_lt, c_le, c_gt, c_ge, c_inn, c_nin, c_isN, c_notN, n_non, n_int, n_str, n_tup, n_lst, b_add, b_sub, bi_max2, bi_min2, bi_intB, bi_intI, bi_lenL, bi_lenT, bi_lenS, bi_listL, bi_listT, bi_strS, sub_lst, sub_tup, sub_scr, sub_dic, slc_lst, slc_tup, atI0, atI1, atI2, atI3, atI4, eqV_int, eqV_bl, isi_int, isi_intb, isi_bl, isi_lst, isi_tup, isi_str, fp_sh, fp_ol, fp_nx, sz_0, sz_1, sz_2, sz_3, sz_4, sz_5, sz_6, sz_7, fp_er, res_ok, res_er, itm_lst, itm_tup, itm_str, env0, moved, Option.map_some, Option.map_none, Option.bind_some, List.getElem?_cons_zero, List.getElem?_cons_succ, List.set_cons_zero, List.set_cons_succ, List.map_cons, List.map_nil, List.cons_append, List.nil_append, List.length_cons, List.length_nil, List.replicate, if_true, if_false, Bool.false_eq_true, reduceIte, Bool.not_true, Bool.not_false, bodyGd, h27, c1, dv, ln, ne1, q32, c2, mx, q24]
    · have q32 : decide ((32 : Int) < (t.names.length : Int)) = true := decide_eq_true (by omega)
      rw [decide_eq_false h32, Bool.false_and]
      simp -implicitDefEqProofs only [exB_nil, exB_cons, y_pass, y_set, y_unp, y_par, y_sti, y_app, y_rem, y_appc, y_ex, y_ife, y_whl, y_for1, y_forN, y_ret, y_retN, y_rai, y_try, y_tryR, x_var, x_lit, x_bin, x_neg, x_cmp, x_chain, x_chain3, x_cio, x_ciL, x_addv, x_and, x_or, x_not, x_tup, x_lst, x_sub, x_slice, x_call, x_bi, x_meth, x_isi, x_range, x_enum, x_zip, x_zips, c_nes, x_dict, x_ditn, evs, evb, evo, tst, brw, isVar, bor, rd, bd_ok, bd_er, bd_st, of_some, of_none, s_ok, s_er, s_st, sb_nx, sb_rt, sb_er, sb_st, val_sh, val_ol, val_od, val_ot, val_er, val_st, blR_bl, truth_bl, truth_lst, intOf_int, c_eq, c_ne, c_lt, c_le, c_gt, c_ge, c_inn, c_nin, c_isN, c_notN, n_non, n_int, n_str, n_tup, n_lst, b_add, b_sub, bi_max2, bi_min2, bi_intB, bi_intI, bi_lenL, bi_lenT, bi_lenS, bi_listL, bi_listT, bi_strS, sub_lst, sub_tup, sub_scr, sub_dic, slc_lst, slc_tup, atI0, atI1, atI2, atI3, atI4, eqV_int, eqV_bl, isi_int, isi_intb, isi_bl, isi_lst, isi_tup, isi_str, fp_sh, fp_ol, fp_nx, sz_0, sz_1, sz_2, sz_3, sz_4, sz_5, sz_6, sz_7, fp_er, res_ok, res_er, itm_lst, itm_tup, itm_str, env0, moved, Option.map_some, Option.map_none, Option.bind_some, List.getElem?_cons_zero, List.getElem?_cons_succ, List.set_cons_zero, List.set_cons_succ, List.map_cons, List.map_nil, List.cons_append, List.nil_append, List.length_cons, List.length_nil, List.replicate, if_true, if_false, Bool.false_eq_true, reduceIte, Bool.not_true, Bool.not_false, bodyGd, h27, c1, dv, ln, ne1, q32]
/-! what is good is a formula -/
theorem scan_conv : ∀ (ps : List Tr) (seen : List T), scanF ps seen = none → seen.Nodup → (∀ u ∈ ps, isNm u.lab = true) ∧ (seen ++ ps.flatMap (fun u => match u with | .leaf x => [x] | .knot _ _ _ => [])).Nodup
  | [], seen, _, hn => ⟨(fun u hu => by cases hu), by simpa using hn⟩
  | u :: r, seen, h, hn => by
    unfold scanF at h
    split at h
    · rename_i hu
      cases u with
      | knot f a b =>
        obtain ⟨h1, h2⟩ := scan_conv r seen h hn
        refine ⟨fun v hv => ?_, h2⟩
        rcases List.mem_cons.mp hv with rfl | hv
        · exact hu
        · exact h1 v hv
      | leaf x =>
        by_cases hx : x ∈ seen
        · simp only [if_pos hx] at h
          cases h
        · simp only [if_neg hx] at h
          obtain ⟨h1, h2⟩ := scan_conv r (seen ++ [x]) h (by
            rw [List.nodup_append]
            refine ⟨hn, by simp, fun y hy w hw e => ?_⟩
            rw [List.mem_singleton] at hw
            exact hx (by rw [← hw, ← e]; exact hy))
          refine ⟨fun v hv => ?_, ?_⟩
          · rcases List.mem_cons.mp hv with rfl | hv
            · exact hu
            · exact h1 v hv
          · rw [List.append_assoc] at h2
            exact h2
    · cases h
theorem good_form (t : Tr) : goodB t = true ↔ formF t = none := by
  unfold goodB formF
  rw [Bool.and_eq_true, Bool.and_eq_true, Bool.and_eq_true, decide_eq_true_eq, decide_eq_true_eq, decide_eq_true_eq, List.all_eq_true]
  constructor
  · rintro ⟨h1, h2, h3, h4⟩
    rw [if_neg (by omega)]
    refine scan_none _ _ h4 ?_
    rw [parts_names]
    exact h1
  · intro h
    split at h
    · cases h
    · rename_i hc
      obtain ⟨h1, h2⟩ := scan_conv _ _ h List.nodup_nil
      have h2' : t.names.Nodup := by rw [← parts_names t]; exact h2
      exact ⟨h2', by omega, by omega, h1⟩
theorem good_labs {t : Tr} (h : goodB t = true) : labsOk t ∧ t.deep ≤ 24 ∧ t.names.length ≤ 32 ∧ ∀ u ∈ t.parts, okNm u.lab := by
  unfold goodB at h
  rw [Bool.and_eq_true, Bool.and_eq_true, Bool.and_eq_true, decide_eq_true_eq, decide_eq_true_eq, decide_eq_true_eq, List.all_eq_true] at h
  obtain ⟨h1, h2, h3, h4⟩ := h
  refine ⟨fun u hu z => ?_, h3, h2, fun u hu => okNm_of (h4 u hu)⟩
  have := (okNm_of (h4 u hu)).1
  rw [z] at this
  simp at this
def readF (x : T) : Option Tr := if (lawP 30 x).2 = [] ∧ goodB (lawP 30 x).1 = true then some (lawP 30 x).1 else none
theorem read_two (x : T) : (match parS 24 x with | some (t, []) => (match formF t with | some _ => FR.er 4 | none => .ok (.sh t.enc)) | _ => .er 4) = match readF x with | some t => .ok (.sh t.enc) | none => .er 4 := by
  unfold readF
  by_cases h : (lawP 30 x).2 = [] ∧ goodB (lawP 30 x).1 = true
  · rw [if_pos h]
    obtain ⟨l1, l2, _, _⟩ := good_labs h.2
    rw [law_par 30 x 24 (by decide) l1 l2]
    have hf := (good_form _).mp h.2
    generalize hq : lawP 30 x = q at *
    obtain ⟨t, r⟩ := q
    obtain ⟨h1, _⟩ := h
    have h1 : r = [] := h1
    have hf : formF t = none := hf
    subst h1
    dsimp only
    rw [hf]
  · rw [if_neg h]
    cases hp : parS 24 x with
    | none => rfl
    | some a =>
      obtain ⟨t, r⟩ := a
      have hl := par_law 24 x t r hp 30 (by decide)
      cases r with
      | cons c r => rfl
      | nil =>
        dsimp only
        cases hf : formF t with
        | some c => rfl
        | none =>
          exfalso
          refine h ⟨by rw [hl], ?_⟩
          rw [hl]
          exact (good_form t).mpr hf
end
section
variable {G : Tab} {ns : List Int}
/-! a comb -/
theorem joinE_len : ∀ (l : List T) (m : Nat), (∀ w ∈ l, w.length = m ∧ okT w = true) → (joinL [] l).length = l.length * m ∧ okT (joinL [] l) = true ∧ totL [] l = l.length * m
  | [], m, _ => ⟨by simp [joinL], rfl, by simp [totL]⟩
  | [x], m, h => by
    obtain ⟨a, b⟩ := h x (by simp)
    exact ⟨by simp [joinL, a], b, by simp [totL, a]⟩
  | x :: y :: r, m, h => by
    obtain ⟨a, b⟩ := h x (by simp)
    obtain ⟨i1, i2, i3⟩ := joinE_len (y :: r) m fun w hw => h w (by simp [hw])
    have e : joinL [] (x :: y :: r) = x ++ joinL [] (y :: r) := rfl
    have e2 : totL [] (x :: y :: r) = x.length + 0 + totL [] (y :: r) := rfl
    rw [e, e2]
    refine ⟨?_, okT_ap b i2, ?_⟩
    · rw [List.length_append, i1, a, List.length_cons (as := y :: r), Nat.succ_mul]; omega
    · rw [i3, a, List.length_cons (as := y :: r), Nat.succ_mul]; omega
theorem join_e {l : List T} {m : Nat} (h : ∀ w ∈ l, w.length = m ∧ okT w = true) (hl : l.length ≤ 1000) (hm : m ≤ 1000) : meD .join (.str []) [.lst (l.map .str)] = some (.sh (.str (joinL [] l))) := by
  have ht := (joinE_len l m h).2.2
  have : l.length * m ≤ 1000 * 1000 := Nat.mul_le_mul hl hm
  show ((strsD (l.map .str)).bind fun l => if totL [] l ≤ szL then some (DV.sh (.str (joinL [] l))) else none) = _
  rw [strs_map5, Option.bind_some, if_pos (by unfold szL; omega)]
theorem abc_subI (i : Int) (h0 : 0 ≤ i) (h1 : i < 26) : subD (.str [97, 98, 99, 100, 101, 102, 103, 104, 105, 106, 107, 108, 109, 110, 111, 112, 113, 114, 115, 116, 117, 118, 119, 120, 121, 122]) (.int i) = some (.str [97 + i.toNat]) := by
  have := sub_str abc i (by decide)
  rw [abc_at h0 h1] at this
  exact this
theorem okT_two (a b : Nat) (ha : a < 200) (hb : b < 200) : okT [a, b] = true := by
  unfold okT
  rw [List.all_cons, List.all_cons, decide_eq_true (by omega), decide_eq_true (by omega)]
  rfl
theorem rep_str (x : T) (k : Nat) (hx : x.length ≤ 10) (hk : k ≤ 1000) : binD .mul (.str x) (.int (k : Int)) = some (.sh (.str (rep k x))) := by
  have : x.length * k ≤ 10 * 1000 := Nat.mul_le_mul hx hk
  have h : -2 ^ 63 ≤ (k : Int) ∧ (k : Int) < 2 ^ 63 ∧ x.length * k ≤ szL := ⟨by omega, by omega, by unfold szL; omega⟩
  simp only [binD, mulD, Int.toNat_natCast]
  rw [if_pos h]
theorem run_cb (cell : Int) : ∃ s : T, okT s = true ∧ s.length ≤ 300 ∧ run G ⟨1, 5, bodyCb, none⟩ [.int cell] = .ok (.sh (.str s)) := by
  have q4 : binD .fdiv (.int cell) (.int 4) = some (.sh (.int (cell / 4))) := b_fdiv _ _ (by decide)
  have d26 : binD .mod (.int (cell / 4)) (.int 26) = some (.sh (.int (cell / 4 % 26))) := b_mod _ _ (by decide)
  have q104 : binD .fdiv (.int cell) (.int 104) = some (.sh (.int (cell / 104))) := b_fdiv _ _ (by decide)
  have d2 : binD .mod (.int (cell / 104)) (.int 2) = some (.sh (.int (cell / 104 % 2))) := b_mod _ _ (by decide)
  obtain ⟨m, hm0, hm1, em⟩ : ∃ m : Nat, 22 ≤ m ∧ m < 26 ∧ 22 + cell % 4 = (m : Int) := ⟨(22 + cell % 4).toNat, by omega, by omega, by omega⟩
  have d4 : binD .mod (.int cell) (.int 4) = some (.sh (.int (cell % 4))) := b_mod _ _ (by decide)
  have z0 := Int.emod_nonneg (cell / 4) (show (26 : Int) ≠ 0 by decide)
  have z1 := Int.emod_lt_of_pos (cell / 4) (show (0 : Int) < 26 by decide)
  have sz := abc_subI _ z0 z1
  have r26 : rngD [.int 26] = some ((List.range 26).map fun (k : Nat) => D.int (k : Int)) := rng_1 26 (by decide)
  have rm : rngD [.int (m : Int)] = some ((List.range m).map fun (k : Nat) => D.int (k : Int)) := rng_1 m (by omega)
  generalize hz : 97 + (cell / 4 % 26).toNat = z at sz
  have hz2 : z < 200 := by omega
  generalize cell / 4 % 26 = zi at d26 sz
  have c1 := comp_map2 (G := G) (s := 4) (it := .range [(.lit (.int 26))]) (elt := (.bin .add (.sub (.var 1) (.var 4)) (.sub (.var 1) (.bin .mod (.bin .fdiv (.var 0) (.lit (.int 4))) (.lit (.int 26)))))) (env := [some (.sh (.int cell)), some (.sh (.str [97, 98, 99, 100, 101, 102, 103, 104, 105, 106, 107, 108, 109, 110, 111, 112, 113, 114, 115, 116, 117, 118, 119, 120, 121, 122])), some (.sh (.int (m : Int))), none, none]) (d := .lst ((List.range 26).map fun (k : Nat) => D.int (k : Int))) (l := List.range 26) (e := fun (k : Nat) => D.int (k : Int)) (g := fun k => .str [97 + k, z]) (o := none) (by simp -implicitDefEqProofs only [exB_nil, exB_cons, y_pass, y_set, y_unp, y_par, y_sti, y_app, y_rem, y_appc, y_ex, y_ife, y_whl, y_for1, y_forN, y_ret, y_retN, y_rai, y_try, y_tryR, x_var, x_lit, x_bin, x_neg, x_cmp, x_chain, x_chain3, x_cio, x_ciL, x_addv, x_and, x_or, x_not, x_tup, x_lst, x_sub, x_slice, x_call, x_bi, x_meth, x_isi, x_range, x_enum, x_zip, x_zips, c_nes, x_dict, x_ditn, evs, evb, evo, tst, brw, isVar, bor, rd, bd_ok, bd_er, bd_st, of_some, of_none, s_ok, s_er, s_st, sb_nx, sb_rt, sb_er, sb_st, val_sh, val_ol, val_od, val_ot, val_er, val_st, blR_bl, truth_bl, truth_lst, intOf_int, c_eq, c_ne, c_lt, c_le, c_gt, c_ge, c_inn, c_nin, c_isN, c_notN, n_non, n_int, n_str, n_tup, n_lst, b_add, b_sub, bi_max2, bi_min2, bi_intB, bi_intI, bi_lenL, bi_lenT, bi_lenS, bi_listL, bi_listT, bi_strS, sub_lst, sub_tup, sub_scr, sub_dic, slc_lst, slc_tup, atI0, atI1, atI2, atI3, atI4, eqV_int, eqV_bl, isi_int, isi_intb, isi_bl, isi_lst, isi_tup, isi_str, fp_sh, fp_ol, fp_nx, sz_0, sz_1, sz_2, sz_3, sz_4, sz_5, sz_6, sz_7, fp_er, res_ok, res_er, itm_lst, itm_tup, itm_str, env0, moved, Option.map_some, Option.map_none, Option.bind_some, List.getElem?_cons_zero, List.getElem?_cons_succ, List.set_cons_zero, List.set_cons_succ, List.map_cons, List.map_nil, List.cons_append, List.nil_append, List.length_cons, List.length_nil, List.replicate, if_true, if_false, Bool.false_eq_true, reduceIte, Bool.not_true, Bool.not_false, r26]) rfl rfl (fun k hk => by
    have hk := List.mem_range.mp hk
    have sk := abc_subI (k : Int) (by omega) (by omega)
    rw [Int.toNat_natCast] at sk
    have ad : binD .add (.str [97 + k]) (.str [z]) = some (.sh (.str [97 + k, z])) := b_addS _ _ (by show 2 ≤ szL; decide)
    generalize ([97, 98, 99, 100, 101, 102, 103, 104, 105, 106, 107, 108, 109, 110, 111, 112, 113, 114, 115, 116, 117, 118, 119, 120, 121, 122] : T) = AB at sk sz ⊢
    simp -implicitDefEqProofs only [exB_nil, exB_cons, y_pass, y_set, y_unp, y_par, y_sti, y_app, y_rem, y_appc, y_ex, y_ife, y_whl, y_for1, y_forN, y_ret, y_retN, y_rai, y_try, y_tryR, x_var, x_lit, x_bin, x_neg, x_cmp, x_chain, x_chain3, x_cio, x_ciL, x_addv, x_and, x_or, x_not, x_tup, x_lst, x_sub, x_slice, x_call, x_bi, x_meth, x_isi, x_range, x_enum, x_zip, x_zips, c_nes, x_dict, x_ditn, evs, evb, evo, tst, brw, isVar, bor, rd, bd_ok, bd_er, bd_st, of_some, of_none, s_ok, s_er, s_st, sb_nx, sb_rt, sb_er, sb_st, val_sh, val_ol, val_od, val_ot, val_er, val_st, blR_bl, truth_bl, truth_lst, intOf_int, c_eq, c_ne, c_lt, c_le, c_gt, c_ge, c_inn, c_nin, c_isN, c_notN, n_non, n_int, n_str, n_tup, n_lst, b_add, b_sub, bi_max2, bi_min2, bi_intB, bi_intI, bi_lenL, bi_lenT, bi_lenS, bi_listL, bi_listT, bi_strS, sub_lst, sub_tup, sub_scr, sub_dic, slc_lst, slc_tup, atI0, atI1, atI2, atI3, atI4, eqV_int, eqV_bl, isi_int, isi_intb, isi_bl, isi_lst, isi_tup, isi_str, fp_sh, fp_ol, fp_nx, sz_0, sz_1, sz_2, sz_3, sz_4, sz_5, sz_6, sz_7, fp_er, res_ok, res_er, itm_lst, itm_tup, itm_str, env0, moved, Option.map_some, Option.map_none, Option.bind_some, List.getElem?_cons_zero, List.getElem?_cons_succ, List.set_cons_zero, List.set_cons_succ, List.map_cons, List.map_nil, List.cons_append, List.nil_append, List.length_cons, List.length_nil, List.replicate, if_true, if_false, Bool.false_eq_true, reduceIte, Bool.not_true, Bool.not_false, sk, q4, d26, sz, ad]) (by rw [List.length_range]; decide)
  let nm : Nat → T := fun k => [97 + k, z]
  have at25 : Dl.atI ((List.range 26).map fun k => D.str (nm k)) 25 = some (.str (nm 25)) := rfl
  have atk : ∀ k : Nat, k < 26 → Dl.atI ((List.range 26).map fun k => D.str (nm k)) (k : Int) = some (.str (nm k)) := fun k hk => by
    rw [atI_nat, List.getElem?_map, List.getElem?_range hk]
    rfl
  have ok2 : ∀ k, k < 26 → okT (nm k) = true := fun k hk => okT_two _ _ (by omega) hz2
  have c1 : ev G (.comp 4 (.range [(.lit (.int 26))]) none (.bin .add (.sub (.var 1) (.var 4)) (.sub (.var 1) (.bin .mod (.bin .fdiv (.var 0) (.lit (.int 4))) (.lit (.int 26)))))) [some (.sh (.int cell)), some (.sh (.str [97, 98, 99, 100, 101, 102, 103, 104, 105, 106, 107, 108, 109, 110, 111, 112, 113, 114, 115, 116, 117, 118, 119, 120, 121, 122])), some (.sh (.int (m : Int))), none, none] = .ok (.ol ((List.range 26).map fun k => D.str (nm k))) _ := c1
  generalize (List.range 26).map (fun k => D.str (nm k)) = NM at c1 at25 atk
  rcases (show cell / 104 % 2 = 0 ∨ cell / 104 % 2 = 1 by omega) with hc | hc
  · rw [hc] at d2
    have e0 : ((0 : Int) == 0) = true := rfl
    let f : Nat → T := fun k => [32] ++ nm k ++ [41]
    have cf := comp_map2 (G := G) (s := 4) (it := .range [(.var 2)]) (elt := (.bin .add (.bin .add (.lit (.str [32])) (.sub (.var 3) (.var 4))) (.lit (.str [41])))) (env := [some (.sh (.int cell)), some (.sh (.str [97, 98, 99, 100, 101, 102, 103, 104, 105, 106, 107, 108, 109, 110, 111, 112, 113, 114, 115, 116, 117, 118, 119, 120, 121, 122])), some (.sh (.int (m : Int))), some (.ol NM), none]) (d := .lst ((List.range m).map fun (k : Nat) => D.int (k : Int))) (l := List.range m) (e := fun (k : Nat) => D.int (k : Int)) (g := fun k => .str (f k)) (o := none) (by simp -implicitDefEqProofs only [exB_nil, exB_cons, y_pass, y_set, y_unp, y_par, y_sti, y_app, y_rem, y_appc, y_ex, y_ife, y_whl, y_for1, y_forN, y_ret, y_retN, y_rai, y_try, y_tryR, x_var, x_lit, x_bin, x_neg, x_cmp, x_chain, x_chain3, x_cio, x_ciL, x_addv, x_and, x_or, x_not, x_tup, x_lst, x_sub, x_slice, x_call, x_bi, x_meth, x_isi, x_range, x_enum, x_zip, x_zips, c_nes, x_dict, x_ditn, evs, evb, evo, tst, brw, isVar, bor, rd, bd_ok, bd_er, bd_st, of_some, of_none, s_ok, s_er, s_st, sb_nx, sb_rt, sb_er, sb_st, val_sh, val_ol, val_od, val_ot, val_er, val_st, blR_bl, truth_bl, truth_lst, intOf_int, c_eq, c_ne, c_lt, c_le, c_gt, c_ge, c_inn, c_nin, c_isN, c_notN, n_non, n_int, n_str, n_tup, n_lst, b_add, b_sub, bi_max2, bi_min2, bi_intB, bi_intI, bi_lenL, bi_lenT, bi_lenS, bi_listL, bi_listT, bi_strS, sub_lst, sub_tup, sub_scr, sub_dic, slc_lst, slc_tup, atI0, atI1, atI2, atI3, atI4, eqV_int, eqV_bl, isi_int, isi_intb, isi_bl, isi_lst, isi_tup, isi_str, fp_sh, fp_ol, fp_nx, sz_0, sz_1, sz_2, sz_3, sz_4, sz_5, sz_6, sz_7, fp_er, res_ok, res_er, itm_lst, itm_tup, itm_str, env0, moved, Option.map_some, Option.map_none, Option.bind_some, List.getElem?_cons_zero, List.getElem?_cons_succ, List.set_cons_zero, List.set_cons_succ, List.map_cons, List.map_nil, List.cons_append, List.nil_append, List.length_cons, List.length_nil, List.replicate, if_true, if_false, Bool.false_eq_true, reduceIte, Bool.not_true, Bool.not_false, rm]) rfl rfl (fun k hk => by
      have hk := List.mem_range.mp hk
      have ak := atk k (by omega)
      have a1 : binD .add (.str [32]) (.str (nm k)) = some (.sh (.str ([32] ++ nm k))) := b_addS _ _ (by show 3 ≤ szL; decide)
      have a2 : binD .add (.str ([32] ++ nm k)) (.str [41]) = some (.sh (.str (f k))) := b_addS _ _ (by show 4 ≤ szL; decide)
      generalize f k = fk at a2 ⊢
      generalize [32] ++ nm k = fk1 at a1 a2
      generalize nm k = nk at ak a1
      simp -implicitDefEqProofs only [exB_nil, exB_cons, y_pass, y_set, y_unp, y_par, y_sti, y_app, y_rem, y_appc, y_ex, y_ife, y_whl, y_for1, y_forN, y_ret, y_retN, y_rai, y_try, y_tryR, x_var, x_lit, x_bin, x_neg, x_cmp, x_chain, x_chain3, x_cio, x_ciL, x_addv, x_and, x_or, x_not, x_tup, x_lst, x_sub, x_slice, x_call, x_bi, x_meth, x_isi, x_range, x_enum, x_zip, x_zips, c_nes, x_dict, x_ditn, evs, evb, evo, tst, brw, isVar, bor, rd, bd_ok, bd_er, bd_st, of_some, of_none, s_ok, s_er, s_st, sb_nx, sb_rt, sb_er, sb_st, val_sh, val_ol, val_od, val_ot, val_er, val_st, blR_bl, truth_bl, truth_lst, intOf_int, c_eq, c_ne, c_lt, c_le, c_gt, c_ge, c_inn, c_nin, c_isN, c_notN, n_non, n_int, n_str, n_tup, n_lst, b_add, b_sub, bi_max2, bi_min2, bi_intB, bi_intI, bi_lenL, bi_lenT, bi_lenS, bi_listL, bi_listT, bi_strS, sub_lst, sub_tup, sub_scr, sub_dic, slc_lst, slc_tup, atI0, atI1, atI2, atI3, atI4, eqV_int, eqV_bl, isi_int, isi_intb, isi_bl, isi_lst, isi_tup, isi_str, fp_sh, fp_ol, fp_nx, sz_0, sz_1, sz_2, sz_3, sz_4, sz_5, sz_6, sz_7, fp_er, res_ok, res_er, itm_lst, itm_tup, itm_str, env0, moved, Option.map_some, Option.map_none, Option.bind_some, List.getElem?_cons_zero, List.getElem?_cons_succ, List.set_cons_zero, List.set_cons_succ, List.map_cons, List.map_nil, List.cons_append, List.nil_append, List.length_cons, List.length_nil, List.replicate, if_true, if_false, Bool.false_eq_true, reduceIte, Bool.not_true, Bool.not_false, ak, a1, a2]) (by rw [List.length_range]; unfold szL; omega)
    have hf : ∀ w ∈ (List.range m).map f, w.length = 4 ∧ okT w = true := fun w hw => by
      obtain ⟨k, hk, rfl⟩ := List.mem_map.mp hw
      exact ⟨rfl, okT_ap (okT_ap rfl (ok2 k (by have := List.mem_range.mp hk; omega))) rfl⟩
    have jn := join_e hf (by rw [List.length_map, List.length_range]; omega) (by decide)
    obtain ⟨j1, j2, _⟩ := joinE_len _ 4 hf
    rw [List.length_map, List.length_range] at j1
    have ef : (List.range m).map (fun k => D.str (f k)) = ((List.range m).map f).map .str := by rw [List.map_map]; rfl
    rw [ef] at cf
    generalize (List.range m).map f = FL at cf jn j1 j2
    have rp := rep_str [102, 40] m (by decide) (by omega)
    obtain ⟨o1, o2⟩ := okT_rep (x := [102, 40]) rfl m
    have b1 : binD .add (.str (rep m [102, 40])) (.str (nm 25)) = some (.sh (.str (rep m [102, 40] ++ nm 25))) := b_addS _ _ (by rw [o2]; show m * 2 + 2 ≤ szL; unfold szL; omega)
    have b2 : binD .add (.str (rep m [102, 40] ++ nm 25)) (.str (joinL [] FL)) = some (.sh (.str (rep m [102, 40] ++ nm 25 ++ joinL [] FL))) := b_addS _ _ (by rw [List.length_append, o2, j1]; show m * 2 + 2 + m * 4 ≤ szL; unfold szL; omega)
    refine ⟨rep m [102, 40] ++ nm 25 ++ joinL [] FL, okT_ap (okT_ap o1 (ok2 25 (by decide))) j2, by rw [List.length_append, List.length_append, o2, j1]; show m * 2 + 2 + m * 4 ≤ 300; omega, ?_⟩
    generalize rep m [102, 40] ++ nm 25 ++ joinL [] FL = R at b2 ⊢
    generalize rep m [102, 40] ++ nm 25 = R1 at b1 b2
    generalize rep m [102, 40] = R0 at rp b1
    generalize joinL [] FL = JF at jn b2
    generalize FL.map D.str = FD at cf jn
    generalize nm 25 = n25 at at25 b1
    rw [run_eq rfl rfl]
    have mt : meT .join (.str []) = true := rfl
    simp -implicitDefEqProofs only [exB_nil, exB_cons, y_pass, y_set, y_unp, y_par, y_sti, y_app, y_rem, y_appc, y_ex, y_ife, y_whl, y_for1, y_forN, y_ret, y_retN, y_rai, y_try, y_tryR, x_var, x_lit, x_bin, x_neg, x_cmp, x_chain, x_chain3, x_cio, x_ciL, x_addv, x_and, x_or, x_not, x_tup, x_lst, x_sub, x_slice, x_call, x_bi, x_meth, x_isi, x_range, x_enum, x_zip, x_zips, c_nes, x_dict, x_ditn, evs, evb, evo, tst, brw, isVar, bor, rd, bd_ok, bd_er, bd_st, of_some, of_none, s_ok, s_er, s_st, sb_nx, sb_rt, sb_er, sb_st, val_sh, val_ol, val_od, val_ot, val_er, val_st, blR_bl, truth_bl, truth_lst, intOf_int, c_eq, c_ne, c_lt, c_le, c_gt, c_ge, c_inn, c_nin, c_isN, c_notN, n_non, n_int, n_str, n_tup, n_lst, b_add, b_sub, bi_max2, bi_min2, bi_intB, bi_intI, bi_lenL, bi_lenT, bi_lenS, bi_listL, bi_listT, bi_strS, sub_lst, sub_tup, sub_scr, sub_dic, slc_lst, slc_tup, atI0, atI1, atI2, atI3, atI4, eqV_int, eqV_bl, isi_int, isi_intb, isi_bl, isi_lst, isi_tup, isi_str, fp_sh, fp_ol, fp_nx, sz_0, sz_1, sz_2, sz_3, sz_4, sz_5, sz_6, sz_7, fp_er, res_ok, res_er, itm_lst, itm_tup, itm_str, env0, moved, Option.map_some, Option.map_none, Option.bind_some, List.getElem?_cons_zero, List.getElem?_cons_succ, List.set_cons_zero, List.set_cons_succ, List.map_cons, List.map_nil, List.cons_append, List.nil_append, List.length_cons, List.length_nil, List.replicate, if_true, if_false, Bool.false_eq_true, reduceIte, Bool.not_true, Bool.not_false, bodyCb, d4, em, c1, q104, d2, e0, rp, at25, b1, cf, jn, mt, b2]
  · rw [hc] at d2
    have e0 : ((1 : Int) == 0) = false := rfl
    let f : Nat → T := fun k => [102, 40] ++ nm k ++ [32]
    have cf := comp_map2 (G := G) (s := 4) (it := .range [(.var 2)]) (elt := (.bin .add (.bin .add (.lit (.str [102, 40])) (.sub (.var 3) (.var 4))) (.lit (.str [32])))) (env := [some (.sh (.int cell)), some (.sh (.str [97, 98, 99, 100, 101, 102, 103, 104, 105, 106, 107, 108, 109, 110, 111, 112, 113, 114, 115, 116, 117, 118, 119, 120, 121, 122])), some (.sh (.int (m : Int))), some (.ol NM), none]) (d := .lst ((List.range m).map fun (k : Nat) => D.int (k : Int))) (l := List.range m) (e := fun (k : Nat) => D.int (k : Int)) (g := fun k => .str (f k)) (o := none) (by simp -implicitDefEqProofs only [exB_nil, exB_cons, y_pass, y_set, y_unp, y_par, y_sti, y_app, y_rem, y_appc, y_ex, y_ife, y_whl, y_for1, y_forN, y_ret, y_retN, y_rai, y_try, y_tryR, x_var, x_lit, x_bin, x_neg, x_cmp, x_chain, x_chain3, x_cio, x_ciL, x_addv, x_and, x_or, x_not, x_tup, x_lst, x_sub, x_slice, x_call, x_bi, x_meth, x_isi, x_range, x_enum, x_zip, x_zips, c_nes, x_dict, x_ditn, evs, evb, evo, tst, brw, isVar, bor, rd, bd_ok, bd_er, bd_st, of_some, of_none, s_ok, s_er, s_st, sb_nx, sb_rt, sb_er, sb_st, val_sh, val_ol, val_od, val_ot, val_er, val_st, blR_bl, truth_bl, truth_lst, intOf_int, c_eq, c_ne, c_lt, c_le, c_gt, c_ge, c_inn, c_nin, c_isN, c_notN, n_non, n_int, n_str, n_tup, n_lst, b_add, b_sub, bi_max2, bi_min2, bi_intB, bi_intI, bi_lenL, bi_lenT, bi_lenS, bi_listL, bi_listT, bi_strS, sub_lst, sub_tup, sub_scr, sub_dic, slc_lst, slc_tup, atI0, atI1, atI2, atI3, atI4, eqV_int, eqV_bl, isi_int, isi_intb, isi_bl, isi_lst, isi_tup, isi_str, fp_sh, fp_ol, fp_nx, sz_0, sz_1, sz_2, sz_3, sz_4, sz_5, sz_6, sz_7, fp_er, res_ok, res_er, itm_lst, itm_tup, itm_str, env0, moved, Option.map_some, Option.map_none, Option.bind_some, List.getElem?_cons_zero, List.getElem?_cons_succ, List.set_cons_zero, List.set_cons_succ, List.map_cons, List.map_nil, List.cons_append, List.nil_append, List.length_cons, List.length_nil, List.replicate, if_true, if_false, Bool.false_eq_true, reduceIte, Bool.not_true, Bool.not_false, rm]) rfl rfl (fun k hk => by
      have hk := List.mem_range.mp hk
      have ak := atk k (by omega)
      have a1 : binD .add (.str [102, 40]) (.str (nm k)) = some (.sh (.str ([102, 40] ++ nm k))) := b_addS _ _ (by show 4 ≤ szL; decide)
      have a2 : binD .add (.str ([102, 40] ++ nm k)) (.str [32]) = some (.sh (.str (f k))) := b_addS _ _ (by show 5 ≤ szL; decide)
      generalize f k = fk at a2 ⊢
      generalize [102, 40] ++ nm k = fk1 at a1 a2
      generalize nm k = nk at ak a1
      simp -implicitDefEqProofs only [exB_nil, exB_cons, y_pass, y_set, y_unp, y_par, y_sti, y_app, y_rem, y_appc, y_ex, y_ife, y_whl, y_for1, y_forN, y_ret, y_retN, y_rai, y_try, y_tryR, x_var, x_lit, x_bin, x_neg, x_cmp, x_chain, x_chain3, x_cio, x_ciL, x_addv, x_and, x_or, x_not, x_tup, x_lst, x_sub, x_slice, x_call, x_bi, x_meth, x_isi, x_range, x_enum, x_zip, x_zips, c_nes, x_dict, x_ditn, evs, evb, evo, tst, brw, isVar, bor, rd, bd_ok, bd_er, bd_st, of_some, of_none, s_ok, s_er, s_st, sb_nx, sb_rt, sb_er, sb_st, val_sh, val_ol, val_od, val_ot, val_er, val_st, blR_bl, truth_bl, truth_lst, intOf_int, c_eq, c_ne, c_lt, c_le, c_gt, c_ge, c_inn, c_nin, c_isN, c_notN, n_non, n_int, n_str, n_tup, n_lst, b_add, b_sub, bi_max2, bi_min2, bi_intB, bi_intI, bi_lenL, bi_lenT, bi_lenS, bi_listL, bi_listT, bi_strS, sub_lst, sub_tup, sub_scr, sub_dic, slc_lst, slc_tup, atI0, atI1, atI2, atI3, atI4, eqV_int, eqV_bl, isi_int, isi_intb, isi_bl, isi_lst, isi_tup, isi_str, fp_sh, fp_ol, fp_nx, sz_0, sz_1, sz_2, sz_3, sz_4, sz_5, sz_6, sz_7, fp_er, res_ok, res_er, itm_lst, itm_tup, itm_str, env0, moved, Option.map_some, Option.map_none, Option.bind_some, List.getElem?_cons_zero, List.getElem?_cons_succ, List.set_cons_zero, List.set_cons_succ, List.map_cons, List.map_nil, List.cons_append, List.nil_append, List.length_cons, List.length_nil, List.replicate, if_true, if_false, Bool.false_eq_true, reduceIte, Bool.not_true, Bool.not_false, ak, a1, a2]) (by rw [List.length_range]; unfold szL; omega)
    have hf : ∀ w ∈ (List.range m).map f, w.length = 5 ∧ okT w = true := fun w hw => by
      obtain ⟨k, hk, rfl⟩ := List.mem_map.mp hw
      exact ⟨rfl, okT_ap (okT_ap rfl (ok2 k (by have := List.mem_range.mp hk; omega))) rfl⟩
    have jn := join_e hf (by rw [List.length_map, List.length_range]; omega) (by decide)
    obtain ⟨j1, j2, _⟩ := joinE_len _ 5 hf
    rw [List.length_map, List.length_range] at j1
    have ef : (List.range m).map (fun k => D.str (f k)) = ((List.range m).map f).map .str := by rw [List.map_map]; rfl
    rw [ef] at cf
    generalize (List.range m).map f = FL at cf jn j1 j2
    have rp := rep_str [41] m (by decide) (by omega)
    obtain ⟨o1, o2⟩ := okT_rep (x := [41]) rfl m
    have b1 : binD .add (.str (joinL [] FL)) (.str (nm 25)) = some (.sh (.str (joinL [] FL ++ nm 25))) := b_addS _ _ (by rw [j1]; show m * 5 + 2 ≤ szL; unfold szL; omega)
    have b2 : binD .add (.str (joinL [] FL ++ nm 25)) (.str (rep m [41])) = some (.sh (.str (joinL [] FL ++ nm 25 ++ rep m [41]))) := b_addS _ _ (by rw [List.length_append, o2, j1]; show m * 5 + 2 + m * 1 ≤ szL; unfold szL; omega)
    refine ⟨joinL [] FL ++ nm 25 ++ rep m [41], okT_ap (okT_ap j2 (ok2 25 (by decide))) o1, by rw [List.length_append, List.length_append, o2, j1]; show m * 5 + 2 + m * 1 ≤ 300; omega, ?_⟩
    generalize joinL [] FL ++ nm 25 ++ rep m [41] = R at b2 ⊢
    generalize joinL [] FL ++ nm 25 = R1 at b1 b2
    generalize rep m [41] = R0 at rp b2
    generalize joinL [] FL = JF at jn b1
    generalize FL.map D.str = FD at cf jn
    generalize nm 25 = n25 at at25 b1
    rw [run_eq rfl rfl]
    have mt : meT .join (.str []) = true := rfl
    simp -implicitDefEqProofs only [exB_nil, exB_cons, y_pass, y_set, y_unp, y_par, y_sti, y_app, y_rem, y_appc, y_ex, y_ife, y_whl, y_for1, y_forN, y_ret, y_retN, y_rai, y_try, y_tryR, x_var, x_lit, x_bin, x_neg, x_cmp, x_chain, x_chain3, x_cio, x_ciL, x_addv, x_and, x_or, x_not, x_tup, x_lst, x_sub, x_slice, x_call, x_bi, x_meth, x_isi, x_range, x_enum, x_zip, x_zips, c_nes, x_dict, x_ditn, evs, evb, evo, tst, brw, isVar, bor, rd, bd_ok, bd_er, bd_st, of_some, of_none, s_ok, s_er, s_st, sb_nx, sb_rt, sb_er, sb_st, val_sh, val_ol, val_od, val_ot, val_er, val_st, blR_bl, truth_bl, truth_lst, intOf_int, c_eq, c_ne, c_lt, c_le, c_gt, c_ge, c_inn, c_nin, c_isN, c_notN, n_non, n_int, n_str, n_tup, n_lst, b_add, b_sub, bi_max2, bi_min2, bi_intB, bi_intI, bi_lenL, bi_lenT, bi_lenS, bi_listL, bi_listT, bi_strS, sub_lst, sub_tup, sub_scr, sub_dic, slc_lst, slc_tup, atI0, atI1, atI2, atI3, atI4, eqV_int, eqV_bl, isi_int, isi_intb, isi_bl, isi_lst, isi_tup, isi_str, fp_sh, fp_ol, fp_nx, sz_0, sz_1, sz_2, sz_3, sz_4, sz_5, sz_6, sz_7, fp_er, res_ok, res_er, itm_lst, itm_tup, itm_str, env0, moved, Option.map_some, Option.map_none, Option.bind_some, List.getElem?_cons_zero, List.getElem?_cons_succ, List.set_cons_zero, List.set_cons_succ, List.map_cons, List.map_nil, List.cons_append, List.nil_append, List.length_cons, List.length_nil, List.replicate, if_true, if_false, Bool.false_eq_true, reduceIte, Bool.not_true, Bool.not_false, bodyCb, d4, em, c1, q104, d2, e0, rp, at25, b1, cf, jn, mt, b2]
/-! the text is made -/
def TxP (x : T) : Prop := okT x = true ∧ x.length ≤ 1600
theorem i1_ok (hA : AtOk G ns) (t : Tr) (X : T) (hX : TxP X) : ∃ Y, TxP Y ∧ exS G i1_05 [some (.sh (.scr ns)), some (.sh (.str (txF t))), some (.sh (.str X)), none, none, none, none, none, none, none, none, none] = .nx [some (.sh (.scr ns)), some (.sh (.str (txF t))), some (.sh (.str Y)), none, none, none, none, none, none, none, none, none] := by
  have a30 : G.fn 2 [.scr ns, .int 30] = .ok (.sh (.int (atF ns 30))) := hA 30 (by decide)
  have a31 : G.fn 2 [.scr ns, .int 31] = .ok (.sh (.int (atF ns 31))) := hA 31 (by decide)
  generalize atF ns 30 = c0 at a30
  generalize atF ns 31 = c1 at a31
  generalize txF t = TX
  have d3 : binD .mod (.int c0) (.int 3) = some (.sh (.int (c0 % 3))) := b_mod _ _ (by decide)
  by_cases hc : c0 % 3 = 1
  · rw [hc] at d3
    have e1 : ((1 : Int) == 1) = true := rfl
    have q3 : binD .fdiv (.int c0) (.int 3) = some (.sh (.int (c0 / 3))) := b_fdiv _ _ (by decide)
    obtain ⟨p, hp, ep⟩ : ∃ p : Nat, p ≤ 300 ∧ c0 / 3 % 301 = (p : Int) := ⟨(c0 / 3 % 301).toNat, by omega, by omega⟩
    obtain ⟨q, hq, eq⟩ : ∃ q : Nat, q ≤ 300 ∧ c1 % 301 = (q : Int) := ⟨(c1 % 301).toNat, by omega, by omega⟩
    have dp : binD .mod (.int (c0 / 3)) (.int 301) = some (.sh (.int (p : Int))) := by rw [← ep]; exact b_mod _ _ (by decide)
    have dq : binD .mod (.int c1) (.int 301) = some (.sh (.int (q : Int))) := by rw [← eq]; exact b_mod _ _ (by decide)
    have r1 := rep_str [102, 40] p (by decide) (by omega)
    have r2 := rep_str [32, 98, 41] q (by decide) (by omega)
    obtain ⟨o1, l1⟩ := okT_rep (x := [102, 40]) rfl p
    obtain ⟨o2, l2⟩ := okT_rep (x := [32, 98, 41]) rfl q
    have l1 : (rep p [102, 40]).length = p * 2 := l1
    have l2 : (rep q [32, 98, 41]).length = q * 3 := l2
    have b1 : binD .add (.str (rep p [102, 40])) (.str [97]) = some (.sh (.str (rep p [102, 40] ++ [97]))) := b_addS _ _ (by rw [l1]; show p * 2 + 1 ≤ szL; unfold szL; omega)
    have b2 : binD .add (.str (rep p [102, 40] ++ [97])) (.str (rep q [32, 98, 41])) = some (.sh (.str (rep p [102, 40] ++ [97] ++ rep q [32, 98, 41]))) := b_addS _ _ (by rw [List.length_append, l1, l2]; show p * 2 + 1 + q * 3 ≤ szL; unfold szL; omega)
    refine ⟨rep p [102, 40] ++ [97] ++ rep q [32, 98, 41], ⟨okT_ap (okT_ap o1 rfl) o2, by rw [List.length_append, List.length_append, l1, l2]; show p * 2 + 1 + q * 3 ≤ 1600; omega⟩, ?_⟩
    generalize rep p [102, 40] ++ [97] ++ rep q [32, 98, 41] = R at b2 ⊢
    generalize rep p [102, 40] ++ [97] = R1 at b1 b2
    generalize rep p [102, 40] = R2 at r1 b1
    generalize rep q [32, 98, 41] = R3 at r2 b2
    simp -implicitDefEqProofs only [exB_nil, exB_cons, y_pass, y_set, y_unp, y_par, y_sti, y_app, y_rem, y_appc, y_ex, y_ife, y_whl, y_for1, y_forN, y_ret, y_retN, y_rai, y_try, y_tryR, x_var, x_lit, x_bin, x_neg, x_cmp, x_chain, x_chain3, x_cio, x_ciL, x_addv, x_and, x_or, x_not, x_tup, x_lst, x_sub, x_slice, x_call, x_bi, x_meth, x_isi, x_range, x_enum, x_zip, x_zips, c_nes, x_dict, x_ditn, evs, evb, evo, tst, brw, isVar, bor, rd, bd_ok, bd_er, bd_st, of_some, of_none, s_ok, s_er, s_st, sb_nx, sb_rt, sb_er, sb_st, val_sh, val_ol, val_od, val_ot, val_er, val_st, blR_bl, truth_bl, truth_lst, intOf_int, c_eq, c_ne, c_lt, c_le, c_gt, c_ge, c_inn, c_nin, c_isN, c_notN, n_non, n_int, n_str, n_tup, n_lst, b_add, b_sub, bi_max2, bi_min2, bi_intB, bi_intI, bi_lenL, bi_lenT, bi_lenS, bi_listL, bi_listT, bi_strS, sub_lst, sub_tup, sub_scr, sub_dic, slc_lst, slc_tup, atI0, atI1, atI2, atI3, atI4, eqV_int, eqV_bl, isi_int, isi_intb, isi_bl, isi_lst, isi_tup, isi_str, fp_sh, fp_ol, fp_nx, sz_0, sz_1, sz_2, sz_3, sz_4, sz_5, sz_6, sz_7, fp_er, res_ok, res_er, itm_lst, itm_tup, itm_str, env0, moved, Option.map_some, Option.map_none, Option.bind_some, List.getElem?_cons_zero, List.getElem?_cons_succ, List.set_cons_zero, List.set_cons_succ, List.map_cons, List.map_nil, List.cons_append, List.nil_append, List.length_cons, List.length_nil, List.replicate, if_true, if_false, Bool.false_eq_true, reduceIte, Bool.not_true, Bool.not_false, i1_05, a30, d3, e1, q3, dp, r1, b1, a31, dq, r2, b2]
  · have e1 : (c0 % 3 == 1) = false := beq_eq_false_iff_ne.mpr hc
    refine ⟨X, hX, ?_⟩
    simp -implicitDefEqProofs only [exB_nil, exB_cons, y_pass, y_set, y_unp, y_par, y_sti, y_app, y_rem, y_appc, y_ex, y_ife, y_whl, y_for1, y_forN, y_ret, y_retN, y_rai, y_try, y_tryR, x_var, x_lit, x_bin, x_neg, x_cmp, x_chain, x_chain3, x_cio, x_ciL, x_addv, x_and, x_or, x_not, x_tup, x_lst, x_sub, x_slice, x_call, x_bi, x_meth, x_isi, x_range, x_enum, x_zip, x_zips, c_nes, x_dict, x_ditn, evs, evb, evo, tst, brw, isVar, bor, rd, bd_ok, bd_er, bd_st, of_some, of_none, s_ok, s_er, s_st, sb_nx, sb_rt, sb_er, sb_st, val_sh, val_ol, val_od, val_ot, val_er, val_st, blR_bl, truth_bl, truth_lst, intOf_int, c_eq, c_ne, c_lt, c_le, c_gt, c_ge, c_inn, c_nin, c_isN, c_notN, n_non, n_int, n_str, n_tup, n_lst, b_add, b_sub, bi_max2, bi_min2, bi_intB, bi_intI, bi_lenL, bi_lenT, bi_lenS, bi_listL, bi_listT, bi_strS, sub_lst, sub_tup, sub_scr, sub_dic, slc_lst, slc_tup, atI0, atI1, atI2, atI3, atI4, eqV_int, eqV_bl, isi_int, isi_intb, isi_bl, isi_lst, isi_tup, isi_str, fp_sh, fp_ol, fp_nx, sz_0, sz_1, sz_2, sz_3, sz_4, sz_5, sz_6, sz_7, fp_er, res_ok, res_er, itm_lst, itm_tup, itm_str, env0, moved, Option.map_some, Option.map_none, Option.bind_some, List.getElem?_cons_zero, List.getElem?_cons_succ, List.set_cons_zero, List.set_cons_succ, List.map_cons, List.map_nil, List.cons_append, List.nil_append, List.length_cons, List.length_nil, List.replicate, if_true, if_false, Bool.false_eq_true, reduceIte, Bool.not_true, Bool.not_false, i1_05, a30, d3, e1]
theorem i2_ok (hA : AtOk G ns) (t : Tr) (ht : okT (txF t) = true ∧ (txF t).length ≤ 1000) (m : Int) (n0 : T) (nr : List D) (hn : okT n0 = true ∧ n0.length ≤ 8) (h5 : G.fn 5 [.scr ns] = .ok (.sh (.int (secF ns)))) (h4 : G.fn 4 [.scr ns] = .ok (.sh (.int m))) (h3 : G.fn 3 [.int (secF ns), .int m] = .ok (.ol (.str n0 :: nr))) (X : T) (hX : TxP X) : ∃ Y, TxP Y ∧ exS G i2_05 [some (.sh (.scr ns)), some (.sh (.str (txF t))), some (.sh (.str X)), none, none, none, none, none, none, none, none, none] = .nx [some (.sh (.scr ns)), some (.sh (.str (txF t))), some (.sh (.str Y)), none, none, none, none, none, none, none, none, none] := by
  have a30 : G.fn 2 [.scr ns, .int 30] = .ok (.sh (.int (atF ns 30))) := hA 30 (by decide)
  generalize atF ns 30 = c0 at a30
  generalize secF ns = se at h5 h3
  obtain ⟨t1, t2⟩ := ht
  generalize txF t = TX at *
  have d3 : binD .mod (.int c0) (.int 12) = some (.sh (.int (c0 % 12))) := b_mod _ _ (by decide)
  by_cases hc : c0 % 12 = 2
  · rw [hc] at d3
    have e1 : ((2 : Int) == 2) = true := rfl
    have s0 : subD (.lst (.str n0 :: nr)) (.int 0) = some (.str n0) := atI0 _ _
    have b1 : binD .add (.str [102, 40]) (.str TX) = some (.sh (.str ([102, 40] ++ TX))) := b_addS _ _ (by show 2 + TX.length ≤ szL; unfold szL; omega)
    have b2 : binD .add (.str ([102, 40] ++ TX)) (.str [32]) = some (.sh (.str ([102, 40] ++ TX ++ [32]))) := b_addS _ _ (by rw [List.length_append]; show 2 + TX.length + 1 ≤ szL; unfold szL; omega)
    have b3 : binD .add (.str ([102, 40] ++ TX ++ [32])) (.str n0) = some (.sh (.str ([102, 40] ++ TX ++ [32] ++ n0))) := b_addS _ _ (by rw [List.length_append, List.length_append]; show 2 + TX.length + 1 + n0.length ≤ szL; unfold szL; omega)
    have b4 : binD .add (.str ([102, 40] ++ TX ++ [32] ++ n0)) (.str [41]) = some (.sh (.str ([102, 40] ++ TX ++ [32] ++ n0 ++ [41]))) := b_addS _ _ (by rw [List.length_append, List.length_append, List.length_append]; show 2 + TX.length + 1 + n0.length + 1 ≤ szL; unfold szL; omega)
    refine ⟨[102, 40] ++ TX ++ [32] ++ n0 ++ [41], ⟨okT_ap (okT_ap (okT_ap (okT_ap rfl t1) rfl) hn.1) rfl, by rw [List.length_append, List.length_append, List.length_append, List.length_append]; show 2 + TX.length + 1 + n0.length + 1 ≤ 1600; omega⟩, ?_⟩
    generalize [102, 40] ++ TX ++ [32] ++ n0 ++ [41] = R at b4 ⊢
    generalize [102, 40] ++ TX ++ [32] ++ n0 = R1 at b3 b4
    generalize [102, 40] ++ TX ++ [32] = R2 at b2 b3
    generalize [102, 40] ++ TX = R3 at b1 b2
    generalize D.str n0 :: nr = NM at h3 s0
    simp -implicitDefEqProofs only [exB_nil, exB_cons, y_pass, y_set, y_unp, y_par, y_sti, y_app, y_rem, y_appc, y_ex, y_ife, y_whl, y_for1, y_forN, y_ret, y_retN, y_rai, y_try, y_tryR, x_var, x_lit, x_bin, x_neg, x_cmp, x_chain, x_chain3, x_cio, x_ciL, x_addv, x_and, x_or, x_not, x_tup, x_lst, x_sub, x_slice, x_call, x_bi, x_meth, x_isi, x_range, x_enum, x_zip, x_zips, c_nes, x_dict, x_ditn, evs, evb, evo, tst, brw, isVar, bor, rd, bd_ok, bd_er, bd_st, of_some, of_none, s_ok, s_er, s_st, sb_nx, sb_rt, sb_er, sb_st, val_sh, val_ol, val_od, val_ot, val_er, val_st, blR_bl, truth_bl, truth_lst, intOf_int, c_eq, c_ne, c_lt, c_le, c_gt, c_ge, c_inn, c_nin, c_isN, c_notN, n_non, n_int, n_str, n_tup, n_lst, b_add, b_sub, bi_max2, bi_min2, bi_intB, bi_intI, bi_lenL, bi_lenT, bi_lenS, bi_listL, bi_listT, bi_strS, sub_lst, sub_tup, sub_scr, sub_dic, slc_lst, slc_tup, atI0, atI1, atI2, atI3, atI4, eqV_int, eqV_bl, isi_int, isi_intb, isi_bl, isi_lst, isi_tup, isi_str, fp_sh, fp_ol, fp_nx, sz_0, sz_1, sz_2, sz_3, sz_4, sz_5, sz_6, sz_7, fp_er, res_ok, res_er, itm_lst, itm_tup, itm_str, env0, moved, Option.map_some, Option.map_none, Option.bind_some, List.getElem?_cons_zero, List.getElem?_cons_succ, List.set_cons_zero, List.set_cons_succ, List.map_cons, List.map_nil, List.cons_append, List.nil_append, List.length_cons, List.length_nil, List.replicate, if_true, if_false, Bool.false_eq_true, reduceIte, Bool.not_true, Bool.not_false, i2_05, a30, d3, e1, b1, b2, h5, h4, h3, s0, b3, b4]
  · have e1 : (c0 % 12 == 2) = false := beq_eq_false_iff_ne.mpr hc
    refine ⟨X, hX, ?_⟩
    simp -implicitDefEqProofs only [exB_nil, exB_cons, y_pass, y_set, y_unp, y_par, y_sti, y_app, y_rem, y_appc, y_ex, y_ife, y_whl, y_for1, y_forN, y_ret, y_retN, y_rai, y_try, y_tryR, x_var, x_lit, x_bin, x_neg, x_cmp, x_chain, x_chain3, x_cio, x_ciL, x_addv, x_and, x_or, x_not, x_tup, x_lst, x_sub, x_slice, x_call, x_bi, x_meth, x_isi, x_range, x_enum, x_zip, x_zips, c_nes, x_dict, x_ditn, evs, evb, evo, tst, brw, isVar, bor, rd, bd_ok, bd_er, bd_st, of_some, of_none, s_ok, s_er, s_st, sb_nx, sb_rt, sb_er, sb_st, val_sh, val_ol, val_od, val_ot, val_er, val_st, blR_bl, truth_bl, truth_lst, intOf_int, c_eq, c_ne, c_lt, c_le, c_gt, c_ge, c_inn, c_nin, c_isN, c_notN, n_non, n_int, n_str, n_tup, n_lst, b_add, b_sub, bi_max2, bi_min2, bi_intB, bi_intI, bi_lenL, bi_lenT, bi_lenS, bi_listL, bi_listT, bi_strS, sub_lst, sub_tup, sub_scr, sub_dic, slc_lst, slc_tup, atI0, atI1, atI2, atI3, atI4, eqV_int, eqV_bl, isi_int, isi_intb, isi_bl, isi_lst, isi_tup, isi_str, fp_sh, fp_ol, fp_nx, sz_0, sz_1, sz_2, sz_3, sz_4, sz_5, sz_6, sz_7, fp_er, res_ok, res_er, itm_lst, itm_tup, itm_str, env0, moved, Option.map_some, Option.map_none, Option.bind_some, List.getElem?_cons_zero, List.getElem?_cons_succ, List.set_cons_zero, List.set_cons_succ, List.map_cons, List.map_nil, List.cons_append, List.nil_append, List.length_cons, List.length_nil, List.replicate, if_true, if_false, Bool.false_eq_true, reduceIte, Bool.not_true, Bool.not_false, i2_05, a30, d3, e1]
theorem i3_ok (hA : AtOk G ns) (t : Tr) (ht : okT (txF t) = true ∧ (txF t).length ≤ 1000) (X : T) (hX : TxP X) : ∃ Y, TxP Y ∧ exS G i3_05 [some (.sh (.scr ns)), some (.sh (.str (txF t))), some (.sh (.str X)), none, none, none, none, none, none, none, none, none] = .nx [some (.sh (.scr ns)), some (.sh (.str (txF t))), some (.sh (.str Y)), none, none, none, none, none, none, none, none, none] := by
  have a30 : G.fn 2 [.scr ns, .int 30] = .ok (.sh (.int (atF ns 30))) := hA 30 (by decide)
  generalize atF ns 30 = c0 at a30
  obtain ⟨t1, t2⟩ := ht
  generalize txF t = TX at *
  have d3 : binD .mod (.int c0) (.int 12) = some (.sh (.int (c0 % 12))) := b_mod _ _ (by decide)
  by_cases hc : c0 % 12 = 5
  · rw [hc] at d3
    have e1 : ((5 : Int) == 5) = true := rfl
    have b1 : binD .add (.str [102, 40]) (.str TX) = some (.sh (.str ([102, 40] ++ TX))) := b_addS _ _ (by show 2 + TX.length ≤ szL; unfold szL; omega)
    have b2 : binD .add (.str ([102, 40] ++ TX)) (.str [32, 97, 98, 99, 100, 101, 102, 103, 104, 41]) = some (.sh (.str ([102, 40] ++ TX ++ [32, 97, 98, 99, 100, 101, 102, 103, 104, 41]))) := b_addS _ _ (by rw [List.length_append]; show 2 + TX.length + 10 ≤ szL; unfold szL; omega)
    refine ⟨[102, 40] ++ TX ++ [32, 97, 98, 99, 100, 101, 102, 103, 104, 41], ⟨okT_ap (okT_ap rfl t1) rfl, by rw [List.length_append, List.length_append]; show 2 + TX.length + 10 ≤ 1600; omega⟩, ?_⟩
    generalize [102, 40] ++ TX ++ [32, 97, 98, 99, 100, 101, 102, 103, 104, 41] = R2 at b2 ⊢
    generalize [102, 40] ++ TX = R3 at b1 b2
    simp -implicitDefEqProofs only [exB_nil, exB_cons, y_pass, y_set, y_unp, y_par, y_sti, y_app, y_rem, y_appc, y_ex, y_ife, y_whl, y_for1, y_forN, y_ret, y_retN, y_rai, y_try, y_tryR, x_var, x_lit, x_bin, x_neg, x_cmp, x_chain, x_chain3, x_cio, x_ciL, x_addv, x_and, x_or, x_not, x_tup, x_lst, x_sub, x_slice, x_call, x_bi, x_meth, x_isi, x_range, x_enum, x_zip, x_zips, c_nes, x_dict, x_ditn, evs, evb, evo, tst, brw, isVar, bor, rd, bd_ok, bd_er, bd_st, of_some, of_none, s_ok, s_er, s_st, sb_nx, sb_rt, sb_er, sb_st, val_sh, val_ol, val_od, val_ot, val_er, val_st, blR_bl, truth_bl, truth_lst, intOf_int, c_eq, c_ne, c_lt, c_le, c_gt, c_ge, c_inn, c_nin, c_isN, c_notN, n_non, n_int, n_str, n_tup, n_lst, b_add, b_sub, bi_max2, bi_min2, bi_intB, bi_intI, bi_lenL, bi_lenT, bi_lenS, bi_listL, bi_listT, bi_strS, sub_lst, sub_tup, sub_scr, sub_dic, slc_lst, slc_tup, atI0, atI1, atI2, atI3, atI4, eqV_int, eqV_bl, isi_int, isi_intb, isi_bl, isi_lst, isi_tup, isi_str, fp_sh, fp_ol, fp_nx, sz_0, sz_1, sz_2, sz_3, sz_4, sz_5, sz_6, sz_7, fp_er, res_ok, res_er, itm_lst, itm_tup, itm_str, env0, moved, Option.map_some, Option.map_none, Option.bind_some, List.getElem?_cons_zero, List.getElem?_cons_succ, List.set_cons_zero, List.set_cons_succ, List.map_cons, List.map_nil, List.cons_append, List.nil_append, List.length_cons, List.length_nil, List.replicate, if_true, if_false, Bool.false_eq_true, reduceIte, Bool.not_true, Bool.not_false, i3_05, a30, d3, e1, b1, b2]
  · have e1 : (c0 % 12 == 5) = false := beq_eq_false_iff_ne.mpr hc
    refine ⟨X, hX, ?_⟩
    simp -implicitDefEqProofs only [exB_nil, exB_cons, y_pass, y_set, y_unp, y_par, y_sti, y_app, y_rem, y_appc, y_ex, y_ife, y_whl, y_for1, y_forN, y_ret, y_retN, y_rai, y_try, y_tryR, x_var, x_lit, x_bin, x_neg, x_cmp, x_chain, x_chain3, x_cio, x_ciL, x_addv, x_and, x_or, x_not, x_tup, x_lst, x_sub, x_slice, x_call, x_bi, x_meth, x_isi, x_range, x_enum, x_zip, x_zips, c_nes, x_dict, x_ditn, evs, evb, evo, tst, brw, isVar, bor, rd, bd_ok, bd_er, bd_st, of_some, of_none, s_ok, s_er, s_st, sb_nx, sb_rt, sb_er, sb_st, val_sh, val_ol, val_od, val_ot, val_er, val_st, blR_bl, truth_bl, truth_lst, intOf_int, c_eq, c_ne, c_lt, c_le, c_gt, c_ge, c_inn, c_nin, c_isN, c_notN, n_non, n_int, n_str, n_tup, n_lst, b_add, b_sub, bi_max2, bi_min2, bi_intB, bi_intI, bi_lenL, bi_lenT, bi_lenS, bi_listL, bi_listT, bi_strS, sub_lst, sub_tup, sub_scr, sub_dic, slc_lst, slc_tup, atI0, atI1, atI2, atI3, atI4, eqV_int, eqV_bl, isi_int, isi_intb, isi_bl, isi_lst, isi_tup, isi_str, fp_sh, fp_ol, fp_nx, sz_0, sz_1, sz_2, sz_3, sz_4, sz_5, sz_6, sz_7, fp_er, res_ok, res_er, itm_lst, itm_tup, itm_str, env0, moved, Option.map_some, Option.map_none, Option.bind_some, List.getElem?_cons_zero, List.getElem?_cons_succ, List.set_cons_zero, List.set_cons_succ, List.map_cons, List.map_nil, List.cons_append, List.nil_append, List.length_cons, List.length_nil, List.replicate, if_true, if_false, Bool.false_eq_true, reduceIte, Bool.not_true, Bool.not_false, i3_05, a30, d3, e1]
theorem i4_ok (hA : AtOk G ns) (t : Tr) (h28 : ∀ c : Int, ∃ s : T, okT s = true ∧ s.length ≤ 300 ∧ G.fn 28 [.int c] = .ok (.sh (.str s))) (X : T) (hX : TxP X) : ∃ Y, TxP Y ∧ exS G i4_05 [some (.sh (.scr ns)), some (.sh (.str (txF t))), some (.sh (.str X)), none, none, none, none, none, none, none, none, none] = .nx [some (.sh (.scr ns)), some (.sh (.str (txF t))), some (.sh (.str Y)), none, none, none, none, none, none, none, none, none] := by
  have a30 : G.fn 2 [.scr ns, .int 30] = .ok (.sh (.int (atF ns 30))) := hA 30 (by decide)
  have a31 : G.fn 2 [.scr ns, .int 31] = .ok (.sh (.int (atF ns 31))) := hA 31 (by decide)
  generalize atF ns 30 = c0 at a30
  obtain ⟨s, s1, s2, h28⟩ := h28 (atF ns 31)
  generalize atF ns 31 = c1 at a31 h28
  generalize txF t = TX at *
  have d3 : binD .mod (.int c0) (.int 12) = some (.sh (.int (c0 % 12))) := b_mod _ _ (by decide)
  by_cases hc : c0 % 12 = 8
  · rw [hc] at d3
    have e1 : ((8 : Int) == 8) = true := rfl
    refine ⟨s, ⟨s1, by omega⟩, ?_⟩
    simp -implicitDefEqProofs only [exB_nil, exB_cons, y_pass, y_set, y_unp, y_par, y_sti, y_app, y_rem, y_appc, y_ex, y_ife, y_whl, y_for1, y_forN, y_ret, y_retN, y_rai, y_try, y_tryR, x_var, x_lit, x_bin, x_neg, x_cmp, x_chain, x_chain3, x_cio, x_ciL, x_addv, x_and, x_or, x_not, x_tup, x_lst, x_sub, x_slice, x_call, x_bi, x_meth, x_isi, x_range, x_enum, x_zip, x_zips, c_nes, x_dict, x_ditn, evs, evb, evo, tst, brw, isVar, bor, rd, bd_ok, bd_er, bd_st, of_some, of_none, s_ok, s_er, s_st, sb_nx, sb_rt, sb_er, sb_st, val_sh, val_ol, val_od, val_ot, val_er, val_st, blR_bl, truth_bl, truth_lst, intOf_int, c_eq, c_ne, c_lt, c_le, c_gt, c_ge, c_inn, c_nin, c_isN, c_notN, n_non, n_int, n_str, n_tup, n_lst, b_add, b_sub, bi_max2, bi_min2, bi_intB, bi_intI, bi_lenL, bi_lenT, bi_lenS, bi_listL, bi_listT, bi_strS, sub_lst, sub_tup, sub_scr, sub_dic, slc_lst, slc_tup, atI0, atI1, atI2, atI3, atI4, eqV_int, eqV_bl, isi_int, isi_intb, isi_bl, isi_lst, isi_tup, isi_str, fp_sh, fp_ol, fp_nx, sz_0, sz_1, sz_2, sz_3, sz_4, sz_5, sz_6, sz_7, fp_er, res_ok, res_er, itm_lst, itm_tup, itm_str, env0, moved, Option.map_some, Option.map_none, Option.bind_some, List.getElem?_cons_zero, List.getElem?_cons_succ, List.set_cons_zero, List.set_cons_succ, List.map_cons, List.map_nil, List.cons_append, List.nil_append, List.length_cons, List.length_nil, List.replicate, if_true, if_false, Bool.false_eq_true, reduceIte, Bool.not_true, Bool.not_false, i4_05, a30, d3, e1, a31, h28]
  · have e1 : (c0 % 12 == 8) = false := beq_eq_false_iff_ne.mpr hc
    refine ⟨X, hX, ?_⟩
    simp -implicitDefEqProofs only [exB_nil, exB_cons, y_pass, y_set, y_unp, y_par, y_sti, y_app, y_rem, y_appc, y_ex, y_ife, y_whl, y_for1, y_forN, y_ret, y_retN, y_rai, y_try, y_tryR, x_var, x_lit, x_bin, x_neg, x_cmp, x_chain, x_chain3, x_cio, x_ciL, x_addv, x_and, x_or, x_not, x_tup, x_lst, x_sub, x_slice, x_call, x_bi, x_meth, x_isi, x_range, x_enum, x_zip, x_zips, c_nes, x_dict, x_ditn, evs, evb, evo, tst, brw, isVar, bor, rd, bd_ok, bd_er, bd_st, of_some, of_none, s_ok, s_er, s_st, sb_nx, sb_rt, sb_er, sb_st, val_sh, val_ol, val_od, val_ot, val_er, val_st, blR_bl, truth_bl, truth_lst, intOf_int, c_eq, c_ne, c_lt, c_le, c_gt, c_ge, c_inn, c_nin, c_isN, c_notN, n_non, n_int, n_str, n_tup, n_lst, b_add, b_sub, bi_max2, bi_min2, bi_intB, bi_intI, bi_lenL, bi_lenT, bi_lenS, bi_listL, bi_listT, bi_strS, sub_lst, sub_tup, sub_scr, sub_dic, slc_lst, slc_tup, atI0, atI1, atI2, atI3, atI4, eqV_int, eqV_bl, isi_int, isi_intb, isi_bl, isi_lst, isi_tup, isi_str, fp_sh, fp_ol, fp_nx, sz_0, sz_1, sz_2, sz_3, sz_4, sz_5, sz_6, sz_7, fp_er, res_ok, res_er, itm_lst, itm_tup, itm_str, env0, moved, Option.map_some, Option.map_none, Option.bind_some, List.getElem?_cons_zero, List.getElem?_cons_succ, List.set_cons_zero, List.set_cons_succ, List.map_cons, List.map_nil, List.cons_append, List.nil_append, List.length_cons, List.length_nil, List.replicate, if_true, if_false, Bool.false_eq_true, reduceIte, Bool.not_true, Bool.not_false, i4_05, a30, d3, e1]
theorem mores05 (z : Int) : ∃ s : T, Dl.atI [D.str [40], .str [41], .str [32], .str [97], .str [122], .str [65], .str [48], .str [44], .str [126], .str [102, 40]] (z % 10) = some (.str s) ∧ okT s = true ∧ s.length ≤ 2 := by
  have h0 := Int.emod_nonneg z (show (10 : Int) ≠ 0 by decide)
  have h1 := Int.emod_lt_of_pos z (show (0 : Int) < 10 by decide)
  obtain ⟨j, hj, e⟩ : ∃ j : Nat, j < 10 ∧ z % 10 = (j : Int) := ⟨(z % 10).toNat, by omega, by omega⟩
  rw [e, atI_nat]
  match j, hj with
  | 0, _ => exact ⟨_, rfl, rfl, by decide⟩
  | 1, _ => exact ⟨_, rfl, rfl, by decide⟩
  | 2, _ => exact ⟨_, rfl, rfl, by decide⟩
  | 3, _ => exact ⟨_, rfl, rfl, by decide⟩
  | 4, _ => exact ⟨_, rfl, rfl, by decide⟩
  | 5, _ => exact ⟨_, rfl, rfl, by decide⟩
  | 6, _ => exact ⟨_, rfl, rfl, by decide⟩
  | 7, _ => exact ⟨_, rfl, rfl, by decide⟩
  | 8, _ => exact ⟨_, rfl, rfl, by decide⟩
  | 9, _ => exact ⟨_, rfl, rfl, by decide⟩
theorem cut_gap (x : T) (p : Nat) (hp : p ≤ x.length) : (cut x (some ((p : Int) + 1)) none).length ≤ x.length - p := by
  unfold cut
  rw [List.length_take, List.length_drop]
  have e : sIx x.length 0 (some ((p : Int) + 1)) = min (p + 1) x.length := by
    show (if (p : Int) + 1 < 0 then ((p : Int) + 1 + (x.length : Int)).toNat else min ((p : Int) + 1).toNat x.length) = _
    rw [if_neg (by omega)]
    have : ((p : Int) + 1).toNat = p + 1 := by omega
    rw [this]
  rw [e]
  omega
theorem tx_one05 (hA : AtOk G ns) (t : Tr) (n : Nat) (hn : n < 50) (x : T) (hx : x.length ≤ 3000) (ho : okT x = true) (u v w : Option DV) :
    ∃ (y : T) (u' v' w' : Option DV), (noEx [u'] = true ∧ noEx [v'] = true ∧ noEx [w'] = true) ∧ okT y = true ∧ y.length ≤ x.length + 2 ∧ exB G bTx05 [some (.sh (.scr ns)), some (.sh (.str (txF t))), some (.sh (.str x)), some (.sh (.int (n : Int))), none, none, none, u, v, w, none, none] = .nx [some (.sh (.scr ns)), some (.sh (.str (txF t))), some (.sh (.str y)), some (.sh (.int (n : Int))), none, none, none, u', v', w', none, none] := by
  have e10 : (32 : Int) + (n : Int) = ((32 + n : Nat) : Int) := by omega
  have e14 : (36 : Int) + (n : Int) = ((36 + n : Nat) : Int) := by omega
  have h1 := hA (32 + n) (by omega)
  have h2 := hA (36 + n) (by omega)
  have lx : biD .len [.str x] = some (.sh (.int (x.length : Int))) := bi_lenX x (by unfold szL; omega)
  generalize atF ns (32 + n) = cell at h1
  generalize atF ns (36 + n) = c2 at h2
  generalize txF t = TX
  have q2 : binD .fdiv (.int cell) (.int 2) = some (.sh (.int (cell / 2))) := b_fdiv _ _ (by decide)
  have d2 : binD .mod (.int cell) (.int 2) = some (.sh (.int (cell % 2))) := b_mod _ _ (by decide)
  have d10 : binD .mod (.int c2) (.int 10) = some (.sh (.int (c2 % 10))) := b_mod _ _ (by decide)
  have z0 := Int.emod_nonneg (cell / 2) (show ((x.length : Int) + 1) ≠ 0 by omega)
  have z1 := Int.emod_lt_of_pos (cell / 2) (show (0 : Int) < (x.length : Int) + 1 by omega)
  obtain ⟨p, hp, ep⟩ : ∃ p : Nat, p ≤ x.length ∧ cell / 2 % ((x.length : Int) + 1) = (p : Int) := ⟨(cell / 2 % ((x.length : Int) + 1)).toNat, by omega, by omega⟩
  have dl : binD .mod (.int (cell / 2)) (.int ((x.length : Int) + 1)) = some (.sh (.int (p : Int))) := by rw [← ep]; exact b_mod _ _ (by omega)
  have z10 : (0 + 1 + 1 + 1 + 1 + 1 + 1 + 1 + 1 + 1 + 1 : Nat) ≤ szL := by decide
  have s1 : sliceD (.str x) none (some (p : Int)) = some (.sh (.str (cut x none (some (p : Int))))) := slc_str _ _ _ (by unfold szL; omega)
  have s2 : sliceD (.str x) (some (p : Int)) none = some (.sh (.str (cut x (some (p : Int)) none))) := slc_str _ _ _ (by unfold szL; omega)
  have s3 : sliceD (.str x) (some ((p : Int) + 1)) none = some (.sh (.str (cut x (some ((p : Int) + 1)) none))) := slc_str _ _ _ (by unfold szL; omega)
  have o1 := okT_cut x none (some (p : Int)) ho
  have o2 := okT_cut x (some (p : Int)) none ho
  have o3 := okT_cut x (some ((p : Int) + 1)) none ho
  have l1 : (cut x none (some (p : Int))).length = p := by rw [cut_to x p hp, List.length_take]; omega
  have l2 : (cut x (some (p : Int)) none).length = x.length - p := by rw [cut_from x p hp, List.length_drop]
  have l3 := cut_gap x p hp
  obtain ⟨m, gm, om, lm⟩ := mores05 c2
  generalize cut x none (some (p : Int)) = c1 at s1 l1 o1
  generalize cut x (some (p : Int)) none = cc2 at s2 l2 o2
  generalize cut x (some ((p : Int) + 1)) none = c3 at s3 l3 o3
  have a1 : binD .add (.str c1) (.str m) = some (.sh (.str (c1 ++ m))) := b_addS _ _ (by unfold szL; omega)
  have a2 : binD .add (.str (c1 ++ m)) (.str cc2) = some (.sh (.str (c1 ++ m ++ cc2))) := b_addS _ _ (by rw [List.length_append]; unfold szL; omega)
  have a3 : binD .add (.str c1) (.str c3) = some (.sh (.str (c1 ++ c3))) := b_addS _ _ (by unfold szL; omega)
  rcases (show cell % 2 = 0 ∨ cell % 2 = 1 by omega) with hc | hc
  · refine ⟨c1 ++ m ++ cc2, some (.sh (.int cell)), some (.sh (.int (p : Int))), some (.sh (.str m)), ⟨rfl, rfl, rfl⟩, okT_ap (okT_ap o1 om) o2, by rw [List.length_append, List.length_append]; omega, ?_⟩
    rw [hc] at d2
    have e0 : ((0 : Int) == 0) = true := rfl
    generalize c1 ++ m ++ cc2 = Y at a2 ⊢
    generalize c1 ++ m = Z at a1 a2
    simp -implicitDefEqProofs only [exB_nil, exB_cons, y_pass, y_set, y_unp, y_par, y_sti, y_app, y_rem, y_appc, y_ex, y_ife, y_whl, y_for1, y_forN, y_ret, y_retN, y_rai, y_try, y_tryR, x_var, x_lit, x_bin, x_neg, x_cmp, x_chain, x_chain3, x_cio, x_ciL, x_addv, x_and, x_or, x_not, x_tup, x_lst, x_sub, x_slice, x_call, x_bi, x_meth, x_isi, x_range, x_enum, x_zip, x_zips, c_nes, x_dict, x_ditn, evs, evb, evo, tst, brw, isVar, bor, rd, bd_ok, bd_er, bd_st, of_some, of_none, s_ok, s_er, s_st, sb_nx, sb_rt, sb_er, sb_st, val_sh, val_ol, val_od, val_ot, val_er, val_st, blR_bl, truth_bl, truth_lst, intOf_int, c_eq, c_ne, c_lt, c_le, c_gt, c_ge, c_inn, c_nin, c_isN, c_notN, n_non, n_int, n_str, n_tup, n_lst, b_add, b_sub, bi_max2, bi_min2, bi_intB, bi_intI, bi_lenL, bi_lenT, bi_lenS, bi_listL, bi_listT, bi_strS, sub_lst, sub_tup, sub_scr, sub_dic, slc_lst, slc_tup, atI0, atI1, atI2, atI3, atI4, eqV_int, eqV_bl, isi_int, isi_intb, isi_bl, isi_lst, isi_tup, isi_str, fp_sh, fp_ol, fp_nx, sz_0, sz_1, sz_2, sz_3, sz_4, sz_5, sz_6, sz_7, fp_er, res_ok, res_er, itm_lst, itm_tup, itm_str, env0, moved, Option.map_some, Option.map_none, Option.bind_some, List.getElem?_cons_zero, List.getElem?_cons_succ, List.set_cons_zero, List.set_cons_succ, List.map_cons, List.map_nil, List.cons_append, List.nil_append, List.length_cons, List.length_nil, List.replicate, if_true, if_false, Bool.false_eq_true, reduceIte, Bool.not_true, Bool.not_false, bTx05, e10, h1, q2, lx, dl, d2, e0, e14, h2, d10, if_pos z10, gm, s1, a1, s2, a2]
  · refine ⟨c1 ++ c3, some (.sh (.int cell)), some (.sh (.int (p : Int))), some (.sh (.str m)), ⟨rfl, rfl, rfl⟩, okT_ap o1 o3, by rw [List.length_append]; omega, ?_⟩
    rw [hc] at d2
    have e0 : ((1 : Int) == 0) = false := rfl
    generalize c1 ++ c3 = Y at a3 ⊢
    simp -implicitDefEqProofs only [exB_nil, exB_cons, y_pass, y_set, y_unp, y_par, y_sti, y_app, y_rem, y_appc, y_ex, y_ife, y_whl, y_for1, y_forN, y_ret, y_retN, y_rai, y_try, y_tryR, x_var, x_lit, x_bin, x_neg, x_cmp, x_chain, x_chain3, x_cio, x_ciL, x_addv, x_and, x_or, x_not, x_tup, x_lst, x_sub, x_slice, x_call, x_bi, x_meth, x_isi, x_range, x_enum, x_zip, x_zips, c_nes, x_dict, x_ditn, evs, evb, evo, tst, brw, isVar, bor, rd, bd_ok, bd_er, bd_st, of_some, of_none, s_ok, s_er, s_st, sb_nx, sb_rt, sb_er, sb_st, val_sh, val_ol, val_od, val_ot, val_er, val_st, blR_bl, truth_bl, truth_lst, intOf_int, c_eq, c_ne, c_lt, c_le, c_gt, c_ge, c_inn, c_nin, c_isN, c_notN, n_non, n_int, n_str, n_tup, n_lst, b_add, b_sub, bi_max2, bi_min2, bi_intB, bi_intI, bi_lenL, bi_lenT, bi_lenS, bi_listL, bi_listT, bi_strS, sub_lst, sub_tup, sub_scr, sub_dic, slc_lst, slc_tup, atI0, atI1, atI2, atI3, atI4, eqV_int, eqV_bl, isi_int, isi_intb, isi_bl, isi_lst, isi_tup, isi_str, fp_sh, fp_ol, fp_nx, sz_0, sz_1, sz_2, sz_3, sz_4, sz_5, sz_6, sz_7, fp_er, res_ok, res_er, itm_lst, itm_tup, itm_str, env0, moved, Option.map_some, Option.map_none, Option.bind_some, List.getElem?_cons_zero, List.getElem?_cons_succ, List.set_cons_zero, List.set_cons_succ, List.map_cons, List.map_nil, List.cons_append, List.nil_append, List.length_cons, List.length_nil, List.replicate, if_true, if_false, Bool.false_eq_true, reduceIte, Bool.not_true, Bool.not_false, bTx05, e10, h1, q2, lx, dl, d2, e0, e14, h2, d10, if_pos z10, gm, s1, s3, a3]
theorem tx_lp05 (hA : AtOk G ns) (t : Tr) : ∀ (ks : List Nat) (x : T) (c u v w : Option DV), (∀ k ∈ ks, k < 50) → x.length + 2 * ks.length ≤ 3000 → okT x = true → noEx [c] = true ∧ noEx [u] = true ∧ noEx [v] = true ∧ noEx [w] = true → ∃ (y : T) (c' u' v' w' : Option DV), (noEx [c'] = true ∧ noEx [u'] = true ∧ noEx [v'] = true ∧ noEx [w'] = true) ∧ okT y = true ∧ y.length ≤ x.length + 2 * ks.length ∧
    forL (fun d env => exB G bTx05 (env.set 3 (some (.sh d)))) (ks.map fun (k : Nat) => D.int (k : Int)) [some (.sh (.scr ns)), some (.sh (.str (txF t))), some (.sh (.str x)), c, none, none, none, u, v, w, none, none] = .nx [some (.sh (.scr ns)), some (.sh (.str (txF t))), some (.sh (.str y)), c', none, none, none, u', v', w', none, none]
  | [], x, c, u, v, w, _, hx, ho, hn => ⟨x, c, u, v, w, hn, ho, by simp, rfl⟩
  | k :: ks, x, c, u, v, w, hk, hx, ho, hn => by
    simp only [List.length_cons] at hx ⊢
    obtain ⟨y, u', v', w', n1, oy, ly, e⟩ := tx_one05 hA t k (hk k (by simp)) x (by omega) ho u v w
    obtain ⟨y2, c', u2, v2, w2, n2, oy2, ly2, e2⟩ := tx_lp05 hA t ks y (some (.sh (.int (k : Int)))) u' v' w' (fun j hj => hk j (by simp [hj])) (by omega) oy ⟨rfl, n1⟩
    refine ⟨y2, c', u2, v2, w2, n2, oy2, by omega, ?_⟩
    rw [List.map_cons, forL_cons]
    show ((exB G bTx05 [some (.sh (.scr ns)), some (.sh (.str (txF t))), some (.sh (.str x)), some (.sh (.int (k : Int))), none, none, none, u, v, w, none, none]).bd _) = _
    rw [e, sb_nx, e2]
theorem deeds_parts (t : Tr) (h : ∀ u ∈ t.parts, okNm u.lab) : ∀ s ∈ t.deeds, okNm s := by
  induction t with
  | leaf x => intro s hs; simp [Tr.deeds] at hs
  | knot f l r h1 h2 =>
    intro s hs
    simp only [Tr.deeds, List.mem_cons, List.mem_append] at hs
    rcases hs with rfl | hs | hs
    · exact h (Tr.knot s l r) (by simp [Tr.parts])
    · exact h1 (fun u hu => h u (by simp [Tr.parts, hu])) s hs
    · exact h2 (fun u hu => h u (by simp [Tr.parts, hu])) s hs
def isx5 (c : Nat) (env : DEnv) : Option (Option DV) → Res DV
  | some (some (.ex d)) => .ok (.sh (.bl (subC d c))) env
  | _ => .st
theorem isx5_ex (c d : Nat) (env : DEnv) : isx5 c env (some (some (.ex d))) = .ok (.sh (.bl (subC d c))) env := rfl
theorem x_isx5 {env : DEnv} (i c : Nat) : ev G (.isx i c) env = isx5 c env env[i]? := by simp only [ev]; rfl
theorem catch_nx5 (c : Nat) (n : Option Nat) (h : DEnv → SR) (e : DEnv) : catchS c n h (.nx e) = .nx e := rfl
theorem catch_er5 {c d i : Nat} {h : DEnv → SR} {e e' : DEnv} (hs : subC d c = true) (hn : noEx e = true) (h1 : h (e.set i (some (.ex d))) = .nx e') (h2 : noEx (e'.set i none) = true) : catchS c (some i) h (.er d e) = .nx (e'.set i none) := by
  simp only [catchS, hs, hn, h1, h2, if_true]
theorem nx_n5 (r : DEnv) : noEx (none :: r) = noEx r := rfl
theorem nx_sh5 (d : D) (r : DEnv) : noEx (some (.sh d) :: r) = noEx r := rfl
theorem nx_ol5 (d : List D) (r : DEnv) : noEx (some (.ol d) :: r) = noEx r := rfl
theorem tail_05 (t : Tr) (c u v w : Option DV) (hn : noEx [c] = true ∧ noEx [u] = true ∧ noEx [v] = true ∧ noEx [w] = true) (x : T) (hx : x.length ≤ 2000) (ho : okT x = true) (h25 : G.fn 25 [.str x] = match readF x with | some t => .ok (.sh t.enc) | none => .er 4) (h29 : G.fn 29 [.str x, .int 0, .int 1] = ltR x (lawP 30 x)) (h30 : G.fn 30 [(lawP 30 x).1.enc] = .ok (.sh (.bl (goodB (lawP 30 x).1)))) :
    (exB G tl05 [some (.sh (.scr ns)), some (.sh (.str (txF t))), some (.sh (.str x)), c, none, none, none, u, v, w, none, none]).fr.pl = .ok (.sh (.bl true)) := by
  have ml : ∀ e : DEnv, ev G (.lst []) e = .ok (.ol []) e := fun e => by
    rw [x_lst]
    simp only [evs, bd_ok]
    rfl
  have e00 : eqV (.lst []) (.lst []) = some true := eqV_refl rfl
  have eTT : eqV (.lst [.bl true, .bl true]) (.lst [.bl true, .bl true]) = some true := eqV_refl rfl
  have lx : biD .len [.str x] = some (.sh (.int (x.length : Int))) := bi_lenX x (by unfold szL; omega)
  have bnd := (lawP_suf 30 x).2
  obtain ⟨wS, hwS⟩ := (lawP_suf 30 x).1
  have hlS := congrArg List.length hwS
  rw [List.length_append] at hlS
  unfold readF at h25
  generalize lawP 30 x = q at *
  obtain ⟨tt, r⟩ := q
  dsimp only at *
  have h29 : G.fn 29 [.str x, .int 0, .int 1] = .ok (.sh (.tup [tt.enc, .int ((x.length - r.length : Nat) : Int)])) := h29
  by_cases hg : r = [] ∧ goodB tt = true
  · rw [if_pos hg] at h25
    obtain ⟨rfl, hgd⟩ := hg
    have h25 : G.fn 25 [.str x] = .ok (.sh tt.enc) := h25
    rw [hgd] at h30
    obtain ⟨_, l2, _, l4⟩ := good_labs hgd
    have okd := enc_ok (t := tt) (fun s hs => by
      rw [← parts_names tt] at hs
      obtain ⟨u, hu, e⟩ := List.mem_flatMap.mp hs
      cases u with
      | leaf y => simp only [List.mem_singleton] at e; subst e; exact l4 _ hu
      | knot f a b => cases e) (deeds_parts tt l4) 64 (by omega)
    have eqq := eqV_refl okd
    simp only [List.length_nil, Nat.sub_zero] at h29
    have ee : ((x.length : Int) == (x.length : Int)) = true := beq_self_eq_true _
    generalize tt.enc = te at *
    generalize txF t = TX
    simp -implicitDefEqProofs only [exB_nil, exB_cons, y_pass, y_set, y_unp, y_par, y_sti, y_app, y_rem, y_appc, y_ex, y_ife, y_whl, y_for1, y_forN, y_ret, y_retN, y_rai, y_try, y_tryR, x_var, x_lit, x_bin, x_neg, x_cmp, x_chain, x_chain3, x_cio, x_ciL, x_addv, x_and, x_or, x_not, x_tup, x_lst, x_sub, x_slice, x_call, x_bi, x_meth, x_isi, x_range, x_enum, x_zip, x_zips, c_nes, x_dict, x_ditn, evs, evb, evo, tst, brw, isVar, bor, rd, bd_ok, bd_er, bd_st, of_some, of_none, s_ok, s_er, s_st, sb_nx, sb_rt, sb_er, sb_st, val_sh, val_ol, val_od, val_ot, val_er, val_st, blR_bl, truth_bl, truth_lst, intOf_int, c_eq, c_ne, c_lt, c_le, c_gt, c_ge, c_inn, c_nin, c_isN, c_notN, n_non, n_int, n_str, n_tup, n_lst, b_add, b_sub, bi_max2, bi_min2, bi_intB, bi_intI, bi_lenL, bi_lenT, bi_lenS, bi_listL, bi_listT, bi_strS, sub_lst, sub_tup, sub_scr, sub_dic, slc_lst, slc_tup, atI0, atI1, atI2, atI3, atI4, eqV_int, eqV_bl, isi_int, isi_intb, isi_bl, isi_lst, isi_tup, isi_str, fp_sh, fp_ol, fp_nx, sz_0, sz_1, sz_2, sz_3, sz_4, sz_5, sz_6, sz_7, fp_er, res_ok, res_er, itm_lst, itm_tup, itm_str, env0, moved, Option.map_some, Option.map_none, Option.bind_some, List.getElem?_cons_zero, List.getElem?_cons_succ, List.set_cons_zero, List.set_cons_succ, List.map_cons, List.map_nil, List.cons_append, List.nil_append, List.length_cons, List.length_nil, List.replicate, if_true, if_false, Bool.false_eq_true, reduceIte, Bool.not_true, Bool.not_false, tl05, tb05, ml, h25, catch_nx5, h29, unpD, setAll, lx, ee, h30, e00, eqq]
  · rw [if_neg hg] at h25
    have h25 : G.fn 25 [.str x] = .er 4 := h25
    obtain ⟨n1, n2, n3, n4⟩ := hn
    generalize txF t = TX
    have nx : ∀ l : List D, noEx [some (.sh (.scr ns)), some (.sh (.str TX)), some (.sh (.str x)), c, some (.ol l), some (.sh .non), none, u, v, w, none, none] = true := fun l => by
      rw [nx_sh5, nx_sh5, nx_sh5, nx_one5 c, n1, nx_ol5, nx_sh5, nx_n5, nx_one5 u, n2, nx_one5 v, n3, nx_one5 w, n4]
      rfl
    have bl : exB G tb05 [some (.sh (.scr ns)), some (.sh (.str TX)), some (.sh (.str x)), c, some (.ol []), some (.sh .non), none, u, v, w, none, none] = .er 4 [some (.sh (.scr ns)), some (.sh (.str TX)), some (.sh (.str x)), c, some (.ol []), some (.sh .non), none, u, v, w, none, none] := by simp -implicitDefEqProofs only [exB_nil, exB_cons, y_pass, y_set, y_unp, y_par, y_sti, y_app, y_rem, y_appc, y_ex, y_ife, y_whl, y_for1, y_forN, y_ret, y_retN, y_rai, y_try, y_tryR, x_var, x_lit, x_bin, x_neg, x_cmp, x_chain, x_chain3, x_cio, x_ciL, x_addv, x_and, x_or, x_not, x_tup, x_lst, x_sub, x_slice, x_call, x_bi, x_meth, x_isi, x_range, x_enum, x_zip, x_zips, c_nes, x_dict, x_ditn, evs, evb, evo, tst, brw, isVar, bor, rd, bd_ok, bd_er, bd_st, of_some, of_none, s_ok, s_er, s_st, sb_nx, sb_rt, sb_er, sb_st, val_sh, val_ol, val_od, val_ot, val_er, val_st, blR_bl, truth_bl, truth_lst, intOf_int, c_eq, c_ne, c_lt, c_le, c_gt, c_ge, c_inn, c_nin, c_isN, c_notN, n_non, n_int, n_str, n_tup, n_lst, b_add, b_sub, bi_max2, bi_min2, bi_intB, bi_intI, bi_lenL, bi_lenT, bi_lenS, bi_listL, bi_listT, bi_strS, sub_lst, sub_tup, sub_scr, sub_dic, slc_lst, slc_tup, atI0, atI1, atI2, atI3, atI4, eqV_int, eqV_bl, isi_int, isi_intb, isi_bl, isi_lst, isi_tup, isi_str, fp_sh, fp_ol, fp_nx, sz_0, sz_1, sz_2, sz_3, sz_4, sz_5, sz_6, sz_7, fp_er, res_ok, res_er, itm_lst, itm_tup, itm_str, env0, moved, Option.map_some, Option.map_none, Option.bind_some, List.getElem?_cons_zero, List.getElem?_cons_succ, List.set_cons_zero, List.set_cons_succ, List.map_cons, List.map_nil, List.cons_append, List.nil_append, List.length_cons, List.length_nil, List.replicate, if_true, if_false, Bool.false_eq_true, reduceIte, Bool.not_true, Bool.not_false, tb05, h25]
    have ct : catchS 0 (some 6) (exB G th05) (.er 4 [some (.sh (.scr ns)), some (.sh (.str TX)), some (.sh (.str x)), c, some (.ol []), some (.sh .non), none, u, v, w, none, none]) = .nx [some (.sh (.scr ns)), some (.sh (.str TX)), some (.sh (.str x)), c, some (.ol [.bl true, .bl true]), some (.sh .non), none, u, v, w, none, none] := by
      refine catch_er5 (e' := [some (.sh (.scr ns)), some (.sh (.str TX)), some (.sh (.str x)), c, some (.ol [.bl true, .bl true]), some (.sh .non), some (.ex 4), u, v, w, none, none]) rfl (nx []) ?_ (nx _)
      have q1 : subC 4 4 = true := rfl
      have q2 : subC 4 8 = true := rfl
      simp -implicitDefEqProofs only [exB_nil, exB_cons, y_pass, y_set, y_unp, y_par, y_sti, y_app, y_rem, y_appc, y_ex, y_ife, y_whl, y_for1, y_forN, y_ret, y_retN, y_rai, y_try, y_tryR, x_var, x_lit, x_bin, x_neg, x_cmp, x_chain, x_chain3, x_cio, x_ciL, x_addv, x_and, x_or, x_not, x_tup, x_lst, x_sub, x_slice, x_call, x_bi, x_meth, x_isi, x_range, x_enum, x_zip, x_zips, c_nes, x_dict, x_ditn, evs, evb, evo, tst, brw, isVar, bor, rd, bd_ok, bd_er, bd_st, of_some, of_none, s_ok, s_er, s_st, sb_nx, sb_rt, sb_er, sb_st, val_sh, val_ol, val_od, val_ot, val_er, val_st, blR_bl, truth_bl, truth_lst, intOf_int, c_eq, c_ne, c_lt, c_le, c_gt, c_ge, c_inn, c_nin, c_isN, c_notN, n_non, n_int, n_str, n_tup, n_lst, b_add, b_sub, bi_max2, bi_min2, bi_intB, bi_intI, bi_lenL, bi_lenT, bi_lenS, bi_listL, bi_listT, bi_strS, sub_lst, sub_tup, sub_scr, sub_dic, slc_lst, slc_tup, atI0, atI1, atI2, atI3, atI4, eqV_int, eqV_bl, isi_int, isi_intb, isi_bl, isi_lst, isi_tup, isi_str, fp_sh, fp_ol, fp_nx, sz_0, sz_1, sz_2, sz_3, sz_4, sz_5, sz_6, sz_7, fp_er, res_ok, res_er, itm_lst, itm_tup, itm_str, env0, moved, Option.map_some, Option.map_none, Option.bind_some, List.getElem?_cons_zero, List.getElem?_cons_succ, List.set_cons_zero, List.set_cons_succ, List.map_cons, List.map_nil, List.cons_append, List.nil_append, List.length_cons, List.length_nil, List.replicate, if_true, if_false, Bool.false_eq_true, reduceIte, Bool.not_true, Bool.not_false, th05, x_isx5, isx5_ex, q1, q2]
    by_cases hr : r = []
    · subst hr
      simp only [List.length_nil, Nat.sub_zero] at h29
      have ee : ((x.length : Int) == (x.length : Int)) = true := beq_self_eq_true _
      have hgd : goodB tt = false := by
        cases hq : goodB tt with
        | false => rfl
        | true => exact absurd ⟨rfl, hq⟩ hg
      rw [hgd] at h30
      generalize tt.enc = te at *
      simp -implicitDefEqProofs only [exB_nil, exB_cons, y_pass, y_set, y_unp, y_par, y_sti, y_app, y_rem, y_appc, y_ex, y_ife, y_whl, y_for1, y_forN, y_ret, y_retN, y_rai, y_try, y_tryR, x_var, x_lit, x_bin, x_neg, x_cmp, x_chain, x_chain3, x_cio, x_ciL, x_addv, x_and, x_or, x_not, x_tup, x_lst, x_sub, x_slice, x_call, x_bi, x_meth, x_isi, x_range, x_enum, x_zip, x_zips, c_nes, x_dict, x_ditn, evs, evb, evo, tst, brw, isVar, bor, rd, bd_ok, bd_er, bd_st, of_some, of_none, s_ok, s_er, s_st, sb_nx, sb_rt, sb_er, sb_st, val_sh, val_ol, val_od, val_ot, val_er, val_st, blR_bl, truth_bl, truth_lst, intOf_int, c_eq, c_ne, c_lt, c_le, c_gt, c_ge, c_inn, c_nin, c_isN, c_notN, n_non, n_int, n_str, n_tup, n_lst, b_add, b_sub, bi_max2, bi_min2, bi_intB, bi_intI, bi_lenL, bi_lenT, bi_lenS, bi_listL, bi_listT, bi_strS, sub_lst, sub_tup, sub_scr, sub_dic, slc_lst, slc_tup, atI0, atI1, atI2, atI3, atI4, eqV_int, eqV_bl, isi_int, isi_intb, isi_bl, isi_lst, isi_tup, isi_str, fp_sh, fp_ol, fp_nx, sz_0, sz_1, sz_2, sz_3, sz_4, sz_5, sz_6, sz_7, fp_er, res_ok, res_er, itm_lst, itm_tup, itm_str, env0, moved, Option.map_some, Option.map_none, Option.bind_some, List.getElem?_cons_zero, List.getElem?_cons_succ, List.set_cons_zero, List.set_cons_succ, List.map_cons, List.map_nil, List.cons_append, List.nil_append, List.length_cons, List.length_nil, List.replicate, if_true, if_false, Bool.false_eq_true, reduceIte, Bool.not_true, Bool.not_false, tl05, ml, bl, ct, h29, unpD, setAll, lx, ee, h30, eTT]
    · have hpos : 0 < r.length := List.length_pos_iff.mpr hr
      have ee : (((x.length - r.length : Nat) : Int) == (x.length : Int)) = false := beq_eq_false_iff_ne.mpr (by omega)
      generalize tt.enc = te at *
      generalize ((x.length - r.length : Nat) : Int) = z at h29 ee
      simp -implicitDefEqProofs only [exB_nil, exB_cons, y_pass, y_set, y_unp, y_par, y_sti, y_app, y_rem, y_appc, y_ex, y_ife, y_whl, y_for1, y_forN, y_ret, y_retN, y_rai, y_try, y_tryR, x_var, x_lit, x_bin, x_neg, x_cmp, x_chain, x_chain3, x_cio, x_ciL, x_addv, x_and, x_or, x_not, x_tup, x_lst, x_sub, x_slice, x_call, x_bi, x_meth, x_isi, x_range, x_enum, x_zip, x_zips, c_nes, x_dict, x_ditn, evs, evb, evo, tst, brw, isVar, bor, rd, bd_ok, bd_er, bd_st, of_some, of_none, s_ok, s_er, s_st, sb_nx, sb_rt, sb_er, sb_st, val_sh, val_ol, val_od, val_ot, val_er, val_st, blR_bl, truth_bl, truth_lst, intOf_int, c_eq, c_ne, c_lt, c_le, c_gt, c_ge, c_inn, c_nin, c_isN, c_notN, n_non, n_int, n_str, n_tup, n_lst, b_add, b_sub, bi_max2, bi_min2, bi_intB, bi_intI, bi_lenL, bi_lenT, bi_lenS, bi_listL, bi_listT, bi_strS, sub_lst, sub_tup, sub_scr, sub_dic, slc_lst, slc_tup, atI0, atI1, atI2, atI3, atI4, eqV_int, eqV_bl, isi_int, isi_intb, isi_bl, isi_lst, isi_tup, isi_str, fp_sh, fp_ol, fp_nx, sz_0, sz_1, sz_2, sz_3, sz_4, sz_5, sz_6, sz_7, fp_er, res_ok, res_er, itm_lst, itm_tup, itm_str, env0, moved, Option.map_some, Option.map_none, Option.bind_some, List.getElem?_cons_zero, List.getElem?_cons_succ, List.set_cons_zero, List.set_cons_succ, List.map_cons, List.map_nil, List.cons_append, List.nil_append, List.length_cons, List.length_nil, List.replicate, if_true, if_false, Bool.false_eq_true, reduceIte, Bool.not_true, Bool.not_false, tl05, ml, bl, ct, h29, unpD, setAll, lx, ee, eTT]
end
theorem lawP_lab : ∀ (n : Nat) (s : T), ∀ u ∈ (lawP n s).1.parts, u.lab.length ≤ s.length
  | 0, s => fun u hu => by
    have hl := congrArg List.length (spW_ok s).1
    rw [List.length_append] at hl
    have hu : u ∈ [Tr.leaf (spW s).1] := hu
    rw [List.mem_singleton] at hu
    subst hu
    show (spW s).1.length ≤ _
    omega
  | n + 1, s => by
    have hs := (spW_ok s).1
    have hl := congrArg List.length hs
    rw [List.length_append] at hl
    have one : ∀ w : T, w.length ≤ s.length → ∀ u ∈ (Tr.leaf w).parts, u.lab.length ≤ s.length := fun w hw u hu => by
      have hu : u ∈ [Tr.leaf w] := hu
      rw [List.mem_singleton] at hu
      subst hu
      exact hw
    have on : ∀ r, ∀ u ∈ (lawP n r).1.parts, u.lab.length ≤ r.length := fun r => lawP_lab n r
    unfold lawP
    cases hq : (spW s).2 with
    | nil => exact one _ (by omega)
    | cons c q =>
      rw [hq] at hl
      simp only [List.length_cons] at hl
      dsimp only
      by_cases hc : c = 40
      · rw [if_pos hc]
        have b1 := (lawP_suf n q).2
        obtain ⟨w1, f1⟩ := (lawP_suf n q).1
        have l1 := congrArg List.length f1
        rw [List.length_append] at l1
        cases h1 : sgn 32 (lawP n q).2 with
        | none => exact one _ (Nat.zero_le _)
        | some r2 =>
          dsimp only
          have l2 := congrArg List.length (sgn_suf h1)
          simp only [List.length_cons] at l2
          cases h2 : sgn 41 (lawP n r2).2 with
          | none => exact one _ (Nat.zero_le _)
          | some r4 =>
            dsimp only
            intro u hu
            simp only [Tr.parts, List.mem_cons, List.mem_append] at hu
            rcases hu with rfl | hu | hu
            · show (spW s).1.length ≤ _; omega
            · have := on q u hu; omega
            · have := on r2 u hu; omega
      · rw [if_neg hc]; exact one _ (by omega)
section
variable {G : Tab} {ns : List Int}
theorem run_law05 (hA : AtOk G ns) (t : Tr) (m : Int) (n0 : T) (nr : List D) (ht : okT (txF t) = true ∧ (txF t).length ≤ 1000) (hn : okT n0 = true ∧ n0.length ≤ 8) (h6 : G.fn 6 [.scr ns, .int 1, .int m] = .ok (.sh t.enc)) (h26 : G.fn 26 [t.enc] = .ok (.sh (.str (txF t))))
    (h5 : G.fn 5 [.scr ns] = .ok (.sh (.int (secF ns)))) (h4 : G.fn 4 [.scr ns] = .ok (.sh (.int m))) (h3 : G.fn 3 [.int (secF ns), .int m] = .ok (.ol (.str n0 :: nr))) (h28 : ∀ c : Int, ∃ s : T, okT s = true ∧ s.length ≤ 300 ∧ G.fn 28 [.int c] = .ok (.sh (.str s)))
    (h25 : ∀ x : T, x.length ≤ 2000 → okT x = true → G.fn 25 [.str x] = match readF x with | some t => .ok (.sh t.enc) | none => .er 4) (h29 : ∀ x : T, x.length ≤ 2000 → okT x = true → G.fn 29 [.str x, .int 0, .int 1] = ltR x (lawP 30 x)) (h30 : ∀ x : T, x.length ≤ 2000 → okT x = true → G.fn 30 [(lawP 30 x).1.enc] = .ok (.sh (.bl (goodB (lawP 30 x).1)))) :
    run G ⟨1, 12, bodyLaw05, none⟩ [.scr ns] = .ok (.sh (.bl true)) := by
  have a30 : G.fn 2 [.scr ns, .int 30] = .ok (.sh (.int (atF ns 30))) := hA 30 (by decide)
  obtain ⟨X1, p1, e1⟩ := i1_ok hA t (txF t) ⟨ht.1, by omega⟩
  obtain ⟨X2, p2, e2⟩ := i2_ok hA t ht m n0 nr hn h5 h4 h3 X1 p1
  obtain ⟨X3, p3, e3⟩ := i3_ok hA t ht X2 p2
  obtain ⟨X4, p4, e4⟩ := i4_ok hA t h28 X3 p3
  generalize atF ns 30 = c0 at a30
  have q36 : binD .fdiv (.int c0) (.int 36) = some (.sh (.int (c0 / 36))) := b_fdiv _ _ (by decide)
  obtain ⟨q, hq, eq⟩ : ∃ q : Nat, q < 4 ∧ c0 / 36 % 4 = (q : Int) := ⟨(c0 / 36 % 4).toNat, by omega, by omega⟩
  have d4 : binD .mod (.int (c0 / 36)) (.int 4) = some (.sh (.int (q : Int))) := by rw [← eq]; exact b_mod _ _ (by decide)
  have rq : rngD [.int (q : Int)] = some ((List.range q).map fun (k : Nat) => D.int (k : Int)) := rng_1 q (by omega)
  obtain ⟨y, c', u', v', w', nn, oy, ly, lp⟩ := tx_lp05 hA t (List.range q) X4 none none none none (fun k hk => by have := List.mem_range.mp hk; omega) (by rw [List.length_range]; have := p4.2; omega) p4.1 ⟨rfl, rfl, rfl, rfl⟩
  rw [List.length_range] at ly
  have ly2 : y.length ≤ 2000 := by have := p4.2; omega
  have tl := tail_05 (G := G) (ns := ns) t c' u' v' w' nn y ly2 oy (h25 y ly2 oy) (h29 y ly2 oy) (h30 y ly2 oy)
  have s1 : exS G (.set 1 (.call 26 [(.call 6 [(.var 0), (.lit (.int 1)), (.call 4 [(.var 0)])])])) [some (.sh (.scr ns)), none, none, none, none, none, none, none, none, none, none, none] = .nx [some (.sh (.scr ns)), some (.sh (.str (txF t))), none, none, none, none, none, none, none, none, none, none] := by
    generalize txF t = TX at h26 ⊢
    generalize t.enc = te at h6 h26
    simp -implicitDefEqProofs only [exB_nil, exB_cons, y_pass, y_set, y_unp, y_par, y_sti, y_app, y_rem, y_appc, y_ex, y_ife, y_whl, y_for1, y_forN, y_ret, y_retN, y_rai, y_try, y_tryR, x_var, x_lit, x_bin, x_neg, x_cmp, x_chain, x_chain3, x_cio, x_ciL, x_addv, x_and, x_or, x_not, x_tup, x_lst, x_sub, x_slice, x_call, x_bi, x_meth, x_isi, x_range, x_enum, x_zip, x_zips, c_nes, x_dict, x_ditn, evs, evb, evo, tst, brw, isVar, bor, rd, bd_ok, bd_er, bd_st, of_some, of_none, s_ok, s_er, s_st, sb_nx, sb_rt, sb_er, sb_st, val_sh, val_ol, val_od, val_ot, val_er, val_st, blR_bl, truth_bl, truth_lst, intOf_int, c_eq, c_ne, c_lt, c_le, c_gt, c_ge, c_inn, c_nin, c_isN, c_notN, n_non, n_int, n_str, n_tup, n_lst, b_add, b_sub, bi_max2, bi_min2, bi_intB, bi_intI, bi_lenL, bi_lenT, bi_lenS, bi_listL, bi_listT, bi_strS, sub_lst, sub_tup, sub_scr, sub_dic, slc_lst, slc_tup, atI0, atI1, atI2, atI3, atI4, eqV_int, eqV_bl, isi_int, isi_intb, isi_bl, isi_lst, isi_tup, isi_str, fp_sh, fp_ol, fp_nx, sz_0, sz_1, sz_2, sz_3, sz_4, sz_5, sz_6, sz_7, fp_er, res_ok, res_er, itm_lst, itm_tup, itm_str, env0, moved, Option.map_some, Option.map_none, Option.bind_some, List.getElem?_cons_zero, List.getElem?_cons_succ, List.set_cons_zero, List.set_cons_succ, List.map_cons, List.map_nil, List.cons_append, List.nil_append, List.length_cons, List.length_nil, List.replicate, if_true, if_false, Bool.false_eq_true, reduceIte, Bool.not_true, Bool.not_false, h4, h6, h26]
  have s2 : exS G (.set 2 (.var 1)) [some (.sh (.scr ns)), some (.sh (.str (txF t))), none, none, none, none, none, none, none, none, none, none] = .nx [some (.sh (.scr ns)), some (.sh (.str (txF t))), some (.sh (.str (txF t))), none, none, none, none, none, none, none, none, none] := by
    generalize txF t = TX
    simp -implicitDefEqProofs only [exB_nil, exB_cons, y_pass, y_set, y_unp, y_par, y_sti, y_app, y_rem, y_appc, y_ex, y_ife, y_whl, y_for1, y_forN, y_ret, y_retN, y_rai, y_try, y_tryR, x_var, x_lit, x_bin, x_neg, x_cmp, x_chain, x_chain3, x_cio, x_ciL, x_addv, x_and, x_or, x_not, x_tup, x_lst, x_sub, x_slice, x_call, x_bi, x_meth, x_isi, x_range, x_enum, x_zip, x_zips, c_nes, x_dict, x_ditn, evs, evb, evo, tst, brw, isVar, bor, rd, bd_ok, bd_er, bd_st, of_some, of_none, s_ok, s_er, s_st, sb_nx, sb_rt, sb_er, sb_st, val_sh, val_ol, val_od, val_ot, val_er, val_st, blR_bl, truth_bl, truth_lst, intOf_int, c_eq, c_ne, c_lt, c_le, c_gt, c_ge, c_inn, c_nin, c_isN, c_notN, n_non, n_int, n_str, n_tup, n_lst, b_add, b_sub, bi_max2, bi_min2, bi_intB, bi_intI, bi_lenL, bi_lenT, bi_lenS, bi_listL, bi_listT, bi_strS, sub_lst, sub_tup, sub_scr, sub_dic, slc_lst, slc_tup, atI0, atI1, atI2, atI3, atI4, eqV_int, eqV_bl, isi_int, isi_intb, isi_bl, isi_lst, isi_tup, isi_str, fp_sh, fp_ol, fp_nx, sz_0, sz_1, sz_2, sz_3, sz_4, sz_5, sz_6, sz_7, fp_er, res_ok, res_er, itm_lst, itm_tup, itm_str, env0, moved, Option.map_some, Option.map_none, Option.bind_some, List.getElem?_cons_zero, List.getElem?_cons_succ, List.set_cons_zero, List.set_cons_succ, List.map_cons, List.map_nil, List.cons_append, List.nil_append, List.length_cons, List.length_nil, List.replicate, if_true, if_false, Bool.false_eq_true, reduceIte, Bool.not_true, Bool.not_false]
  have s3 : exS G lp05 [some (.sh (.scr ns)), some (.sh (.str (txF t))), some (.sh (.str X4)), none, none, none, none, none, none, none, none, none] = .nx [some (.sh (.scr ns)), some (.sh (.str (txF t))), some (.sh (.str y)), c', none, none, none, u', v', w', none, none] := by
    generalize txF t = TX at lp ⊢
    simp -implicitDefEqProofs only [exB_nil, exB_cons, y_pass, y_set, y_unp, y_par, y_sti, y_app, y_rem, y_appc, y_ex, y_ife, y_whl, y_for1, y_forN, y_ret, y_retN, y_rai, y_try, y_tryR, x_var, x_lit, x_bin, x_neg, x_cmp, x_chain, x_chain3, x_cio, x_ciL, x_addv, x_and, x_or, x_not, x_tup, x_lst, x_sub, x_slice, x_call, x_bi, x_meth, x_isi, x_range, x_enum, x_zip, x_zips, c_nes, x_dict, x_ditn, evs, evb, evo, tst, brw, isVar, bor, rd, bd_ok, bd_er, bd_st, of_some, of_none, s_ok, s_er, s_st, sb_nx, sb_rt, sb_er, sb_st, val_sh, val_ol, val_od, val_ot, val_er, val_st, blR_bl, truth_bl, truth_lst, intOf_int, c_eq, c_ne, c_lt, c_le, c_gt, c_ge, c_inn, c_nin, c_isN, c_notN, n_non, n_int, n_str, n_tup, n_lst, b_add, b_sub, bi_max2, bi_min2, bi_intB, bi_intI, bi_lenL, bi_lenT, bi_lenS, bi_listL, bi_listT, bi_strS, sub_lst, sub_tup, sub_scr, sub_dic, slc_lst, slc_tup, atI0, atI1, atI2, atI3, atI4, eqV_int, eqV_bl, isi_int, isi_intb, isi_bl, isi_lst, isi_tup, isi_str, fp_sh, fp_ol, fp_nx, sz_0, sz_1, sz_2, sz_3, sz_4, sz_5, sz_6, sz_7, fp_er, res_ok, res_er, itm_lst, itm_tup, itm_str, env0, moved, Option.map_some, Option.map_none, Option.bind_some, List.getElem?_cons_zero, List.getElem?_cons_succ, List.set_cons_zero, List.set_cons_succ, List.map_cons, List.map_nil, List.cons_append, List.nil_append, List.length_cons, List.length_nil, List.replicate, if_true, if_false, Bool.false_eq_true, reduceIte, Bool.not_true, Bool.not_false, lp05, a30, q36, d4, rq, lp]
  rw [run_eq rfl rfl]
  have wh : exB G bodyLaw05 (env0 ⟨1, 12, bodyLaw05, none⟩ [.scr ns]) = exB G tl05 [some (.sh (.scr ns)), some (.sh (.str (txF t))), some (.sh (.str y)), c', none, none, none, u', v', w', none, none] := by
    show exB G (_ :: _ :: i1_05 :: i2_05 :: i3_05 :: i4_05 :: lp05 :: tl05) [some (.sh (.scr ns)), none, none, none, none, none, none, none, none, none, none, none] = _
    rw [exB_cons, s1, sb_nx, exB_cons, s2, sb_nx, exB_cons, e1, sb_nx, exB_cons, e2, sb_nx, exB_cons, e3, sb_nx, exB_cons, e4, sb_nx, exB_cons, s3, sb_nx]
  show (exB G bodyLaw05 (env0 ⟨1, 12, bodyLaw05, none⟩ [.scr ns])).fr.pl = _
  rw [wh]
  exact tl
end
theorem sem (ns : List Int) (h : ns.length ≤ 63) : (tabOf (tabP fds) 150).fn dLaw.id [.scr ns] = .ok (.sh (.bl true)) := by
  obtain ⟨t, e, ht⟩ := fn_tree (P := tabP fds) (k := 146) rfl rfl rfl rfl ns (at_ := 1) (many := manyF ns) (by decide) (manyF_le ns).1 (Nat.le_trans (manyF_le ns).2 (by decide))
  have em := fn_many (P := tabP fds) (k := 147) rfl rfl ns
  have es := fn_second (P := tabP fds) (k := 147) rfl rfl ns
  have hm := manyF_le ns
  have tk := ht.tr hm.2
  have ln := tk.ln
  have dp := tk.dp
  have s8 : ∀ s ∈ t.names, s.length ≤ 8 := fun s hs => (tk.nm s hs).2.1
  have d8 : ∀ s ∈ t.deeds, s.length ≤ 8 := fun s hs => (tk.dd s hs).2.1
  have tl := tx_len s8 d8
  have ta := tx_all tk.nm tk.dd
  have e3n := fn_names (P := tabP fds) (k := 148) rfl (secF ns) (manyF ns) (by omega)
  have nlen := namesF_len (secF ns) (manyF ns)
  have nok := names_ok (cell := secF ns) (many := manyF ns) hm.2
  obtain ⟨n0, nr, en⟩ : ∃ a l, namesF (secF ns) (manyF ns) = a :: l := by
    cases hq : namesF (secF ns) (manyF ns) with
    | nil => rw [hq] at nlen; simp only [List.length_nil] at nlen; omega
    | cons a l => exact ⟨a, l, rfl⟩
  rw [en] at e3n nok
  have n0k := nok n0 (by simp)
  rw [show dLaw.id = 8 from rfl, tab_fn (d := ⟨1, 12, bodyLaw05, none⟩) rfl]
  refine run_law05 (atOk_tab (k := 148) rfl ns) t (manyF ns) n0 (nr.map .str) ⟨ta, by omega⟩ ⟨okNm_str n0k 0, n0k.2.1⟩ e (fn_show rfl t 149 (by omega) s8 d8 (by omega)) es em e3n (fun c => ?_) (fun x hx ho => ?_) (fun x hx ho => ?_) (fun x hx ho => ?_)
  · obtain ⟨s, s1, s2, hr⟩ := run_cb (G := tabOf (tabP fds) 148) c
    exact ⟨s, s1, s2, by rw [tab_fn (d := ⟨1, 5, bodyCb, none⟩) rfl]; exact hr⟩
  · rw [tab_fn (d := ⟨1, 3, bodyRead, none⟩) rfl, ← read_two x]
    refine run_readG (by omega) ?_ (fun u hu => ?_) (fun u => by unfold subC; simp)
    · have r := fn_rt (P := tabP fds) (j := 122) rfl rfl (x := x) (by omega) ho 24 0 1 rfl (by omega)
      rw [List.drop_zero] at r
      exact r
    · have hl := par_law 24 x u [] hu 30 (by decide)
      have b1 := (lawP_suf 30 x).2
      have b2 := lawP_deep 30 x
      have b3 := lawP_lab 30 x
      rw [hl] at b1 b2 b3
      have b1 : 3 * u.names.length + 0 ≤ x.length + 3 := b1
      have b2 : u.deep ≤ 31 := b2
      exact fn_form (P := tabP fds) (k := 145) rfl rfl rfl rfl rfl rfl u (by omega) (by omega) (fun z hz => by have := b3 z hz; unfold szL; omega)
  · have r := fn_l5 (P := tabP fds) (j := 118) rfl (x := x) (by omega) ho 30 0 1 rfl (by omega)
    rw [List.drop_zero] at r
    exact r
  · have b1 := (lawP_suf 30 x).2
    have b2 := lawP_deep 30 x
    have b3 := lawP_lab 30 x
    rw [tab_fn (d := ⟨1, 9, bodyGd, none⟩) rfl]
    exact run_gd _ (by omega) (fun z hz => by have := b3 z hz; omega) (fn_lp rfl _ 148 1 (by omega) (by omega))
end Dl
open PySem PySem.W PyProof.Rows
set_option maxHeartbeats 0 in
theorem PySem.Challenge.cw_fewboxes_k05_no_formulas_text_holds : PySem.Challenge.rw_fewboxes_k05_no_formulas_text.Holds := by
  w_on; o_law; k_head; (case hw => w_witness2)
  k_fill
  refine L2.walk_of (l := PySem.Challenge.rw_fewboxes_k05_no_formulas_text) (n := 63) (k := 150) (x := "script") (CX := fun w => L2.CX (PySem.Challenge.rw_fewboxes_k05_no_formulas_text).prog w) (sp := fun w => Dl.spX _ w Dl.excsL Dl.fds 150 Dl.dLaw.id) rfl (by decide) rfl ⟨rfl, by decide, by decide⟩ (fun w h Y => PySem.W.kIn_of Y) ?F (fun w H a ns hl _ hS => Dl.spX_true hS (Dl.sem ns hl)) (fun _ _ _ _ _ h => Dl.cx_false h)
  case F =>
    intro w mg fa h KX G hmg
    refine' Dl.law_FX (k := 149) (fds := Dl.fds) (d := Dl.dLaw) KX G hmg Dl.law_mem ⟨rfl, rfl, rfl⟩ (Dl.fdks_cons (Dl.fdk_mk ?a0 ?l0 ?c0 ?k0 Dl.bd_dIsName Dl.sc_dIsName) (Dl.fdks_cons (Dl.fdk_mk ?a1 ?l1 ?c1 ?k1 Dl.bd_dPlaces Dl.sc_dPlaces) (Dl.fdks_cons (Dl.fdk_mk ?a2 ?l2 ?c2 ?k2 Dl.bd_dPartAt Dl.sc_dPartAt) (Dl.fdks_cons (Dl.fdk_mk ?a3 ?l3 ?c3 ?k3 Dl.bd_dLeaves Dl.sc_dLeaves) (Dl.fdks_cons (Dl.fdk_mk ?a4 ?l4 ?c4 ?k4 Dl.bd_dDepthOf Dl.sc_dDepthOf) (Dl.fdks_cons (Dl.fdk_mk ?a5 ?l5 ?c5 ?k5 Dl.bd_dFormula Dl.sc_dFormula) (Dl.fdks_cons (Dl.fdk_mk ?a6 ?l6 ?c6 ?k6 Dl.bd_dWanted Dl.sc_dWanted) (Dl.fdks_cons (Dl.fdk_mk ?a7 ?l7 ?c7 ?k7 Dl.bd_dReadTree Dl.sc_dReadTree) (Dl.fdks_cons (Dl.fdk_mk ?a8 ?l8 ?c8 ?k8 Dl.bd_dRead Dl.sc_dRead) (Dl.fdks_cons (Dl.fdk_mk ?a9 ?l9 ?c9 ?k9 Dl.bd_dLawAt Dl.sc_dLawAt) (Dl.fdks_cons (Dl.fdk_mk ?a10 ?l10 ?c10 ?k10 Dl.bd_dLawNames Dl.sc_dLawNames) (Dl.fdks_cons (Dl.fdk_mk ?a11 ?l11 ?c11 ?k11 Dl.bd_dLawMany Dl.sc_dLawMany) (Dl.fdks_cons (Dl.fdk_mk ?a12 ?l12 ?c12 ?k12 Dl.bd_dLawSecond Dl.sc_dLawSecond) (Dl.fdks_cons (Dl.fdk_mk ?a13 ?l13 ?c13 ?k13 Dl.bd_dLawTree Dl.sc_dLawTree) (Dl.fdks_cons (Dl.fdk_mk ?a14 ?l14 ?c14 ?k14 Dl.bd_dLawText Dl.sc_dLawText) (Dl.fdks_cons (Dl.fdk_mk ?a15 ?l15 ?c15 ?k15 Dl.bd_dLawParts Dl.sc_dLawParts) (Dl.fdks_cons (Dl.fdk_mk ?a16 ?l16 ?c16 ?k16 Dl.bd_dLawComb Dl.sc_dLawComb) (Dl.fdks_cons (Dl.fdk_mk ?a17 ?l17 ?c17 ?k17 Dl.bd_dLawRead Dl.sc_dLawRead) (Dl.fdks_cons (Dl.fdk_mk ?a18 ?l18 ?c18 ?k18 Dl.bd_dLawGood Dl.sc_dLawGood) (Dl.fdks_cons (Dl.fdk_mk ?a19 ?l19 ?c19 ?k19 Dl.bd_dLaw Dl.sc_dLaw) Dl.fdks_nil)))))))))))))))))))) Dl.ids_nd Dl.says_all (Dl.lf_exc KX G [((("FewError" : PySem.Str), 0), _), ((("NoName" : PySem.Str), 1), _), ((("Twice" : PySem.Str), 2), _), ((("TooBig" : PySem.Str), 3), _), ((("NoText" : PySem.Str), 4), _)] _ _ rfl rfl (Dl.xcks_cons (Dl.xck_mk ?xa0 ?xq0 ?xk0 ?xt0 ?xv0 ?xg0 ?xh0 ?xs0 ?xd0 ?xC0 ?xn0 ?xT0 ?xm0) (Dl.xcks_cons (Dl.xck_mk ?xa1 ?xq1 ?xk1 ?xt1 ?xv1 ?xg1 ?xh1 ?xs1 ?xd1 ?xC1 ?xn1 ?xT1 ?xm1) (Dl.xcks_cons (Dl.xck_mk ?xa2 ?xq2 ?xk2 ?xt2 ?xv2 ?xg2 ?xh2 ?xs2 ?xd2 ?xC2 ?xn2 ?xT2 ?xm2) (Dl.xcks_cons (Dl.xck_mk ?xa3 ?xq3 ?xk3 ?xt3 ?xv3 ?xg3 ?xh3 ?xs3 ?xd3 ?xC3 ?xn3 ?xT3 ?xm3) (Dl.xcks_cons (Dl.xck_mk ?xa4 ?xq4 ?xk4 ?xt4 ?xv4 ?xg4 ?xh4 ?xs4 ?xd4 ?xC4 ?xn4 ?xT4 ?xm4) Dl.xcks_nil))))) (Dl.sbks_cons (Dl.sbk_cons (b := true) ?s0_0 rfl (Dl.sbk_cons (b := false) ?s0_1 rfl (Dl.sbk_cons (b := false) ?s0_2 rfl (Dl.sbk_cons (b := false) ?s0_3 rfl (Dl.sbk_cons (b := false) ?s0_4 rfl Dl.sbk_nil))))) (Dl.sbks_cons (Dl.sbk_cons (b := true) ?s1_0 rfl (Dl.sbk_cons (b := true) ?s1_1 rfl (Dl.sbk_cons (b := false) ?s1_2 rfl (Dl.sbk_cons (b := false) ?s1_3 rfl (Dl.sbk_cons (b := false) ?s1_4 rfl Dl.sbk_nil))))) (Dl.sbks_cons (Dl.sbk_cons (b := true) ?s2_0 rfl (Dl.sbk_cons (b := false) ?s2_1 rfl (Dl.sbk_cons (b := true) ?s2_2 rfl (Dl.sbk_cons (b := false) ?s2_3 rfl (Dl.sbk_cons (b := false) ?s2_4 rfl Dl.sbk_nil))))) (Dl.sbks_cons (Dl.sbk_cons (b := true) ?s3_0 rfl (Dl.sbk_cons (b := false) ?s3_1 rfl (Dl.sbk_cons (b := false) ?s3_2 rfl (Dl.sbk_cons (b := true) ?s3_3 rfl (Dl.sbk_cons (b := false) ?s3_4 rfl Dl.sbk_nil))))) (Dl.sbks_cons (Dl.sbk_cons (b := true) ?s4_0 rfl (Dl.sbk_cons (b := false) ?s4_1 rfl (Dl.sbk_cons (b := false) ?s4_2 rfl (Dl.sbk_cons (b := false) ?s4_3 rfl (Dl.sbk_cons (b := true) ?s4_4 rfl Dl.sbk_nil))))) Dl.sbks_nil))))) ?zv ?zw (by decide) (by decide) (Dl.bl_of KX G ?z0 ?z1 ?z2 ?z3 ?z4 ?z5 ?z6 ?z7 ?z8 ?z9 ?z10 ?z11 ?z12 ?z13 ?z14) ?hcons)
    (case xa0 => k_is); (case xq0 => k_exc)
    (case xk0 => k_is); (case xt0 => k_is); (case xv0 => k_is); (case xg0 => k_is); (case xh0 => k_is); (case xs0 => k_is); (case xd0 => k_is); (case xC0 => k_is); (case xn0 => k_is); (case xT0 => k_is); (case xm0 => k_is)
    (case xa1 => k_is); (case xq1 => k_exc)
    (case xk1 => k_is); (case xt1 => k_is); (case xv1 => k_is); (case xg1 => k_is); (case xh1 => k_is); (case xs1 => k_is); (case xd1 => k_is); (case xC1 => k_is); (case xn1 => k_is); (case xT1 => k_is); (case xm1 => k_is)
    (case xa2 => k_is); (case xq2 => k_exc)
    (case xk2 => k_is); (case xt2 => k_is); (case xv2 => k_is); (case xg2 => k_is); (case xh2 => k_is); (case xs2 => k_is); (case xd2 => k_is); (case xC2 => k_is); (case xn2 => k_is); (case xT2 => k_is); (case xm2 => k_is)
    (case xa3 => k_is); (case xq3 => k_exc)
    (case xk3 => k_is); (case xt3 => k_is); (case xv3 => k_is); (case xg3 => k_is); (case xh3 => k_is); (case xs3 => k_is); (case xd3 => k_is); (case xC3 => k_is); (case xn3 => k_is); (case xT3 => k_is); (case xm3 => k_is)
    (case xa4 => k_is); (case xq4 => k_exc)
    (case xk4 => k_is); (case xt4 => k_is); (case xv4 => k_is); (case xg4 => k_is); (case xh4 => k_is); (case xs4 => k_is); (case xd4 => k_is); (case xC4 => k_is); (case xn4 => k_is); (case xT4 => k_is); (case xm4 => k_is)
    (case s0_0 => first | k_is | rfl); (case s0_1 => first | k_is | rfl); (case s0_2 => first | k_is | rfl); (case s0_3 => first | k_is | rfl); (case s0_4 => first | k_is | rfl)
    (case s1_0 => first | k_is | rfl); (case s1_1 => first | k_is | rfl); (case s1_2 => first | k_is | rfl); (case s1_3 => first | k_is | rfl); (case s1_4 => first | k_is | rfl)
    (case s2_0 => first | k_is | rfl); (case s2_1 => first | k_is | rfl); (case s2_2 => first | k_is | rfl); (case s2_3 => first | k_is | rfl); (case s2_4 => first | k_is | rfl)
    (case s3_0 => first | k_is | rfl); (case s3_1 => first | k_is | rfl); (case s3_2 => first | k_is | rfl); (case s3_3 => first | k_is | rfl); (case s3_4 => first | k_is | rfl)
    (case s4_0 => first | k_is | rfl); (case s4_1 => first | k_is | rfl); (case s4_2 => first | k_is | rfl); (case s4_3 => first | k_is | rfl); (case s4_4 => first | k_is | rfl)
    (case zv => k_is); (case zw => first | k_is | rfl)
    (case a0 => k_is); (case l0 => k_is); (case c0 => k_is); (case k0 => k_is)
    (case a1 => k_is); (case l1 => k_is); (case c1 => k_is); (case k1 => k_is)
    (case a2 => k_is); (case l2 => k_is); (case c2 => k_is); (case k2 => k_is)
    (case a3 => k_is); (case l3 => k_is); (case c3 => k_is); (case k3 => k_is)
    (case a4 => k_is); (case l4 => k_is); (case c4 => k_is); (case k4 => k_is)
    (case a5 => k_is); (case l5 => k_is); (case c5 => k_is); (case k5 => k_is)
    (case a6 => k_is); (case l6 => k_is); (case c6 => k_is); (case k6 => k_is)
    (case a7 => k_is); (case l7 => k_is); (case c7 => k_is); (case k7 => k_is)
    (case a8 => k_is); (case l8 => k_is); (case c8 => k_is); (case k8 => k_is)
    (case a9 => k_is); (case l9 => k_is); (case c9 => k_is); (case k9 => k_is)
    (case a10 => k_is); (case l10 => k_is); (case c10 => k_is); (case k10 => k_is)
    (case a11 => k_is); (case l11 => k_is); (case c11 => k_is); (case k11 => k_is)
    (case a12 => k_is); (case l12 => k_is); (case c12 => k_is); (case k12 => k_is)
    (case a13 => k_is); (case l13 => k_is); (case c13 => k_is); (case k13 => k_is)
    (case a14 => k_is); (case l14 => k_is); (case c14 => k_is); (case k14 => k_is)
    (case a15 => k_is); (case l15 => k_is); (case c15 => k_is); (case k15 => k_is)
    (case a16 => k_is); (case l16 => k_is); (case c16 => k_is); (case k16 => k_is)
    (case a17 => k_is); (case l17 => k_is); (case c17 => k_is); (case k17 => k_is)
    (case a18 => k_is); (case l18 => k_is); (case c18 => k_is); (case k18 => k_is)
    (case a19 => k_is); (case l19 => k_is); (case c19 => k_is); (case k19 => k_is)
    (case z0 => k_is)
    (case z1 => k_is)
    (case z2 => k_is)
    (case z3 => k_is)
    (case z4 => k_is)
    (case z5 => k_is)
    (case z6 => k_is)
    (case z7 => k_is)
    (case z8 => k_is)
    (case z9 => k_is)
    (case z10 => k_is)
    (case z11 => k_is)
    (case z12 => k_is)
    (case z13 => k_is)
    (case z14 => k_is)
    case hcons =>
      intro p hp
      simp only [Dl.consL, List.mem_cons, List.not_mem_nil, or_false] at hp
      rcases hp with rfl | rfl | rfl
      · refine' Dl.cons_str KX G ?qa ?qb
        (case qa => k_is)
        (case qb => decide +kernel)
      · refine' Dl.cons_int KX G ?qa ?qb
        (case qa => k_is)
        (case qb => decide +kernel)
      · refine' Dl.cons_int KX G ?qa ?qb
        (case qa => k_is)
        (case qb => decide +kernel)

