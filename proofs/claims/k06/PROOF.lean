import PyProof.Rows.All
import Wide.All
import OpenK.AllK
import Wide.FinOn
import HandS.ForMost
import HandS.Exc
import HandS.ExcOwn
import HandS.TryOnly
import HandS.WordsExc
import HandS.StrMore
import HandS.IsInst
import HandS.ExcIs
import HandS.Wide
import HandS.Replace
import HandS.More
import HandS.Comp
import HandS.Iter
import HandS.DeepEq
import PyProof.NeKinds
import PyProof.Rows.StrMeet
import PyProof.Rows.SortStr
import HandS.TupAny
import HandS.SortInts
import HandS.Finally
import HandS.New0
import HandS.EndBits
import PySem.Challenge.RW_disposehall_k06_terms_as_words
set_option Elab.async false
set_option linter.all false
set_option maxRecDepth 100000
set_option maxHeartbeats 1000000
namespace Vc
open PySem PySem.Spec PyProof.Rows L2

/-! ### values without a heap -/
inductive PV where
  | non
  | bl (b : Bool)
  | int (i : Int)
  | str (s : Str)
  | lst (xs : List PV)
  | tup (xs : List PV)
  | dic (kvs : List (Key × PV))
  | obj (c : Str) (fs : List (Str × PV))
  | exc (c : Str) (fs : List (Str × PV))
abbrev Env := List (Option PV)

/-! ### my own tree of a def's body: places for names, no positions -/
inductive Bi | len | str | int | abs | max | min | divmod | any | list | dict | sorted | tuple
  deriving DecidableEq
def Bi.nm : Bi → Str
  | .len => "len" | .str => "str" | .int => "int" | .abs => "abs" | .max => "max" | .min => "min" | .divmod => "divmod"
  | .any => "any" | .list => "list" | .dict => "dict" | .sorted => "sorted" | .tuple => "tuple"
inductive Bm | append | pop | split | partition | join | zfill | index | get | extend | clear | items | values | count | replace | setdefault
  deriving DecidableEq
def Bm.nm : Bm → Str
  | .append => "append" | .pop => "pop" | .split => "split" | .partition => "partition" | .join => "join" | .zfill => "zfill" | .index => "index"
  | .get => "get" | .extend => "extend" | .clear => "clear" | .items => "items" | .values => "values" | .count => "count" | .replace => "replace" | .setdefault => "setdefault"
inductive Tg
  | nm (i : Nat)
  | tp (is : List Nat)
mutual
inductive Ex
  | v (i : Nat)
  | ki (n : Int)
  | ks (s : Str)
  | kb (b : Bool)
  | kn
  | g (x : Str)
  | op (o : Operator) (a b : Ex)
  | cmp (o : CmpOp) (a b : Ex)
  | chain (o o' : CmpOp) (a b c : Ex)
  | and (a b : Ex)
  | or (a b : Ex)
  | not (a : Ex)
  | neg (a : Ex)
  | ife (c a b : Ex)
  | call (f : Str) (es : Exs)
  | bi (f : Bi) (es : Exs)
  | isi (a : Ex) (c : Str)
  | isiT (a : Ex) (cs : List Str)
  | bm (m : Bm) (o : Ex) (es : Exs)
  | ix (a i : Ex)
  | sl (a : Ex) (lo hi : OEx)
  | lst (es : Exs)
  | tup (es : Exs)
  | dict0
  | lc (t : Tg) (s : Src) (c : OEx) (e : Ex) (own : List (Str × Nat))
  | dict (kvs : Exs)
  | fld (o : Ex) (f : Str)
  | meth (m : Str) (o : Ex) (es : Exs)
  | make (C : Str) (es : Exs)
  | fstr (es : Exs)
  | skey (a : Ex) (f : Str)
  | minlen (a : Ex)
  | mindef (a : Ex) (d : Ex)
  | symd (a b : Ex)
inductive Src
  | seq (e : Ex)
  | rng (e : Ex)
  | keys (e : Ex)
  | rng2 (a b : Ex)
  | rng3 (a b c : Ex)
  | rev (e : Ex)
  | enum (e : Ex)
  | enums (e k : Ex)
inductive Exs
  | nil
  | cons (e : Ex) (r : Exs)
inductive OEx
  | none
  | some (e : Ex)
end
mutual
inductive St
  | set (i : Nat) (e : Ex)
  | unp (is : List Nat) (e : Ex)
  | ex (e : Ex)
  | ifs (c : Ex) (a b : Sts)
  | fors (t : Tg) (s : Src) (b : Sts)
  | whl (c : Ex) (b : Sts)
  | ret (e : Ex)
  | retn
  | raise (C m : Str)
  | pass
  | tr (b : Sts) (C : Str) (n : Option Nat) (h : Sts)
  | sub (a i v : Ex)
  | lock (s : St)
  | setlc (i : Nat) (t : Tg) (s : Src) (c : OEx) (e : Ex) (own : List (Str × Nat))
  | sfld (o : Ex) (f : Str) (v : Ex)
  | raise1 (C : Str) (e : Ex)
inductive Sts
  | nil
  | cons (s : St) (r : Sts)
end
end Vc

set_option Elab.async false
set_option linter.all false
set_option maxRecDepth 100000
set_option maxHeartbeats 1000000
namespace Vc
open PySem PySem.Spec PyProof.Rows L2
/-! ### what a tree computes, by values alone -/
inductive Res where
  | ok (r : PV) (ms : List PV)
  | ex (e : PV) (ms : List PV)
  | bad
inductive Rs (α : Type) where
  | ok (a : α) (env : Env)
  | ex (e : PV) (env : Env)
  | bad
def Rs.bind {α β : Type} (r : Rs α) (f : α → Env → Rs β) : Rs β :=
  match r with
  | .ok a env => f a env
  | .ex e env => .ex e env
  | .bad => .bad
section
variable {α β γ : Type}
theorem Rs.bind_ok {a : α} {env : Env} {f : α → Env → Rs β} : (Rs.ok a env).bind f = f a env := rfl
theorem Rs.bind_ex {e : PV} {env : Env} {f : α → Env → Rs β} : (Rs.ex e env : Rs α).bind f = .ex e env := rfl
theorem Rs.bind_bad {f : α → Env → Rs β} : (Rs.bad : Rs α).bind f = .bad := rfl
end
def opt {α : Type} (o : Option α) (env : Env) : Rs α :=
  match o with
  | some a => .ok a env
  | none => .bad
inductive Pm | sh | bw | mu
  deriving DecidableEq
structure PFn where
  ps : List Pm
  own : Bool
  run : List PV → Res
structure PGm where
  gl : Str → Option PV
  fn : Str → Option PFn
  ms : Str → Option (List Pm × Bool)
  mt : Str → Str → Option (List PV → Res)
  mak : Str → Option (List PV → Res)
  isa : Str → Str → Option Bool
  exc : Str → Option (Option Str)
  fuel : Nat
def getS : Env → Nat → Option PV
  | [], _ => none
  | x :: _, 0 => x
  | _ :: r, n + 1 => getS r n
/-- a place that can be changed: a name, its fields -/
def lvOf : Ex → Option (Nat × List Str)
  | .v i => some (i, [])
  | .fld o f => (lvOf o).map fun p => (p.1, p.2 ++ [f])
  | _ => none
def getP : PV → List Str → Option PV
  | x, [] => some x
  | .obj _ fs, f :: r => (fs.lookup f).bind fun y => getP y r
  | _, _ :: _ => none
def setF (fs : List (Str × PV)) (f : Str) (y : PV) : List (Str × PV) := fs.map fun p => if p.1 == f then (p.1, y) else p
def setP : PV → List Str → PV → Option PV
  | _, [], y => some y
  | .obj c fs, f :: r, y => (fs.lookup f).bind fun x => (setP x r y).map fun z => .obj c (setF fs f z)
  | _, _ :: _, _ => none
def getL (env : Env) (p : Nat × List Str) : Option PV := (getS env p.1).bind fun x => getP x p.2
def setL (env : Env) (p : Nat × List Str) (y : PV) : Option Env := (getS env p.1).bind fun x => (setP x p.2 y).map fun z => env.set p.1 (some z)
/-! operations -/
mutual
/-- data without dicts, of nesting at most n -/
def datN : PV → Nat → Bool
  | .obj _ _, _ => false
  | .exc _ _, _ => false
  | .dic _, _ => false
  | .lst xs, n => (match n with
      | 0 => false
      | n + 1 => datNL xs n)
  | .tup xs, n => (match n with
      | 0 => false
      | n + 1 => datNL xs n)
  | _, _ => true
def datNL : List PV → Nat → Bool
  | [], _ => true
  | x :: xs, n => datN x n && datNL xs n
end
def dat (x : PV) : Bool := datN x 60
/-- a dict of such -/
def dicD : PV → Bool
  | .dic kvs => kvs.all fun kv => datN kv.2 50
  | _ => false
def dicL : PV → Bool
  | .lst xs => xs.all dicD
  | _ => false
/-- == is told of them -/
def eqG (x y : PV) : Bool := (dat x && dat y) || (dicD x && dicD y) || (dicL x && dicL y)
def dget (kvs : List (Key × PV)) (k : Key) : Option PV := (kvs.find? fun kv => decide (kv.1 = k)).map (·.2)
def dput (kvs : List (Key × PV)) (k : Key) (v : PV) : List (Key × PV) :=
  if (kvs.any fun kv => decide (kv.1 = k)) = true then kvs.map (fun kv => if kv.1 = k then (kv.1, v) else kv) else kvs ++ [(k, v)]
mutual
/-- == -/
def eqP : PV → PV → Bool
  | .non, y => (match y with
      | .non => true
      | _ => false)
  | .bl a, y => (match y with
      | .bl b => a == b
      | .int j => (if a then 1 else 0) == j
      | _ => false)
  | .int i, y => (match y with
      | .bl b => i == (if b then 1 else 0)
      | .int j => i == j
      | _ => false)
  | .str s, y => (match y with
      | .str t => s == t
      | _ => false)
  | .lst xs, y => (match y with
      | .lst ys => eqL xs ys
      | _ => false)
  | .tup xs, y => (match y with
      | .tup ys => eqL xs ys
      | _ => false)
  | .dic kvs, y => (match y with
      | .dic ls => kvs.length == ls.length && eqD kvs ls
      | _ => false)
  | .obj _ _, _ => false
  | .exc _ _, _ => false
def eqL : List PV → List PV → Bool
  | [], ys => ys.isEmpty
  | x :: xs, ys => (match ys with
      | y :: ys => eqP x y && eqL xs ys
      | [] => false)
def eqD : List (Key × PV) → List (Key × PV) → Bool
  | [], _ => true
  | (k, x) :: xs, ls => (match dget ls k with
      | some y => eqP x y
      | none => false) && eqD xs ls
end
mutual
/-- the order: of ints, of texts, of lists and tuples of such; none where Python has none (or it isn't told here) -/
def ltP : PV → PV → Option Bool
  | .int i, y => (match y with
      | .int j => some (decide (i < j))
      | _ => none)
  | .str s, y => (match y with
      | .str t => some (decide (s.cps.toList < t.cps.toList))
      | _ => none)
  | .lst xs, y => (match y with
      | .lst ys => ltL xs ys
      | _ => none)
  | .tup xs, y => (match y with
      | .tup ys => ltL xs ys
      | _ => none)
  | _, _ => none
def ltL : List PV → List PV → Option Bool
  | [], ys => some (!ys.isEmpty)
  | x :: xs, ys => (match ys with
      | y :: ys => if eqP x y = true then ltL xs ys else ltP x y
      | [] => some false)
end
def ltB (x y : PV) : Bool := (ltP x y).getD false
def keyP : PV → Option Key
  | .int i => some (.inl i)
  | .str s => some (.inr s)
  | _ => none
def kP : Key → PV
  | .inl i => .int i
  | .inr s => .str s
def grd {α : Type} (p : Prop) [Decidable p] (x : α) : Option α := if p then some x else none
theorem grd_pos {α : Type} {p : Prop} [Decidable p] {x : α} (h : p) : grd p x = some x := if_pos h
def addP : PV → PV → Option PV
  | .int i, .int j => some (.int (i + j))
  | .str a, .str b => grd (a.length + b.length ≤ sizeLine) (.str (a ++ b))
  | .lst xs, .lst ys => grd (xs.length + ys.length ≤ sizeLine) (.lst (xs ++ ys))
  | .tup xs, .tup ys => grd (xs.length + ys.length ≤ sizeLine) (.tup (xs ++ ys))
  | _, _ => none
def mulOk (i j : Int) : Prop := (-(2 ^ 64) < i ∧ i < 2 ^ 64) ∨ (-(2 ^ 64) < j ∧ j < 2 ^ 64)
instance (i j : Int) : Decidable (mulOk i j) := by unfold mulOk; infer_instance
def opP : Operator → PV → PV → Option PV
  | .Add, x, y => addP x y
  | .Sub, .int i, .int j => some (.int (i - j))
  | .Mult, .int i, .int j => grd (mulOk i j) (.int (i * j))
  | .FloorDiv, .int i, .int j => grd (0 < j ∧ j < 1073741824) (.int (i / j))
  | .Mod, .int i, .int j => grd (0 < j) (.int (i % j))
  | .Pow, .int i, .int j => grd (0 ≤ j ∧ j ≤ 1000000 ∧ i.natAbs < 2 ^ 64) (.int (i ^ j.toNat))
  | _, _, _ => none
def inP (x : PV) : PV → Option Bool
  | .str z => (match x with
      | .str a => (match a.cps.toList with
          | [c] => some (decide (c ∈ z.cps.toList))
          | _ => none)
      | _ => none)
  | .lst xs => grd (datN x 50 = true ∧ datNL xs 50 = true) (xs.any fun y => eqP y x)
  | .tup xs => grd (datN x 50 = true ∧ datNL xs 50 = true) (xs.any fun y => eqP y x)
  | .dic kvs => (keyP x).map fun k => (dget kvs k).isSome
  | _ => none
def cmpP : CmpOp → PV → PV → Option Bool
  | .Eq, x, y => grd (eqG x y = true) (eqP x y)
  | .NotEq, x, y => grd (eqG x y = true) (!eqP x y)
  | .Lt, .int i, .int j => some (decide (i < j))
  | .LtE, .int i, .int j => some (decide (i ≤ j))
  | .Gt, .int i, .int j => some (decide (j < i))
  | .GtE, .int i, .int j => some (decide (j ≤ i))
  | .Lt, .str s, .str t => some (decide (s.cps.toList < t.cps.toList))
  | .Is, x, .non => some (match x with
      | .non => true
      | _ => false)
  | .IsNot, x, .non => some (match x with
      | .non => false
      | _ => true)
  | .In, x, y => inP x y
  | .NotIn, x, y => (inP x y).map (!·)
  | _, _, _ => none
def truP : PV → Option Bool
  | .non => some false
  | .bl b => some b
  | .int i => some (i != 0)
  | .lst xs => some (!xs.isEmpty)
  | .tup xs => some (!xs.isEmpty)
  | _ => none
def lenP : PV → Option Nat
  | .str z => grd (z.length ≤ sizeLine) z.length
  | .lst xs => some xs.length
  | .tup xs => some xs.length
  | .dic kvs => some kvs.length
  | _ => none
/-- insertion, behind equal ones -/
def insB (lt : PV → PV → Bool) (x : PV) : List PV → List PV
  | [] => [x]
  | y :: ys => if lt x y then x :: y :: ys else y :: insB lt x ys
/-- the stable arrangement by lt -/
def sortB (lt : PV → PV → Bool) (xs : List PV) : List PV := xs.foldl (fun acc x => insB lt x acc) []
/-- each two can be compared -/
def ordOk (xs : List PV) : Prop := (∀ x ∈ xs, ∀ y ∈ xs, (ltP x y).isSome = true) 
def ordOkB (xs : List PV) : Bool := xs.all fun x => xs.all fun y => (ltP x y).isSome
def intsOf : List PV → Option (List Int)
  | [] => some []
  | .int i :: r => (intsOf r).map (i :: ·)
  | _ => none
def strsOf : List PV → Option (List Str)
  | [] => some []
  | .str i :: r => (strsOf r).map (i :: ·)
  | _ => none
def blsOf : List PV → Option (List Bool)
  | [] => some []
  | .bl i :: r => (blsOf r).map (i :: ·)
  | _ => none
/-- what sorted() is told of here: texts, fewer than 64, or ints -/
def srtOk (ds : List PV) : Bool := match strsOf ds with
  | some zs => decide (zs.length < 64)
  | none => (intsOf ds).isSome
def srtOkD (ds : List PV) : Bool := decide (ds.length < 64) && ((strsOf ds).isSome || (intsOf ds).isSome)
/-- the first greatest -/
def maxB (lt : PV → PV → Bool) : PV → List PV → PV
  | m, [] => m
  | m, x :: r => maxB lt (if lt m x then x else m) r
def minB (lt : PV → PV → Bool) : PV → List PV → PV
  | m, [] => m
  | m, x :: r => minB lt (if lt x m then x else m) r
def listP : PV → Option (List PV)
  | .lst xs => some xs
  | .tup xs => some xs
  | .dic kvs => some (kvs.map fun kv => kP kv.1)
  | _ => none
def biP : Bi → List PV → Option PV
  | .len, [x] => (lenP x).map fun (n : Nat) => PV.int (n : Int)
  | .str, [.int i] => grd (i.natAbs.log2 < 1920) (.str (toString i))
  | .int, [.int i] => some (.int i)
  | .int, [.bl b] => some (.int (if b then 1 else 0))
  | .int, [.str a] => (match PySem.intText? a with
      | some n => grd (a.length ≤ 640) (.int n)
      | none => none)
  | .abs, [.int i] => some (.int (if i < 0 then -i else i))
  | .max, [.int i, .int j] => some (.int (if j > i then j else i))
  | .min, [.int i, .int j] => some (.int (if j < i then j else i))
  | .max, [.lst (x :: xs)] => grd ((intsOf (x :: xs)).isSome = true) (maxB ltB x xs)
  | .min, [.lst (x :: xs)] => grd ((intsOf (x :: xs)).isSome = true) (minB ltB x xs)
  | .divmod, [.int i, .int j] => grd (0 < j ∧ j < 1073741824) (.tup [.int (i / j), .int (i % j)])
  | .any, [.lst xs] => (blsOf xs).map fun bs => .bl (bs.any id)
  | .list, [x] => (listP x).map .lst
  | .tuple, [x] => (match x with
      | .lst xs => some (.tup xs)
      | .tup xs => some (.tup xs)
      | _ => none)
  | .dict, [.dic kvs] => some (.dic kvs)
  | .sorted, [.lst xs] => grd (srtOk xs = true) (.lst (sortB ltB xs))
  | .sorted, [.dic kvs] => grd (srtOkD (kvs.map fun kv => kP kv.1) = true) (.lst (sortB ltB (kvs.map fun kv => kP kv.1)))
  | _, _ => none
def isMut : Bm → Bool
  | .append => true | .pop => true | .extend => true | .clear => true | .setdefault => true
  | _ => false
/-- of which kind it must be -/
def mutK : Bm → PV → Bool
  | .append, .lst _ => true
  | .pop, .lst _ => true
  | .extend, .lst _ => true
  | .clear, .lst _ => true
  | .clear, .dic _ => true
  | _, _ => false
/-- a method that changes its list or dict: its answer and the new one -/
def mutP : Bm → PV → List PV → Option (PV × PV)
  | .append, .lst xs, [y] => grd (xs.length < sizeLine) (.non, .lst (xs ++ [y]))
  | .pop, .lst xs, [] => (xs[xs.length - 1]?).map fun y => (y, .lst xs.dropLast)
  | .extend, .lst xs, [.lst ys] => grd (xs.length + ys.length ≤ sizeLine) (.non, .lst (xs ++ ys))
  | .clear, .lst _, [] => some (.non, .lst [])
  | .clear, .dic _, [] => some (.non, .dic [])
  | _, _, _ => none
def bmP : Bm → PV → List PV → Option PV
  | .split, .str a, [.str b] => grd ((b.length == 0) = false ∧ a.length + 2 ≤ sizeLine) (.lst ((Txt.split a b).map PV.str))
  | .partition, .str a, [.str b] => grd ((b.length == 0) = false ∧ a.length ≤ sizeLine) (.tup [.str (Txt.partition a b).1, .str (Txt.partition a b).2.1, .str (Txt.partition a b).2.2])
  | .zfill, .str a, [.int i] => grd (PadOk i = true) (.str (Txt.zfill a i))
  | .join, .str a, [x] => (match x with
      | .lst ys => (strsOf ys).bind fun zs => grd ((zs.map (fun x => x.length)).sum + zs.length * a.length ≤ 16777216) (.str (Txt.join a zs))
      | _ => none)
  | .index, .str a, [.str b] => (Txt.index0 a b).map fun i => .int (i : Nat)
  | .get, .dic kvs, [k, d] => (keyP k).map fun k => (dget kvs k).getD d
  | .items, .dic kvs, [] => some (.lst (kvs.map fun kv => .tup [kP kv.1, kv.2]))
  | .values, .dic kvs, [] => some (.lst (kvs.map (·.2)))
  | .count, .lst xs, [y] => grd (datN y 50 = true ∧ datNL xs 50 = true) (.int ((xs.filter fun x => eqP x y).length : Nat))
  | _, _, _ => none
/-- of which kind -/
def bmK : Bm → PV → Bool
  | .split, .str _ => true | .partition, .str _ => true | .join, .str _ => true | .zfill, .str _ => true | .index, .str _ => true
  | .count, .lst _ => true
  | .get, .dic _ => true
  | _, _ => false
def ixP : PV → PV → Option PV
  | .str z, .int k => (grd (z.length ≤ sizeLine) ()).bind fun _ => (atI z.cps.toList k).map fun c => .str ⟨#[c]⟩
  | .lst xs, .int k => atI xs k
  | .tup xs, .int k => atI xs k
  | .dic kvs, k => (keyP k).bind fun k => dget kvs k
  | _, _ => none
def cutP (xs : List PV) (lo hi : Option Int) : List PV := (xs.drop (HT.sIx xs.length 0 lo)).take (HT.sIx xs.length xs.length hi - HT.sIx xs.length 0 lo)
def slP : PV → Option Int → Option Int → Option PV
  | .str z, lo, hi => grd (z.length ≤ sizeLine) (.str (cutS z lo hi))
  | .lst xs, lo, hi => some (.lst (cutP xs lo hi))
  | .tup xs, lo, hi => some (.tup (cutP xs lo hi))
  | _, _, _ => none
def isP (G : PGm) (x : PV) (c : Str) : Option Bool :=
  match x with
  | .obj d _ => G.isa d c
  | .exc d [] => G.isa d c
  | .exc _ (_ :: _) => none
  | .non => G.isa "NoneType" c
  | .bl _ => G.isa "bool" c
  | .int _ => G.isa "int" c
  | .str _ => G.isa "str" c
  | .lst _ => G.isa "list" c
  | .tup _ => G.isa "tuple" c
  | .dic _ => G.isa "dict" c
def isPs (G : PGm) (x : PV) : List Str → Option Bool
  | [] => none
  | [c] => isP G x c
  | c :: cs => (isP G x c).bind fun b => (isPs G x cs).map fun d => b || d
def fmtP : PV → Option Str
  | .str z => grd (z.length ≤ sizeLine) z
  | .int i => grd (i.natAbs.log2 < 1920) (toString i)
  | _ => none
def fsP : List PV → Str → Option Str
  | [], acc => some acc
  | x :: r, acc => (fmtP x).bind fun y => (grd ((acc ++ y).length ≤ sizeLine) ()).bind fun _ => fsP r (acc ++ y)
/-! targets -/
def setAllP (env : Env) : List Nat → List PV → Env
  | i :: is, x :: xs => setAllP (env.set i (some x)) is xs
  | _, _ => env
def tgP : Tg → PV → Env → Option Env
  | .nm i, x, env => some (env.set i (some x))
  | .tp is, x, env => (match x with
      | .lst xs => grd (xs.length = is.length) (setAllP env is xs)
      | .tup xs => grd (xs.length = is.length) (setAllP env is xs)
      | _ => none)
def wipeP (env : Env) : List Nat → Env
  | [] => env
  | i :: is => wipeP (env.set i none) is
/-- the block's names as they were -/
def backP (env0 : Env) : List Nat → Env → Env
  | [], env => env
  | i :: is, env => backP env0 is (env.set i (getS env0 i))
/-- what changed arguments become -/
def wb : List Pm → Exs → List PV → Env → Option Env
  | .mu :: ps, .cons e es, m :: ms, env => (lvOf e).bind fun l => (setL env l m).bind fun env' => wb ps es ms env'
  | .mu :: _, _, _, _ => none
  | _ :: ps, .cons _ es, ms, env => wb ps es ms env
  | _ :: _, .nil, _, _ => none
  | [], .nil, [], env => some env
  | [], _, _, _ => none
def callP (r : Res) (ps : List Pm) (es : Exs) (env : Env) : Rs PV :=
  match r with
  | .ok x ms => (opt (wb ps es ms env) env).bind fun env' _ => .ok x env'
  | .ex e ms => (opt (wb ps es ms env) env).bind fun env' _ => .ex e env'
  | .bad => .bad
/-- the turns of a comprehension -/
def lcP (turn : PV → Env → Rs (Option PV)) : List PV → List PV → Env → Rs PV
  | [], acc, env => .ok (.lst acc) env
  | x :: r, acc, env => (match turn x env with
      | .ok (some y) env' => if acc.length < sizeLine then lcP turn r (acc ++ [y]) env' else .bad
      | .ok none env' => lcP turn r acc env'
      | _ => .bad)
def enumP (k : Int) : List PV → List PV
  | [] => []
  | x :: r => .tup [.int k, x] :: enumP (k + 1) r
def rngP (lo c : Int) (n : Nat) : List PV := (List.range n).map fun (i : Nat) => .int (lo + i * c)
def pv (t : Env → Rs PV) : (Env → Rs PV) × (Env → Rs Bool) := (t, fun env => (t env).bind fun x env => opt (truP x) env)
def pairP : List PV → Option (List (Key × PV))
  | [] => some []
  | k :: v :: r => (keyP k).bind fun k => (pairP r).map fun l => (k, v) :: l
  | [_] => none
mutual
def ev2 (G : PGm) : Ex → (Env → Rs PV) × (Env → Rs Bool)
  | .v i => pv fun env => opt (getS env i) env
  | .ki n => pv fun env => .ok (.int n) env
  | .ks s => pv fun env => .ok (.str s) env
  | .kb b => pv fun env => .ok (.bl b) env
  | .kn => pv fun env => .ok .non env
  | .g x => pv fun env => opt (G.gl x) env
  | .op o a b => pv fun env => ((ev2 G a).1 env).bind fun x env => ((ev2 G b).1 env).bind fun y env => opt (opP o x y) env
  | .cmp o a b => pv fun env => ((ev2 G a).1 env).bind fun x env => ((ev2 G b).1 env).bind fun y env => opt ((cmpP o x y).map .bl) env
  | .chain o o' a b c => pv fun env => ((ev2 G a).1 env).bind fun x env => ((ev2 G b).1 env).bind fun y env => (opt (cmpP o x y) env).bind fun k env =>
      if k = true then ((ev2 G c).1 env).bind fun z env => opt ((cmpP o' y z).map .bl) env else .ok (.bl false) env
  | .and a b => (fun env => ((ev2 G a).1 env).bind fun x env => match x with
      | .bl true => (ev2 G b).1 env
      | .bl false => .ok (.bl false) env
      | _ => .bad, fun env => ((ev2 G a).2 env).bind fun k env => if k = true then (ev2 G b).2 env else .ok false env)
  | .or a b => (fun env => ((ev2 G a).1 env).bind fun x env => match x with
      | .bl true => .ok (.bl true) env
      | .bl false => (ev2 G b).1 env
      | _ => .bad, fun env => ((ev2 G a).2 env).bind fun k env => if k = true then .ok true env else (ev2 G b).2 env)
  | .not a => (fun env => ((ev2 G a).1 env).bind fun x env => match x with
      | .bl k => .ok (.bl (!k)) env
      | _ => .bad, fun env => ((ev2 G a).2 env).bind fun k env => .ok (!k) env)
  | .neg a => pv fun env => ((ev2 G a).1 env).bind fun x env => match x with
      | .int i => .ok (.int (-i)) env
      | _ => .bad
  | .ife c a b => pv fun env => ((ev2 G c).2 env).bind fun k env => if k = true then (ev2 G a).1 env else (ev2 G b).1 env
  | .call f es => pv fun env => match G.fn f with
      | some F => (evs G es env).bind fun xs env => callP (F.run xs) F.ps es env
      | none => .bad
  | .bi f es => pv fun env => (evs G es env).bind fun xs env => opt (biP f xs) env
  | .isi a c => pv fun env => ((ev2 G a).1 env).bind fun x env => opt ((isP G x c).map .bl) env
  | .isiT a cs => pv fun env => ((ev2 G a).1 env).bind fun x env => opt ((isPs G x cs).map .bl) env
  | .bm m o es => pv fun env => if isMut m = true then (match lvOf o with
      | some l => (opt (getL env l) env).bind fun x0 env => if mutK m x0 = true then (evs G es env).bind fun xs env => (opt (getL env l) env).bind fun x env => (opt (mutP m x xs) env).bind fun r env => (opt (setL env l r.2) env).bind fun env' _ => .ok r.1 env' else .bad
      | none => ((ev2 G o).1 env).bind fun x env => (evs G es env).bind fun xs env => opt ((mutP m x xs).map (·.1)) env)
      else ((ev2 G o).1 env).bind fun x env => if bmK m x = true then (evs G es env).bind fun xs env => opt (bmP m x xs) env else .bad
  | .ix a i => pv fun env => ((ev2 G a).1 env).bind fun x env => ((ev2 G i).1 env).bind fun y env => opt (ixP x y) env
  | .sl a lo hi => pv fun env => ((ev2 G a).1 env).bind fun x env => (evo G lo env).bind fun l env => (evo G hi env).bind fun h env => opt (slP x l h) env
  | .lst es => pv fun env => (evs G es env).bind fun xs env => opt (grd (xs.length ≤ sizeLine) (.lst xs)) env
  | .tup es => pv fun env => (evs G es env).bind fun xs env => opt (grd (xs.length ≤ sizeLine) (.tup xs)) env
  | .dict0 => pv fun env => .ok (.dic []) env
  | .lc t s c e own => pv fun env => (evSrc G s env).bind fun items env => lcP (fun x env => (opt (tgP t x env) env).bind fun env1 _ => (evC G c env1).bind fun k env2 =>
      if k = true then ((ev2 G e).1 env2).bind fun y env3 => .ok (some y) (wipeP env3 (own.map (·.2))) else .ok none (wipeP env2 (own.map (·.2)))) items [] (wipeP env (own.map (·.2)))
  | .dict kvs => pv fun env => (evs G kvs env).bind fun xs env => opt ((pairP xs).map fun kvs => .dic (kvs.foldl (fun acc kv => dput acc kv.1 kv.2) [])) env
  | .fld o f => pv fun env => ((ev2 G o).1 env).bind fun x env => match x with
      | .obj _ fs => opt (fs.lookup f) env
      | _ => .bad
  | .meth m o es => pv fun env => (match G.ms m with
      | some (.mu :: ps, _) => (match lvOf o with
          | some l => (opt (getL env l) env).bind fun x0 env => match x0 with
              | .obj c fs => if (fs.lookup m).isSome = true then .bad else (match G.mt c m with
                  | some F => (evs G es env).bind fun xs env => (opt (getL env l) env).bind fun x env => callP (F (x :: xs)) (.mu :: ps) (.cons o es) env
                  | none => .bad)
              | _ => .bad
          | none => .bad)
      | some (ps, _) => ((ev2 G o).1 env).bind fun x env => match x with
          | .obj c fs => if (fs.lookup m).isSome = true then .bad else (match G.mt c m with
              | some F => (evs G es env).bind fun xs env => callP (F (.obj c fs :: xs)) ps (.cons o es) env
              | none => .bad)
          | _ => .bad
      | none => .bad)
  | .make C es => pv fun env => match G.mak C with
      | some F => (evs G es env).bind fun xs env => (match F xs with
          | .ok x _ => .ok x env
          | _ => .bad)
      | none => .bad
  | .fstr es => pv fun env => (evs G es env).bind fun xs env => opt ((fsP xs ⟨#[]⟩).map .str) env
  | .skey a f => pv fun env => ((ev2 G a).1 env).bind fun x env => match G.fn f with
      | some F => (match listP x with
          | some xs => (match xs.mapM fun y => (match F.run [y] with
              | .ok r [] => some r
              | _ => none) with
              | some ks => opt (grd (ordOkB ks = true) (.lst ((sortB (fun p q => match p, q with
                  | .tup [a, _], .tup [b, _] => ltB a b
                  | _, _ => false) ((ks.zip xs).map fun p => .tup [p.1, p.2])).map fun p => match p with
                  | .tup [_, y] => y
                  | z => z))) env
              | none => .bad)
          | none => .bad)
      | none => .bad
  | .minlen a => pv fun env => ((ev2 G a).1 env).bind fun x env => match x with
      | .lst (y :: ys) => (match (y :: ys).mapM lenP with
          | some _ => .ok (minB (fun p q => decide ((lenP p).getD 0 < (lenP q).getD 0)) y ys) env
          | none => .bad)
      | _ => .bad
  | .mindef a d => pv fun env => ((ev2 G a).1 env).bind fun x env => ((ev2 G d).1 env).bind fun z env => match x with
      | .lst [] => .ok z env
      | .lst (y :: ys) => opt (grd (ordOkB (y :: ys) = true) (minB ltB y ys)) env
      | _ => .bad
  | .symd a b => pv fun env => ((ev2 G a).1 env).bind fun x env => ((ev2 G b).1 env).bind fun y env => match x, y with
      | .lst xs, .lst ys => (match strsOf xs, strsOf ys with
          | some ps, some qs => .ok (.lst (sortB ltB (((ps.filter fun p => !qs.contains p) ++ (qs.filter fun q => !ps.contains q)).eraseDups.map PV.str))) env
          | _, _ => .bad)
      | _, _ => .bad
def evs (G : PGm) : Exs → Env → Rs (List PV)
  | .nil => fun env => .ok [] env
  | .cons e r => fun env => ((ev2 G e).1 env).bind fun x env => (evs G r env).bind fun xs env => .ok (x :: xs) env
def evo (G : PGm) : OEx → Env → Rs (Option Int)
  | .none => fun env => .ok none env
  | .some e => fun env => ((ev2 G e).1 env).bind fun x env => match x with
      | .int i => .ok (some i) env
      | _ => .bad
def evC (G : PGm) : OEx → Env → Rs Bool
  | .none => fun env => .ok true env
  | .some e => fun env => (ev2 G e).2 env
def evSrc (G : PGm) : Src → Env → Rs (List PV)
  | .seq e => fun env => ((ev2 G e).1 env).bind fun x env => match x with
      | .str z => .ok (z.cps.toList.map fun c => PV.str ⟨#[c]⟩) env
      | .lst xs => .ok xs env
      | .tup xs => .ok xs env
      | _ => .bad
  | .keys e => fun env => ((ev2 G e).1 env).bind fun x env => match x with
      | .dic kvs => .ok (kvs.map fun kv => kP kv.1) env
      | _ => .bad
  | .rng e => fun env => ((ev2 G e).1 env).bind fun x env => match x with
      | .int n => opt (grd (-(2 ^ 62) ≤ n ∧ n < 2 ^ 62) ((List.range n.toNat).map fun (k : Nat) => PV.int k)) env
      | _ => .bad
  | .rng2 a b => fun env => ((ev2 G a).1 env).bind fun x env => ((ev2 G b).1 env).bind fun y env => match x, y with
      | .int i, .int j => opt (grd (-(2 ^ 62) ≤ i ∧ i < 2 ^ 62 ∧ -(2 ^ 62) ≤ j ∧ j < 2 ^ 62) (rngP i 1 (j - i).toNat)) env
      | _, _ => .bad
  | .rng3 a b c => fun env => ((ev2 G a).1 env).bind fun x env => ((ev2 G b).1 env).bind fun y env => ((ev2 G c).1 env).bind fun z env => match x, y, z with
      | .int i, .int j, .int c => opt (grd (-(2 ^ 62) < i ∧ i < 2 ^ 62 ∧ -(2 ^ 62) < j ∧ j < 2 ^ 62 ∧ c = -1) (rngP i c (i - j).toNat)) env
      | _, _, _ => .bad
  | .rev e => fun env => ((ev2 G e).1 env).bind fun x env => match x with
      | .lst xs => .ok xs.reverse env
      | .tup xs => .ok xs.reverse env
      | _ => .bad
  | .enum e => fun env => ((ev2 G e).1 env).bind fun x env => match x with
      | .lst xs => .ok (enumP 0 xs) env
      | _ => .bad
  | .enums e k => fun env => ((ev2 G e).1 env).bind fun x env => ((ev2 G k).1 env).bind fun y env => match x, y with
      | .lst xs, .int k => .ok (enumP k xs) env
      | _, _ => .bad
end
def ev (G : PGm) (e : Ex) : Env → Rs PV := (ev2 G e).1
def evT (G : PGm) (e : Ex) : Env → Rs Bool := (ev2 G e).2
theorem evT_v {G : PGm} {env : Env} {i : Nat} : evT G (.v i) env = (ev G (.v i) env).bind fun x env => opt (truP x) env := rfl
theorem ev_v {G : PGm} {env : Env} {i : Nat} : ev G (.v i) env = opt (getS env i) env := rfl
theorem evT_ki {G : PGm} {env : Env} {n : Int} : evT G (.ki n) env = (ev G (.ki n) env).bind fun x env => opt (truP x) env := rfl
theorem ev_ki {G : PGm} {env : Env} {n : Int} : ev G (.ki n) env = .ok (.int n) env := rfl
theorem evT_ks {G : PGm} {env : Env} {s : Str} : evT G (.ks s) env = (ev G (.ks s) env).bind fun x env => opt (truP x) env := rfl
theorem ev_ks {G : PGm} {env : Env} {s : Str} : ev G (.ks s) env = .ok (.str s) env := rfl
theorem evT_kb {G : PGm} {env : Env} {b : Bool} : evT G (.kb b) env = (ev G (.kb b) env).bind fun x env => opt (truP x) env := rfl
theorem ev_kb {G : PGm} {env : Env} {b : Bool} : ev G (.kb b) env = .ok (.bl b) env := rfl
theorem evT_kn {G : PGm} {env : Env} : evT G (.kn) env = (ev G (.kn) env).bind fun x env => opt (truP x) env := rfl
theorem ev_kn {G : PGm} {env : Env} : ev G (.kn) env = .ok .non env := rfl
theorem evT_g {G : PGm} {env : Env} {x : Str} : evT G (.g x) env = (ev G (.g x) env).bind fun x env => opt (truP x) env := rfl
theorem ev_g {G : PGm} {env : Env} {x : Str} : ev G (.g x) env = opt (G.gl x) env := rfl
theorem evT_op {G : PGm} {env : Env} {o : Operator} {a b : Ex} : evT G (.op o a b) env = (ev G (.op o a b) env).bind fun x env => opt (truP x) env := rfl
theorem ev_op {G : PGm} {env : Env} {o : Operator} {a b : Ex} : ev G (.op o a b) env = (ev G a env).bind fun x env => (ev G b env).bind fun y env => opt (opP o x y) env := rfl
theorem evT_cmp {G : PGm} {env : Env} {o : CmpOp} {a b : Ex} : evT G (.cmp o a b) env = (ev G (.cmp o a b) env).bind fun x env => opt (truP x) env := rfl
theorem ev_cmp {G : PGm} {env : Env} {o : CmpOp} {a b : Ex} : ev G (.cmp o a b) env = (ev G a env).bind fun x env => (ev G b env).bind fun y env => opt ((cmpP o x y).map .bl) env := rfl
theorem evT_chain {G : PGm} {env : Env} {o o' : CmpOp} {a b c : Ex} : evT G (.chain o o' a b c) env = (ev G (.chain o o' a b c) env).bind fun x env => opt (truP x) env := rfl
theorem ev_chain {G : PGm} {env : Env} {o o' : CmpOp} {a b c : Ex} : ev G (.chain o o' a b c) env = (ev G a env).bind fun x env => (ev G b env).bind fun y env => (opt (cmpP o x y) env).bind fun k env =>
      if k = true then (ev G c env).bind fun z env => opt ((cmpP o' y z).map .bl) env else .ok (.bl false) env := rfl
theorem evT_and {G : PGm} {env : Env} {a b : Ex} : evT G (.and a b) env = (evT G a env).bind fun k env => if k = true then evT G b env else .ok false env := rfl
theorem ev_and {G : PGm} {env : Env} {a b : Ex} : ev G (.and a b) env = (ev G a env).bind fun x env => match x with
      | .bl true => ev G b env
      | .bl false => .ok (.bl false) env
      | _ => .bad := rfl
theorem evT_or {G : PGm} {env : Env} {a b : Ex} : evT G (.or a b) env = (evT G a env).bind fun k env => if k = true then .ok true env else evT G b env := rfl
theorem ev_or {G : PGm} {env : Env} {a b : Ex} : ev G (.or a b) env = (ev G a env).bind fun x env => match x with
      | .bl true => .ok (.bl true) env
      | .bl false => ev G b env
      | _ => .bad := rfl
theorem evT_not {G : PGm} {env : Env} {a : Ex} : evT G (.not a) env = (evT G a env).bind fun k env => .ok (!k) env := rfl
theorem ev_not {G : PGm} {env : Env} {a : Ex} : ev G (.not a) env = (ev G a env).bind fun x env => match x with
      | .bl k => .ok (.bl (!k)) env
      | _ => .bad := rfl
theorem evT_neg {G : PGm} {env : Env} {a : Ex} : evT G (.neg a) env = (ev G (.neg a) env).bind fun x env => opt (truP x) env := rfl
theorem ev_neg {G : PGm} {env : Env} {a : Ex} : ev G (.neg a) env = (ev G a env).bind fun x env => match x with
      | .int i => .ok (.int (-i)) env
      | _ => .bad := rfl
theorem evT_ife {G : PGm} {env : Env} {c a b : Ex} : evT G (.ife c a b) env = (ev G (.ife c a b) env).bind fun x env => opt (truP x) env := rfl
theorem ev_ife {G : PGm} {env : Env} {c a b : Ex} : ev G (.ife c a b) env = (evT G c env).bind fun k env => if k = true then ev G a env else ev G b env := rfl
theorem evT_call {G : PGm} {env : Env} {f : Str} {es : Exs} : evT G (.call f es) env = (ev G (.call f es) env).bind fun x env => opt (truP x) env := rfl
theorem ev_call {G : PGm} {env : Env} {f : Str} {es : Exs} : ev G (.call f es) env = match G.fn f with
      | some F => (evs G es env).bind fun xs env => callP (F.run xs) F.ps es env
      | none => .bad := rfl
theorem evT_bi {G : PGm} {env : Env} {f : Bi} {es : Exs} : evT G (.bi f es) env = (ev G (.bi f es) env).bind fun x env => opt (truP x) env := rfl
theorem ev_bi {G : PGm} {env : Env} {f : Bi} {es : Exs} : ev G (.bi f es) env = (evs G es env).bind fun xs env => opt (biP f xs) env := rfl
theorem evT_isi {G : PGm} {env : Env} {a : Ex} {c : Str} : evT G (.isi a c) env = (ev G (.isi a c) env).bind fun x env => opt (truP x) env := rfl
theorem ev_isi {G : PGm} {env : Env} {a : Ex} {c : Str} : ev G (.isi a c) env = (ev G a env).bind fun x env => opt ((isP G x c).map .bl) env := rfl
theorem evT_isiT {G : PGm} {env : Env} {a : Ex} {cs : List Str} : evT G (.isiT a cs) env = (ev G (.isiT a cs) env).bind fun x env => opt (truP x) env := rfl
theorem ev_isiT {G : PGm} {env : Env} {a : Ex} {cs : List Str} : ev G (.isiT a cs) env = (ev G a env).bind fun x env => opt ((isPs G x cs).map .bl) env := rfl
theorem evT_bm {G : PGm} {env : Env} {m : Bm} {o : Ex} {es : Exs} : evT G (.bm m o es) env = (ev G (.bm m o es) env).bind fun x env => opt (truP x) env := rfl
theorem ev_bm {G : PGm} {env : Env} {m : Bm} {o : Ex} {es : Exs} : ev G (.bm m o es) env = if isMut m = true then (match lvOf o with
      | some l => (opt (getL env l) env).bind fun x0 env => if mutK m x0 = true then (evs G es env).bind fun xs env => (opt (getL env l) env).bind fun x env => (opt (mutP m x xs) env).bind fun r env => (opt (setL env l r.2) env).bind fun env' _ => .ok r.1 env' else .bad
      | none => (ev G o env).bind fun x env => (evs G es env).bind fun xs env => opt ((mutP m x xs).map (·.1)) env)
      else (ev G o env).bind fun x env => if bmK m x = true then (evs G es env).bind fun xs env => opt (bmP m x xs) env else .bad := rfl
theorem evT_ix {G : PGm} {env : Env} {a i : Ex} : evT G (.ix a i) env = (ev G (.ix a i) env).bind fun x env => opt (truP x) env := rfl
theorem ev_ix {G : PGm} {env : Env} {a i : Ex} : ev G (.ix a i) env = (ev G a env).bind fun x env => (ev G i env).bind fun y env => opt (ixP x y) env := rfl
theorem evT_sl {G : PGm} {env : Env} {a : Ex} {lo hi : OEx} : evT G (.sl a lo hi) env = (ev G (.sl a lo hi) env).bind fun x env => opt (truP x) env := rfl
theorem ev_sl {G : PGm} {env : Env} {a : Ex} {lo hi : OEx} : ev G (.sl a lo hi) env = (ev G a env).bind fun x env => (evo G lo env).bind fun l env => (evo G hi env).bind fun h env => opt (slP x l h) env := rfl
theorem evT_lst {G : PGm} {env : Env} {es : Exs} : evT G (.lst es) env = (ev G (.lst es) env).bind fun x env => opt (truP x) env := rfl
theorem ev_lst {G : PGm} {env : Env} {es : Exs} : ev G (.lst es) env = (evs G es env).bind fun xs env => opt (grd (xs.length ≤ sizeLine) (.lst xs)) env := rfl
theorem evT_tup {G : PGm} {env : Env} {es : Exs} : evT G (.tup es) env = (ev G (.tup es) env).bind fun x env => opt (truP x) env := rfl
theorem ev_tup {G : PGm} {env : Env} {es : Exs} : ev G (.tup es) env = (evs G es env).bind fun xs env => opt (grd (xs.length ≤ sizeLine) (.tup xs)) env := rfl
theorem evT_dict0 {G : PGm} {env : Env} : evT G (.dict0) env = (ev G (.dict0) env).bind fun x env => opt (truP x) env := rfl
theorem ev_dict0 {G : PGm} {env : Env} : ev G (.dict0) env = .ok (.dic []) env := rfl
theorem evT_lc {G : PGm} {env : Env} {t : Tg} {s : Src} {c : OEx} {e : Ex} {own : List (Str × Nat)} : evT G (.lc t s c e own) env = (ev G (.lc t s c e own) env).bind fun x env => opt (truP x) env := rfl
theorem ev_lc {G : PGm} {env : Env} {t : Tg} {s : Src} {c : OEx} {e : Ex} {own : List (Str × Nat)} : ev G (.lc t s c e own) env = (evSrc G s env).bind fun items env => lcP (fun x env => (opt (tgP t x env) env).bind fun env1 _ => (evC G c env1).bind fun k env2 =>
      if k = true then (ev G e env2).bind fun y env3 => .ok (some y) (wipeP env3 (own.map (·.2))) else .ok none (wipeP env2 (own.map (·.2)))) items [] (wipeP env (own.map (·.2))) := rfl
theorem evT_dict {G : PGm} {env : Env} {kvs : Exs} : evT G (.dict kvs) env = (ev G (.dict kvs) env).bind fun x env => opt (truP x) env := rfl
theorem ev_dict {G : PGm} {env : Env} {kvs : Exs} : ev G (.dict kvs) env = (evs G kvs env).bind fun xs env => opt ((pairP xs).map fun kvs => .dic (kvs.foldl (fun acc kv => dput acc kv.1 kv.2) [])) env := rfl
theorem evT_fld {G : PGm} {env : Env} {o : Ex} {f : Str} : evT G (.fld o f) env = (ev G (.fld o f) env).bind fun x env => opt (truP x) env := rfl
theorem ev_fld {G : PGm} {env : Env} {o : Ex} {f : Str} : ev G (.fld o f) env = (ev G o env).bind fun x env => match x with
      | .obj _ fs => opt (fs.lookup f) env
      | _ => .bad := rfl
theorem evT_meth {G : PGm} {env : Env} {m : Str} {o : Ex} {es : Exs} : evT G (.meth m o es) env = (ev G (.meth m o es) env).bind fun x env => opt (truP x) env := rfl
theorem ev_meth {G : PGm} {env : Env} {m : Str} {o : Ex} {es : Exs} : ev G (.meth m o es) env = (match G.ms m with
      | some (.mu :: ps, _) => (match lvOf o with
          | some l => (opt (getL env l) env).bind fun x0 env => match x0 with
              | .obj c fs => if (fs.lookup m).isSome = true then .bad else (match G.mt c m with
                  | some F => (evs G es env).bind fun xs env => (opt (getL env l) env).bind fun x env => callP (F (x :: xs)) (.mu :: ps) (.cons o es) env
                  | none => .bad)
              | _ => .bad
          | none => .bad)
      | some (ps, _) => (ev G o env).bind fun x env => match x with
          | .obj c fs => if (fs.lookup m).isSome = true then .bad else (match G.mt c m with
              | some F => (evs G es env).bind fun xs env => callP (F (.obj c fs :: xs)) ps (.cons o es) env
              | none => .bad)
          | _ => .bad
      | none => .bad) := rfl
theorem evT_make {G : PGm} {env : Env} {C : Str} {es : Exs} : evT G (.make C es) env = (ev G (.make C es) env).bind fun x env => opt (truP x) env := rfl
theorem ev_make {G : PGm} {env : Env} {C : Str} {es : Exs} : ev G (.make C es) env = match G.mak C with
      | some F => (evs G es env).bind fun xs env => (match F xs with
          | .ok x _ => .ok x env
          | _ => .bad)
      | none => .bad := rfl
theorem evT_fstr {G : PGm} {env : Env} {es : Exs} : evT G (.fstr es) env = (ev G (.fstr es) env).bind fun x env => opt (truP x) env := rfl
theorem ev_fstr {G : PGm} {env : Env} {es : Exs} : ev G (.fstr es) env = (evs G es env).bind fun xs env => opt ((fsP xs ⟨#[]⟩).map .str) env := rfl
theorem evT_skey {G : PGm} {env : Env} {a : Ex} {f : Str} : evT G (.skey a f) env = (ev G (.skey a f) env).bind fun x env => opt (truP x) env := rfl
theorem ev_skey {G : PGm} {env : Env} {a : Ex} {f : Str} : ev G (.skey a f) env = (ev G a env).bind fun x env => match G.fn f with
      | some F => (match listP x with
          | some xs => (match xs.mapM fun y => (match F.run [y] with
              | .ok r [] => some r
              | _ => none) with
              | some ks => opt (grd (ordOkB ks = true) (.lst ((sortB (fun p q => match p, q with
                  | .tup [a, _], .tup [b, _] => ltB a b
                  | _, _ => false) ((ks.zip xs).map fun p => .tup [p.1, p.2])).map fun p => match p with
                  | .tup [_, y] => y
                  | z => z))) env
              | none => .bad)
          | none => .bad)
      | none => .bad := rfl
theorem evT_minlen {G : PGm} {env : Env} {a : Ex} : evT G (.minlen a) env = (ev G (.minlen a) env).bind fun x env => opt (truP x) env := rfl
theorem ev_minlen {G : PGm} {env : Env} {a : Ex} : ev G (.minlen a) env = (ev G a env).bind fun x env => match x with
      | .lst (y :: ys) => (match (y :: ys).mapM lenP with
          | some _ => .ok (minB (fun p q => decide ((lenP p).getD 0 < (lenP q).getD 0)) y ys) env
          | none => .bad)
      | _ => .bad := rfl
theorem evT_mindef {G : PGm} {env : Env} {a d : Ex} : evT G (.mindef a d) env = (ev G (.mindef a d) env).bind fun x env => opt (truP x) env := rfl
theorem ev_mindef {G : PGm} {env : Env} {a d : Ex} : ev G (.mindef a d) env = (ev G a env).bind fun x env => (ev G d env).bind fun z env => match x with
      | .lst [] => .ok z env
      | .lst (y :: ys) => opt (grd (ordOkB (y :: ys) = true) (minB ltB y ys)) env
      | _ => .bad := rfl
theorem evT_symd {G : PGm} {env : Env} {a b : Ex} : evT G (.symd a b) env = (ev G (.symd a b) env).bind fun x env => opt (truP x) env := rfl
theorem ev_symd {G : PGm} {env : Env} {a b : Ex} : ev G (.symd a b) env = (ev G a env).bind fun x env => (ev G b env).bind fun y env => match x, y with
      | .lst xs, .lst ys => (match strsOf xs, strsOf ys with
          | some ps, some qs => .ok (.lst (sortB ltB (((ps.filter fun p => !qs.contains p) ++ (qs.filter fun q => !ps.contains q)).eraseDups.map PV.str))) env
          | _, _ => .bad)
      | _, _ => .bad := rfl
theorem evs_nil {G : PGm} {env : Env} : evs G (.nil) env = .ok [] env := rfl
theorem evs_cons {G : PGm} {env : Env} {e : Ex} {r : Exs} : evs G (.cons e r) env = (ev G e env).bind fun x env => (evs G r env).bind fun xs env => .ok (x :: xs) env := rfl
theorem evo_none {G : PGm} {env : Env} : evo G (.none) env = .ok none env := rfl
theorem evo_some {G : PGm} {env : Env} {e : Ex} : evo G (.some e) env = (ev G e env).bind fun x env => match x with
      | .int i => .ok (some i) env
      | _ => .bad := rfl
theorem evC_none {G : PGm} {env : Env} : evC G (.none) env = .ok true env := rfl
theorem evC_some {G : PGm} {env : Env} {e : Ex} : evC G (.some e) env = evT G e env := rfl
theorem evSrc_seq {G : PGm} {env : Env} {e : Ex} : evSrc G (.seq e) env = (ev G e env).bind fun x env => match x with
      | .str z => .ok (z.cps.toList.map fun c => PV.str ⟨#[c]⟩) env
      | .lst xs => .ok xs env
      | .tup xs => .ok xs env
      | _ => .bad := rfl
theorem evSrc_keys {G : PGm} {env : Env} {e : Ex} : evSrc G (.keys e) env = (ev G e env).bind fun x env => match x with
      | .dic kvs => .ok (kvs.map fun kv => kP kv.1) env
      | _ => .bad := rfl
theorem evSrc_rng {G : PGm} {env : Env} {e : Ex} : evSrc G (.rng e) env = (ev G e env).bind fun x env => match x with
      | .int n => opt (grd (-(2 ^ 62) ≤ n ∧ n < 2 ^ 62) ((List.range n.toNat).map fun (k : Nat) => PV.int k)) env
      | _ => .bad := rfl
theorem evSrc_rng2 {G : PGm} {env : Env} {a b : Ex} : evSrc G (.rng2 a b) env = (ev G a env).bind fun x env => (ev G b env).bind fun y env => match x, y with
      | .int i, .int j => opt (grd (-(2 ^ 62) ≤ i ∧ i < 2 ^ 62 ∧ -(2 ^ 62) ≤ j ∧ j < 2 ^ 62) (rngP i 1 (j - i).toNat)) env
      | _, _ => .bad := rfl
theorem evSrc_rng3 {G : PGm} {env : Env} {a b c : Ex} : evSrc G (.rng3 a b c) env = (ev G a env).bind fun x env => (ev G b env).bind fun y env => (ev G c env).bind fun z env => match x, y, z with
      | .int i, .int j, .int c => opt (grd (-(2 ^ 62) < i ∧ i < 2 ^ 62 ∧ -(2 ^ 62) < j ∧ j < 2 ^ 62 ∧ c = -1) (rngP i c (i - j).toNat)) env
      | _, _, _ => .bad := rfl
theorem evSrc_rev {G : PGm} {env : Env} {e : Ex} : evSrc G (.rev e) env = (ev G e env).bind fun x env => match x with
      | .lst xs => .ok xs.reverse env
      | .tup xs => .ok xs.reverse env
      | _ => .bad := rfl
theorem evSrc_enum {G : PGm} {env : Env} {e : Ex} : evSrc G (.enum e) env = (ev G e env).bind fun x env => match x with
      | .lst xs => .ok (enumP 0 xs) env
      | _ => .bad := rfl
theorem evSrc_enums {G : PGm} {env : Env} {e k : Ex} : evSrc G (.enums e k) env = (ev G e env).bind fun x env => (ev G k env).bind fun y env => match x, y with
      | .lst xs, .int k => .ok (enumP k xs) env
      | _, _ => .bad := rfl
inductive Fl where
  | nx
  | ret (x : PV)
/-- the turns of a loop -/
def forP (turn : PV → Env → Rs Fl) : List PV → Env → Rs Fl
  | [], env => .ok .nx env
  | x :: r, env => (turn x env).bind fun f env' => match f with
      | .nx => forP turn r env'
      | .ret y => .ok (.ret y) env'
def whlP (c : Env → Rs Bool) (b : Env → Rs Fl) : Nat → Env → Rs Fl
  | 0, _ => .bad
  | n + 1, env => (c env).bind fun k env1 => if k = true then (b env1).bind fun f env2 => match f with
      | .nx => whlP c b n env2
      | .ret y => .ok (.ret y) env2
      else .ok .nx env1
/-- a clause's suite; it lets nothing out -/
def catchP (n : Option Nat) (h : Env → Rs Fl) (e : PV) (env1 : Env) : Rs Fl :=
  match n with
  | some i => (match h (env1.set i (some e)) with
      | .ok .nx env2 => .ok .nx (env2.set i none)
      | .ok (.ret y) env2 => .ok (.ret y) env2
      | _ => .bad)
  | none => (match h env1 with
      | .ok f env2 => .ok f env2
      | _ => .bad)
def tryP (o : PV → Option Bool) (n : Option Nat) (h : Env → Rs Fl) : Rs Fl → Rs Fl
  | .ex e env1 => (match o e with
      | some true => catchP n h e env1
      | some false => .ex e env1
      | none => .bad)
  | r => r
/-- nothing is raised through a lock -/
def noEx {α : Type} (r : Rs α) : Rs α := match r with
  | .ex _ _ => .bad
  | r => r
mutual
def run (G : PGm) : St → Env → Rs Fl
  | .set i e, env => (ev G e env).bind fun x env => .ok .nx (env.set i (some x))
  | .unp is e, env => (ev G e env).bind fun x env => (opt (tgP (.tp is) x env) env).bind fun env' _ => .ok .nx env'
  | .ex e, env => (ev G e env).bind fun _ env => .ok .nx env
  | .ifs c a b, env => (evT G c env).bind fun k env => if k = true then runs G a env else runs G b env
  | .fors t s b, env => (evSrc G s env).bind fun items env => forP (fun x env => (opt (tgP t x env) env).bind fun env1 _ => runs G b env1) items env
  | .whl c b, env => whlP (evT G c) (runs G b) G.fuel env
  | .ret e, env => (ev G e env).bind fun x env => .ok (.ret x) env
  | .retn, env => .ok (.ret .non) env
  | .raise C _, env => (match G.exc C with
      | some none => .ex (.exc C []) env
      | _ => .bad)
  | .pass, env => .ok .nx env
  | .tr b C n h, env => tryP (fun e => isP G e C) n (runs G h) (runs G b env)
  | .sub a i v, env => (match lvOf a with
      | some l => (ev G v env).bind fun y env => (opt (getL env l) env).bind fun _ env => (ev G i env).bind fun k env => (opt (getL env l) env).bind fun x env => match x with
          | .dic kvs => (match keyP k with
              | some k => if kvs.length < sizeLine then (opt (setL env l (.dic (dput kvs k y))) env).bind fun env' _ => .ok .nx env' else .bad
              | none => .bad)
          | _ => .bad
      | none => .bad)
  | .lock s, env => noEx (run G s env)
  | .setlc i t s c e own, env => (ev G (.lc t s c e own) env).bind fun x env => .ok .nx (env.set i (some x))
  | .sfld o f e, env => (match o with
      | .v i => (ev G e env).bind fun y env => match getS env i with
          | some (.obj c fs) => .ok .nx (env.set i (some (.obj c (fs ++ [(f, y)]))))
          | _ => .bad
      | _ => .bad)
  | .raise1 C e, env => (ev G e env).bind fun x env => match G.exc C with
      | some (some f) => .ex (.exc C [(f, x)]) env
      | _ => .bad
def runs (G : PGm) : Sts → Env → Rs Fl
  | .nil, env => .ok .nx env
  | .cons s r, env => (run G s env).bind fun f env => match f with
      | .nx => runs G r env
      | .ret y => .ok (.ret y) env
end
/-- the values of the changed parameters -/
def mutsP : List Pm → Nat → Env → List PV
  | [], _, _ => []
  | .mu :: ps, i, env => (match getS env i with
      | some x => x :: mutsP ps (i + 1) env
      | none => mutsP ps (i + 1) env)
  | _ :: ps, i, env => mutsP ps (i + 1) env
def startP (n : Nat) (xs : List PV) : Env := (xs.map some) ++ List.replicate (n - xs.length) none
/-- a def by its tree -/
def defP (G : PGm) (ps : List Pm) (n : Nat) (b : Sts) (xs : List PV) : Res :=
  match runs G b (startP n xs) with
  | .ok (.ret x) env => .ok x (mutsP ps 0 env)
  | .ok .nx env => .ok .non (mutsP ps 0 env)
  | .ex e env => .ex e (mutsP ps 0 env)
  | .bad => .bad
end Vc

set_option Elab.async false
set_option linter.all false
set_option maxRecDepth 100000
set_option maxHeartbeats 1000000
namespace Vc
open PySem PySem.Spec PyProof.Rows L2
/-! ### reading an object -/
def rd (H : Hp) (p : Addr) : Option HO :=
  match H p with
  | some (.frz _ u) => some u
  | x => x
theorem rd_Rd {H : Hp} {p : Addr} {u : HO} (h : rd H p = some u) : Rd H p u := by
  unfold rd at h
  split at h
  · rename_i o u' e
    cases h
    exact .inr ⟨o, e⟩
  · exact .inl h
/-- an object that isn't frozen is read as it is -/
def frzB : HO → Bool
  | .frz _ _ => true
  | _ => false
theorem rd_of {H : Hp} {p : Addr} {u : HO} (h : H p = some u) (f : frzB u = false := by rfl) : rd H p = some u := by
  unfold rd
  rw [h]
  cases u <;> first | rfl | cases f
theorem rd_frz {H : Hp} {p : Addr} {o : Obj} {u : HO} (h : H p = some (.frz o u)) : rd H p = some u := by
  unfold rd
  rw [h]
theorem rd_none {H : Hp} {p : Addr} (h : H p = none) : rd H p = none := by
  unfold rd
  rw [h]
theorem none_rd {H : Hp} {p : Addr} (h : rd H p = none) : H p = none := by
  unfold rd at h
  split at h
  · cases h
  · exact h
theorem rd_congr {H H' : Hp} {p : Addr} (h : H' p = H p) : rd H' p = rd H p := by
  unfold rd
  rw [h]

/-- a caught exception as a thing of the heap -/
def excO (a : Addr) (cls : Value) (d : Option Addr) : HO := .ext fun h => ∃ o vs, h.get? a = some o ∧ o.cls = cls ∧ o.dict = d ∧ o.data = .fields vs

/-! ### a value stands in a heap -/
/-- where the classes stand: those of things, those of exceptions -/
structure CA where
  o : Str → Option Addr
  x : Str → Option Addr
mutual
def Rep (ca : CA) (S : Hp) : V → PV → Prop
  | v, .non => v = .non
  | v, .bl b => v = .bl b
  | v, .int i => v = .int i
  | v, .str s => v = .str s
  | v, .lst xs => ∃ p vs, v = .ref p ∧ rd S p = some (.lst vs) ∧ RepL ca S vs xs
  | v, .tup xs => ∃ p vs, v = .ref p ∧ rd S p = some (.tup vs) ∧ RepL ca S vs xs
  | v, .dic kvs => ∃ p us, v = .ref p ∧ rd S p = some (.dK us) ∧ RepK ca S us kvs
  | v, .obj c fs => ∃ p C dx us, v = .ref p ∧ ca.o c = some C ∧ S p = some (.ins C dx us) ∧ RepF ca S us fs
  | v, .exc c fs => ∃ p C d us, v = .ref p ∧ ca.x c = some C ∧ S p = some (excO p (.ref C) d) ∧ (match d with
      | some x => rd S x = some (.xd us) ∧ us ≠ []
      | none => us = []) ∧ RepF ca S us fs
def RepL (ca : CA) (S : Hp) : List V → List PV → Prop
  | vs, [] => vs = []
  | vs, x :: xs => ∃ v r, vs = v :: r ∧ Rep ca S v x ∧ RepL ca S r xs
def RepK (ca : CA) (S : Hp) : List (Key × V) → List (Key × PV) → Prop
  | us, [] => us = []
  | us, (l, x) :: xs => ∃ v r, us = (l, v) :: r ∧ Rep ca S v x ∧ RepK ca S r xs
def RepF (ca : CA) (S : Hp) : List (Str × V) → List (Str × PV) → Prop
  | us, [] => us = []
  | us, (l, x) :: xs => ∃ v r, us = (l, v) :: r ∧ Rep ca S v x ∧ RepF ca S r xs
end
/-- S's things stand in H; a dict may be locked there -/
def Sub (S H : Hp) : Prop := ∀ p u, S p = some u → H p = some u ∨ ∃ o kvs, u = .dK kvs ∧ H p = some (.frz o (.dK kvs))
theorem Sub.of_same {S H : Hp} (h : Same S H) : Sub S H := fun p u e => .inl (h p u e)
theorem Sub.refl (S : Hp) : Sub S S := fun _ _ e => .inl e
theorem Sub.rd {S H : Hp} (h : Sub S H) {p : Addr} {u : HO} (e : rd S p = some u) : rd H p = some u := by
  have e0 := e
  unfold Vc.rd at e
  split at e
  · rename_i o w e2
    rcases h p _ e2 with q | ⟨_, _, q, _⟩
    · unfold Vc.rd; rw [q]; exact e
    · cases q
  · rcases h p u e with q | ⟨o, kvs, rfl, q⟩
    · rw [rd_congr (q.trans e.symm)]
      exact e0
    · exact rd_frz q
theorem Sub.same {S S' H : Hp} (a : Same S S') (b : Sub S' H) : Sub S H := fun p u e => b p u (a p u e)
section
variable {ca : CA} {S S' : Hp}
mutual
theorem Rep.mono (m : Sub S S') : ∀ {x : PV} {v : V}, Rep ca S v x → Rep ca S' v x
  | .non, v, h => by unfold Rep at h ⊢; exact h
  | .bl _, v, h => by unfold Rep at h ⊢; exact h
  | .int _, v, h => by unfold Rep at h ⊢; exact h
  | .str _, v, h => by unfold Rep at h ⊢; exact h
  | .lst xs, v, h => by
    unfold Rep at h ⊢
    obtain ⟨p, vs, e, q, r⟩ := h
    exact ⟨p, vs, e, m.rd q, RepL.mono m r⟩
  | .tup xs, v, h => by
    unfold Rep at h ⊢
    obtain ⟨p, vs, e, q, r⟩ := h
    exact ⟨p, vs, e, m.rd q, RepL.mono m r⟩
  | .dic kvs, v, h => by
    unfold Rep at h ⊢
    obtain ⟨p, vs, e, q, r⟩ := h
    exact ⟨p, vs, e, m.rd q, RepK.mono m r⟩
  | .obj c fs, v, h => by
    unfold Rep at h ⊢
    obtain ⟨p, C, dx, us, e, ec, q, r⟩ := h
    refine ⟨p, C, dx, us, e, ec, ?_, RepF.mono m r⟩
    rcases m p _ q with z | ⟨_, _, z, _⟩
    · exact z
    · cases z
  | .exc c fs, v, h => by
    unfold Rep at h ⊢
    obtain ⟨p, C, d, us, e, ec, q, d1, r⟩ := h
    refine ⟨p, C, d, us, e, ec, ?_, ?_, RepF.mono m r⟩
    · rcases m p _ q with z | ⟨_, _, z, _⟩
      · exact z
      · cases z
    · cases d with
      | none => exact d1
      | some x => exact ⟨m.rd d1.1, d1.2⟩
theorem RepL.mono (m : Sub S S') : ∀ {xs : List PV} {vs : List V}, RepL ca S vs xs → RepL ca S' vs xs
  | [], vs, h => by unfold RepL at h ⊢; exact h
  | x :: xs, vs, h => by
    unfold RepL at h ⊢
    obtain ⟨v, r, e, h1, h2⟩ := h
    exact ⟨v, r, e, Rep.mono m h1, RepL.mono m h2⟩
theorem RepK.mono (m : Sub S S') : ∀ {xs : List (Key × PV)} {vs : List (Key × V)}, RepK ca S vs xs → RepK ca S' vs xs
  | [], vs, h => by unfold RepK at h ⊢; exact h
  | (k, x) :: xs, vs, h => by
    unfold RepK at h ⊢
    obtain ⟨v, r, e, h1, h2⟩ := h
    exact ⟨v, r, e, Rep.mono m h1, RepK.mono m h2⟩
theorem RepF.mono (m : Sub S S') : ∀ {xs : List (Str × PV)} {vs : List (Str × V)}, RepF ca S vs xs → RepF ca S' vs xs
  | [], vs, h => by unfold RepF at h ⊢; exact h
  | (k, x) :: xs, vs, h => by
    unfold RepF at h ⊢
    obtain ⟨v, r, e, h1, h2⟩ := h
    exact ⟨v, r, e, Rep.mono m h1, RepF.mono m h2⟩
end
theorem RepL.length : ∀ {xs : List PV} {vs : List V}, RepL ca S vs xs → vs.length = xs.length
  | [], vs, h => by unfold RepL at h; rw [h]; rfl
  | x :: xs, vs, h => by
    unfold RepL at h
    obtain ⟨v, r, e, h1, h2⟩ := h
    rw [e, List.length_cons, List.length_cons, RepL.length h2]
theorem RepL.append : ∀ {xs ys : List PV} {vs us : List V}, RepL ca S vs xs → RepL ca S us ys → RepL ca S (vs ++ us) (xs ++ ys)
  | [], ys, vs, us, h, k => by unfold RepL at h; rw [h]; exact k
  | x :: xs, ys, vs, us, h, k => by
    unfold RepL at h
    obtain ⟨v, r, rfl, h1, h2⟩ := h
    show RepL ca S (v :: (r ++ us)) (x :: (xs ++ ys))
    unfold RepL
    exact ⟨v, _, rfl, h1, RepL.append h2 k⟩
theorem RepL.nil : RepL ca S [] [] := by unfold RepL; rfl
theorem RepL.cons {v : V} {x : PV} {vs : List V} {xs : List PV} (h : Rep ca S v x) (k : RepL ca S vs xs) : RepL ca S (v :: vs) (x :: xs) := by
  unfold RepL
  exact ⟨v, vs, rfl, h, k⟩
theorem RepL.one {v : V} {x : PV} (h : Rep ca S v x) : RepL ca S [v] [x] := .cons h .nil
theorem RepL.get : ∀ {xs : List PV} {vs : List V} {i : Nat} {x : PV}, RepL ca S vs xs → xs[i]? = some x → ∃ v, vs[i]? = some v ∧ Rep ca S v x
  | [], vs, i, x, h, e => by simp at e
  | y :: xs, vs, i, x, h, e => by
    unfold RepL at h
    obtain ⟨v, r, rfl, h1, h2⟩ := h
    cases i with
    | zero =>
      simp only [List.getElem?_cons_zero, Option.some.injEq] at e
      subst e
      exact ⟨v, by simp, h1⟩
    | succ i =>
      obtain ⟨w, e1, e2⟩ := RepL.get h2 (by simpa using e)
      exact ⟨w, by simpa using e1, e2⟩
theorem RepL.get' : ∀ {xs : List PV} {vs : List V} {i : Nat} {v : V}, RepL ca S vs xs → vs[i]? = some v → ∃ x, xs[i]? = some x ∧ Rep ca S v x
  | [], vs, i, x, h, e => by unfold RepL at h; subst h; simp at e
  | y :: xs, vs, i, x, h, e => by
    unfold RepL at h
    obtain ⟨v, r, rfl, h1, h2⟩ := h
    cases i with
    | zero =>
      simp only [List.getElem?_cons_zero, Option.some.injEq] at e
      subst e
      exact ⟨y, by simp, h1⟩
    | succ i =>
      obtain ⟨w, e1, e2⟩ := RepL.get' h2 (by simpa using e)
      exact ⟨w, by simpa using e1, e2⟩
theorem RepL.take : ∀ {xs : List PV} {vs : List V} (n : Nat), RepL ca S vs xs → RepL ca S (vs.take n) (xs.take n)
  | [], vs, n, h => by unfold RepL at h; subst h; simp [RepL]
  | x :: xs, vs, 0, h => by simp [RepL]
  | x :: xs, vs, n + 1, h => by
    unfold RepL at h
    obtain ⟨v, r, rfl, h1, h2⟩ := h
    exact .cons h1 (RepL.take n h2)
theorem RepL.drop : ∀ {xs : List PV} {vs : List V} (n : Nat), RepL ca S vs xs → RepL ca S (vs.drop n) (xs.drop n)
  | xs, vs, 0, h => h
  | [], vs, n + 1, h => by unfold RepL at h; subst h; simp [RepL]
  | x :: xs, vs, n + 1, h => by
    unfold RepL at h
    obtain ⟨v, r, rfl, h1, h2⟩ := h
    exact RepL.drop n h2
theorem RepL.dropLast : ∀ {xs : List PV} {vs : List V}, RepL ca S vs xs → RepL ca S vs.dropLast xs.dropLast := fun {xs vs} h => by
  rw [List.dropLast_eq_take, List.dropLast_eq_take, h.length]
  exact h.take _
theorem RepL.reverse : ∀ {xs : List PV} {vs : List V}, RepL ca S vs xs → RepL ca S vs.reverse xs.reverse
  | [], vs, h => by unfold RepL at h; subst h; exact .nil
  | x :: xs, vs, h => by
    unfold RepL at h
    obtain ⟨v, r, rfl, h1, h2⟩ := h
    rw [List.reverse_cons, List.reverse_cons]
    exact (RepL.reverse h2).append (.one h1)
/-! dicts -/
theorem RepK.length : ∀ {xs : List (Key × PV)} {vs : List (Key × V)}, RepK ca S vs xs → vs.length = xs.length
  | [], vs, h => by unfold RepK at h; rw [h]; rfl
  | (k, x) :: xs, vs, h => by
    unfold RepK at h
    obtain ⟨v, r, e, h1, h2⟩ := h
    rw [e, List.length_cons, List.length_cons, RepK.length h2]
theorem RepK.keys : ∀ {xs : List (Key × PV)} {vs : List (Key × V)}, RepK ca S vs xs → vs.map (·.1) = xs.map (·.1)
  | [], vs, h => by unfold RepK at h; rw [h]; rfl
  | (k, x) :: xs, vs, h => by
    unfold RepK at h
    obtain ⟨v, r, e, h1, h2⟩ := h
    rw [e, List.map_cons, List.map_cons, RepK.keys h2]
theorem RepK.vals : ∀ {xs : List (Key × PV)} {vs : List (Key × V)}, RepK ca S vs xs → RepL ca S (vs.map (·.2)) (xs.map (·.2))
  | [], vs, h => by unfold RepK at h; rw [h]; exact .nil
  | (k, x) :: xs, vs, h => by
    unfold RepK at h
    obtain ⟨v, r, rfl, h1, h2⟩ := h
    exact .cons h1 (RepK.vals h2)
theorem RepK.nil : RepK ca S [] [] := by unfold RepK; rfl
theorem RepK.cons {k : Key} {v : V} {x : PV} {vs : List (Key × V)} {xs : List (Key × PV)} (h : Rep ca S v x) (h2 : RepK ca S vs xs) : RepK ca S ((k, v) :: vs) ((k, x) :: xs) := by
  unfold RepK
  exact ⟨v, vs, rfl, h, h2⟩
theorem RepK.get (k : Key) : ∀ {xs : List (Key × PV)} {vs : List (Key × V)}, RepK ca S vs xs → match dget xs k with
    | some x => ∃ v, valV vs k = some v ∧ Rep ca S v x
    | none => valV vs k = none
  | [], vs, h => by unfold RepK at h; rw [h]; rfl
  | (l, x) :: xs, vs, h => by
    unfold RepK at h
    obtain ⟨v, r, rfl, h1, h2⟩ := h
    by_cases e : l = k
    · rw [show dget ((l, x) :: xs) k = some x from by simp [dget, List.find?_cons, e], show valV ((l, v) :: r) k = some v from by simp [valV, List.find?_cons, e]]
      exact ⟨v, rfl, h1⟩
    · rw [show dget ((l, x) :: xs) k = dget xs k from by simp [dget, List.find?_cons, e], show valV ((l, v) :: r) k = valV r k from by simp [valV, List.find?_cons, e]]
      exact RepK.get k h2
theorem RepK.append : ∀ {xs ys : List (Key × PV)} {vs us : List (Key × V)}, RepK ca S vs xs → RepK ca S us ys → RepK ca S (vs ++ us) (xs ++ ys)
  | [], ys, vs, us, h, k => by unfold RepK at h; rw [h]; exact k
  | (l, x) :: xs, ys, vs, us, h, k => by
    unfold RepK at h
    obtain ⟨v, r, rfl, h1, h2⟩ := h
    exact .cons h1 (RepK.append h2 k)
theorem RepK.map {k : Key} {w : V} {y : PV} (hw : Rep ca S w y) : ∀ {xs : List (Key × PV)} {vs : List (Key × V)}, RepK ca S vs xs →
    RepK ca S (vs.map fun kv => if kv.1 = k then (kv.1, w) else kv) (xs.map fun kv => if kv.1 = k then (kv.1, y) else kv)
  | [], vs, h => by unfold RepK at h; rw [h]; exact .nil
  | (l, x) :: xs, vs, h => by
    unfold RepK at h
    obtain ⟨v, r, rfl, h1, h2⟩ := h
    rw [List.map_cons, List.map_cons]
    by_cases e : l = k
    · rw [if_pos e, if_pos e]
      exact .cons hw (RepK.map hw h2)
    · rw [if_neg e, if_neg e]
      exact .cons h1 (RepK.map hw h2)
theorem RepK.put {k : Key} {w : V} {y : PV} {xs : List (Key × PV)} {vs : List (Key × V)} (h : RepK ca S vs xs) (hw : Rep ca S w y) : RepK ca S (putK vs k w) (dput xs k y) := by
  have e : (vs.any fun kv => decide (kv.1 = k)) = xs.any fun kv => decide (kv.1 = k) := by
    have a : ∀ {α : Type} (l : List (Key × α)), (l.any fun kv => decide (kv.1 = k)) = (l.map (·.1)).any fun z => decide (z = k) := fun l => by
      rw [List.any_map]
      rfl
    rw [a vs, a xs, h.keys]
  unfold putK dput
  rw [e]
  split
  · exact h.map hw
  · exact h.append (.cons hw .nil)
/-! fields -/
theorem RepF.get (f : Str) : ∀ {xs : List (Str × PV)} {vs : List (Str × V)}, RepF ca S vs xs → match xs.lookup f with
    | some x => ∃ v, vs.lookup f = some v ∧ Rep ca S v x
    | none => vs.lookup f = none
  | [], vs, h => by unfold RepF at h; rw [h]; rfl
  | (l, x) :: xs, vs, h => by
    unfold RepF at h
    obtain ⟨v, r, rfl, h1, h2⟩ := h
    rw [List.lookup_cons, List.lookup_cons]
    cases e : f == l with
    | true => exact ⟨v, rfl, h1⟩
    | false => exact RepF.get f h2
end
end Vc

set_option Elab.async false
set_option linter.all false
set_option maxRecDepth 100000
set_option maxHeartbeats 1000000
namespace Vc
open PySem PySem.Spec PyProof.Rows L2

/-- what the surroundings give -/
structure Gam where
  K : PySem.W.Frag
  fn : Str → Option Sp
  cls : Str → Option V
  gl : Str → Option V
  exc : Str → Option (Addr × Option Str)
  ca : CA
  mt : Addr → Str → Option Sp
  mak : Str → Option (Addr × Option Sp)

/-! ### reading an object -/
theorem rd_lst {K : PySem.W.Frag} {H : Hp} {p : Addr} {xs : List V} (h : rd H p = some (.lst xs)) : SqL K H p xs := .inl (rd_Rd h)
theorem rd_tup {K : PySem.W.Frag} {H : Hp} {p : Addr} {xs : List V} (h : rd H p = some (.tup xs)) : SqT K H p xs := .inl (rd_Rd h)
theorem rd_dK {H : Hp} {p : Addr} {kvs : List (Key × V)} (h : rd H p = some (.dK kvs)) : Rd H p (.dK kvs) := rd_Rd h
/-- a value without an object -/
def scalV : PV → Option V
  | .non => some .non
  | .bl b => some (.bl b)
  | .int i => some (.int i)
  | .str s => some (.str s)
  | _ => none
/-! ### what operations give, by values -/
def addR (x y : V) (H : Hp) (Q : VK) : Prop :=
  match x, y with
  | .int i, .int j => Q (.int (i + j)) H
  | .str a, .str b => a.length + b.length ≤ sizeLine ∧ Q (.str (a ++ b)) H
  | .ref p, .ref q => (match rd H p, rd H q with
      | some (.lst xs), some (.lst ys) => xs.length + ys.length ≤ sizeLine ∧ ∀ r, H r = none → Q (.ref r) (upd H r (.lst (xs ++ ys)))
      | some (.tup xs), some (.tup ys) => xs.length + ys.length ≤ sizeLine ∧ (xs ++ ys = xs → Q (.ref p) H) ∧ (xs ++ ys = ys → Q (.ref q) H) ∧ ∀ r, H r = none → Q (.ref r) (upd H r (.tup (xs ++ ys)))
      | _, _ => False)
  | _, _ => False
def opR (o : Operator) (x y : V) (H : Hp) (Q : VK) : Prop :=
  match o with
  | .Add => addR x y H Q
  | _ => ∃ i j k, x = .int i ∧ y = .int j ∧ opP o (.int i) (.int j) = some (.int k) ∧ Q (.int k) H
def cmpR (ca : CA) (o : CmpOp) (v w : V) (H : Hp) (Q : VK) : Prop := ∃ x y b, Rep ca H v x ∧ Rep ca H w y ∧ cmpP o x y = some b ∧ Q (.bl b) H
def truR (ca : CA) (v : V) (H : Hp) (Q : Bool → Hp → Prop) : Prop := ∃ x b, Rep ca H v x ∧ truP x = some b ∧ Q b H
/-- an answer without an object -/
def biS (ca : CA) (f : Bi) (vs : List V) (H : Hp) (Q : VK) : Prop := ∃ xs z u, RepL ca H vs xs ∧ biP f xs = some z ∧ scalV z = some u ∧ Q u H
def biA (ca : CA) (f : Bi) (xs : List V) (H : Hp) (Q : VK) : Prop :=
  match f, xs with
  | .divmod, [.int i, .int j] => (0 < j ∧ j < 1073741824) ∧ ∀ p, H p = none → Q (.ref p) (upd H p (.tup [.int (i / j), .int (i % j)]))
  | .dict, [.ref a] => (match rd H a with
      | some (.dK kvs) => ∀ p, H p = none → Q (.ref p) (upd H p (.dK kvs))
      | _ => False)
  | .list, [.ref a] => (match rd H a with
      | some (.dK kvs) => ∀ p, H p = none → Q (.ref p) (upd H p (.lst (kvs.map fun kv => kV kv.1)))
      | some (.lst ys) => ∀ p, H p = none → Q (.ref p) (upd H p (.lst ys))
      | some (.tup ys) => ∀ p, H p = none → Q (.ref p) (upd H p (.lst ys))
      | _ => False)
  | .tuple, [.ref a] => (match rd H a with
      | some (.lst ys) => ∀ p, H p = none → Q (.ref p) (upd H p (.tup ys))
      | some (.tup ys) => Q (.ref a) H
      | _ => False)
  | .sorted, [.ref a] => (match rd H a with
      | some (.lst zs) => ∃ ds, RepL ca H zs ds ∧ srtOk ds = true ∧ ∀ (ps : List (V × PV)) (p : Addr), ps.Perm (zs.zip ds) → ps.map (·.2) = sortB ltB ds → H p = none → Q (.ref p) (upd H p (.lst (ps.map (·.1))))
      | some (.dK kvs) => srtOkD (kvs.map fun kv => kP kv.1) = true ∧ ∀ (ks : List Key) (p : Addr), ks.Perm (kvs.map (·.1)) → ks.map kP = sortB ltB (kvs.map fun kv => kP kv.1) → H p = none → Q (.ref p) (upd H p (.lst (ks.map kV)))
      | _ => False)
  | .max, [.ref a] => (match rd H a with
      | some (.lst zs) => ∃ (ds : List PV) (m : PV), RepL ca H zs ds ∧ biP .max [.lst ds] = some m ∧ ∀ (i : Nat) (v : V), zs[i]? = some v → ds[i]? = some m → Q v H
      | _ => False)
  | .min, [.ref a] => (match rd H a with
      | some (.lst zs) => ∃ (ds : List PV) (m : PV), RepL ca H zs ds ∧ biP .min [.lst ds] = some m ∧ ∀ (i : Nat) (v : V), zs[i]? = some v → ds[i]? = some m → Q v H
      | _ => False)
  | _, _ => False
def biR (ca : CA) (f : Bi) (xs : List V) (H : Hp) (Q : VK) : Prop := biS ca f xs H Q ∨ biA ca f xs H Q
/-- isinstance by values -/
def isiR (K : PySem.W.Frag) (x c : V) (H : Hp) (Q : VK) : Prop := rIsi K [x, c] H Q ∨
  ∃ a D u b, x = .ref a ∧ H a = some (excO a (.ref D) none) ∧ ExcC K D ∧ ClsV c u ∧ PySem.W.kitOne K (.ref D) u = some b ∧ Q (.bl b) H
/-- isinstance of a tuple of classes, that was laid at p -/
def isiTR (K : PySem.W.Frag) (x : V) (p : Addr) (cs : List V) (H : Hp) (Q : VK) : Prop := rIsiT K [x, .ref p] H Q ∨
  ∃ a D us b, x = .ref a ∧ H a = some (excO a (.ref D) none) ∧ ExcC K D ∧ Paired ClsV cs us ∧ H p = some (.tup cs) ∧ PySem.W.kitAny K (.ref D) us = some b ∧ Q (.bl b) H
/-- a method's answer without an object -/
def bmS (ca : CA) (m : Bm) (v : V) (vs : List V) (H : Hp) (Q : VK) : Prop := ∃ x xs z u, Rep ca H v x ∧ RepL ca H vs xs ∧ bmP m x xs = some z ∧ scalV z = some u ∧ Q u H
def bmA (m : Bm) (x : V) (xs : List V) (H : Hp) (Q : VK) : Prop :=
  match m, x, xs with
  | .append, .ref l, [y] => (match H l with
      | some (.lst ys) => ys.length < sizeLine ∧ Q .non (upd H l (.lst (ys ++ [y])))
      | _ => False)
  | .pop, .ref l, [] => (match H l with
      | some (.lst ys) => ∃ y, ys[ys.length - 1]? = some y ∧ Q y (upd H l (.lst ys.dropLast))
      | _ => False)
  | .extend, .ref l, [.ref b] => l ≠ b ∧ (match H l, H b with
      | some (.lst ys), some (.lst zs) => ys.length + zs.length ≤ sizeLine ∧ Q .non (upd H l (.lst (ys ++ zs)))
      | _, _ => False)
  | .clear, .ref l, [] => (match H l with
      | some (.lst ys) => Q .non (upd H l (.lst []))
      | some (.dK ys) => Q .non (upd H l (.dK []))
      | _ => False)
  | .split, .str a, [.str b] => (b.length == 0) = false ∧ a.length + 2 ≤ sizeLine ∧ ∀ p, H p = none → Q (.ref p) (upd H p (.lst ((Txt.split a b).map V.str)))
  | .partition, .str a, [.str b] => (b.length == 0) = false ∧ a.length ≤ sizeLine ∧
      ∀ p, H p = none → Q (.ref p) (upd H p (.tup [.str (Txt.partition a b).1, .str (Txt.partition a b).2.1, .str (Txt.partition a b).2.2]))
  | .get, .ref p, [k, d] => (match rd H p with
      | some (.dK kvs) => ∃ k', k = kV k' ∧ Q ((valV kvs k').getD d) H
      | _ => False)
  | _, _, _ => False
def bmR (ca : CA) (m : Bm) (x : V) (xs : List V) (H : Hp) (Q : VK) : Prop := bmS ca m x xs H Q ∨ bmA m x xs H Q
/-- of which kind a method's receiver is -/
def bmT (m : Bm) (x : V) (H : Hp) : Prop :=
  match m, x with
  | .append, .ref l => (∃ ys, rd H l = some (.lst ys))
  | .pop, .ref l => (∃ ys, rd H l = some (.lst ys))
  | .extend, .ref l => (∃ ys, rd H l = some (.lst ys))
  | .count, .ref l => (∃ ys, rd H l = some (.lst ys))
  | .clear, .ref l => (∃ ys, rd H l = some (.lst ys)) ∨ ∃ ys, rd H l = some (.dK ys)
  | .get, .ref l => (∃ ys, rd H l = some (.dK ys))
  | .split, .str _ => True
  | .partition, .str _ => True
  | .join, .str _ => True
  | .zfill, .str _ => True
  | .index, .str _ => True
  | _, _ => False
def ixR (x i : V) (H : Hp) (Q : VK) : Prop :=
  match x with
  | .str z => (match i with
      | .int k => z.length ≤ sizeLine ∧ ∃ c, atI z.cps.toList k = some c ∧ Q (.str ⟨#[c]⟩) H
      | _ => False)
  | .ref p => (match rd H p with
      | some (.lst xs) => ∃ k v, i = .int k ∧ atI xs k = some v ∧ Q v H
      | some (.tup xs) => ∃ k v, i = .int k ∧ atI xs k = some v ∧ Q v H
      | some (.dK kvs) => ∃ k v, i = kV k ∧ valV kvs k = some v ∧ Q v H
      | _ => False)
  | _ => False
def slR (x : V) (lo hi : Option Int) (H : Hp) (Q : VK) : Prop :=
  match x with
  | .str z => z.length ≤ sizeLine ∧ Q (.str (cutS z lo hi)) H
  | .ref p => (match rd H p with
      | some (.lst xs) => ∀ r, H r = none → Q (.ref r) (upd H r (.lst (cutV xs lo hi)))
      | some (.tup xs) => (cutV xs lo hi = xs → Q (.ref p) H) ∧ ∀ r, H r = none → Q (.ref r) (upd H r (.tup (cutV xs lo hi)))
      | _ => False)
  | _ => False

def setAll (σ : L2.St) : List Nat → List V → L2.St
  | i :: is, x :: xs => setAll (σ.set i (some x)) is xs
  | _, _ => σ
def hoSeq : HO → Option (List V)
  | .lst xs => some xs
  | .tup xs => some xs
  | _ => none
/-- a target -/
def wTg (K : PySem.W.Frag) : Tg → TG
  | .nm i => gName i
  | .tp is => fun v σ H Q => match v with
      | .ref a => (match rd H a with
          | some u => (match hoSeq u with
              | some xs => xs.length = is.length ∧ Q (setAll σ is xs) H
              | none => False)
          | none => False)
      | _ => False
/-- an iterator whose items are known ahead -/
structure Known (J : It) (items : List V) (ok : Hp → Prop) : Prop where
  go : ∀ i H, ok H → i < items.length → J.go i H
  yld : ∀ i H x H', ok H → i < items.length → J.yld i H x H' → H' = H ∧ items[i]? = some x
  stop : ∀ i H, ok H → items.length ≤ i → J.stop i H
/-- a list comprehension over known items -/
def lcQ (items : List V) (ok : Hp → Prop) (g : TG) (tt : TT) (te : TE) (vs : List Nat) : TE := fun σ H Q => ∀ J : It, Known J items ok → ∀ D, H D = none → ∃ W : Nat → Nat → Hp → Prop, (∃ m, W 0 m (upd H D (.lst []))) ∧ ∀ i m H, W i m H →
  (J.stop i H ∧ Q (.ref D) H) ∨ (J.go i H ∧ ∃ Nx : Hp → Prop, (∀ H', Nx H' → ∃ m', m' < m ∧ W (i + 1) m' H') ∧ ∀ x H', J.yld i H x H' → g x (wipe σ vs) H' fun σ2 H2 => wipe σ2 vs = wipe σ vs ∧ tt σ2 H2 fun b H3 =>
    if b = true then te σ2 H3 fun y H4 => ∃ acc, H4 D = some (.lst acc) ∧ acc.length < sizeLine ∧ Nx (upd H4 D (.lst (acc ++ [y]))) else Nx H3)
/-! ### the readings, computed -/
def vR (i : Nat) : TE := fun σ H Q => match σ[i]? with
  | some (some v) => Q v H
  | _ => False
abbrev W0 : WX := fun _ _ _ _ => False
def tTr (ca : CA) (t : TE) : TT := fun σ H Q => t σ H fun x H' => truR ca x H' Q
def tP (ca : CA) (t : TE) : TE × TT := (t, tTr ca t)
def tPt (t : TE) : TE × TT := (t, tTest t)
mutual
/-- as a value, as a test -/
def wP (G : Gam) : Ex → WX → TE × TT
  | .v i, _ => tP G.ca (vR i)
  | .ki n, _ => tP G.ca (tC (.int n))
  | .ks s, _ => tP G.ca (tC (.str s))
  | .kb b, _ => tP G.ca (tC (.bl b))
  | .kn, _ => tP G.ca (tC .non)
  | .g x, _ => tP G.ca fun _ H Q => ∃ v, G.gl x = some v ∧ Q v H
  | .op o a b, W => tP G.ca (tOp (opR o) (wP G a W).1 (wP G b W).1)
  | .cmp o a b, W => tPt (tOp (cmpR G.ca o) (wP G a W).1 (wP G b W).1)
  | .chain o o' a b c, W => tPt (tChain (cmpR G.ca o) (cmpR G.ca o') (wP G a W).1 (wP G b W).1 (wP G c W).1)
  | .and a b, W => (tAndV (wP G a W).1 (wP G b W).1, tAnd (wP G a W).2 (wP G b W).2)
  | .or a b, W => (tOrV (wP G a W).1 (wP G b W).1, tOr (wP G a W).2 (wP G b W).2)
  | .not a, W => (tNotV (wP G a W).1, tNot (wP G a W).2)
  | .neg a, W => tP G.ca (tUn (rU fun i => .int (-i)) (wP G a W).1)
  | .ife c a b, W => tP G.ca (tIf (wP G c W).2 (wP G a W).1 (wP G b W).1)
  | .call f es, W => tP G.ca fun σ H Q => ∃ sp, G.fn f = some sp ∧ wPs G es W σ H fun vs H1 => sp vs H1 Q (WE W σ)
  | .bi f es, W => tP G.ca (tCB (biR G.ca f) (wPs G es W))
  | .isi a c, W => tP G.ca fun σ H Q => (wP G a W).1 σ H fun x H1 => ∃ v, G.cls c = some v ∧ isiR G.K x v H1 Q
  | .isiT a cs, W => tP G.ca fun σ H Q => (wP G a W).1 σ H fun x H1 => ∃ vs, cs.mapM G.cls = some vs ∧ ∀ p, H1 p = none → isiTR G.K x p vs (upd H1 p (.tup vs)) Q
  | .bm m o es, W => tP G.ca fun σ H Q => (wP G o W).1 σ H fun x H1 => bmT m x H1 ∧ wPs G es W σ H1 fun xs H2 => bmR G.ca m x xs H2 Q
  | .ix a i, W => tP G.ca (tOp ixR (wP G a W).1 (wP G i W).1)
  | .sl a lo hi, W => tP G.ca (tSl slR (wP G a W).1 (wPo G lo W) (wPo G hi W))
  | .lst es, W => tP G.ca (tLst (wPs G es W))
  | .tup es, W => tP G.ca (tTup (wPs G es W))
  | .dict0, _ => tP G.ca tDNewK
  | .lc t s c e own, W => tP G.ca fun σ H Q => wSrc G W s σ H fun items ok H1 => lcQ items ok (wTg G.K t) (wPt G c W0) (wP G e W0).1 (own.map (·.2)) σ H1 Q
  | .fld o f, W => tP G.ca fun σ H Q => (wP G o W).1 σ H fun x H1 => ∃ a C dx fs v, x = .ref a ∧ H1 a = some (.ins C dx fs) ∧ Cls G.K C ∧ NoAttr G.K C f ∧ fs.lookup f = some v ∧ Q v H1
  | .meth m o es, W => tP G.ca fun σ H Q => (wP G o W).1 σ H fun x H1 => ∃ a C dx fs sp, x = .ref a ∧ H1 a = some (.ins C dx fs) ∧ fs.lookup m = none ∧ G.mt C m = some sp ∧ wPs G es W σ H1 fun vs H2 => sp (x :: vs) H2 Q (WE W σ)
  | .make C es, W => tP G.ca fun σ H Q => ∃ c sp, G.mak C = some (c, sp) ∧ wPs G es W σ H fun vs H1 => ∀ x dx, H1 x = none → H1 dx = none → dx ≠ x → match sp with
      | some sp => sp (.ref x :: vs) (upd (upd H1 dx (.own x)) x (.ins c dx [])) (fun v H2 => v = .non ∧ Q (.ref x) H2) (WE W σ)
      | none => vs = [] ∧ Q (.ref x) (upd (upd H1 dx (.own x)) x (.ins c dx []))
  | .dict _, _ => tP G.ca fun _ _ _ => False
  | .fstr _, _ => tP G.ca fun _ _ _ => False
  | .skey _ _, _ => tP G.ca fun _ _ _ => False
  | .minlen _, _ => tP G.ca fun _ _ _ => False
  | .mindef _ _, _ => tP G.ca fun _ _ _ => False
  | .symd _ _, _ => tP G.ca fun _ _ _ => False
def wPs (G : Gam) : Exs → WX → TA
  | .nil, _ => tNil
  | .cons e r, W => tCons (wP G e W).1 (wPs G r W)
def wPo (G : Gam) : OEx → WX → TO
  | .none, _ => tNoPart
  | .some e, W => tPart (wP G e W).1
def wPt (G : Gam) : OEx → WX → TT
  | .none, _ => tYes
  | .some e, W => (wP G e W).2
/-- what a for walks: the items, and what must stand meanwhile -/
def wSrc (G : Gam) : WX → Src → L2.St → Hp → (List V → (Hp → Prop) → Hp → Prop) → Prop
  | W, .seq e => fun σ H R => (wP G e W).1 σ H fun x H1 => match x with
      | .str z => R (z.cps.toList.map fun c => V.str ⟨#[c]⟩) (fun _ => True) H1
      | .ref a => (match rd H1 a with
          | some (.lst xs) => R xs (fun H => rd H a = some (.lst xs)) H1
          | some (.tup xs) => R xs (fun H => rd H a = some (.tup xs)) H1
          | _ => False)
      | _ => False
  | W, .rng e => fun σ H R => (wP G e W).1 σ H fun x H1 => match x with
      | .int n => (-(2 ^ 62) ≤ n ∧ n < 2 ^ 62) ∧ R ((List.range n.toNat).map fun k => V.int (k : Nat)) (fun _ => True) H1
      | _ => False
  | W, .keys e => fun σ H R => (wP G e W).1 σ H fun x H1 => ∃ a o kvs, x = .ref a ∧ H1 a = some (.frz o (.dK kvs)) ∧ R (kvs.map fun p => kV p.1) (fun H => H a = some (.frz o (.dK kvs))) H1
  | _, .rng2 _ _ => fun _ _ _ => False
  | _, .rng3 _ _ _ => fun _ _ _ => False
  | _, .rev _ => fun _ _ _ => False
  | _, .enum _ => fun _ _ _ => False
  | _, .enums _ _ => fun _ _ _ => False
end
end Vc

set_option Elab.async false
set_option linter.all false
set_option maxRecDepth 100000
set_option maxHeartbeats 1000000
namespace Vc
open PySem PySem.Spec PyProof.Rows L2
/-! ### things that one holds alone -/
mutual
/-- v is x; its outermost cells are at fp (read by g), all else stands in S -/
def BR (ca : CA) (S : Hp) (g : Addr → Option HO) : V → PV → List Addr → Prop
  | v, .lst xs, fp => ∃ p vs, v = .ref p ∧ fp = [p] ∧ g p = some (.lst vs) ∧ RepL ca S vs xs
  | v, .dic kvs, fp => ∃ p us, v = .ref p ∧ fp = [p] ∧ g p = some (.dK us) ∧ RepK ca S us kvs
  | v, .obj c fs, fp => ∃ p C dx us fr, v = .ref p ∧ fp = p :: fr ∧ ca.o c = some C ∧ g p = some (.ins C dx us) ∧ BRF ca S g us fs fr
  | v, .non, fp => fp = [] ∧ Rep ca S v .non
  | v, .bl b, fp => fp = [] ∧ Rep ca S v (.bl b)
  | v, .int b, fp => fp = [] ∧ Rep ca S v (.int b)
  | v, .str b, fp => fp = [] ∧ Rep ca S v (.str b)
  | v, .tup b, fp => fp = [] ∧ Rep ca S v (.tup b)
  | v, .exc b c, fp => fp = [] ∧ Rep ca S v (.exc b c)
def BRF (ca : CA) (S : Hp) (g : Addr → Option HO) : List (Str × V) → List (Str × PV) → List Addr → Prop
  | us, [], fp => us = [] ∧ fp = []
  | us, (f, x) :: fs, fp => ∃ v r f1 f2, us = (f, v) :: r ∧ fp = f1 ++ f2 ∧ BR ca S g v x f1 ∧ BRF ca S g r fs f2
end
section
variable {ca : CA} {S S' : Hp} {g g' : Addr → Option HO}
mutual
theorem BR.mono (m : Sub S S') : ∀ {x : PV} {v : V} {fp : List Addr}, BR ca S g v x fp → (∀ p ∈ fp, ∀ o, g p = some o → g' p = some o) → BR ca S' g' v x fp
  | .lst xs, v, fp, h, k => by
    unfold BR at h ⊢
    obtain ⟨p, vs, e, rfl, q, r⟩ := h
    exact ⟨p, vs, e, rfl, k p List.mem_cons_self _ q, r.mono m⟩
  | .dic xs, v, fp, h, k => by
    unfold BR at h ⊢
    obtain ⟨p, vs, e, rfl, q, r⟩ := h
    exact ⟨p, vs, e, rfl, k p List.mem_cons_self _ q, r.mono m⟩
  | .obj c fs, v, fp, h, k => by
    unfold BR at h ⊢
    obtain ⟨p, C, dx, us, fr, e, rfl, ec, q, r⟩ := h
    exact ⟨p, C, dx, us, fr, e, rfl, ec, k p List.mem_cons_self _ q, BRF.mono m r fun p hp => k p (List.mem_cons_of_mem _ hp)⟩
  | .non, v, fp, h, k => by unfold BR at h ⊢; exact ⟨h.1, h.2.mono m⟩
  | .bl _, v, fp, h, k => by unfold BR at h ⊢; exact ⟨h.1, h.2.mono m⟩
  | .int _, v, fp, h, k => by unfold BR at h ⊢; exact ⟨h.1, h.2.mono m⟩
  | .str _, v, fp, h, k => by unfold BR at h ⊢; exact ⟨h.1, h.2.mono m⟩
  | .tup _, v, fp, h, k => by unfold BR at h ⊢; exact ⟨h.1, h.2.mono m⟩
  | .exc _ _, v, fp, h, k => by unfold BR at h ⊢; exact ⟨h.1, h.2.mono m⟩
theorem BRF.mono (m : Sub S S') : ∀ {fs : List (Str × PV)} {us : List (Str × V)} {fp : List Addr}, BRF ca S g us fs fp → (∀ p ∈ fp, ∀ o, g p = some o → g' p = some o) → BRF ca S' g' us fs fp
  | [], us, fp, h, k => by unfold BRF at h ⊢; exact h
  | (f, x) :: fs, us, fp, h, k => by
    unfold BRF at h ⊢
    obtain ⟨v, r, f1, f2, e, rfl, h1, h2⟩ := h
    exact ⟨v, r, f1, f2, e, rfl, BR.mono m h1 fun p hp => k p (List.mem_append_left _ hp), BRF.mono m h2 fun p hp => k p (List.mem_append_right _ hp)⟩
end
/-- reading through a lock, but for instances -/
def rg (H : Hp) (p : Addr) : Option HO :=
  match rd H p with
  | some (.ins _ _ _) => H p
  | x => x
theorem rg_of {H : Hp} {p : Addr} {u : HO} (h : H p = some u) (f : frzB u = false := by rfl) : rg H p = some u := by
  have e := rd_of h f
  unfold rg
  split
  · exact h
  · exact e
theorem rg_ins {H : Hp} {p C dx : Addr} {us : List (Str × V)} (h : rg H p = some (.ins C dx us)) : H p = some (.ins C dx us) := by
  unfold rg at h
  split at h
  · exact h
  · rename_i hno
    exact (hno _ _ _ h).elim
def insB' : HO → Bool
  | .ins _ _ _ => true
  | _ => false
theorem rg_rd {H : Hp} {p : Addr} {u : HO} (h : rg H p = some u) (f : frzB u = false := by rfl) : rd H p = some u := by
  unfold rg at h
  split at h
  · exact rd_of h f
  · exact h
theorem rd_rg {H : Hp} {p : Addr} {u : HO} (h : rd H p = some u) (f : insB' u = false := by rfl) : rg H p = some u := by
  unfold rg
  split
  · rename_i e
    rw [h] at e
    cases e
    cases f
  · exact h
mutual
theorem BR.rd : ∀ {x : PV} {v : V} {fp : List Addr} {H : Hp}, BR ca S H v x fp → BR ca S (rg H) v x fp
  | .lst xs, v, fp, H, h => by
    unfold BR at h ⊢
    obtain ⟨p, vs, e, rfl, q, r⟩ := h
    exact ⟨p, vs, e, rfl, rg_of q, r⟩
  | .dic xs, v, fp, H, h => by
    unfold BR at h ⊢
    obtain ⟨p, vs, e, rfl, q, r⟩ := h
    exact ⟨p, vs, e, rfl, rg_of q, r⟩
  | .obj c fs, v, fp, H, h => by
    unfold BR at h ⊢
    obtain ⟨p, C, dx, us, fr, e, rfl, ec, q, r⟩ := h
    exact ⟨p, C, dx, us, fr, e, rfl, ec, rg_of q, BRF.rd r⟩
  | .non, v, fp, H, h => by unfold BR at h ⊢; exact h
  | .bl _, v, fp, H, h => by unfold BR at h ⊢; exact h
  | .int _, v, fp, H, h => by unfold BR at h ⊢; exact h
  | .str _, v, fp, H, h => by unfold BR at h ⊢; exact h
  | .tup _, v, fp, H, h => by unfold BR at h ⊢; exact h
  | .exc _ _, v, fp, H, h => by unfold BR at h ⊢; exact h
theorem BRF.rd : ∀ {fs : List (Str × PV)} {us : List (Str × V)} {fp : List Addr} {H : Hp}, BRF ca S H us fs fp → BRF ca S (rg H) us fs fp
  | [], us, fp, H, h => by unfold BRF at h ⊢; exact h
  | (f, x) :: fs, us, fp, H, h => by
    unfold BRF at h ⊢
    obtain ⟨v, r, f1, f2, e, rfl, h1, h2⟩ := h
    exact ⟨v, r, f1, f2, e, rfl, BR.rd h1, BRF.rd h2⟩
end
mutual
/-- the cells are there -/
theorem BR.there : ∀ {x : PV} {v : V} {fp : List Addr}, BR ca S g v x fp → ∀ p ∈ fp, ∃ o, g p = some o
  | .lst xs, v, fp, h => by
    unfold BR at h
    obtain ⟨p, vs, e, rfl, q, r⟩ := h
    intro z hz
    rw [List.mem_singleton.mp hz]
    exact ⟨_, q⟩
  | .dic xs, v, fp, h => by
    unfold BR at h
    obtain ⟨p, vs, e, rfl, q, r⟩ := h
    intro z hz
    rw [List.mem_singleton.mp hz]
    exact ⟨_, q⟩
  | .obj c fs, v, fp, h => by
    unfold BR at h
    obtain ⟨p, C, dx, us, fr, e, rfl, ec, q, r⟩ := h
    intro z hz
    rcases List.mem_cons.mp hz with rfl | hz
    · exact ⟨_, q⟩
    · exact BRF.there r z hz
  | .non, v, fp, h => by unfold BR at h; rw [h.1]; intro z hz; cases hz
  | .bl _, v, fp, h => by unfold BR at h; rw [h.1]; intro z hz; cases hz
  | .int _, v, fp, h => by unfold BR at h; rw [h.1]; intro z hz; cases hz
  | .str _, v, fp, h => by unfold BR at h; rw [h.1]; intro z hz; cases hz
  | .tup _, v, fp, h => by unfold BR at h; rw [h.1]; intro z hz; cases hz
  | .exc _ _, v, fp, h => by unfold BR at h; rw [h.1]; intro z hz; cases hz
theorem BRF.there : ∀ {fs : List (Str × PV)} {us : List (Str × V)} {fp : List Addr}, BRF ca S g us fs fp → ∀ p ∈ fp, ∃ o, g p = some o
  | [], us, fp, h => by unfold BRF at h; rw [h.2]; intro z hz; cases hz
  | (f, x) :: fs, us, fp, h => by
    unfold BRF at h
    obtain ⟨v, r, f1, f2, e, rfl, h1, h2⟩ := h
    intro z hz
    rcases List.mem_append.mp hz with hz | hz
    · exact BR.there h1 z hz
    · exact BRF.there h2 z hz
end
/-- what S has takes no cell of one's own -/
def addS (S H : Hp) (fp : List Addr) : Hp := fun p => if p ∈ fp then H p else S p
theorem addS_in {S H : Hp} {fp : List Addr} {p : Addr} (h : p ∈ fp) : addS S H fp p = H p := if_pos h
theorem addS_out {S H : Hp} {fp : List Addr} {p : Addr} (h : p ∉ fp) : addS S H fp p = S p := if_neg h
theorem addS_same {S H : Hp} {fp : List Addr} (h : ∀ p ∈ fp, S p = none) : Same S (addS S H fp) := fun p o e => by
  have : p ∉ fp := fun z => by rw [h p z] at e; cases e
  rw [addS_out this]
  exact e
theorem addS_sub {S H : Hp} {fp : List Addr} (h : Sub S H) : Sub (addS S H fp) H := fun p o e => by
  by_cases z : p ∈ fp
  · rw [addS_in z] at e
    exact .inl e
  · rw [addS_out z] at e
    exact h p o e
mutual
/-- the cells given into S -/
theorem BR.share {H : Hp} : ∀ {x : PV} {v : V} {fp fq : List Addr}, BR ca S H v x fp → Same S (addS S H fq) → (∀ p ∈ fp, p ∈ fq) → Rep ca (addS S H fq) v x
  | .lst xs, v, fp, fq, h, m, k => by
    unfold BR at h
    unfold Rep
    obtain ⟨p, vs, e, rfl, q, r⟩ := h
    exact ⟨p, vs, e, rd_of (by rw [addS_in (k p List.mem_cons_self)]; exact q), r.mono (.of_same m)⟩
  | .dic xs, v, fp, fq, h, m, k => by
    unfold BR at h
    unfold Rep
    obtain ⟨p, vs, e, rfl, q, r⟩ := h
    exact ⟨p, vs, e, rd_of (by rw [addS_in (k p List.mem_cons_self)]; exact q), r.mono (.of_same m)⟩
  | .obj c fs, v, fp, fq, h, m, k => by
    unfold BR at h
    obtain ⟨p, C, dx, us, fr, e, rfl, ec, q, r⟩ := h
    unfold Rep
    exact ⟨p, C, dx, us, e, ec, by rw [addS_in (k p List.mem_cons_self)]; exact q, BRF.share r m fun z hz => k z (List.mem_cons_of_mem _ hz)⟩
  | .non, v, fp, fq, h, m, k => by unfold BR at h; exact h.2.mono (.of_same m)
  | .bl _, v, fp, fq, h, m, k => by unfold BR at h; exact h.2.mono (.of_same m)
  | .int _, v, fp, fq, h, m, k => by unfold BR at h; exact h.2.mono (.of_same m)
  | .str _, v, fp, fq, h, m, k => by unfold BR at h; exact h.2.mono (.of_same m)
  | .tup _, v, fp, fq, h, m, k => by unfold BR at h; exact h.2.mono (.of_same m)
  | .exc _ _, v, fp, fq, h, m, k => by unfold BR at h; exact h.2.mono (.of_same m)
theorem BRF.share {H : Hp} : ∀ {fs : List (Str × PV)} {us : List (Str × V)} {fp fq : List Addr}, BRF ca S H us fs fp → Same S (addS S H fq) → (∀ p ∈ fp, p ∈ fq) → RepF ca (addS S H fq) us fs
  | [], us, fp, fq, h, m, k => by unfold BRF at h; unfold RepF; exact h.1
  | (f, x) :: fs, us, fp, fq, h, m, k => by
    unfold BRF at h
    unfold RepF
    obtain ⟨v, r, f1, f2, e, rfl, h1, h2⟩ := h
    exact ⟨v, r, e, BR.share h1 m fun p hp => k p (List.mem_append_left _ hp), BRF.share h2 m fun p hp => k p (List.mem_append_right _ hp)⟩
end
mutual
/-- seen as a whole -/
theorem BR.deep {H : Hp} (m : Sub S H) : ∀ {x : PV} {v : V} {fp : List Addr}, BR ca S (rg H) v x fp → Rep ca H v x
  | .lst xs, v, fp, h => by
    unfold BR at h
    unfold Rep
    obtain ⟨p, vs, e, rfl, q, r⟩ := h
    exact ⟨p, vs, e, rg_rd q, r.mono m⟩
  | .dic xs, v, fp, h => by
    unfold BR at h
    unfold Rep
    obtain ⟨p, vs, e, rfl, q, r⟩ := h
    exact ⟨p, vs, e, rg_rd q, r.mono m⟩
  | .obj c fs, v, fp, h => by
    unfold BR at h
    obtain ⟨p, C, dx, us, fr, e, rfl, ec, q, r⟩ := h
    unfold Rep
    exact ⟨p, C, dx, us, e, ec, rg_ins q, BRF.deep m r⟩
  | .non, v, fp, h => by unfold BR at h; exact h.2.mono m
  | .bl _, v, fp, h => by unfold BR at h; exact h.2.mono m
  | .int _, v, fp, h => by unfold BR at h; exact h.2.mono m
  | .str _, v, fp, h => by unfold BR at h; exact h.2.mono m
  | .tup _, v, fp, h => by unfold BR at h; exact h.2.mono m
  | .exc _ _, v, fp, h => by unfold BR at h; exact h.2.mono m
theorem BRF.deep {H : Hp} (m : Sub S H) : ∀ {fs : List (Str × PV)} {us : List (Str × V)} {fp : List Addr}, BRF ca S (rg H) us fs fp → RepF ca H us fs
  | [], us, fp, h => by unfold BRF at h; unfold RepF; exact h.1
  | (f, x) :: fs, us, fp, h => by
    unfold BRF at h
    unfold RepF
    obtain ⟨v, r, f1, f2, e, rfl, h1, h2⟩ := h
    exact ⟨v, r, e, BR.deep m h1, BRF.deep m h2⟩
end
mutual
theorem Rep.br {H : Hp} (m : Sub S H) : ∀ {x : PV} {v : V}, Rep ca S v x → ∃ fb, BR ca S (rg H) v x fb ∧ ∀ p ∈ fb, S p ≠ none
  | .lst xs, v, h => by
    unfold Rep at h
    obtain ⟨p, vs, e, q, r⟩ := h
    refine ⟨[p], ?_, fun z hz => ?_⟩
    · unfold BR
      exact ⟨p, vs, e, rfl, rd_rg (m.rd q), r⟩
    · rw [List.mem_singleton.mp hz]
      intro k
      rw [rd_none k] at q
      cases q
  | .dic xs, v, h => by
    unfold Rep at h
    obtain ⟨p, vs, e, q, r⟩ := h
    refine ⟨[p], ?_, fun z hz => ?_⟩
    · unfold BR
      exact ⟨p, vs, e, rfl, rd_rg (m.rd q), r⟩
    · rw [List.mem_singleton.mp hz]
      intro k
      rw [rd_none k] at q
      cases q
  | .obj c fs, v, h => by
    unfold Rep at h
    obtain ⟨p, C, dx, us, e, ec, q, r⟩ := h
    obtain ⟨fr, h1, h2⟩ := RepF.br m r
    refine ⟨p :: fr, ?_, fun z hz => ?_⟩
    · unfold BR
      refine ⟨p, C, dx, us, fr, e, rfl, ec, ?_, h1⟩
      rcases m p _ q with k | ⟨_, _, k, _⟩
      · exact rg_of k
      · cases k
    · rcases List.mem_cons.mp hz with rfl | hz
      · rw [q]; simp
      · exact h2 z hz
  | .non, v, h => ⟨[], by unfold BR; exact ⟨rfl, h⟩, fun z hz => by cases hz⟩
  | .bl _, v, h => ⟨[], by unfold BR; exact ⟨rfl, h⟩, fun z hz => by cases hz⟩
  | .int _, v, h => ⟨[], by unfold BR; exact ⟨rfl, h⟩, fun z hz => by cases hz⟩
  | .str _, v, h => ⟨[], by unfold BR; exact ⟨rfl, h⟩, fun z hz => by cases hz⟩
  | .tup _, v, h => ⟨[], by unfold BR; exact ⟨rfl, h⟩, fun z hz => by cases hz⟩
  | .exc _ _, v, h => ⟨[], by unfold BR; exact ⟨rfl, h⟩, fun z hz => by cases hz⟩
theorem RepF.br {H : Hp} (m : Sub S H) : ∀ {fs : List (Str × PV)} {us : List (Str × V)}, RepF ca S us fs → ∃ fb, BRF ca S (rg H) us fs fb ∧ ∀ p ∈ fb, S p ≠ none
  | [], us, h => ⟨[], by unfold RepF at h; unfold BRF; exact ⟨h, rfl⟩, fun z hz => by cases hz⟩
  | (f, x) :: fs, us, h => by
    unfold RepF at h
    obtain ⟨v, r, e, h1, h2⟩ := h
    obtain ⟨f1, a1, b1⟩ := Rep.br m h1
    obtain ⟨f2, a2, b2⟩ := RepF.br m h2
    refine ⟨f1 ++ f2, ?_, fun z hz => ?_⟩
    · unfold BRF
      exact ⟨v, r, f1, f2, e, rfl, a1, a2⟩
    · rcases List.mem_append.mp hz with hz | hz
      · exact b1 z hz
      · exact b2 z hz
end
end
end Vc

set_option Elab.async false
set_option linter.all false
set_option maxRecDepth 100000
set_option maxHeartbeats 1000000
namespace Vc
open PySem PySem.Spec PyProof.Rows L2
/-! ### a def's run, seen by values: who holds what -/
inductive Tag | bot | own | sh | bw | mu
  deriving DecidableEq
inductive ET | own | sh | bw (ds : List Nat)
  deriving DecidableEq
abbrev Tags := List Tag
def tg (Γ : Tags) (i : Nat) : Tag := (Γ[i]?).getD .sh
structure Fr where
  H0 : Hp
  S0 : Hp
  M : List Addr
def SlotOk (ca : CA) (F : Fr) (S H : Hp) (t : Tag) (ov : Option (Option V)) (ox : Option PV) (fp : List Addr) : Prop :=
  match ox with
  | none => fp = []
  | some x => ∃ v, ov = some (some v) ∧ match t with
      | .own => BR ca S H v x fp
      | .mu => BR ca S H v x fp
      | .sh => fp = [] ∧ Rep ca S v x
      | .bw => fp = [] ∧ ∃ fb, BR ca S (rg H) v x fb ∧ ∀ p ∈ fb, S p ≠ none ∨ (F.H0 p ≠ none ∧ p ∉ F.M)
      | .bot => False
structure FI (ca : CA) (F : Fr) (S : Hp) (Γ : Tags) (fps : Nat → List Addr) (σ : L2.St) (env : Env) (H : Hp) : Prop where
  sub : Sub S H
  grow : Same F.S0 S
  new : ∀ p, S p ≠ none → F.S0 p ≠ none ∨ F.H0 p = none
  frame : ∀ p o, F.H0 p = some o → p ∉ F.M → H p = some o
  len : σ.length = env.length
  len2 : Γ.length = env.length
  slot : ∀ i, SlotOk ca F S H (tg Γ i) σ[i]? (getS env i) (fps i)
  priv : ∀ i, ∀ p ∈ fps i, S p = none ∧ (F.H0 p = none ∨ (tg Γ i = .mu ∧ p ∈ F.M))
  disj : ∀ i j p, i ≠ j → p ∈ fps i → p ∉ fps j
  nodup : ∀ i, (fps i).Nodup
  dom : ∀ p, F.H0 p ≠ none → H p ≠ none
/-- a step: what it may change -/
structure Stp (pu : Bool) (S H : Hp) (fps : Nat → List Addr) (S' H' : Hp) (fps' : Nat → List Addr) : Prop where
  gs : Same S S'
  keep : ∀ p o, H p = some o → (pu = true ∨ ∀ i, p ∉ fps i) → H' p = some o
  dom : ∀ p, H p ≠ none → H' p ≠ none
  fpo : ∀ i p, p ∈ fps' i → p ∈ fps i ∨ H p = none
  fpk : pu = true → ∀ i p, p ∈ fps i → p ∈ fps' i ∨ S' p ≠ none
  snew : ∀ p, S' p ≠ none → S p ≠ none ∨ H p = none ∨ ∃ i, p ∈ fps i
def EOk (ca : CA) (F : Fr) (S H : Hp) (fps : Nat → List Addr) (t : ET) (v : V) (x : PV) (fp : List Addr) : Prop :=
  match t with
  | .own => BR ca S H v x fp ∧ fp.Nodup ∧ ∀ p ∈ fp, S p = none ∧ F.H0 p = none ∧ ∀ i, p ∉ fps i
  | .sh => fp = [] ∧ Rep ca S v x
  | .bw ds => fp = [] ∧ ∃ fb, BR ca S (rg H) v x fb ∧ ∀ p ∈ fb, S p ≠ none ∨ (F.H0 p ≠ none ∧ p ∉ F.M) ∨ ∃ i ∈ ds, p ∈ fps i
section
variable {ca : CA} {F : Fr} {S S' S2 H H' H2 : Hp} {Γ : Tags} {fps fps' fps2 : Nat → List Addr} {σ : L2.St} {env : Env} {pu pu' : Bool}
theorem Stp.refl : Stp pu S H fps S H fps := ⟨Same.refl S, fun _ _ h _ => h, fun _ h => h, fun _ _ h => .inl h, fun _ _ _ h => .inl h, fun _ h => .inl h⟩
theorem none_of {p : Addr} (d : ∀ p, H p ≠ none → H' p ≠ none) (h : H' p = none) : H p = none := by
  cases e : H p with
  | none => rfl
  | some o => exact (d p (by rw [e]; simp) h).elim
theorem Stp.trans (a : Stp pu S H fps S' H' fps') (b : Stp pu' S' H' fps' S2 H2 fps2) : Stp (pu && pu') S H fps S2 H2 fps2 where
  gs := a.gs.trans b.gs
  keep := fun p o e k => by
    have e1 := a.keep p o e (by
      rcases k with k | k
      · rw [Bool.and_eq_true] at k; exact .inl k.1
      · exact .inr k)
    refine b.keep p o e1 ?_
    rcases k with k | k
    · rw [Bool.and_eq_true] at k; exact .inl k.2
    · refine .inr fun i hp => ?_
      rcases a.fpo i p hp with z | z
      · exact k i z
      · rw [z] at e; cases e
  dom := fun p h => b.dom p (a.dom p h)
  fpo := fun i p hp => by
    rcases b.fpo i p hp with z | z
    · exact a.fpo i p z
    · exact .inr (none_of a.dom z)
  fpk := fun k i p hp => by
    rw [Bool.and_eq_true] at k
    rcases a.fpk k.1 i p hp with z | z
    · exact b.fpk k.2 i p z
    · refine .inr fun q => z ?_
      cases e : S' p with
      | none => rfl
      | some o => rw [b.gs p o e] at q; cases q
  snew := fun p h => by
    rcases b.snew p h with z | z | ⟨i, z⟩
    · exact a.snew p z
    · exact .inr (.inl (none_of a.dom z))
    · rcases a.fpo i p z with y | y
      · exact .inr (.inr ⟨i, y⟩)
      · exact .inr (.inl y)
theorem Stp.pure (h : Stp true S H fps S' H' fps') : Stp pu S H fps S' H' fps' := ⟨h.gs, fun p o e _ => h.keep p o e (.inl rfl), h.dom, h.fpo, fun _ => h.fpk rfl, h.snew⟩
theorem Stp.same (h : Stp true S H fps S' H' fps') : Same H H' := fun p o e => h.keep p o e (.inl rfl)
theorem Stp.weak (h : Stp pu S H fps S' H' fps') (k : pu' = true → pu = true) : Stp pu' S H fps S' H' fps' :=
  ⟨h.gs, fun p o e z => h.keep p o e (z.imp_left k), h.dom, h.fpo, fun z => h.fpk (k z), h.snew⟩
theorem not_none {α : Type} {a : Option α} {b : α} (h : a = some b) : a ≠ none := by rw [h]; simp
theorem same_not {p : Addr} (m : Same S S') (h : S p ≠ none) : S' p ≠ none := by
  cases e : S p with
  | none => exact (h e).elim
  | some o => rw [m p o e]; simp
/-- a value kept over a step -/
theorem EOk.step {t : ET} {v : V} {x : PV} {fp : List Addr} (h : EOk ca F S H fps t v x fp) (st : Stp pu S H fps S' H' fps') (sub : Sub S' H') (k : (∃ ds, t = .bw ds) → pu = true) : EOk ca F S' H' fps' t v x fp := by
  cases t with
  | own =>
    obtain ⟨h1, h2, h3⟩ := h
    refine ⟨h1.mono (.of_same st.gs) fun p hp o e => st.keep p o e (.inr (h3 p hp).2.2), h2, fun p hp => ?_⟩
    obtain ⟨k1, k2, k3⟩ := h3 p hp
    obtain ⟨o, e⟩ := h1.there p hp
    refine ⟨?_, k2, fun i hi => ?_⟩
    · cases q : S' p with
      | none => rfl
      | some u =>
        rcases st.snew p (not_none q) with z | z | ⟨i, z⟩
        · exact (z k1).elim
        · rw [z] at e; cases e
        · exact (k3 i z).elim
    · rcases st.fpo i p hi with z | z
      · exact k3 i z
      · rw [z] at e; cases e
  | sh => exact ⟨h.1, h.2.mono (.of_same st.gs)⟩
  | bw ds =>
    obtain ⟨h0, fb, h1, h2⟩ := h
    have hpu := k ⟨ds, rfl⟩
    subst hpu
    refine ⟨h0, fb, h1.mono (.of_same st.gs) fun p hp o e => ?_, fun p hp => ?_⟩
    · have hn : H p ≠ none := fun z => by
        unfold rg at e
        rw [rd_none z] at e
        dsimp only at e
        cases e
      cases q : H p with
      | none => exact (hn q).elim
      | some u =>
        have e2 := st.same p u q
        have : rg H' p = rg H p := by unfold rg rd; rw [e2, q]
        rw [this]
        exact e
    · rcases h2 p hp with z | z | ⟨i, hi, z⟩
      · exact .inl (same_not st.gs z)
      · exact .inr (.inl z)
      · rcases st.fpk rfl i p z with y | y
        · exact .inr (.inr ⟨i, hi, y⟩)
        · exact .inl y
theorem EOk.see {t : ET} {v : V} {x : PV} {fp : List Addr} (h : EOk ca F S H fps t v x fp) (sub : Sub S H) : ∃ fb, BR ca S (rg H) v x fb := by
  cases t with
  | own => exact ⟨fp, h.1.rd⟩
  | sh => obtain ⟨fb, h, _⟩ := h.2.br sub; exact ⟨fb, h⟩
  | bw ds => obtain ⟨_, fb, h, _⟩ := h; exact ⟨fb, h⟩
theorem EOk.deep {t : ET} {v : V} {x : PV} {fp : List Addr} (h : EOk ca F S H fps t v x fp) (sub : Sub S H) : Rep ca H v x := by
  obtain ⟨fb, h⟩ := h.see sub
  exact h.deep sub
theorem SlotOk.mono {t : Tag} {ov : Option (Option V)} {ox : Option PV} {fp : List Addr} (h : SlotOk ca F S H t ov ox fp) (sm : Sub S S') (ns : ∀ p, S p ≠ none → S' p ≠ none) (k : ∀ p ∈ fp, ∀ o, H p = some o → H' p = some o)
    (kb : t = .bw → ∀ p, (S p ≠ none ∨ (F.H0 p ≠ none ∧ p ∉ F.M)) → H' p = H p) : SlotOk ca F S' H' t ov ox fp := by
  unfold SlotOk at h ⊢
  split
  · rename_i e; exact h
  · rename_i x e
    obtain ⟨v, e1, h⟩ := h
    refine ⟨v, e1, ?_⟩
    cases t with
    | bot => exact h
    | own => exact h.mono sm k
    | sh => exact ⟨h.1, h.2.mono sm⟩
    | mu => exact h.mono sm k
    | bw =>
      obtain ⟨h0, fb, h1, h2⟩ := h
      refine ⟨h0, fb, h1.mono sm fun b hb u e => ?_, fun b hb => ?_⟩
      · have e2 := kb rfl b (h2 b hb)
        have : rg H' b = rg H b := by unfold rg rd; rw [e2]
        rw [this]
        exact e
      · rcases h2 b hb with z | z
        · exact .inl (ns b z)
        · exact .inr z
theorem FI.known (I : FI ca F S Γ fps σ env H) {p : Addr} (h : S p ≠ none ∨ (F.H0 p ≠ none ∧ p ∉ F.M)) : H p ≠ none := by
  rcases h with h | h
  · cases e : S p with
    | none => exact (h e).elim
    | some u =>
      rcases I.sub p u e with z | ⟨_, _, _, z⟩
      · rw [z]; simp
      · rw [z]; simp
  · exact I.dom p h.1
/-- a new object in the heap that nobody knows yet -/
theorem FI.alloc (I : FI ca F S Γ fps σ env H) {p : Addr} {o : HO} (hp : H p = none) : FI ca F S Γ fps σ env (upd H p o) ∧ Stp true S H fps S (upd H p o) fps := by
  have sm : Same H (upd H p o) := fun b u e => by rw [upd_ne (ne_of_none e hp)]; exact e
  have dm : ∀ q, H q ≠ none → (upd H p o) q ≠ none := fun q h => same_not sm h
  refine ⟨⟨fun q u e => ?_, I.grow, I.new, fun q u e k => sm q u (I.frame q u e k), I.len, I.len2, fun i => (I.slot i).mono (.refl S) (fun _ h => h) (fun q _ u e => sm q u e) (fun _ q hq => ?_), I.priv, I.disj, I.nodup, fun q h => dm q (I.dom q h)⟩, ⟨Same.refl S, fun q u e _ => sm q u e, dm, fun _ _ h => .inl h, fun _ _ _ h => .inl h, fun _ h => .inl h⟩⟩
  · rcases I.sub q u e with z | ⟨ob, kvs, rfl, z⟩
    · exact .inl (sm q u z)
    · exact .inr ⟨ob, kvs, rfl, sm q _ z⟩
  · exact upd_ne fun z => I.known hq (by rw [z]; exact hp)
/-- more is there, all else as before -/
theorem FI.more (I : FI ca F S Γ fps σ env H) (sm : Same S S') (hm : Same H H') (sub : Sub S' H') (new : ∀ p, S' p ≠ none → S p ≠ none ∨ H p = none) : FI ca F S' Γ fps σ env H' ∧ Stp true S H fps S' H' fps := by
  have h0 : ∀ p, H p = none → F.H0 p = none := fun p hp => by
    cases e : F.H0 p with
    | none => rfl
    | some u => exact (I.dom p (not_none e) hp).elim
  refine ⟨⟨sub, I.grow.trans sm, fun p hp => ?_, fun p o e k => hm p o (I.frame p o e k), I.len, I.len2, fun i => (I.slot i).mono (.of_same sm) (fun _ h => same_not sm h) (fun q _ u e => hm q u e) (fun _ q hq => ?_), fun i p hp => ⟨?_, (I.priv i p hp).2⟩, I.disj, I.nodup, fun p hp => same_not hm (I.dom p hp)⟩,
    ⟨sm, fun p o e _ => hm p o e, fun p hp => same_not hm hp, fun _ _ h => .inl h, fun _ _ _ h => .inl h, fun p hp => (new p hp).imp_right .inl⟩⟩
  · rcases new p hp with z | z
    · exact I.new p z
    · exact .inr (h0 p z)
  · cases e : H q with
    | none => exact (I.known hq e).elim
    | some u => exact hm q u e
  · cases e : S' p with
    | none => rfl
    | some u =>
      rcases new p (not_none e) with z | z
      · exact (z (I.priv i p hp).1).elim
      · have hS := I.slot i
        unfold SlotOk at hS
        split at hS
        · rw [hS] at hp; cases hp
        · obtain ⟨v, _, hb⟩ := hS
          have bt : ∀ {x : PV}, BR ca S H v x (fps i) → False := fun hb => by
            obtain ⟨o, e⟩ := hb.there p hp
            rw [z] at e
            cases e
          split at hb
          · exact (bt hb).elim
          · exact (bt hb).elim
          · rw [hb.1] at hp; cases hp
          · rw [hb.1] at hp; cases hp
          · exact hb.elim
/-- it is known to all from then on -/
theorem FI.into (I : FI ca F S Γ fps σ env H) {p : Addr} {o : HO} (hp : H p = some o) (hs : S p = none) (h0 : F.H0 p = none) (hf : ∀ i, p ∉ fps i) : FI ca F (upd S p o) Γ fps σ env H ∧ Same S (upd S p o) := by
  have sm : Same S (upd S p o) := fun b u e => by rw [upd_ne (ne_of_none e hs)]; exact e
  refine ⟨⟨fun q u e => ?_, I.grow.trans sm, fun q h => ?_, I.frame, I.len, I.len2, fun i => (I.slot i).mono (.of_same sm) (fun _ h => same_not sm h) (fun q _ u e => e) (fun _ q hq => rfl), fun i q hq => ?_, I.disj, I.nodup, I.dom⟩, sm⟩
  · by_cases z : q = p
    · subst z
      rw [upd_same] at e
      cases e
      exact .inl hp
    · rw [upd_ne z] at e
      exact I.sub q u e
  · by_cases z : q = p
    · subst z; exact .inr h0
    · rw [upd_ne z] at h; exact I.new q h
  · have hne : q ≠ p := by rintro rfl; exact hf i hq
    rw [upd_ne hne]
    exact I.priv i q hq
/-- several cells become known to all: those of a value of one's own -/
theorem FI.share (I : FI ca F S Γ fps σ env H) {fq : List Addr} (h : ∀ p ∈ fq, S p = none ∧ F.H0 p = none ∧ ∀ i, p ∉ fps i) : FI ca F (addS S H fq) Γ fps σ env H ∧ Same S (addS S H fq) := by
  have sm : Same S (addS S H fq) := addS_same fun p hp => (h p hp).1
  refine ⟨⟨addS_sub I.sub, I.grow.trans sm, fun q hq => ?_, I.frame, I.len, I.len2, fun i => (I.slot i).mono (.of_same sm) (fun _ h => same_not sm h) (fun q _ u e => e) (fun _ q hq => rfl), fun i q hq => ?_, I.disj, I.nodup, I.dom⟩, sm⟩
  · by_cases z : q ∈ fq
    · exact .inr (h q z).2.1
    · rw [addS_out z] at hq; exact I.new q hq
  · have hne : q ∉ fq := fun z => (h q z).2.2 i hq
    rw [addS_out hne]
    exact I.priv i q hq
def fset (fps : Nat → List Addr) (i : Nat) (fp : List Addr) : Nat → List Addr := fun j => if j = i then fp else fps j
theorem fset_same {i : Nat} {fp : List Addr} : fset fps i fp i = fp := if_pos rfl
theorem fset_ne {i j : Nat} {fp : List Addr} (h : j ≠ i) : fset fps i fp j = fps j := if_neg h
theorem tg_same {i : Nat} {t : Tag} (h : i < Γ.length) : tg (Γ.set i t) i = t := by simp [tg, h]
theorem tg_ne {i j : Nat} {t : Tag} (h : j ≠ i) : tg (Γ.set i t) j = tg Γ j := by simp [tg, List.getElem?_set_ne (Ne.symm h)]
theorem getS_get : ∀ (env : Env) (i : Nat), getS env i = (env[i]?).bind id
  | [], i => by simp [getS]
  | x :: r, 0 => by simp [getS]
  | x :: r, i + 1 => by simp [getS, getS_get r i]
theorem getS_same {i : Nat} {x : Option PV} (h : i < env.length) : getS (env.set i x) i = x := by simp [getS_get, h]
theorem getS_ne {i j : Nat} {x : Option PV} (h : j ≠ i) : getS (env.set i x) j = getS env j := by simp [getS_get, List.getElem?_set_ne (Ne.symm h)]
theorem getS_lt {i : Nat} {x : PV} (h : getS env i = some x) : i < env.length := by
  rw [getS_get] at h
  by_cases e : i < env.length
  · exact e
  · rw [List.getElem?_eq_none (by omega)] at h
    cases h
/-- a slot of one's own becomes known to all -/
theorem FI.freeze (I : FI ca F S Γ fps σ env H) {i : Nat} (h : tg Γ i = .own) : ∃ S', FI ca F S' (Γ.set i .sh) (fset fps i []) σ env H ∧ Stp true S H fps S' H (fset fps i []) := by
  by_cases hi : i < Γ.length
  case neg =>
    unfold tg at h
    rw [List.getElem?_eq_none (by omega)] at h
    cases h
  have hS := I.slot i
  rw [h] at hS
  have p0 : ∀ p ∈ fps i, S p = none ∧ F.H0 p = none := fun p hp => by
    obtain ⟨a, b⟩ := I.priv i p hp
    refine ⟨a, ?_⟩
    rcases b with b | ⟨b, _⟩
    · exact b
    · rw [h] at b; cases b
  have there : ∀ p ∈ fps i, ∃ o, H p = some o := fun p hp => by
    unfold SlotOk at hS
    split at hS
    · rw [hS] at hp; cases hp
    · obtain ⟨v, _, hb⟩ := hS
      exact hb.there p hp
  have sm : Same S (addS S H (fps i)) := addS_same fun p hp => (p0 p hp).1
  have sub : ∀ {j q}, q ∈ fset fps i [] j → j ≠ i ∧ q ∈ fps j := fun {j q} hq => by
    by_cases z : j = i
    · subst z; rw [fset_same] at hq; cases hq
    · rw [fset_ne z] at hq; exact ⟨z, hq⟩
  have inn : ∀ p ∈ fps i, addS S H (fps i) p ≠ none := fun p hp => by
    obtain ⟨o, e⟩ := there p hp
    rw [addS_in hp, e]
    simp
  refine ⟨addS S H (fps i), ⟨addS_sub I.sub, I.grow.trans sm, fun q hq => ?_, I.frame, I.len, by rw [List.length_set]; exact I.len2, fun j => ?_, fun j q hq => ?_, fun j k p hjk hj hk => I.disj j k p hjk (sub hj).2 (sub hk).2, fun j => ?_, I.dom⟩, ⟨sm, fun _ _ e _ => e, fun _ e => e, fun j p hp => .inl (sub hp).2, fun _ j p hp => ?_, fun p hp => ?_⟩⟩
  · by_cases z : q ∈ fps i
    · exact .inr (p0 q z).2
    · rw [addS_out z] at hq; exact I.new q hq
  · by_cases z : j = i
    · subst z
      rw [tg_same hi, fset_same]
      unfold SlotOk at hS ⊢
      split at hS
      · rfl
      · obtain ⟨v, e1, hb⟩ := hS
        exact ⟨v, e1, rfl, hb.share sm fun _ z => z⟩
    · rw [tg_ne z, fset_ne z]
      exact (I.slot j).mono (.of_same sm) (fun _ h => same_not sm h) (fun q _ u e => e) (fun _ q hq => rfl)
  · obtain ⟨hne, hq⟩ := sub hq
    rw [addS_out fun z => I.disj j i q hne hq z, tg_ne hne]
    exact I.priv j q hq
  · by_cases z : j = i
    · subst z; rw [fset_same]; exact .nil
    · rw [fset_ne z]; exact I.nodup j
  · by_cases z : j = i
    · subst z; exact .inr (inn p hp)
    · rw [fset_ne z]; exact .inl hp
  · by_cases z : p ∈ fps i
    · exact .inr (.inr ⟨i, z⟩)
    · rw [addS_out z] at hp; exact .inl hp
/-- a name is given a value -/
theorem FI.put (I : FI ca F S Γ fps σ env H) {i : Nat} {t : ET} {v : V} {x : PV} {fp : List Addr} (hi : i < Γ.length) (hm : tg Γ i ≠ .mu) (h : EOk ca F S H fps t v x fp) (ht : ∀ ds, t ≠ .bw ds) :
    FI ca F S (Γ.set i (if t = .own then .own else .sh)) (fset fps i fp) (σ.set i (some v)) (env.set i (some x)) H := by
  have hl : i < env.length := by rw [← I.len2]; exact hi
  have hl2 : i < σ.length := by rw [I.len]; exact hl
  have hfp : ∀ p ∈ fp, S p = none ∧ F.H0 p = none ∧ ∀ j, p ∉ fps j := fun p hp => by
    cases t with
    | own => exact h.2.2 p hp
    | sh => rw [h.1] at hp; cases hp
    | bw ds => exact (ht ds rfl).elim
  have hnd : fp.Nodup := by
    cases t with
    | own => exact h.2.1
    | sh => rw [h.1]; exact .nil
    | bw ds => exact (ht ds rfl).elim
  refine ⟨I.sub, I.grow, I.new, I.frame, by rw [List.length_set, List.length_set]; exact I.len, by rw [List.length_set, List.length_set]; exact I.len2, fun j => ?_, fun j p hp => ?_, fun j k p hjk hj hk => ?_, fun j => ?_, I.dom⟩
  · by_cases z : j = i
    · subst z
      rw [tg_same hi, fset_same, getS_same hl, List.getElem?_set_self hl2]
      unfold SlotOk
      refine ⟨v, rfl, ?_⟩
      cases t with
      | own => rw [if_pos rfl]; exact h.1
      | sh => rw [if_neg (by simp)]; exact h
      | bw ds => exact (ht ds rfl).elim
    · rw [tg_ne z, fset_ne z, getS_ne z, List.getElem?_set_ne (Ne.symm z)]
      exact I.slot j
  · by_cases z : j = i
    · subst z
      rw [fset_same] at hp
      exact ⟨(hfp p hp).1, .inl (hfp p hp).2.1⟩
    · rw [fset_ne z] at hp
      rw [tg_ne z]
      exact I.priv j p hp
  · by_cases z : j = i
    · subst z
      rw [fset_same] at hj
      rw [fset_ne (Ne.symm hjk)] at hk
      exact (hfp p hj).2.2 k hk
    · rw [fset_ne z] at hj
      by_cases y : k = i
      · subst y
        rw [fset_same] at hk
        exact (hfp p hk).2.2 j hj
      · rw [fset_ne y] at hk
        exact I.disj j k p hjk hj hk
  · by_cases z : j = i
    · subst z; rw [fset_same]; exact hnd
    · rw [fset_ne z]; exact I.nodup j
/-- a name is taken away -/
theorem FI.del (I : FI ca F S Γ fps σ env H) {i : Nat} (hm : tg Γ i ≠ .mu) : FI ca F S Γ (fset fps i []) (σ.set i none) (env.set i none) H := by
  have sub : ∀ {j q}, q ∈ fset fps i [] j → j ≠ i ∧ q ∈ fps j := fun {j q} hq => by
    by_cases z : j = i
    · subst z; rw [fset_same] at hq; cases hq
    · rw [fset_ne z] at hq; exact ⟨z, hq⟩
  refine ⟨I.sub, I.grow, I.new, I.frame, by rw [List.length_set, List.length_set]; exact I.len, by rw [List.length_set]; exact I.len2, fun j => ?_, fun j p hp => I.priv j p (sub hp).2, fun j k p hjk hj hk => I.disj j k p hjk (sub hj).2 (sub hk).2, fun j => ?_, I.dom⟩
  · by_cases z : j = i
    · subst z
      have : getS (env.set j none) j = none := by
        by_cases hl : j < env.length
        · exact getS_same hl
        · rw [getS_get, List.getElem?_eq_none (by rw [List.length_set]; omega)]; rfl
      rw [this, fset_same]
      rfl
    · rw [fset_ne z, getS_ne z, List.getElem?_set_ne (Ne.symm z)]
      exact I.slot j
  · by_cases z : j = i
    · subst z; rw [fset_same]; exact .nil
    · rw [fset_ne z]; exact I.nodup j
/-! ### what an expression owes -/
def ExRep (ca : CA) (S H : Hp) (cls : Value) (d : Option Addr) : PV → Prop
  | .exc c fs => ∃ C, ca.x c = some C ∧ cls = .ref C ∧ ∃ us, (match d with
      | some x => rd S x = some (.xd us) ∧ us ≠ []
      | none => us = []) ∧ RepF ca S us fs
  | _ => False
abbrev Wish := Value → Option Addr → Hp → Prop
def Tri (ca : CA) (F : Fr) (pu : Bool) (Γ : Tags) (t : ET) (r : Rs PV) (S H : Hp) (fps : Nat → List Addr) (σ : L2.St) (Q : VK) (W : Wish) : Prop :=
  match r with
  | .ok x env' => ∀ v S' H' fps' fp, FI ca F S' Γ fps' σ env' H' → Stp pu S H fps S' H' fps' → EOk ca F S' H' fps' t v x fp → (∀ p ∈ fp, H p = none) → Q v H'
  | .ex e env' => ∀ S' H' fps' cls d, FI ca F S' Γ fps' σ env' H' → Stp pu S H fps S' H' fps' → ExRep ca S' H' cls d e → W cls d H'
  | .bad => False
def TriT (ca : CA) (F : Fr) (pu : Bool) (Γ : Tags) (r : Rs Bool) (S H : Hp) (fps : Nat → List Addr) (σ : L2.St) (Q : Bool → Hp → Prop) (W : Wish) : Prop :=
  match r with
  | .ok b env' => ∀ S' H' fps', FI ca F S' Γ fps' σ env' H' → Stp pu S H fps S' H' fps' → Q b H'
  | .ex e env' => ∀ S' H' fps' cls d, FI ca F S' Γ fps' σ env' H' → Stp pu S H fps S' H' fps' → ExRep ca S' H' cls d e → W cls d H'
  | .bad => False
/-- several values, each with its place -/
def EOks (ca : CA) (F : Fr) (S H : Hp) (fps : Nat → List Addr) : List ET → List V → List PV → List (List Addr) → Prop
  | [], vs, xs, fs => vs = [] ∧ xs = [] ∧ fs = []
  | t :: ts, vs, xs, fs => ∃ v vr x xr f fr, vs = v :: vr ∧ xs = x :: xr ∧ fs = f :: fr ∧ EOk ca F S H fps t v x f ∧ EOks ca F S H fps ts vr xr fr
def TriA (ca : CA) (F : Fr) (pu : Bool) (Γ : Tags) (ts : List ET) (r : Rs (List PV)) (S H : Hp) (fps : Nat → List Addr) (σ : L2.St) (Q : List V → Hp → Prop) (W : Wish) : Prop :=
  match r with
  | .ok xs env' => ∀ vs S' H' fps' fs, FI ca F S' Γ fps' σ env' H' → Stp pu S H fps S' H' fps' → EOks ca F S' H' fps' ts vs xs fs → (∀ f ∈ fs, ∀ p ∈ f, H p = none) → fs.flatten.Nodup → Q vs H'
  | .ex e env' => ∀ S' H' fps' cls d, FI ca F S' Γ fps' σ env' H' → Stp pu S H fps S' H' fps' → ExRep ca S' H' cls d e → W cls d H'
  | .bad => False
/-- what an operation owes: a value of one's own -/
def Out (ca : CA) (F : Fr) (S H : Hp) (Γ : Tags) (fps : Nat → List Addr) (σ : L2.St) (env : Env) (t : ET) (z : PV) (Q : VK) : Prop :=
  ∀ v S' H' fp, FI ca F S' Γ fps σ env H' → Stp true S H fps S' H' fps → EOk ca F S' H' fps t v z fp → (∀ p ∈ fp, H p = none) → Q v H'
variable {Q : VK}
theorem Out.val {t : ET} {v : V} {z : PV} (o : Out ca F S H Γ fps σ env t z Q) (I : FI ca F S Γ fps σ env H) (h : EOk ca F S H fps t v z []) : Q v H := o v S H [] I .refl h (fun _ h => by cases h)
theorem scal_ok {z : PV} {u : V} (h : scalV z = some u) : EOk ca F S H fps .own u z [] := by
  cases z <;> cases h
  all_goals
    refine ⟨?_, .nil, fun _ h => by cases h⟩
    unfold BR
    exact ⟨rfl, by unfold Rep; rfl⟩
theorem Out.scal {z : PV} {u : V} (o : Out ca F S H Γ fps σ env .own z Q) (I : FI ca F S Γ fps σ env H) (h : scalV z = some u) : Q u H := o.val I (scal_ok h)
theorem FI.fresh (I : FI ca F S Γ fps σ env H) {p : Addr} (hp : H p = none) : S p = none ∧ F.H0 p = none ∧ ∀ i, p ∉ fps i := by
  refine ⟨?_, ?_, fun i hi => ?_⟩
  · cases e : S p with
    | none => rfl
    | some u => exact (I.known (.inl (not_none e)) hp).elim
  · cases e : F.H0 p with
    | none => rfl
    | some u => exact (I.dom p (not_none e) hp).elim
  · have hS := I.slot i
    unfold SlotOk at hS
    split at hS
    · rw [hS] at hi; cases hi
    · obtain ⟨v, _, hb⟩ := hS
      have bt : ∀ {x : PV}, BR ca S H v x (fps i) → False := fun hb => by
        obtain ⟨o, e⟩ := hb.there p hi
        rw [hp] at e
        cases e
      split at hb
      · exact bt hb
      · exact bt hb
      · rw [hb.1] at hi; cases hi
      · rw [hb.1] at hi; cases hi
      · exact hb
/-- a new list -/
theorem Out.lst {xs : List PV} {vs : List V} (o : Out ca F S H Γ fps σ env .own (.lst xs) Q) (I : FI ca F S Γ fps σ env H) (h : RepL ca S vs xs) : ∀ p, H p = none → Q (.ref p) (upd H p (.lst vs)) := fun p hp => by
  obtain ⟨I', st⟩ := I.alloc (o := .lst vs) hp
  obtain ⟨f1, f2, f3⟩ := I.fresh hp
  refine o (.ref p) S _ [p] I' st ⟨?_, by simp, fun q hq => ?_⟩ fun q hq => ?_
  · unfold BR
    exact ⟨p, vs, rfl, rfl, upd_same, h⟩
  · rw [List.mem_singleton.mp hq]; exact ⟨f1, f2, f3⟩
  · rw [List.mem_singleton.mp hq]; exact hp
theorem Out.dic {xs : List (Key × PV)} {vs : List (Key × V)} (o : Out ca F S H Γ fps σ env .own (.dic xs) Q) (I : FI ca F S Γ fps σ env H) (h : RepK ca S vs xs) : ∀ p, H p = none → Q (.ref p) (upd H p (.dK vs)) := fun p hp => by
  obtain ⟨I', st⟩ := I.alloc (o := .dK vs) hp
  obtain ⟨f1, f2, f3⟩ := I.fresh hp
  refine o (.ref p) S _ [p] I' st ⟨?_, by simp, fun q hq => ?_⟩ fun q hq => ?_
  · unfold BR
    exact ⟨p, vs, rfl, rfl, upd_same, h⟩
  · rw [List.mem_singleton.mp hq]; exact ⟨f1, f2, f3⟩
  · rw [List.mem_singleton.mp hq]; exact hp
/-- a new object that all may know -/
theorem FI.allocS (I : FI ca F S Γ fps σ env H) {p : Addr} {o : HO} (hp : H p = none) : FI ca F (upd S p o) Γ fps σ env (upd H p o) ∧ Stp true S H fps (upd S p o) (upd H p o) fps := by
  obtain ⟨I', st⟩ := I.alloc (o := o) hp
  obtain ⟨f1, f2, f3⟩ := I.fresh hp
  obtain ⟨I2, sm⟩ := I'.into (p := p) upd_same f1 f2 f3
  refine ⟨I2, ⟨sm, st.keep, st.dom, st.fpo, fun _ i q h => .inl h, fun q h => ?_⟩⟩
  by_cases z : q = p
  · subst z; exact .inr (.inl hp)
  · rw [upd_ne z] at h; exact .inl h
theorem Out.tup {xs : List PV} {vs : List V} (o : Out ca F S H Γ fps σ env .own (.tup xs) Q) (I : FI ca F S Γ fps σ env H) (h : RepL ca S vs xs) : ∀ p, H p = none → Q (.ref p) (upd H p (.tup vs)) := fun p hp => by
  obtain ⟨I2, st⟩ := I.allocS (o := .tup vs) hp
  refine o (.ref p) _ _ [] I2 st ⟨?_, .nil, fun q hq => by cases hq⟩ fun q hq => by cases hq
  unfold BR
  refine ⟨rfl, ?_⟩
  unfold Rep
  exact ⟨p, vs, rfl, rd_of upd_same, h.mono (.of_same st.gs)⟩
end
end Vc

set_option Elab.async false
set_option linter.all false
set_option maxRecDepth 100000
set_option maxHeartbeats 1000000
namespace Vc
open PySem PySem.Spec PyProof.Rows L2
section
variable {ca : CA} {F : Fr} {S S' S2 H H' H2 : Hp} {Γ : Tags} {fps fps' fps2 : Nat → List Addr} {σ : L2.St} {env : Env} {pu pu' : Bool} {Q : VK} {v w : V} {fb : List Addr}
/-! what one sees of a value -/
abbrev See (ca : CA) (S H : Hp) (v : V) (x : PV) : Prop := ∃ fb, BR ca S (rg H) v x fb
theorem see_int {i : Int} (h : See ca S H v (.int i)) : v = .int i := by
  obtain ⟨_, h⟩ := h; unfold BR Rep at h; exact h.2
theorem see_str {i : Str} (h : See ca S H v (.str i)) : v = .str i := by
  obtain ⟨_, h⟩ := h; unfold BR Rep at h; exact h.2
theorem see_bl {i : Bool} (h : See ca S H v (.bl i)) : v = .bl i := by
  obtain ⟨_, h⟩ := h; unfold BR Rep at h; exact h.2
theorem see_non (h : See ca S H v .non) : v = .non := by
  obtain ⟨_, h⟩ := h; unfold BR Rep at h; exact h.2
theorem see_lst {xs : List PV} (h : See ca S H v (.lst xs)) : ∃ p vs, v = .ref p ∧ rd H p = some (.lst vs) ∧ RepL ca S vs xs := by
  obtain ⟨_, h⟩ := h
  unfold BR at h
  obtain ⟨p, vs, e, _, q, r⟩ := h
  exact ⟨p, vs, e, rg_rd q, r⟩
theorem see_dic {xs : List (Key × PV)} (h : See ca S H v (.dic xs)) : ∃ p vs, v = .ref p ∧ rd H p = some (.dK vs) ∧ RepK ca S vs xs := by
  obtain ⟨_, h⟩ := h
  unfold BR at h
  obtain ⟨p, vs, e, _, q, r⟩ := h
  exact ⟨p, vs, e, rg_rd q, r⟩
theorem see_tup {xs : List PV} (h : See ca S H v (.tup xs)) : ∃ p vs, v = .ref p ∧ rd S p = some (.tup vs) ∧ RepL ca S vs xs := by
  obtain ⟨_, h⟩ := h
  unfold BR Rep at h
  exact h.2
theorem see_obj {c : Str} {fs : List (Str × PV)} (h : See ca S H v (.obj c fs)) : ∃ p C dx us fr, v = .ref p ∧ ca.o c = some C ∧ H p = some (.ins C dx us) ∧ BRF ca S (rg H) us fs fr := by
  obtain ⟨_, h⟩ := h
  unfold BR at h
  obtain ⟨p, C, dx, us, fr, e, _, ec, q, r⟩ := h
  exact ⟨p, C, dx, us, fr, e, ec, rg_ins q, r⟩
theorem See.deep {x : PV} (sub : Sub S H) (h : See ca S H v x) : Rep ca H v x := by
  obtain ⟨_, h⟩ := h
  exact h.deep sub
theorem see_scal {z : PV} {u : V} (h : scalV z = some u) (hv : See ca S H v z) : v = u := by
  cases z <;> cases h
  · exact see_non hv
  · exact see_bl hv
  · exact see_int hv
  · exact see_str hv
theorem grd_some {α : Type} {p : Prop} [Decidable p] {x y : α} (h : grd p x = some y) : p ∧ x = y := by
  unfold grd at h
  split at h
  · exact ⟨by assumption, Option.some.inj h⟩
  · cases h
/-! operations -/
theorem add_out {x y z : PV} (I : FI ca F S Γ fps σ env H) (hx : See ca S H v x) (hy : See ca S H w y) (e : addP x y = some z) (o : Out ca F S H Γ fps σ env .own z Q) : addR v w H Q := by
  unfold addP at e
  split at e
  · cases e
    rw [see_int hx, see_int hy]
    exact o.scal I rfl
  · obtain ⟨h1, rfl⟩ := grd_some e
    rw [see_str hx, see_str hy]
    exact ⟨h1, o.scal I rfl⟩
  · obtain ⟨h1, rfl⟩ := grd_some e
    obtain ⟨p, vs, rfl, e1, r1⟩ := see_lst hx
    obtain ⟨q, us, rfl, e2, r2⟩ := see_lst hy
    unfold addR
    simp only [e1, e2]
    exact ⟨by rw [r1.length, r2.length]; exact h1, o.lst I (r1.append r2)⟩
  · obtain ⟨h1, rfl⟩ := grd_some e
    obtain ⟨p, vs, rfl, e1, r1⟩ := see_tup hx
    obtain ⟨q, us, rfl, e2, r2⟩ := see_tup hy
    unfold addR
    simp only [I.sub.rd e1, I.sub.rd e2]
    have r := r1.append r2
    refine ⟨by rw [r1.length, r2.length]; exact h1, fun z => ?_, fun z => ?_, o.tup I r⟩
    · rw [z] at r
      refine o.val I ⟨?_, .nil, fun _ h => by cases h⟩
      unfold BR Rep
      exact ⟨rfl, p, vs, rfl, e1, r⟩
    · rw [z] at r
      refine o.val I ⟨?_, .nil, fun _ h => by cases h⟩
      unfold BR Rep
      exact ⟨rfl, q, us, rfl, e2, r⟩
  · cases e
theorem op_out {op : Operator} {x y z : PV} (I : FI ca F S Γ fps σ env H) (hx : See ca S H v x) (hy : See ca S H w y) (e : opP op x y = some z) (o : Out ca F S H Γ fps σ env .own z Q) : opR op v w H Q := by
  unfold opP at e
  split at e
  · exact add_out I hx hy e o
  · cases e
    rw [see_int hx, see_int hy]
    exact ⟨_, _, _, rfl, rfl, rfl, o.scal I rfl⟩
  · obtain ⟨h1, rfl⟩ := grd_some e
    rw [see_int hx, see_int hy]
    exact ⟨_, _, _, rfl, rfl, grd_pos h1, o.scal I rfl⟩
  · obtain ⟨h1, rfl⟩ := grd_some e
    rw [see_int hx, see_int hy]
    exact ⟨_, _, _, rfl, rfl, grd_pos h1, o.scal I rfl⟩
  · obtain ⟨h1, rfl⟩ := grd_some e
    rw [see_int hx, see_int hy]
    exact ⟨_, _, _, rfl, rfl, grd_pos h1, o.scal I rfl⟩
  · obtain ⟨h1, rfl⟩ := grd_some e
    rw [see_int hx, see_int hy]
    exact ⟨_, _, _, rfl, rfl, grd_pos h1, o.scal I rfl⟩
  · cases e
theorem kP_keyP {k : PV} {l : Key} (h : keyP k = some l) (hk : See ca S H w k) : w = kV l := by
  unfold keyP at h
  split at h
  · cases h; exact see_int hk
  · cases h; exact see_str hk
  · cases h
theorem atI_map {α β : Type} {R : α → β → Prop} {xs : List α} {ys : List β} (hl : xs.length = ys.length) (hg : ∀ (i : Nat) (y : β), ys[i]? = some y → ∃ x, xs[i]? = some x ∧ R x y) {k : Int} {y : β} (h : atI ys k = some y) : ∃ x, atI xs k = some x ∧ R x y := by
  unfold atI at h ⊢
  rw [hl]
  cases e : ixN ys.length k with
  | none => rw [e] at h; cases h
  | some j =>
    rw [e] at h
    exact hg j y h
theorem sh_ok {x : PV} (h : Rep ca S v x) : EOk ca F S H fps .sh v x [] := ⟨rfl, h⟩
theorem rep_own {z : PV} (h : Rep ca S v z) (n : ∀ xs, z ≠ .lst xs) (n2 : ∀ xs, z ≠ .dic xs) (n3 : ∀ c fs, z ≠ .obj c fs) : EOk ca F S H fps .own v z [] := by
  refine ⟨?_, .nil, fun _ h => by cases h⟩
  cases z with
  | lst xs => exact (n xs rfl).elim
  | dic xs => exact (n2 xs rfl).elim
  | obj c fs => exact (n3 c fs rfl).elim
  | _ => unfold BR; exact ⟨rfl, h⟩
theorem ix_out {x i z : PV} (I : FI ca F S Γ fps σ env H) (hx : See ca S H v x) (hi : See ca S H w i) (e : ixP x i = some z) (o : Out ca F S H Γ fps σ env .sh z Q) : ixR v w H Q := by
  unfold ixP at e
  split at e
  · obtain ⟨_, e1, e2⟩ := Option.bind_eq_some_iff.mp e
    obtain ⟨h1, _⟩ := grd_some e1
    obtain ⟨c, e3, e4⟩ := Option.map_eq_some_iff.mp e2
    subst e4
    rw [see_str hx, see_int hi]
    refine ⟨h1, c, e3, o.val I (sh_ok ?_)⟩
    unfold Rep
    rfl
  · obtain ⟨p, vs, rfl, e1, r1⟩ := see_lst hx
    rw [see_int hi]
    unfold ixR
    simp only [e1]
    obtain ⟨u, h1, h2⟩ := atI_map r1.length (fun i y h => r1.get h) e
    exact ⟨_, u, rfl, h1, o.val I (sh_ok h2)⟩
  · obtain ⟨p, vs, rfl, e1, r1⟩ := see_tup hx
    rw [see_int hi]
    unfold ixR
    simp only [I.sub.rd e1]
    obtain ⟨u, h1, h2⟩ := atI_map r1.length (fun i y h => r1.get h) e
    exact ⟨_, u, rfl, h1, o.val I (sh_ok h2)⟩
  · obtain ⟨k, e1, e2⟩ := Option.bind_eq_some_iff.mp e
    obtain ⟨p, vs, rfl, e3, r1⟩ := see_dic hx
    have := r1.get k
    rw [e2] at this
    obtain ⟨u, h1, h2⟩ := this
    rw [kP_keyP e1 hi]
    unfold ixR
    simp only [e3]
    exact ⟨k, u, rfl, h1, o.val I (sh_ok h2)⟩
  · cases e
theorem cut_rep {xs : List PV} {vs : List V} (r : RepL ca S vs xs) (lo hi : Option Int) : RepL ca S (cutV vs lo hi) (cutP xs lo hi) := by
  unfold cutV cutP
  rw [r.length]
  exact (r.drop _).take _
theorem sl_out {x z : PV} {lo hi : Option Int} (I : FI ca F S Γ fps σ env H) (hx : See ca S H v x) (e : slP x lo hi = some z) (o : Out ca F S H Γ fps σ env .own z Q) : slR v lo hi H Q := by
  unfold slP at e
  split at e
  · obtain ⟨h1, rfl⟩ := grd_some e
    rw [see_str hx]
    exact ⟨h1, o.scal I rfl⟩
  · cases e
    obtain ⟨p, vs, rfl, e1, r1⟩ := see_lst hx
    unfold slR
    simp only [e1]
    exact o.lst I (cut_rep r1 lo hi)
  · cases e
    obtain ⟨p, vs, rfl, e1, r1⟩ := see_tup hx
    unfold slR
    simp only [I.sub.rd e1]
    refine ⟨fun z => o.val I (rep_own ?_ (fun _ => nofun) (fun _ => nofun) (fun _ _ => nofun)), o.tup I (cut_rep r1 lo hi)⟩
    unfold Rep
    refine ⟨p, vs, rfl, e1, ?_⟩
    have := cut_rep r1 lo hi
    rw [z] at this
    exact this
  · cases e
/-! several values -/
def SeeL (ca : CA) (S H : Hp) : List V → List PV → Prop
  | vs, [] => vs = []
  | vs, x :: xs => ∃ v r, vs = v :: r ∧ See ca S H v x ∧ SeeL ca S H r xs
theorem SeeL.deep (sub : Sub S H) : ∀ {xs : List PV} {vs : List V}, SeeL ca S H vs xs → RepL ca H vs xs
  | [], vs, h => by unfold SeeL at h; rw [h]; exact .nil
  | x :: xs, vs, h => by
    unfold SeeL at h
    obtain ⟨v, r, rfl, h1, h2⟩ := h
    exact .cons (h1.deep sub) (SeeL.deep sub h2)
theorem seeL1 {vs : List V} {x : PV} (h : SeeL ca S H vs [x]) : ∃ v, vs = [v] ∧ See ca S H v x := by
  unfold SeeL at h
  obtain ⟨v, r, rfl, h1, h2⟩ := h
  unfold SeeL at h2
  subst h2
  exact ⟨v, rfl, h1⟩
theorem seeL2 {vs : List V} {x y : PV} (h : SeeL ca S H vs [x, y]) : ∃ v w, vs = [v, w] ∧ See ca S H v x ∧ See ca S H w y := by
  unfold SeeL at h
  obtain ⟨v, r, rfl, h1, h2⟩ := h
  obtain ⟨w, rfl, h3⟩ := seeL1 h2
  exact ⟨v, w, rfl, h1, h3⟩
theorem see_list {x : PV} {ys : List PV} (I : FI ca F S Γ fps σ env H) (hx : See ca S H v x) (e : listP x = some ys) : ∃ p, v = .ref p ∧ ((∃ vs, (rd H p = some (.lst vs) ∨ rd H p = some (.tup vs)) ∧ RepL ca S vs ys) ∨ ∃ us kvs, rd H p = some (.dK us) ∧ RepK ca S us kvs ∧ ys = kvs.map fun kv => kP kv.1) := by
  unfold listP at e
  split at e
  · cases e
    obtain ⟨p, vs, rfl, e1, r1⟩ := see_lst hx
    exact ⟨p, rfl, .inl ⟨vs, .inl e1, r1⟩⟩
  · cases e
    obtain ⟨p, vs, rfl, e1, r1⟩ := see_tup hx
    exact ⟨p, rfl, .inl ⟨vs, .inr (I.sub.rd e1), r1⟩⟩
  · cases e
    obtain ⟨p, vs, rfl, e1, r1⟩ := see_dic hx
    exact ⟨p, rfl, .inr ⟨vs, _, e1, r1, rfl⟩⟩
  · cases e
theorem rep_kP (k : Key) : Rep ca S (kV k) (kP k) := by
  cases k <;> (unfold kV kP Rep; rfl)
theorem repL_keys : ∀ {kvs : List (Key × PV)} {us : List (Key × V)}, RepK ca S us kvs → RepL ca S (us.map fun kv => kV kv.1) (kvs.map fun kv => kP kv.1)
  | [], us, h => by unfold RepK at h; subst h; exact .nil
  | (k, x) :: r, us, h => by
    unfold RepK at h
    obtain ⟨v, us', rfl, h1, h2⟩ := h
    exact .cons (rep_kP k) (repL_keys h2)
theorem perm_rep {zs : List V} {ds : List PV} (r : RepL ca S zs ds) {ps : List (V × PV)} (h : ps.Perm (zs.zip ds)) : RepL ca S (ps.map (·.1)) (ps.map (·.2)) := by
  have all : ∀ {xs : List PV} {vs : List V}, RepL ca S vs xs → ∀ p ∈ vs.zip xs, Rep ca S p.1 p.2 := by
    intro xs
    induction xs with
    | nil => intro vs h p hp; unfold RepL at h; subst h; cases hp
    | cons x xs ih =>
      intro vs h p hp
      unfold RepL at h
      obtain ⟨v, r, rfl, h1, h2⟩ := h
      rcases List.mem_cons.mp hp with rfl | hp
      · exact h1
      · exact ih h2 p hp
  have all2 : ∀ {qs : List (V × PV)}, (∀ p ∈ qs, Rep ca S p.1 p.2) → RepL ca S (qs.map (·.1)) (qs.map (·.2)) := by
    intro qs
    induction qs with
    | nil => intro _; exact .nil
    | cons q qs ih => intro h; exact .cons (h q List.mem_cons_self) (ih fun p hp => h p (List.mem_cons_of_mem _ hp))
  exact all2 fun p hp => all r p (h.mem_iff.mp hp)
theorem repL_map_k : ∀ (ks : List Key), RepL ca S (ks.map kV) (ks.map kP)
  | [] => .nil
  | k :: r => .cons (rep_kP k) (repL_map_k r)
theorem intsOf_map : ∀ {xs : List PV} {ns : List Int}, intsOf xs = some ns → xs = ns.map PV.int
  | [], ns, h => by cases h; rfl
  | .int i :: r, ns, h => by
    unfold intsOf at h
    obtain ⟨m, e, rfl⟩ := Option.map_eq_some_iff.mp h
    rw [intsOf_map e]
    rfl
  | .non :: _, _, h => by cases h
  | .bl _ :: _, _, h => by cases h
  | .str _ :: _, _, h => by cases h
  | .lst _ :: _, _, h => by cases h
  | .tup _ :: _, _, h => by cases h
  | .dic _ :: _, _, h => by cases h
  | .obj _ _ :: _, _, h => by cases h
  | .exc _ _ :: _, _, h => by cases h
theorem strsOf_map : ∀ {xs : List PV} {ns : List Str}, strsOf xs = some ns → xs = ns.map PV.str
  | [], ns, h => by cases h; rfl
  | .str i :: r, ns, h => by
    unfold strsOf at h
    obtain ⟨m, e, rfl⟩ := Option.map_eq_some_iff.mp h
    rw [strsOf_map e]
    rfl
  | .non :: _, _, h => by cases h
  | .bl _ :: _, _, h => by cases h
  | .int _ :: _, _, h => by cases h
  | .lst _ :: _, _, h => by cases h
  | .tup _ :: _, _, h => by cases h
  | .dic _ :: _, _, h => by cases h
  | .obj _ _ :: _, _, h => by cases h
  | .exc _ _ :: _, _, h => by cases h
theorem repL_strs : ∀ (ks : List Str), RepL ca S (ks.map V.str) (ks.map PV.str)
  | [] => .nil
  | k :: r => .cons (by unfold Rep; rfl) (repL_strs r)
theorem repL_strs_eq : ∀ {ks : List Str} {vs : List V}, RepL ca S vs (ks.map PV.str) → vs = ks.map V.str
  | [], vs, h => by unfold RepL at h; exact h
  | k :: r, vs, h => by
    unfold RepL at h
    obtain ⟨v, us, rfl, h1, h2⟩ := h
    unfold Rep at h1
    rw [h1, repL_strs_eq h2]
    rfl
def biT : Bi → Nat → ET
  | .max, 1 => .sh
  | .min, 1 => .sh
  | _, _ => .own
theorem maxB_mem (lt : PV → PV → Bool) : ∀ (r : List PV) (m : PV), maxB lt m r ∈ m :: r
  | [], m => by simp [maxB]
  | x :: r, m => by
    unfold maxB
    have := maxB_mem lt r (if lt m x then x else m)
    rcases List.mem_cons.mp this with h | h
    · rw [h]
      split
      · simp
      · simp
    · simp [h]
theorem minB_mem (lt : PV → PV → Bool) : ∀ (r : List PV) (m : PV), minB lt m r ∈ m :: r
  | [], m => by simp [minB]
  | x :: r, m => by
    unfold minB
    have := minB_mem lt r (if lt x m then x else m)
    rcases List.mem_cons.mp this with h | h
    · rw [h]
      split
      · simp
      · simp
    · simp [h]
theorem bi_out {f : Bi} {xs : List PV} {vs : List V} {z : PV} (I : FI ca F S Γ fps σ env H) (hx : SeeL ca S H vs xs) (e : biP f xs = some z) (o : Out ca F S H Γ fps σ env (biT f xs.length) z Q) : biR ca f vs H Q := by
  have sc : ∀ {u : V}, scalV z = some u → biT f xs.length = .own → biS ca f vs H Q := fun {u} h t => by
    rw [t] at o
    exact ⟨xs, z, u, hx.deep I.sub, e, h, o.scal I h⟩
  have e0 := e
  unfold biP at e
  split at e
  · obtain ⟨n, _, rfl⟩ := Option.map_eq_some_iff.mp e
    exact .inl (sc rfl rfl)
  · obtain ⟨_, rfl⟩ := grd_some e
    exact .inl (sc rfl rfl)
  · cases e; exact .inl (sc rfl rfl)
  · cases e; exact .inl (sc rfl rfl)
  · split at e
    · obtain ⟨_, rfl⟩ := grd_some e
      exact .inl (sc rfl rfl)
    · cases e
  · cases e; exact .inl (sc rfl rfl)
  · cases e; exact .inl (sc rfl rfl)
  · cases e; exact .inl (sc rfl rfl)
  · rename_i y ys
    obtain ⟨h1, rfl⟩ := grd_some e
    obtain ⟨v, rfl, hv⟩ := seeL1 hx
    obtain ⟨p, us, rfl, e1, r1⟩ := see_lst hv
    refine .inr ?_
    unfold biA
    simp only [e1]
    refine ⟨_, _, r1.mono I.sub, e0, fun i u hi hd => ?_⟩
    obtain ⟨u', a1, a2⟩ := r1.get hd
    rw [hi] at a1
    cases a1
    exact o.val I (sh_ok a2)
  · rename_i y ys
    obtain ⟨h1, rfl⟩ := grd_some e
    obtain ⟨v, rfl, hv⟩ := seeL1 hx
    obtain ⟨p, us, rfl, e1, r1⟩ := see_lst hv
    refine .inr ?_
    unfold biA
    simp only [e1]
    refine ⟨_, _, r1.mono I.sub, e0, fun i u hi hd => ?_⟩
    obtain ⟨u', a1, a2⟩ := r1.get hd
    rw [hi] at a1
    cases a1
    exact o.val I (sh_ok a2)
  · obtain ⟨h1, rfl⟩ := grd_some e
    obtain ⟨v, w, rfl, hv, hw⟩ := seeL2 hx
    rw [see_int hv, see_int hw]
    refine .inr ⟨h1, o.tup I (.cons ?_ (.one ?_))⟩ <;> (unfold Rep; rfl)
  · obtain ⟨bs, _, rfl⟩ := Option.map_eq_some_iff.mp e
    exact .inl (sc rfl rfl)
  · obtain ⟨ys, e2, rfl⟩ := Option.map_eq_some_iff.mp e
    obtain ⟨v, rfl, hv⟩ := seeL1 hx
    obtain ⟨p, rfl, h⟩ := see_list I hv e2
    refine .inr ?_
    unfold biA
    rcases h with ⟨us, h | h, r⟩ | ⟨us, kvs, h, r, rfl⟩
    · simp only [h]; exact o.lst I r
    · simp only [h]; exact o.lst I r
    · simp only [h]; exact o.lst I (repL_keys r)
  · split at e
    · cases e
      obtain ⟨v, rfl, hv⟩ := seeL1 hx
      obtain ⟨p, us, rfl, e1, r1⟩ := see_lst hv
      refine .inr ?_
      unfold biA
      simp only [e1]
      exact o.tup I r1
    · cases e
      obtain ⟨v, rfl, hv⟩ := seeL1 hx
      obtain ⟨p, us, rfl, e1, r1⟩ := see_tup hv
      refine .inr ?_
      unfold biA
      simp only [I.sub.rd e1]
      refine o.val I (rep_own ?_ (fun _ => nofun) (fun _ => nofun) (fun _ _ => nofun))
      unfold Rep
      exact ⟨p, us, rfl, e1, r1⟩
    · cases e
  · cases e
    obtain ⟨v, rfl, hv⟩ := seeL1 hx
    obtain ⟨p, us, rfl, e1, r1⟩ := see_dic hv
    refine .inr ?_
    unfold biA
    simp only [e1]
    exact o.dic I r1
  · obtain ⟨h1, rfl⟩ := grd_some e
    obtain ⟨v, rfl, hv⟩ := seeL1 hx
    obtain ⟨p, us, rfl, h, r⟩ := see_lst hv
    refine .inr ?_
    unfold biA
    simp only [h]
    refine ⟨_, r.mono I.sub, h1, fun ps q hp he hq => ?_⟩
    have := perm_rep r hp
    rw [he] at this
    exact o.lst I this q hq
  · rename_i kvs
    obtain ⟨h1, rfl⟩ := grd_some e
    obtain ⟨v, rfl, hv⟩ := seeL1 hx
    obtain ⟨p, us, rfl, h, r⟩ := see_dic hv
    refine .inr ?_
    unfold biA
    have ek : us.map (fun kv => kP kv.1) = kvs.map fun kv => kP kv.1 := by
      have := congrArg (List.map kP) r.keys
      rw [List.map_map, List.map_map] at this
      exact this
    simp only [h]
    rw [ek]
    refine ⟨h1, fun ks q hp he hq => ?_⟩
    have := repL_map_k (ca := ca) (S := S) ks
    rw [he] at this
    exact o.lst I this q hq
  · cases e
theorem strs_part (a b : Str) : RepL ca S [.str (Txt.partition a b).1, .str (Txt.partition a b).2.1, .str (Txt.partition a b).2.2] [.str (Txt.partition a b).1, .str (Txt.partition a b).2.1, .str (Txt.partition a b).2.2] :=
  repL_strs [(Txt.partition a b).1, (Txt.partition a b).2.1, (Txt.partition a b).2.2]
theorem bmT_see {m : Bm} {x : PV} (hx : See ca S H v x) (k : bmK m x = true) : bmT m v H := by
  unfold bmK at k
  split at k
  all_goals first
    | (rw [see_str hx]; exact trivial)
    | (obtain ⟨p, us, rfl, e1, r1⟩ := see_lst hx; exact ⟨us, e1⟩)
    | (obtain ⟨p, us, rfl, e1, r1⟩ := see_dic hx; exact ⟨us, e1⟩)
    | cases k
def bmTag : Bm → ET
  | .get => .sh
  | _ => .own
theorem bmK_of {m : Bm} {x z : PV} {xs : List PV} (e : bmP m x xs = some z) (hm : m ≠ .items ∧ m ≠ .values) : bmK m x = true := by
  unfold bmP at e
  split at e
  all_goals first
    | rfl
    | (exact (hm.1 rfl).elim)
    | (exact (hm.2 rfl).elim)
    | cases e
theorem bm_out {m : Bm} {x : PV} {xs : List PV} {vs : List V} {z : PV} (I : FI ca F S Γ fps σ env H) (hv : See ca S H v x) (hx : SeeL ca S H vs xs) (hg : m = .get → RepL ca S vs xs) (e : bmP m x xs = some z) (hm : m ≠ .items ∧ m ≠ .values)
    (o : Out ca F S H Γ fps σ env (bmTag m) z Q) : bmR ca m v vs H Q := by
  have sc : ∀ {u : V}, scalV z = some u → bmTag m = .own → bmS ca m v vs H Q := fun {u} h t => by
    rw [t] at o
    exact ⟨x, xs, z, u, hv.deep I.sub, hx.deep I.sub, e, h, o.scal I h⟩
  unfold bmP at e
  split at e
  · obtain ⟨h1, rfl⟩ := grd_some e
    obtain ⟨w, rfl, hw⟩ := seeL1 hx
    rw [see_str hv, see_str hw]
    refine .inr ⟨h1.1, h1.2, o.lst I (repL_strs _)⟩
  · obtain ⟨h1, rfl⟩ := grd_some e
    obtain ⟨w, rfl, hw⟩ := seeL1 hx
    rw [see_str hv, see_str hw]
    exact .inr ⟨h1.1, h1.2, o.tup I (strs_part _ _)⟩
  · obtain ⟨_, rfl⟩ := grd_some e
    exact .inl (sc rfl rfl)
  · split at e
    · obtain ⟨zs, _, e2⟩ := Option.bind_eq_some_iff.mp e
      obtain ⟨_, rfl⟩ := grd_some e2
      exact .inl (sc rfl rfl)
    · cases e
  · obtain ⟨i, _, rfl⟩ := Option.map_eq_some_iff.mp e
    exact .inl (sc rfl rfl)
  · obtain ⟨k, e1, rfl⟩ := Option.map_eq_some_iff.mp e
    rename_i kvs kk d
    obtain ⟨p, us, rfl, e2, r1⟩ := see_dic hv
    have hr := hg rfl
    obtain ⟨w1, w2, rfl, hw, _⟩ := seeL2 hx
    obtain ⟨w2', e5⟩ : ∃ u, Rep ca S w2 d ∧ u = w2 := by
      unfold RepL at hr
      obtain ⟨a, b, e3, h1, h2⟩ := hr
      cases e3
      unfold RepL at h2
      obtain ⟨a, b, e3, h1, h2⟩ := h2
      cases e3
      exact ⟨_, h1, rfl⟩
    refine .inr ?_
    unfold bmA
    simp only [e2]
    refine ⟨k, kP_keyP e1 hw, ?_⟩
    have := r1.get k
    cases q : dget kvs k with
    | none =>
      rw [q] at this o
      rw [show valV us k = none from this]
      exact o.val I (sh_ok e5.1)
    | some y =>
      rw [q] at this o
      obtain ⟨u, a1, a2⟩ := this
      rw [a1]
      exact o.val I (sh_ok a2)
  · exact (hm.1 rfl).elim
  · exact (hm.2 rfl).elim
  · obtain ⟨_, rfl⟩ := grd_some e
    exact .inl (sc rfl rfl)
  · cases e
end
/-! ### the check of who holds what -/
structure Sg where
  fn : List (Str × List Pm × Bool)
  ms : List (Str × List Pm × Bool)
  ini : List (Str × List Pm)
  fs : List Str
  tr : List Str
def leT (a b : Tag) : Bool := decide (a = b) || decide (a = .bot) || (decide (a = .own) && (decide (b = .sh) || decide (b = .bw))) || (decide (a = .sh) && decide (b = .bw))
def joT (a b : Tag) : Option Tag := if leT a b = true then some b else if leT b a = true then some a else none
def joTs : Tags → Tags → Option Tags
  | [], [] => some []
  | a :: r, b :: s => (joT a b).bind fun c => (joTs r s).map (c :: ·)
  | _, _ => none
def joE : ET → ET → ET
  | .own, b => b
  | .sh, .own => .sh
  | .sh, b => b
  | .bw d, .bw e => .bw (d ++ e)
  | .bw d, _ => .bw d
mutual
/-- changes nothing that stood before -/
def pureE (sg : Sg) : Ex → Bool
  | .op _ a b => pureE sg a && pureE sg b
  | .cmp _ a b => pureE sg a && pureE sg b
  | .chain _ _ a b c => pureE sg a && pureE sg b && pureE sg c
  | .and a b => pureE sg a && pureE sg b
  | .or a b => pureE sg a && pureE sg b
  | .not a => pureE sg a
  | .neg a => pureE sg a
  | .ife c a b => pureE sg c && pureE sg a && pureE sg b
  | .call _ es => pureEs sg es
  | .bi _ es => pureEs sg es
  | .isi a _ => pureE sg a
  | .isiT a _ => pureE sg a
  | .bm m o es => !isMut m && pureE sg o && pureEs sg es
  | .ix a i => pureE sg a && pureE sg i
  | .sl a lo hi => pureE sg a && pureEo sg lo && pureEo sg hi
  | .lst es => pureEs sg es
  | .tup es => pureEs sg es
  | .lc _ s c e _ => pureSrc sg s && pureEo sg c && pureE sg e
  | .fld o _ => pureE sg o
  | .meth _ o es => pureE sg o && pureEs sg es
  | .make _ es => pureEs sg es
  | _ => true
def pureEs (sg : Sg) : Exs → Bool
  | .nil => true
  | .cons e r => pureE sg e && pureEs sg r
def pureEo (sg : Sg) : OEx → Bool
  | .none => true
  | .some e => pureE sg e
def pureSrc (sg : Sg) : Src → Bool
  | .seq e => pureE sg e
  | .rng e => pureE sg e
  | .keys e => pureE sg e
  | _ => true
end
def noMu (ps : List Pm) : Bool := ps.all fun p => decide (p ≠ .mu)
def isBw : ET → Bool
  | .bw _ => true
  | _ => false
def isNil : Exs → Bool
  | .nil => true
  | _ => false
def tst (f : Bool → Tags → Option (ET × Tags)) : (Bool → Tags → Option (ET × Tags)) × (Tags → Option Tags) := (f, fun Γ => (f false Γ).map (·.2))
/-- two values, one behind the other: the second one changes nothing if the first one is held by another -/
def two (fa : Tags → Option (ET × Tags)) (pb : Bool) (fb : Tags → Option (ET × Tags)) (Γ : Tags) : Option Tags :=
  (fa Γ).bind fun r => if isBw r.1 = true ∧ pb = false then none else (fb r.2).map fun r2 => r2.2
def setSh (vs : List Nat) (Γ : Tags) : Tags := vs.foldl (fun Γ i => Γ.set i .sh) Γ
def tgSlots : Tg → List Nat
  | .nm i => [i]
  | .tp is => is
def leGB : Tags → Tags → Bool
  | [], [] => true
  | a :: r, b :: s => leT a b && leGB r s
  | _, _ => false
/-- the turns of a comprehension: what stands at the loop's head -/
def lcTags (ts vs : List Nat) (fc : Tags → Option Tags) (fe : Tags → Option (ET × Tags)) (Γ : Tags) : Option (ET × Tags) :=
  (fc (setSh vs Γ)).bind fun Γc => (fe Γc).bind fun r => (joTs Γc r.2).bind fun Γ2 => (fc (setSh vs Γ2)).bind fun Γc2 => (fe Γc2).bind fun r2 => (joTs Γc2 r2.2).bind fun Γ3 =>
    if leGB Γ (setSh vs Γ2) = true ∧ leGB Γ3 (setSh vs Γ2) = true ∧ ts.all (fun i => vs.contains i) = true ∧ vs.all (fun i => decide (tg (setSh vs Γ2) i = .sh) && decide (i < Γ.length)) = true then some (.own, setSh vs Γ2) else none
mutual
/-- as a value (the Bool: it must be such that all may know it), as a test -/
def ckX (sg : Sg) : Ex → (Bool → Tags → Option (ET × Tags)) × (Tags → Option Tags)
  | .v i => tst fun b Γ => (match Γ[i]? with
      | some .own => if b = true then some (.sh, Γ.set i .sh) else some (.bw [i], Γ)
      | some .sh => some (.sh, Γ)
      | some .bw => if b = true then none else some (.bw [], Γ)
      | some .mu => if b = true then none else some (.bw [i], Γ)
      | _ => none)
  | .ki _ => tst fun _ Γ => some (.own, Γ)
  | .ks _ => tst fun _ Γ => some (.own, Γ)
  | .kb _ => tst fun _ Γ => some (.own, Γ)
  | .kn => tst fun _ Γ => some (.own, Γ)
  | .g _ => tst fun _ Γ => some (.own, Γ)
  | .op _ a b => tst fun _ Γ => (two ((ckX sg a).1 false) (pureE sg b) ((ckX sg b).1 false) Γ).map fun Γ => (.own, Γ)
  | .cmp _ a b => tst fun _ Γ => (two ((ckX sg a).1 false) (pureE sg b) ((ckX sg b).1 false) Γ).map fun Γ => (.own, Γ)
  | .chain _ _ a b c => tst fun _ Γ => if pureE sg b = true ∧ pureE sg c = true then ((ckX sg a).1 false Γ).bind fun r => ((ckX sg b).1 false r.2).bind fun r2 => ((ckX sg c).1 false r2.2).bind fun r3 => (joTs r2.2 r3.2).map fun Γ => (.own, Γ) else none
  | .and a b => (fun sh Γ => ((ckX sg a).1 false Γ).bind fun r => ((ckX sg b).1 sh r.2).bind fun r2 => (joTs r.2 r2.2).map fun Γ => (r2.1, Γ), fun Γ => ((ckX sg a).2 Γ).bind fun Γ1 => ((ckX sg b).2 Γ1).bind fun Γ2 => joTs Γ1 Γ2)
  | .or a b => (fun sh Γ => ((ckX sg a).1 false Γ).bind fun r => ((ckX sg b).1 sh r.2).bind fun r2 => (joTs r.2 r2.2).map fun Γ => (r2.1, Γ), fun Γ => ((ckX sg a).2 Γ).bind fun Γ1 => ((ckX sg b).2 Γ1).bind fun Γ2 => joTs Γ1 Γ2)
  | .not a => (fun _ Γ => ((ckX sg a).1 false Γ).map fun r => (.own, r.2), fun Γ => (ckX sg a).2 Γ)
  | .neg a => tst fun _ Γ => ((ckX sg a).1 false Γ).map fun r => (.own, r.2)
  | .ife c a b => tst fun sh Γ => ((ckX sg c).2 Γ).bind fun Γ1 => ((ckX sg a).1 sh Γ1).bind fun r => ((ckX sg b).1 sh Γ1).bind fun r2 => (joTs r.2 r2.2).map fun Γ => (joE r.1 r2.1, Γ)
  | .call f es => tst fun _ Γ => (sg.fn.lookup f).bind fun p => if noMu p.1 = true then (ckA sg es p.1 Γ).map fun Γ => (if p.2 = true then .own else .sh, Γ) else none
  | .bi f es => tst fun _ Γ => (ckR sg es Γ).map fun r => (biT f r.1, r.2)
  | .isi a _ => tst fun _ Γ => ((ckX sg a).1 false Γ).map fun r => (.own, r.2)
  | .isiT a _ => tst fun _ Γ => ((ckX sg a).1 false Γ).map fun r => (.own, r.2)
  | .bm m o es => tst fun _ Γ => if isMut m = true then (match o with
      | .v i => if tg Γ i = .own then (if m = .extend then (ckOne sg es Γ).bind fun r => if r.1 = .own ∧ tg r.2 i = .own then some (.own, r.2) else none else (ckL sg es Γ).bind fun Γ' => if tg Γ' i = .own then some (if m = .pop then .sh else .own, Γ') else none) else none
      | _ => none)
      else if m = .items ∨ m = .values then none
      else ((ckX sg o).1 false Γ).bind fun r => if isBw r.1 = true ∧ pureEs sg es = false then none else
        if m = .get then (ckL sg es r.2).map fun Γ => (.sh, Γ) else (ckR sg es r.2).map fun r => (bmTag m, r.2)
  | .ix a b => tst fun _ Γ => (two ((ckX sg a).1 false) (pureE sg b) ((ckX sg b).1 false) Γ).map fun Γ => (.sh, Γ)
  | .sl a lo hi => tst fun _ Γ => if pureEo sg lo = true ∧ pureEo sg hi = true then ((ckX sg a).1 false Γ).bind fun r => (ckO sg lo r.2).bind fun Γ => (ckO sg hi Γ).map fun Γ => (.own, Γ) else none
  | .lst es => tst fun _ Γ => (ckL sg es Γ).map fun Γ => (.own, Γ)
  | .tup es => tst fun _ Γ => (ckL sg es Γ).map fun Γ => (.own, Γ)
  | .dict0 => tst fun _ Γ => some (.own, Γ)
  | .fld o f => tst fun sh Γ => if decide (f ∈ sg.fs) = true then ((ckX sg o).1 sh Γ).bind fun r => some (if r.1 = .own then .sh else r.1, r.2) else none
  | .meth m o es => tst fun _ Γ => (sg.ms.lookup m).bind fun p => match p.1 with
      | q :: ps => if noMu (q :: ps) = true then ((ckX sg o).1 (decide (q = .sh)) Γ).bind fun r => if isBw r.1 = true ∧ pureEs sg es = false then none else (ckA sg es ps r.2).map fun Γ => (if p.2 = true then .own else .sh, Γ) else none
      | [] => none
  | .make C es => tst fun _ Γ => (sg.ini.lookup C).bind fun p => if noMu p = true then (ckA sg es p Γ).map fun Γ => (.sh, Γ) else none
  | .lc t s c e own => tst fun _ Γ => (ckSrc sg s Γ).bind fun r => if r.1 = true ∧ (pureEo sg c && pureE sg e) = false then none else lcTags (tgSlots t) (own.map (·.2)) (ckC sg c) (fun Γ => (ckX sg e).1 true Γ) r.2
  | .dict _ => tst fun _ _ => none
  | .fstr _ => tst fun _ _ => none
  | .skey _ _ => tst fun _ _ => none
  | .minlen _ => tst fun _ _ => none
  | .mindef _ _ => tst fun _ _ => none
  | .symd _ _ => tst fun _ _ => none
/-- values that all may know -/
def ckL (sg : Sg) : Exs → Tags → Option Tags
  | .nil, Γ => some Γ
  | .cons e r, Γ => ((ckX sg e).1 true Γ).bind fun p => ckL sg r p.2
def ckOne (sg : Sg) : Exs → Tags → Option (ET × Tags)
  | .nil, _ => none
  | .cons e r, Γ => if isNil r = true then (ckX sg e).1 false Γ else none
/-- values that are seen: how many -/
def ckR (sg : Sg) : Exs → Tags → Option (Nat × Tags)
  | .nil, Γ => some (0, Γ)
  | .cons e r, Γ => ((ckX sg e).1 false Γ).bind fun p => if isBw p.1 = true ∧ pureEs sg r = false then none else (ckR sg r p.2).map fun q => (q.1 + 1, q.2)
/-- arguments -/
def ckA (sg : Sg) : Exs → List Pm → Tags → Option Tags
  | .nil, ps, Γ => if ps = [] then some Γ else none
  | .cons e r, ps, Γ => (match ps with
      | p :: ps => ((ckX sg e).1 (decide (p = .sh)) Γ).bind fun q => if isBw q.1 = true ∧ pureEs sg r = false then none else ckA sg r ps q.2
      | [] => none)
def ckC (sg : Sg) : OEx → Tags → Option Tags
  | .none, Γ => some Γ
  | .some e, Γ => (ckX sg e).2 Γ
/-- what is walked: is it held by another? -/
def ckSrc (sg : Sg) : Src → Tags → Option (Bool × Tags)
  | .seq e, Γ => ((ckX sg e).1 false Γ).map fun r => (isBw r.1, r.2)
  | .rng e, Γ => ((ckX sg e).1 false Γ).map fun r => (false, r.2)
  | _, _ => none
def ckO (sg : Sg) : OEx → Tags → Option Tags
  | .none, Γ => some Γ
  | .some e, Γ => ((ckX sg e).1 false Γ).map (·.2)
end
end Vc

set_option Elab.async false
set_option linter.all false
set_option maxRecDepth 100000
set_option maxHeartbeats 1000000
namespace Vc
open PySem PySem.Spec PyProof.Rows L2
section
variable {ca : CA} {F : Fr} {S S' S2 H H' H2 : Hp} {Γ Γ' Γ2 : Tags} {fps fps' fps2 : Nat → List Addr} {σ : L2.St} {env : Env} {pu pu' : Bool} {Q : VK} {v w : V} {fb : List Addr}
/-! ### less is known of who holds what -/
def leG (Γ Γ' : Tags) : Prop := Γ'.length = Γ.length ∧ ∀ i, leT (tg Γ i) (tg Γ' i) = true
theorem leT_refl (a : Tag) : leT a a = true := by cases a <;> rfl
theorem leG.refl (Γ : Tags) : leG Γ Γ := ⟨rfl, fun i => leT_refl _⟩
theorem joT_le {a b c : Tag} (h : joT a b = some c) : leT a c = true ∧ leT b c = true := by
  unfold joT at h
  split at h
  · cases h
    exact ⟨by assumption, leT_refl _⟩
  · split at h
    · cases h
      exact ⟨leT_refl _, by assumption⟩
    · cases h
theorem tg_zero {a : Tag} {r : Tags} : tg (a :: r) 0 = a := rfl
theorem tg_succ {a : Tag} {r : Tags} {i : Nat} : tg (a :: r) (i + 1) = tg r i := by simp [tg]
theorem joTs_le : ∀ {a b c : Tags}, joTs a b = some c → leG a c ∧ leG b c
  | [], [], c, h => by cases h; exact ⟨.refl _, .refl _⟩
  | [], _ :: _, c, h => by cases h
  | _ :: _, [], c, h => by cases h
  | a :: r, b :: s, c, h => by
    unfold joTs at h
    obtain ⟨x, e1, h⟩ := Option.bind_eq_some_iff.mp h
    obtain ⟨y, e2, rfl⟩ := Option.map_eq_some_iff.mp h
    obtain ⟨h1, h2⟩ := joTs_le e2
    obtain ⟨k1, k2⟩ := joT_le e1
    refine ⟨⟨by simp [h1.1], fun i => ?_⟩, ⟨by simp [h2.1], fun i => ?_⟩⟩
    · cases i with
      | zero => exact k1
      | succ i => rw [tg_succ, tg_succ]; exact h1.2 i
    · cases i with
      | zero => exact k2
      | succ i => rw [tg_succ, tg_succ]; exact h2.2 i
theorem set_tg {i : Nat} : Γ.set i (tg Γ i) = Γ := by
  by_cases h : i < Γ.length
  · apply List.ext_getElem?
    intro j
    by_cases e : j = i
    · subst e; simp [tg, h]
    · rw [List.getElem?_set_ne (Ne.symm e)]
  · exact List.set_eq_of_length_le (by omega)
theorem FI.retag (I : FI ca F S Γ fps σ env H) {i : Nat} {t : Tag} (h : SlotOk ca F S H t σ[i]? (getS env i) (fps i)) (e : fps i = []) : FI ca F S (Γ.set i t) fps σ env H := by
  refine ⟨I.sub, I.grow, I.new, I.frame, I.len, by rw [List.length_set]; exact I.len2, fun j => ?_, fun j p hp => ?_, I.disj, I.nodup, I.dom⟩
  · by_cases z : j = i
    · subst z
      by_cases hi : j < Γ.length
      · rw [tg_same hi]; exact h
      · rw [List.set_eq_of_length_le (by omega)]; exact I.slot j
    · rw [tg_ne z]; exact I.slot j
  · have : j ≠ i := by rintro rfl; rw [e] at hp; cases hp
    rw [tg_ne this]
    exact I.priv j p hp
theorem FI.sh_bw (I : FI ca F S Γ fps σ env H) {i : Nat} (h : tg Γ i = .sh) : FI ca F S (Γ.set i .bw) fps σ env H := by
  have hS := I.slot i
  rw [h] at hS
  unfold SlotOk at hS
  split at hS
  · rename_i e
    refine I.retag ?_ hS
    unfold SlotOk
    rw [e]
    exact hS
  · rename_i x e
    obtain ⟨v, e1, h0, h1⟩ := hS
    refine I.retag ?_ h0
    unfold SlotOk
    rw [e]
    obtain ⟨fb, b1, b2⟩ := h1.br I.sub
    exact ⟨v, e1, h0, fb, b1, fun p hp => .inl (b2 p hp)⟩
theorem FI.weak1 (I : FI ca F S Γ fps σ env H) {i : Nat} {t : Tag} (h : leT (tg Γ i) t = true) : ∃ S' fps', FI ca F S' (Γ.set i t) fps' σ env H ∧ Stp true S H fps S' H fps' := by
  have same : tg Γ i = t → ∃ S' fps', FI ca F S' (Γ.set i t) fps' σ env H ∧ Stp true S H fps S' H fps' := fun e => by
    rw [← e, set_tg]
    exact ⟨S, fps, I, .refl⟩
  cases q : tg Γ i with
  | bot =>
    have hS := I.slot i
    rw [q] at hS
    unfold SlotOk at hS
    split at hS
    · rename_i e
      refine ⟨S, fps, I.retag ?_ hS, .refl⟩
      unfold SlotOk
      rw [e]
      exact hS
    · obtain ⟨_, _, z⟩ := hS
      exact z.elim
  | own =>
    by_cases hi : i < Γ.length
    case neg =>
      unfold tg at q
      rw [List.getElem?_eq_none (by omega)] at q
      cases q
    obtain ⟨S', I', st⟩ := I.freeze q
    rw [q] at h
    cases t with
    | bot => cases h
    | own => exact same q
    | sh => exact ⟨S', _, I', st⟩
    | bw =>
      have I2 := I'.sh_bw (i := i) (tg_same hi)
      rw [List.set_set] at I2
      exact ⟨S', _, I2, st⟩
    | mu => cases h
  | sh =>
    rw [q] at h
    cases t with
    | bot => cases h
    | own => cases h
    | sh => exact same q
    | bw => exact ⟨S, fps, I.sh_bw q, .refl⟩
    | mu => cases h
  | bw =>
    rw [q] at h
    cases t with
    | bw => exact same q
    | _ => cases h
  | mu =>
    rw [q] at h
    cases t with
    | mu => exact same q
    | _ => cases h
theorem FI.weak (I : FI ca F S Γ fps σ env H) (h : leG Γ Γ') : ∃ S' fps', FI ca F S' Γ' fps' σ env H ∧ Stp true S H fps S' H fps' := by
  have main : ∀ n, n ≤ Γ.length → ∃ S' fps', FI ca F S' (Γ'.take n ++ Γ.drop n) fps' σ env H ∧ Stp true S H fps S' H fps' := by
    intro n
    induction n with
    | zero => intro _; exact ⟨S, fps, by simpa using I, .refl⟩
    | succ n ih =>
      intro hn
      obtain ⟨S1, f1, I1, st1⟩ := ih (by omega)
      have h' : n < Γ'.length := by rw [h.1]; omega
      have e1 : tg (Γ'.take n ++ Γ.drop n) n = tg Γ n := by
        unfold tg
        rw [List.getElem?_append_right (by simp; omega)]
        simp
        congr 2
        omega
      obtain ⟨S2, f2, I2, st2⟩ := I1.weak1 (i := n) (t := tg Γ' n) (by rw [e1]; exact h.2 n)
      refine ⟨S2, f2, ?_, st1.trans st2⟩
      have e2 : (Γ'.take n ++ Γ.drop n).set n (tg Γ' n) = Γ'.take (n + 1) ++ Γ.drop (n + 1) := by
        have l1 : (Γ'.take n).length = n := by simp; omega
        rw [List.set_append_right _ _ (by omega), l1, Nat.sub_self, List.take_add_one]
        have e3 : Γ'[n]?.toList = [tg Γ' n] := by
          unfold tg
          rw [List.getElem?_eq_getElem h']
          rfl
        rw [e3, List.append_assoc]
        congr 1
        rw [List.drop_eq_getElem_cons (by omega)]
        rfl
      rw [← e2]
      exact I2
  obtain ⟨S', f', I', st⟩ := main Γ.length (Nat.le_refl _)
  have : Γ'.take Γ.length ++ Γ.drop Γ.length = Γ' := by
    rw [← h.1, List.take_length, h.1, List.drop_length, List.append_nil]
  rw [this] at I'
  exact ⟨S', f', I', st⟩
end
end Vc

set_option Elab.async false
set_option linter.all false
set_option maxRecDepth 100000
set_option maxHeartbeats 1000000
namespace Vc
open PySem PySem.Spec PyProof.Rows L2
section
variable {Γ Γ' Γ2 : Tags} {sg : Sg}
theorem leT_trans {a b c : Tag} (h : leT a b = true) (k : leT b c = true) : leT a c = true := by
  cases a <;> cases b <;> cases c <;> first | rfl | (cases h; done) | (cases k; done)
theorem leG.trans (h : leG Γ Γ') (k : leG Γ' Γ2) : leG Γ Γ2 := ⟨k.1.trans h.1, fun i => leT_trans (h.2 i) (k.2 i)⟩
theorem leG.set {i : Nat} {t : Tag} (h : leT (tg Γ i) t = true) : leG Γ (Γ.set i t) := ⟨by simp, fun j => by
  by_cases z : j = i
  · subst z
    by_cases hi : j < Γ.length
    · rw [tg_same hi]; exact h
    · rw [List.set_eq_of_length_le (by omega)]; exact leT_refl _
  · rw [tg_ne z]; exact leT_refl _⟩
theorem two_of {fa fb : Tags → Option (ET × Tags)} {pb : Bool} (h : two fa pb fb Γ = some Γ') : ∃ ra rb, fa Γ = some ra ∧ fb ra.2 = some (rb, Γ') ∧ (isBw ra.1 = true → pb = true) := by
  unfold two at h
  obtain ⟨ra, e1, h⟩ := Option.bind_eq_some_iff.mp h
  split at h
  · cases h
  · rename_i hn
    obtain ⟨rb, e2, rfl⟩ := Option.map_eq_some_iff.mp h
    refine ⟨ra, rb.1, e1, e2, fun z => ?_⟩
    cases q : pb with
    | true => rfl
    | false => exact (hn ⟨z, q⟩).elim
theorem tst_2 {f : Bool → Tags → Option (ET × Tags)} (h : (tst f).2 Γ = some Γ') : ∃ t, f false Γ = some (t, Γ') := by
  obtain ⟨r, e, rfl⟩ := Option.map_eq_some_iff.mp h
  exact ⟨r.1, e⟩
def LeX (sg : Sg) (e : Ex) : Prop := (∀ sh Γ t Γ', (ckX sg e).1 sh Γ = some (t, Γ') → leG Γ Γ') ∧ ∀ Γ Γ', (ckX sg e).2 Γ = some Γ' → leG Γ Γ'
theorem leX_tst {e : Ex} {f : Bool → Tags → Option (ET × Tags)} (h : ckX sg e = tst f) (k : ∀ sh Γ t Γ', f sh Γ = some (t, Γ') → leG Γ Γ') : LeX sg e := by
  unfold LeX
  rw [h]
  exact ⟨k, fun Γ Γ' h => let ⟨t, e⟩ := tst_2 h; k _ _ _ _ e⟩
theorem leGB_of : ∀ {a b : Tags}, leGB a b = true → leG a b
  | [], [], _ => .refl _
  | [], _ :: _, h => by cases h
  | _ :: _, [], h => by cases h
  | a :: r, b :: s, h => by
    unfold leGB at h
    rw [Bool.and_eq_true] at h
    have := leGB_of h.2
    refine ⟨by simp [this.1], fun i => ?_⟩
    cases i with
    | zero => exact h.1
    | succ i => rw [tg_succ, tg_succ]; exact this.2 i
theorem lcTags_of {ts vs : List Nat} {fc : Tags → Option Tags} {fe : Tags → Option (ET × Tags)} {t : ET} (h : lcTags ts vs fc fe Γ = some (t, Γ')) :
    ∃ Γc r Γ3 Γ0 Γ1 Γ4 Γ5 Γ6, t = .own ∧ leG Γ Γ' ∧ fc Γ' = some Γc ∧ fe Γc = some r ∧ joTs Γc r.2 = some Γ3 ∧ leG Γ3 Γ' ∧ (∀ i ∈ ts, i ∈ vs) ∧ (∀ i ∈ vs, tg Γ' i = .sh ∧ i < Γ'.length) ∧ (Γ0 : Tags) = Γ0 ∧ (Γ1 : Tags) = Γ1 ∧ (Γ4 : Tags) = Γ4 ∧ (Γ5 : Tags) = Γ5 ∧ (Γ6 : Tags) = Γ6 := by
  unfold lcTags at h
  obtain ⟨_, _, h⟩ := Option.bind_eq_some_iff.mp h
  obtain ⟨_, _, h⟩ := Option.bind_eq_some_iff.mp h
  obtain ⟨_, _, h⟩ := Option.bind_eq_some_iff.mp h
  obtain ⟨Γc, e4, h⟩ := Option.bind_eq_some_iff.mp h
  obtain ⟨r, e5, h⟩ := Option.bind_eq_some_iff.mp h
  obtain ⟨Γ3, e6, h⟩ := Option.bind_eq_some_iff.mp h
  split at h
  · rename_i hc
    obtain ⟨c1, c2, c3, c4⟩ := hc
    cases h
    have l1 := leGB_of c1
    refine ⟨Γc, r, Γ3, Γ, Γ, Γ, Γ, Γ, rfl, l1, e4, e5, e6, leGB_of c2, fun i hi => ?_, fun i hi => ?_, rfl, rfl, rfl, rfl, rfl⟩
    · have := List.all_eq_true.mp c3 i hi
      simpa using this
    · have := List.all_eq_true.mp c4 i hi
      simp only [Bool.and_eq_true, decide_eq_true_eq] at this
      exact ⟨this.1, by rw [l1.1]; exact this.2⟩
  · cases h
mutual
theorem ck_le : ∀ e : Ex, LeX sg e
  | .v i => leX_tst rfl fun sh Γ t Γ' h => by
    split at h
    · rename_i e
      split at h
      · cases h; exact leG.set (by unfold tg; rw [e]; rfl)
      · cases h; exact .refl _
    · cases h; exact .refl _
    · split at h <;> cases h; exact .refl _
    · split at h <;> cases h; exact .refl _
    · cases h
  | .ki _ => leX_tst rfl fun sh Γ t Γ' h => by cases h; exact .refl _
  | .ks _ => leX_tst rfl fun sh Γ t Γ' h => by cases h; exact .refl _
  | .kb _ => leX_tst rfl fun sh Γ t Γ' h => by cases h; exact .refl _
  | .kn => leX_tst rfl fun sh Γ t Γ' h => by cases h; exact .refl _
  | .g _ => leX_tst rfl fun sh Γ t Γ' h => by cases h; exact .refl _
  | .op _ a b => leX_tst rfl fun sh Γ t Γ' h => by
    obtain ⟨_, e, h⟩ := Option.map_eq_some_iff.mp h
    cases h
    obtain ⟨ra, rb, e1, e2, _⟩ := two_of e
    exact ((ck_le a).1 _ _ _ _ e1).trans ((ck_le b).1 _ _ _ _ e2)
  | .cmp _ a b => leX_tst rfl fun sh Γ t Γ' h => by
    obtain ⟨_, e, h⟩ := Option.map_eq_some_iff.mp h
    cases h
    obtain ⟨ra, rb, e1, e2, _⟩ := two_of e
    exact ((ck_le a).1 _ _ _ _ e1).trans ((ck_le b).1 _ _ _ _ e2)
  | .chain _ _ a b c => leX_tst rfl fun sh Γ t Γ' h => by
    split at h
    · obtain ⟨r1, e1, h⟩ := Option.bind_eq_some_iff.mp h
      obtain ⟨r2, e2, h⟩ := Option.bind_eq_some_iff.mp h
      obtain ⟨r3, e3, h⟩ := Option.bind_eq_some_iff.mp h
      obtain ⟨_, e4, h⟩ := Option.map_eq_some_iff.mp h
      cases h
      exact ((ck_le a).1 _ _ _ _ e1).trans (((ck_le b).1 _ _ _ _ e2).trans (joTs_le e4).1)
    · cases h
  | .and a b => ⟨fun sh Γ t Γ' h => by
      obtain ⟨r1, e1, h⟩ := Option.bind_eq_some_iff.mp h
      obtain ⟨r2, e2, h⟩ := Option.bind_eq_some_iff.mp h
      obtain ⟨_, e4, h⟩ := Option.map_eq_some_iff.mp h
      cases h
      exact ((ck_le a).1 _ _ _ _ e1).trans (joTs_le e4).1, fun Γ Γ' h => by
      obtain ⟨r1, e1, h⟩ := Option.bind_eq_some_iff.mp h
      obtain ⟨r2, e2, h⟩ := Option.bind_eq_some_iff.mp h
      exact ((ck_le a).2 _ _ e1).trans (joTs_le h).1⟩
  | .or a b => ⟨fun sh Γ t Γ' h => by
      obtain ⟨r1, e1, h⟩ := Option.bind_eq_some_iff.mp h
      obtain ⟨r2, e2, h⟩ := Option.bind_eq_some_iff.mp h
      obtain ⟨_, e4, h⟩ := Option.map_eq_some_iff.mp h
      cases h
      exact ((ck_le a).1 _ _ _ _ e1).trans (joTs_le e4).1, fun Γ Γ' h => by
      obtain ⟨r1, e1, h⟩ := Option.bind_eq_some_iff.mp h
      obtain ⟨r2, e2, h⟩ := Option.bind_eq_some_iff.mp h
      exact ((ck_le a).2 _ _ e1).trans (joTs_le h).1⟩
  | .not a => ⟨fun sh Γ t Γ' h => by
      obtain ⟨r1, e1, h⟩ := Option.map_eq_some_iff.mp h
      cases h
      exact (ck_le a).1 _ _ _ _ e1, fun Γ Γ' h => (ck_le a).2 _ _ h⟩
  | .neg a => leX_tst rfl fun sh Γ t Γ' h => by
    obtain ⟨r1, e1, h⟩ := Option.map_eq_some_iff.mp h
    cases h
    exact (ck_le a).1 _ _ _ _ e1
  | .ife c a b => leX_tst rfl fun sh Γ t Γ' h => by
    obtain ⟨r1, e1, h⟩ := Option.bind_eq_some_iff.mp h
    obtain ⟨r2, e2, h⟩ := Option.bind_eq_some_iff.mp h
    obtain ⟨r3, e3, h⟩ := Option.bind_eq_some_iff.mp h
    obtain ⟨_, e4, h⟩ := Option.map_eq_some_iff.mp h
    cases h
    exact ((ck_le c).2 _ _ e1).trans (((ck_le a).1 _ _ _ _ e2).trans (joTs_le e4).1)
  | .call f es => leX_tst rfl fun sh Γ t Γ' h => by
    obtain ⟨p, e1, h⟩ := Option.bind_eq_some_iff.mp h
    split at h
    · obtain ⟨_, e4, h⟩ := Option.map_eq_some_iff.mp h
      cases h
      exact ckA_le es _ _ _ e4
    · cases h
  | .bi f es => leX_tst rfl fun sh Γ t Γ' h => by
    obtain ⟨_, e4, h⟩ := Option.map_eq_some_iff.mp h
    cases h
    exact ckR_le es _ _ _ e4
  | .isi a _ => leX_tst rfl fun sh Γ t Γ' h => by
    obtain ⟨r1, e1, h⟩ := Option.map_eq_some_iff.mp h
    cases h
    exact (ck_le a).1 _ _ _ _ e1
  | .isiT a _ => leX_tst rfl fun sh Γ t Γ' h => by
    obtain ⟨r1, e1, h⟩ := Option.map_eq_some_iff.mp h
    cases h
    exact (ck_le a).1 _ _ _ _ e1
  | .bm m o es => leX_tst rfl fun sh Γ t Γ' h => by
    split at h
    · split at h
      · split at h
        · split at h
          · obtain ⟨r1, e1, h⟩ := Option.bind_eq_some_iff.mp h
            split at h
            · cases h; exact ckOne_le es _ _ _ e1
            · cases h
          · obtain ⟨r1, e1, h⟩ := Option.bind_eq_some_iff.mp h
            split at h
            · cases h; exact ckL_le es _ _ e1
            · cases h
        · cases h
      · cases h
    · split at h
      · cases h
      · obtain ⟨r1, e1, h⟩ := Option.bind_eq_some_iff.mp h
        have l1 := (ck_le o).1 _ _ _ _ e1
        split at h
        · cases h
        · split at h
          · obtain ⟨_, e2, h⟩ := Option.map_eq_some_iff.mp h
            cases h
            exact l1.trans (ckL_le es _ _ e2)
          · obtain ⟨_, e2, h⟩ := Option.map_eq_some_iff.mp h
            cases h
            exact l1.trans (ckR_le es _ _ _ e2)
  | .ix a b => leX_tst rfl fun sh Γ t Γ' h => by
    obtain ⟨_, e, h⟩ := Option.map_eq_some_iff.mp h
    cases h
    obtain ⟨ra, rb, e1, e2, _⟩ := two_of e
    exact ((ck_le a).1 _ _ _ _ e1).trans ((ck_le b).1 _ _ _ _ e2)
  | .sl a lo hi => leX_tst rfl fun sh Γ t Γ' h => by
    split at h
    · obtain ⟨r1, e1, h⟩ := Option.bind_eq_some_iff.mp h
      obtain ⟨r2, e2, h⟩ := Option.bind_eq_some_iff.mp h
      obtain ⟨_, e4, h⟩ := Option.map_eq_some_iff.mp h
      cases h
      exact ((ck_le a).1 _ _ _ _ e1).trans ((ckO_le lo _ _ e2).trans (ckO_le hi _ _ e4))
    · cases h
  | .lst es => leX_tst rfl fun sh Γ t Γ' h => by
    obtain ⟨_, e4, h⟩ := Option.map_eq_some_iff.mp h
    cases h
    exact ckL_le es _ _ e4
  | .tup es => leX_tst rfl fun sh Γ t Γ' h => by
    obtain ⟨_, e4, h⟩ := Option.map_eq_some_iff.mp h
    cases h
    exact ckL_le es _ _ e4
  | .dict0 => leX_tst rfl fun sh Γ t Γ' h => by cases h; exact .refl _
  | .fld o f => leX_tst rfl fun sh Γ t Γ' h => by
    split at h
    · obtain ⟨r1, e1, h⟩ := Option.bind_eq_some_iff.mp h
      cases h
      exact (ck_le o).1 _ _ _ _ e1
    · cases h
  | .meth m o es => leX_tst rfl fun sh Γ t Γ' h => by
    obtain ⟨p, e1, h⟩ := Option.bind_eq_some_iff.mp h
    split at h
    · split at h
      · obtain ⟨r1, e1, h⟩ := Option.bind_eq_some_iff.mp h
        split at h
        · cases h
        · obtain ⟨_, e4, h⟩ := Option.map_eq_some_iff.mp h
          cases h
          exact ((ck_le o).1 _ _ _ _ e1).trans (ckA_le es _ _ _ e4)
      · cases h
    · cases h
  | .make C es => leX_tst rfl fun sh Γ t Γ' h => by
    obtain ⟨p, e1, h⟩ := Option.bind_eq_some_iff.mp h
    split at h
    · obtain ⟨_, e4, h⟩ := Option.map_eq_some_iff.mp h
      cases h
      exact ckA_le es _ _ _ e4
    · cases h
  | .lc t0 s c e own => leX_tst rfl fun sh Γ t Γ' h => by
    obtain ⟨r, e1, h⟩ := Option.bind_eq_some_iff.mp h
    split at h
    · cases h
    · obtain ⟨_, _, _, _, _, _, _, _, h1, h2, _⟩ := lcTags_of h
      exact (ckSrc_le s _ _ _ e1).trans h2
  | .dict _ => leX_tst rfl fun sh Γ t Γ' h => by cases h
  | .fstr _ => leX_tst rfl fun sh Γ t Γ' h => by cases h
  | .skey _ _ => leX_tst rfl fun sh Γ t Γ' h => by cases h
  | .minlen _ => leX_tst rfl fun sh Γ t Γ' h => by cases h
  | .mindef _ _ => leX_tst rfl fun sh Γ t Γ' h => by cases h
  | .symd _ _ => leX_tst rfl fun sh Γ t Γ' h => by cases h
theorem ckL_le : ∀ (es : Exs) (Γ Γ' : Tags), ckL sg es Γ = some Γ' → leG Γ Γ'
  | .nil, Γ, Γ', h => by unfold ckL at h; cases h; exact .refl _
  | .cons e r, Γ, Γ', h => by
    unfold ckL at h
    obtain ⟨p, e1, h⟩ := Option.bind_eq_some_iff.mp h
    exact ((ck_le e).1 _ _ _ _ e1).trans (ckL_le r _ _ h)
theorem ckOne_le : ∀ (es : Exs) (Γ : Tags) (t : ET) (Γ' : Tags), ckOne sg es Γ = some (t, Γ') → leG Γ Γ'
  | .nil, Γ, t, Γ', h => by unfold ckOne at h; cases h
  | .cons e r, Γ, t, Γ', h => by
    unfold ckOne at h
    split at h
    · exact (ck_le e).1 _ _ _ _ h
    · cases h
theorem ckR_le : ∀ (es : Exs) (Γ : Tags) (n : Nat) (Γ' : Tags), ckR sg es Γ = some (n, Γ') → leG Γ Γ'
  | .nil, Γ, n, Γ', h => by unfold ckR at h; cases h; exact .refl _
  | .cons e r, Γ, n, Γ', h => by
    unfold ckR at h
    obtain ⟨p, e1, h⟩ := Option.bind_eq_some_iff.mp h
    split at h
    · cases h
    · obtain ⟨q, e2, h⟩ := Option.map_eq_some_iff.mp h
      cases h
      exact ((ck_le e).1 _ _ _ _ e1).trans (ckR_le r _ _ _ e2)
theorem ckA_le : ∀ (es : Exs) (ps : List Pm) (Γ Γ' : Tags), ckA sg es ps Γ = some Γ' → leG Γ Γ'
  | .nil, ps, Γ, Γ', h => by
    unfold ckA at h
    split at h
    · cases h; exact .refl _
    · cases h
  | .cons e r, ps, Γ, Γ', h => by
    unfold ckA at h
    split at h
    · obtain ⟨p, e1, h⟩ := Option.bind_eq_some_iff.mp h
      split at h
      · cases h
      · exact ((ck_le e).1 _ _ _ _ e1).trans (ckA_le r _ _ _ h)
    · cases h
theorem ckSrc_le : ∀ (s : Src) (Γ : Tags) (b : Bool) (Γ' : Tags), ckSrc sg s Γ = some (b, Γ') → leG Γ Γ'
  | .seq e, Γ, b, Γ', h => by
    unfold ckSrc at h
    obtain ⟨p, e1, h⟩ := Option.map_eq_some_iff.mp h
    cases h
    exact (ck_le e).1 _ _ _ _ e1
  | .rng e, Γ, b, Γ', h => by
    unfold ckSrc at h
    obtain ⟨p, e1, h⟩ := Option.map_eq_some_iff.mp h
    cases h
    exact (ck_le e).1 _ _ _ _ e1
  | .keys _, Γ, b, Γ', h => by unfold ckSrc at h; cases h
  | .rng2 _ _, Γ, b, Γ', h => by unfold ckSrc at h; cases h
  | .rng3 _ _ _, Γ, b, Γ', h => by unfold ckSrc at h; cases h
  | .rev _, Γ, b, Γ', h => by unfold ckSrc at h; cases h
  | .enum _, Γ, b, Γ', h => by unfold ckSrc at h; cases h
  | .enums _ _, Γ, b, Γ', h => by unfold ckSrc at h; cases h
theorem ckC_le : ∀ (e : OEx) (Γ Γ' : Tags), ckC sg e Γ = some Γ' → leG Γ Γ'
  | .none, Γ, Γ', h => by unfold ckC at h; cases h; exact .refl _
  | .some e, Γ, Γ', h => by
    unfold ckC at h
    exact (ck_le e).2 _ _ h
theorem ckO_le : ∀ (e : OEx) (Γ Γ' : Tags), ckO sg e Γ = some Γ' → leG Γ Γ'
  | .none, Γ, Γ', h => by unfold ckO at h; cases h; exact .refl _
  | .some e, Γ, Γ', h => by
    unfold ckO at h
    obtain ⟨p, e1, h⟩ := Option.map_eq_some_iff.mp h
    cases h
    exact (ck_le e).1 _ _ _ _ e1
end
/-- what all may know is held by no one else -/
theorem biT_nb {f : Bi} {n : Nat} : isBw (biT f n) = false := by
  unfold biT
  split <;> rfl
theorem joE_nb {a b : ET} (h : isBw a = false) (k : isBw b = false) : isBw (joE a b) = false := by
  cases a <;> cases b <;> first | rfl | (cases h; done) | (cases k; done)
theorem ck_nb : ∀ (e : Ex) (Γ : Tags) (t : ET) (Γ' : Tags), (ckX sg e).1 true Γ = some (t, Γ') → isBw t = false
  | .v i, Γ, t, Γ', h => by
    unfold ckX tst at h
    dsimp only at h
    split at h
    · rw [if_pos rfl] at h; cases h; rfl
    · cases h; rfl
    · rw [if_pos rfl] at h; cases h
    · rw [if_pos rfl] at h; cases h
    · cases h
  | .ki _, Γ, t, Γ', h => by cases h; rfl
  | .ks _, Γ, t, Γ', h => by cases h; rfl
  | .kb _, Γ, t, Γ', h => by cases h; rfl
  | .kn, Γ, t, Γ', h => by cases h; rfl
  | .g _, Γ, t, Γ', h => by cases h; rfl
  | .op _ a b, Γ, t, Γ', h => by obtain ⟨_, e, h⟩ := Option.map_eq_some_iff.mp h; cases h; rfl
  | .cmp _ a b, Γ, t, Γ', h => by obtain ⟨_, e, h⟩ := Option.map_eq_some_iff.mp h; cases h; rfl
  | .chain _ _ a b c, Γ, t, Γ', h => by
    unfold ckX tst at h
    dsimp only at h
    split at h
    · obtain ⟨r1, e1, h⟩ := Option.bind_eq_some_iff.mp h
      obtain ⟨r2, e2, h⟩ := Option.bind_eq_some_iff.mp h
      obtain ⟨r3, e3, h⟩ := Option.bind_eq_some_iff.mp h
      obtain ⟨_, e4, h⟩ := Option.map_eq_some_iff.mp h
      cases h; rfl
    · cases h
  | .and a b, Γ, t, Γ', h => by
    obtain ⟨r1, e1, h⟩ := Option.bind_eq_some_iff.mp h
    obtain ⟨r2, e2, h⟩ := Option.bind_eq_some_iff.mp h
    obtain ⟨_, e4, h⟩ := Option.map_eq_some_iff.mp h
    cases h
    exact ck_nb b _ _ _ e2
  | .or a b, Γ, t, Γ', h => by
    obtain ⟨r1, e1, h⟩ := Option.bind_eq_some_iff.mp h
    obtain ⟨r2, e2, h⟩ := Option.bind_eq_some_iff.mp h
    obtain ⟨_, e4, h⟩ := Option.map_eq_some_iff.mp h
    cases h
    exact ck_nb b _ _ _ e2
  | .not a, Γ, t, Γ', h => by obtain ⟨_, e, h⟩ := Option.map_eq_some_iff.mp h; cases h; rfl
  | .neg a, Γ, t, Γ', h => by obtain ⟨_, e, h⟩ := Option.map_eq_some_iff.mp h; cases h; rfl
  | .ife c a b, Γ, t, Γ', h => by
    obtain ⟨r1, e1, h⟩ := Option.bind_eq_some_iff.mp h
    obtain ⟨r2, e2, h⟩ := Option.bind_eq_some_iff.mp h
    obtain ⟨r3, e3, h⟩ := Option.bind_eq_some_iff.mp h
    obtain ⟨_, e4, h⟩ := Option.map_eq_some_iff.mp h
    cases h
    exact joE_nb (ck_nb a _ _ _ e2) (ck_nb b _ _ _ e3)
  | .call f es, Γ, t, Γ', h => by
    obtain ⟨p, e1, h⟩ := Option.bind_eq_some_iff.mp h
    split at h
    · obtain ⟨_, e4, h⟩ := Option.map_eq_some_iff.mp h
      cases h
      split <;> rfl
    · cases h
  | .bi f es, Γ, t, Γ', h => by
    obtain ⟨_, e4, h⟩ := Option.map_eq_some_iff.mp h
    cases h
    exact biT_nb
  | .isi a _, Γ, t, Γ', h => by obtain ⟨_, e, h⟩ := Option.map_eq_some_iff.mp h; cases h; rfl
  | .isiT a _, Γ, t, Γ', h => by obtain ⟨_, e, h⟩ := Option.map_eq_some_iff.mp h; cases h; rfl
  | .bm m o es, Γ, t, Γ', h => by
    unfold ckX tst at h
    dsimp only at h
    split at h
    · split at h
      · split at h
        · split at h
          · obtain ⟨r1, e1, h⟩ := Option.bind_eq_some_iff.mp h
            split at h
            · cases h; rfl
            · cases h
          · obtain ⟨r1, e1, h⟩ := Option.bind_eq_some_iff.mp h
            split at h
            · cases h; split <;> rfl
            · cases h
        · cases h
      · cases h
    · split at h
      · cases h
      · obtain ⟨r1, e1, h⟩ := Option.bind_eq_some_iff.mp h
        split at h
        · cases h
        · split at h
          · obtain ⟨_, e2, h⟩ := Option.map_eq_some_iff.mp h
            cases h; rfl
          · obtain ⟨_, e2, h⟩ := Option.map_eq_some_iff.mp h
            cases h
            unfold bmTag
            split <;> rfl
  | .ix a b, Γ, t, Γ', h => by obtain ⟨_, e, h⟩ := Option.map_eq_some_iff.mp h; cases h; rfl
  | .sl a lo hi, Γ, t, Γ', h => by
    unfold ckX tst at h
    dsimp only at h
    split at h
    · obtain ⟨r1, e1, h⟩ := Option.bind_eq_some_iff.mp h
      obtain ⟨r2, e2, h⟩ := Option.bind_eq_some_iff.mp h
      obtain ⟨_, e4, h⟩ := Option.map_eq_some_iff.mp h
      cases h; rfl
    · cases h
  | .lst es, Γ, t, Γ', h => by obtain ⟨_, e, h⟩ := Option.map_eq_some_iff.mp h; cases h; rfl
  | .tup es, Γ, t, Γ', h => by obtain ⟨_, e, h⟩ := Option.map_eq_some_iff.mp h; cases h; rfl
  | .dict0, Γ, t, Γ', h => by cases h; rfl
  | .fld o f, Γ, t, Γ', h => by
    unfold ckX tst at h
    dsimp only at h
    split at h
    · obtain ⟨r1, e1, h⟩ := Option.bind_eq_some_iff.mp h
      cases h
      have := ck_nb o _ _ _ e1
      split
      · rfl
      · exact this
    · cases h
  | .meth m o es, Γ, t, Γ', h => by
    obtain ⟨p, e1, h⟩ := Option.bind_eq_some_iff.mp h
    split at h
    · split at h
      · obtain ⟨r1, e1, h⟩ := Option.bind_eq_some_iff.mp h
        split at h
        · cases h
        · obtain ⟨_, e4, h⟩ := Option.map_eq_some_iff.mp h
          cases h
          split <;> rfl
      · cases h
    · cases h
  | .make C es, Γ, t, Γ', h => by
    obtain ⟨p, e1, h⟩ := Option.bind_eq_some_iff.mp h
    split at h
    · obtain ⟨_, e4, h⟩ := Option.map_eq_some_iff.mp h
      cases h; rfl
    · cases h
  | .lc t0 s c e own, Γ, t, Γ', h => by
    obtain ⟨r, e1, h⟩ := Option.bind_eq_some_iff.mp h
    split at h
    · cases h
    · obtain ⟨_, _, _, _, _, _, _, _, h1, _⟩ := lcTags_of h
      rw [h1]; rfl
  | .dict _, Γ, t, Γ', h => by cases h
  | .fstr _, Γ, t, Γ', h => by cases h
  | .skey _ _, Γ, t, Γ', h => by cases h
  | .minlen _, Γ, t, Γ', h => by cases h
  | .mindef _ _, Γ, t, Γ', h => by cases h
  | .symd _ _, Γ, t, Γ', h => by cases h
end
end Vc

set_option Elab.async false
set_option linter.all false
set_option maxRecDepth 100000
set_option maxHeartbeats 1000000
namespace Vc
open PySem PySem.Spec PyProof.Rows L2
/-! ### a def's promise, by values -/
def ArgsOk (ca : CA) (S H : Hp) : List Pm → List V → List PV → Prop
  | [], vs, xs => vs = [] ∧ xs = []
  | p :: ps, vs, xs => ∃ v vr x xr, vs = v :: vr ∧ xs = x :: xr ∧ (match p with
      | .sh => Rep ca S v x
      | .bw => See ca S H v x
      | .mu => False) ∧ ArgsOk ca S H ps vr xr
def ResOk (own : Bool) (ca : CA) (S H : Hp) (v : V) (x : PV) (fp : List Addr) : Prop :=
  match own with
  | true => BR ca S H v x fp
  | false => fp = [] ∧ Rep ca S v x
def spP (ca : CA) (ps : List Pm) (own : Bool) (run : List PV → Res) : Sp := fun vs H Q E => ∃ S xs, Sub S H ∧ ArgsOk ca S H ps vs xs ∧
  match run xs with
  | .ok x ms => ms = [] ∧ ∀ v S' H' fp, Sub S' H' → Same S S' → Same H H' → (∀ p, S' p ≠ none → S p ≠ none ∨ H p = none) → ResOk own ca S' H' v x fp → fp.Nodup → (∀ p ∈ fp, H p = none ∧ S' p = none) → Q v H'
  | .ex e ms => ms = [] ∧ ∀ S' H' cls d, Sub S' H' → Same S S' → Same H H' → (∀ p, S' p ≠ none → S p ≠ none ∨ H p = none) → ExRep ca S' H' cls d e → E cls d H'
  | .bad => False
/-- an instance is made: its fields are told -/
def spI (ca : CA) (C : Str) (c : Addr) (run : List PV → Res) : Sp := fun vs H Q E => ∃ x dx vr S xs, vs = .ref x :: vr ∧ H x = some (.ins c dx []) ∧ S x = none ∧ Sub S H ∧ RepL ca S vr xs ∧
  match run xs with
  | .ok (.obj C' fs) ms => C' = C ∧ ∀ us, RepF ca S us fs → Q .non (upd H x (.ins c dx us))
  | _ => False
structure GR (ca : CA) (G : PGm) (Gm : Gam) (sg : Sg) : Prop where
  hca : Gm.ca = ca
  gl : ∀ x z, G.gl x = some z → ∃ u, scalV z = some u ∧ Gm.gl x = some u
  fn : ∀ f P, G.fn f = some P → sg.fn.lookup f = some (P.ps, P.own) ∧ Gm.fn f = some (spP ca P.ps P.own P.run)
  ms : ∀ m, G.ms m = sg.ms.lookup m
  mt : ∀ c C m R, ca.o c = some C → G.mt c m = some R → ∃ p, sg.ms.lookup m = some p ∧ Gm.mt C m = some (spP ca p.1 p.2 R)
  mak : ∀ C R, G.mak C = some R → ∃ ps c, sg.ini.lookup C = some ps ∧ (∀ p ∈ ps, p = .sh) ∧ ca.o C = some c ∧ (∀ xs z ms, R xs = .ok z ms → ∃ fs, z = .obj C fs) ∧ (Gm.mak C = some (c, some (spI ca C c R)) ∨ (Gm.mak C = some (c, none) ∧ R [] = .ok (.obj C []) [] ∧ ps = []))
  fld : ∀ c C f, ca.o c = some C → f ∈ sg.fs → Cls Gm.K C ∧ NoAttr Gm.K C f
  isa : ∀ x c b, isP G x c = some b → ∃ u, Gm.cls c = some u ∧ ∀ v H Q, Rep ca H v x → Q (.bl b) H → isiR Gm.K v u H Q
  isT : ∀ x cs b, isPs G x cs = some b → ∃ us, cs.mapM Gm.cls = some us ∧ ∀ v p H Q, Rep ca H v x → H p = some (.tup us) → Q (.bl b) H → isiTR Gm.K v p us H Q
  exc : ∀ C f, G.exc C = some f → ∃ a, Gm.exc C = some (a, f) ∧ ca.x C = some a
  tr : ∀ C, C ∈ sg.tr → ∃ c, Gm.cls C = some (.ref c) ∧ ∀ e b cls d S H, isP G e C = some b → ExRep ca S H cls d e → PySem.W.exmOne Gm.K cls (.ref c) = some b
section
variable {ca : CA} {F : Fr} {S S' S2 H H' H2 : Hp} {Γ Γ' Γ2 : Tags} {fps fps' fps2 : Nat → List Addr} {σ : L2.St} {env env' : Env} {pu pu' pq : Bool} {Q : VK} {v w : V} {fb : List Addr} {W : Wish} {G : PGm} {Gm : Gam} {sg : Sg}
theorem RepF.up (h : Same S S') {us : List (Str × V)} {fs : List (Str × PV)} (r : RepF ca S us fs) : RepF ca S' us fs := r.mono (.of_same h)
theorem ExRep.up {cls : Value} {d : Option Addr} {e : PV} (h : ExRep ca S H cls d e) (sm : Same S S') (hm : Same H H') : ExRep ca S' H' cls d e := by
  cases e with
  | exc c fs =>
    obtain ⟨C, h1, h2, us, h3, h4⟩ := h
    refine ⟨C, h1, h2, us, ?_, h4.up sm⟩
    cases d with
    | none => exact h3
    | some x => exact ⟨(Sub.of_same sm).rd h3.1, h3.2⟩
  | _ => exact h
/-- what an exception on the way owes, with less known of who holds what -/
theorem ex_tail {e : PV} {cls : Value} {d : Option Addr} (T : ∀ S' H' fps' cls d, FI ca F S' Γ2 fps' σ env H' → Stp pu S H fps S' H' fps' → ExRep ca S' H' cls d e → W cls d H') (le : leG Γ' Γ2) (I : FI ca F S' Γ' fps' σ env H') (st : Stp pu' S H fps S' H' fps') (k : pu = true → pu' = true) (x : ExRep ca S' H' cls d e) : W cls d H' := by
  obtain ⟨S2, f2, I2, st2⟩ := I.weak le
  exact T S2 H' f2 cls d I2 ((st.weak k).trans st2.pure |>.weak (fun h => by rw [h]; rfl)) (x.up st2.gs (Same.refl _))
/-- a value on the way, with less known of who holds what -/
theorem val_weak {t : ET} {x : PV} {fp : List Addr} (le : leG Γ' Γ2) (I : FI ca F S' Γ' fps' σ env H') (st : Stp pu S H fps S' H' fps') (h : EOk ca F S' H' fps' t v x fp) : ∃ S2 f2, FI ca F S2 Γ2 f2 σ env H' ∧ Stp pu S H fps S2 H' f2 ∧ EOk ca F S2 H' f2 t v x fp := by
  obtain ⟨S2, f2, I2, st2⟩ := I.weak le
  exact ⟨S2, f2, I2, ((st.trans st2.pure).weak fun h => by rw [h]; rfl), h.step st2 I2.sub fun _ => rfl⟩
/-- own or known to all becomes known to all -/
theorem FI.give {t : ET} {x : PV} {fp : List Addr} (I : FI ca F S Γ fps σ env H) (h : EOk ca F S H fps t v x fp) (nb : isBw t = false) : ∃ S', FI ca F S' Γ fps σ env H ∧ Same S S' ∧ Rep ca S' v x ∧ ∀ p, S' p ≠ none → S p ≠ none ∨ p ∈ fp := by
  cases t with
  | own =>
    obtain ⟨I', sm⟩ := I.share h.2.2
    refine ⟨_, I', sm, h.1.share sm fun _ z => z, fun p hp => ?_⟩
    by_cases z : p ∈ fp
    · exact .inr z
    · rw [addS_out z] at hp; exact .inl hp
  | sh => exact ⟨S, I, Same.refl S, h.2, fun p hp => .inl hp⟩
  | bw ds => cases nb
theorem Stp.given {S0 H0 : Hp} {f0 : Nat → List Addr} {fp : List Addr} (st : Stp pu S0 H0 f0 S H fps) (sm : Same S S') (h : ∀ p, S' p ≠ none → S p ≠ none ∨ p ∈ fp) (fr : ∀ p ∈ fp, H0 p = none) : Stp pu S0 H0 f0 S' H fps :=
  ⟨st.gs.trans sm, st.keep, st.dom, st.fpo, fun k i p hp => (st.fpk k i p hp).imp_right fun z => same_not sm z, fun p hp => by
    rcases h p hp with z | z
    · exact st.snew p z
    · exact .inr (.inl (fr p z))⟩
def SndV (Gm : Gam) (G : PGm) (sg : Sg) (ca : CA) (e : Ex) : Prop := ∀ (F : Fr) (S : Hp) (Γ : Tags) (fps : Nat → List Addr) (σ : L2.St) (env : Env) (H : Hp) (sh : Bool) (t : ET) (Γ' : Tags) (Q : VK) (W : WX), (ckX sg e).1 sh Γ = some (t, Γ') → FI ca F S Γ fps σ env H →
  Tri ca F (pureE sg e) Γ' t (ev G e env) S H fps σ Q (fun cls d H => W cls d σ H) → (wP Gm e W).1 σ H Q
def SndT (Gm : Gam) (G : PGm) (sg : Sg) (ca : CA) (e : Ex) : Prop := ∀ (F : Fr) (S : Hp) (Γ : Tags) (fps : Nat → List Addr) (σ : L2.St) (env : Env) (H : Hp) (Γ' : Tags) (Q : Bool → Hp → Prop) (W : WX), (ckX sg e).2 Γ = some Γ' → FI ca F S Γ fps σ env H →
  TriT ca F (pureE sg e) Γ' (evT G e env) S H fps σ Q (fun cls d H => W cls d σ H) → (wP Gm e W).2 σ H Q
def Snd2 (Gm : Gam) (G : PGm) (sg : Sg) (ca : CA) (e : Ex) : Prop := SndV Gm G sg ca e ∧ SndT Gm G sg ca e
/-- a plain value as a test -/
theorem snd_tP {e : Ex} (gr : GR ca G Gm sg) {te : WX → TE} {f : Bool → Tags → Option (ET × Tags)} {g : Env → Rs PV} (h : SndV Gm G sg ca e) (ew : ∀ W, wP Gm e W = tP Gm.ca (te W)) (ec : ckX sg e = tst f) (ee : ev2 G e = pv g) : Snd2 Gm G sg ca e := by
  refine ⟨h, fun F S Γ fps σ env H Γ' Q W hc I T => ?_⟩
  rw [ec] at hc
  obtain ⟨t, hc⟩ := tst_2 hc
  have h1 := h F S Γ fps σ env H false t Γ' (fun x H' => truR Gm.ca x H' Q) W (by rw [ec]; exact hc) I
  have e1 : ev G e env = g env := by show (ev2 G e).1 env = _; rw [ee]; rfl
  have e2 : evT G e env = (g env).bind fun x env => opt (truP x) env := by show (ev2 G e).2 env = _; rw [ee]; rfl
  rw [e1] at h1
  rw [e2] at T
  rw [ew] at h1 ⊢
  refine h1 ?_
  cases hr : g env with
  | bad => rw [hr] at T; exact T
  | ex x env1 =>
    rw [hr] at T
    exact T
  | ok x env1 =>
    rw [hr] at T
    intro v S' H' fps' fp I' st ok fr
    have T : TriT ca F (pureE sg e) Γ' (opt (truP x) env1) S H fps σ Q (fun cls d H => W cls d σ H) := T
    cases ht : truP x with
    | none => rw [ht] at T; exact T.elim
    | some b =>
      rw [ht] at T
      rw [gr.hca]
      exact ⟨x, b, ok.deep I'.sub, ht, T S' H' fps' I' st⟩
/-- a comparison as a test: its value is a truth -/
theorem snd_tPt {e : Ex} {te : WX → TE} {f : Bool → Tags → Option (ET × Tags)} {g : Env → Rs PV} (h : SndV Gm G sg ca e) (ew : ∀ W, wP Gm e W = tPt (te W)) (ec : ckX sg e = tst f) (ee : ev2 G e = pv g) (hb : ∀ env x env', g env = .ok x env' → ∃ b, x = .bl b) : Snd2 Gm G sg ca e := by
  refine ⟨h, fun F S Γ fps σ env H Γ' Q W hc I T => ?_⟩
  rw [ec] at hc
  obtain ⟨t, hc⟩ := tst_2 hc
  have h1 := h F S Γ fps σ env H false t Γ' (fun x H' => ∃ k, x = .bl k ∧ Q k H') W (by rw [ec]; exact hc) I
  have e1 : ev G e env = g env := by show (ev2 G e).1 env = _; rw [ee]; rfl
  have e2 : evT G e env = (g env).bind fun x env => opt (truP x) env := by show (ev2 G e).2 env = _; rw [ee]; rfl
  rw [e1] at h1
  rw [e2] at T
  rw [ew] at h1 ⊢
  refine h1 ?_
  cases hr : g env with
  | bad => rw [hr] at T; exact T
  | ex x env1 =>
    rw [hr] at T
    exact T
  | ok x env1 =>
    rw [hr] at T
    intro v S' H' fps' fp I' st ok fr
    obtain ⟨b, rfl⟩ := hb _ _ _ hr
    exact ⟨b, see_bl (ok.see I'.sub), T S' H' fps' I' st⟩
/-- two values, one behind the other -/
theorem snd_two {a b : Ex} (ha : SndV Gm G sg ca a) (hb : SndV Gm G sg ca b) {R : V → V → Hp → VK → Prop} {W : WX} {g : PV → PV → Env → Rs PV} {t : ET} (hc : two ((ckX sg a).1 false) (pureE sg b) ((ckX sg b).1 false) Γ = some Γ') (I : FI ca F S Γ fps σ env H)
    (T : Tri ca F (pureE sg a && pureE sg b) Γ' t ((ev G a env).bind fun x env => (ev G b env).bind fun y env => g x y env) S H fps σ Q (fun cls d H => W cls d σ H))
    (k : ∀ x y v w env S2 H2 fps2, FI ca F S2 Γ' fps2 σ env H2 → See ca S2 H2 v x → See ca S2 H2 w y → Stp (pureE sg a && pureE sg b) S H fps S2 H2 fps2 → Tri ca F (pureE sg a && pureE sg b) Γ' t (g x y env) S H fps σ Q (fun cls d H => W cls d σ H) → R v w H2 Q) :
    tOp R (wP Gm a W).1 (wP Gm b W).1 σ H Q := by
  obtain ⟨ra, rb, e1, e2, pu⟩ := two_of hc
  have lb := (ck_le b).1 _ _ _ _ e2
  refine ha F S Γ fps σ env H false ra.1 ra.2 _ W e1 I ?_
  cases hr : ev G a env with
  | bad => rw [hr] at T; exact T
  | ex x env1 =>
    rw [hr] at T
    exact fun S' H' fps' cls d I' st x => ex_tail T lb I' st (fun z => by rw [Bool.and_eq_true] at z; exact z.1) x
  | ok x env1 =>
    rw [hr] at T
    intro v S1 H1 f1 fp I1 st1 ok1 fr1
    refine hb F S1 ra.2 f1 σ env1 H1 false rb Γ' _ W e2 I1 ?_
    have T : Tri ca F (pureE sg a && pureE sg b) Γ' t ((ev G b env1).bind fun y env => g x y env) S H fps σ Q (fun cls d H => W cls d σ H) := T
    cases hr2 : ev G b env1 with
    | bad => rw [hr2] at T; exact T
    | ex y env2 =>
      rw [hr2] at T
      exact fun S' H' fps' cls d I' st x => T S' H' fps' cls d I' (st1.trans st) x
    | ok y env2 =>
      rw [hr2] at T
      intro w S2 H2 f2 fq I2 st2 ok2 fr2
      have ok1' := ok1.step st2 I2.sub fun ⟨ds, e⟩ => pu (by rw [e]; rfl)
      exact k x y v w env2 S2 H2 f2 I2 (ok1'.see I2.sub) (ok2.see I2.sub) (st1.trans st2) T
/-- an operation's outcome -/
theorem out_of {z : PV} {t : ET} (T : Tri ca F pu Γ t (.ok z env) S H fps σ Q W) (I : FI ca F S2 Γ fps2 σ env H2) (st : Stp pu S H fps S2 H2 fps2) : Out ca F S2 H2 Γ fps2 σ env t z Q := fun v S' H' fp I' st' ok fr =>
  T v S' H' fps2 fp I' ((st.trans st').weak fun h => by rw [h]; rfl) ok fun p hp => none_of st.dom (fr p hp)
theorem out_op {o : Option PV} {t : ET} (T : Tri ca F pu Γ t (opt o env) S H fps σ Q W) (I : FI ca F S2 Γ fps2 σ env H2) (st : Stp pu S H fps S2 H2 fps2) : ∃ z, o = some z ∧ Out ca F S2 H2 Γ fps2 σ env t z Q := by
  cases o with
  | none => exact T.elim
  | some z => exact ⟨z, rfl, out_of T I st⟩
/-- less is told of a value -/
def leE : ET → ET → Prop
  | .own, _ => True
  | .sh, .own => False
  | .sh, _ => True
  | .bw d, .bw e => ∀ i ∈ d, i ∈ e
  | .bw _, _ => False
theorem leE.refl (t : ET) : leE t t := by cases t <;> simp [leE]
theorem joE_le {a b : ET} : leE a (joE a b) ∧ leE b (joE a b) := by
  cases a <;> cases b <;> simp [joE, leE]
  exact ⟨fun i h => .inl h, fun i h => .inr h⟩
theorem EOk.lift {t t2 : ET} {x : PV} {fp : List Addr} (I : FI ca F S Γ fps σ env H) (h : EOk ca F S H fps t2 v x fp) (le : leE t2 t) : ∃ S' fq, FI ca F S' Γ fps σ env H ∧ Same S S' ∧ (∀ p, S' p ≠ none → S p ≠ none ∨ p ∈ fp) ∧ (∀ p ∈ fq, p ∈ fp) ∧ EOk ca F S' H fps t v x fq := by
  have shbw : ∀ {ds : List Nat} {S1 : Hp}, FI ca F S1 Γ fps σ env H → Rep ca S1 v x → EOk ca F S1 H fps (.bw ds) v x [] := fun I1 r => by
    obtain ⟨fb, b1, b2⟩ := r.br I1.sub
    exact ⟨rfl, fb, b1, fun p hp => .inl (b2 p hp)⟩
  cases t2 with
  | own =>
    cases t with
    | own => exact ⟨S, fp, I, Same.refl S, (fun p hp => .inl hp), (fun p hp => hp), h⟩
    | sh =>
      obtain ⟨S', I', sm, r, n⟩ := I.give h rfl
      exact ⟨S', [], I', sm, n, (fun p hp => by cases hp), rfl, r⟩
    | bw ds =>
      obtain ⟨S', I', sm, r, n⟩ := I.give h rfl
      exact ⟨S', [], I', sm, n, (fun p hp => by cases hp), shbw I' r⟩
  | sh =>
    cases t with
    | own => exact le.elim
    | sh => exact ⟨S, fp, I, Same.refl S, (fun p hp => .inl hp), (fun p hp => hp), h⟩
    | bw ds => exact ⟨S, [], I, Same.refl S, (fun p hp => .inl hp), (fun p hp => by cases hp), shbw I h.2⟩
  | bw d =>
    cases t with
    | own => exact le.elim
    | sh => exact le.elim
    | bw e =>
      obtain ⟨h0, fb, h1, h2⟩ := h
      refine ⟨S, fp, I, Same.refl S, (fun p hp => .inl hp), (fun p hp => hp), h0, fb, h1, fun p hp => ?_⟩
      rcases h2 p hp with z | z | ⟨i, hi, z⟩
      · exact .inl z
      · exact .inr (.inl z)
      · exact .inr (.inr ⟨i, le i hi, z⟩)
theorem Tri.sub {t t2 : ET} {r : Rs PV} (T : Tri ca F pu Γ' t r S H fps σ Q W) (le : leG Γ2 Γ') (lt : leE t2 t) (st : Stp pu' S H fps S2 H2 fps2) (k : pu = true → pu' = true ∧ pq = true) : Tri ca F pq Γ2 t2 r S2 H2 fps2 σ Q W := by
  cases r with
  | bad => exact T
  | ex e env1 =>
    exact fun S' H' f' cls d I' st' x => ex_tail T le I' (st.trans st') (fun z => by rw [(k z).1, (k z).2]; rfl) x
  | ok x env1 =>
    intro v S' H' f' fp I' st' ok fr
    obtain ⟨S3, f3, I3, st3, ok3⟩ := val_weak le I' st' ok
    obtain ⟨S4, fq, I4, sm4, n4, q4, ok4⟩ := ok3.lift I3 lt
    have stt := (st.trans st3).weak (pu' := pu) fun z => by rw [(k z).1, (k z).2]; rfl
    exact T v S4 H' f3 fq I4 (stt.given sm4 n4 fun p hp => none_of st.dom (fr p hp)) ok4 fun p hp => none_of st.dom (fr p (q4 p hp))
theorem TriT.sub {r : Rs Bool} {Q : Bool → Hp → Prop} (T : TriT ca F pu Γ' r S H fps σ Q W) (le : leG Γ2 Γ') (st : Stp pu' S H fps S2 H2 fps2) (k : pu = true → pu' = true ∧ pq = true) : TriT ca F pq Γ2 r S2 H2 fps2 σ Q W := by
  cases r with
  | bad => exact T
  | ex e env1 =>
    exact fun S' H' f' cls d I' st' x => ex_tail T le I' (st.trans st') (fun z => by rw [(k z).1, (k z).2]; rfl) x
  | ok x env1 =>
    intro S' H' f' I' st'
    obtain ⟨S3, f3, I3, st3⟩ := I'.weak le
    exact T S3 H' f3 I3 (((st.trans st').trans st3).weak fun z => by rw [(k z).1, (k z).2]; rfl)
/-- several values that all may know; that are seen; arguments -/
def TriL (ca : CA) (F : Fr) (pu : Bool) (Γ : Tags) (r : Rs (List PV)) (S H : Hp) (fps : Nat → List Addr) (σ : L2.St) (Rl : Hp → Hp → List V → List PV → Prop) (Q : List V → Hp → Prop) (W : Wish) : Prop :=
  match r with
  | .ok xs env' => ∀ vs S' H' fps', FI ca F S' Γ fps' σ env' H' → Stp pu S H fps S' H' fps' → Rl S' H' vs xs → Q vs H'
  | .ex e env' => ∀ S' H' fps' cls d, FI ca F S' Γ fps' σ env' H' → Stp pu S H fps S' H' fps' → ExRep ca S' H' cls d e → W cls d H'
  | .bad => False
theorem TriL.ex_sub {Rl : Hp → Hp → List V → List PV → Prop} {Q : List V → Hp → Prop} {e : PV} {env1 : Env} (T : TriL ca F pu Γ' (.ex e env1) S H fps σ Rl Q W) (le : leG Γ2 Γ') (st : Stp pu' S H fps S2 H2 fps2) (k : pu = true → pu' = true ∧ pq = true) : ∀ S' H' fps' cls d, FI ca F S' Γ2 fps' σ env1 H' → Stp pq S2 H2 fps2 S' H' fps' → ExRep ca S' H' cls d e → W cls d H' :=
  fun S' H' f' cls d I' st' x => ex_tail T le I' (st.trans st') (fun z => by rw [(k z).1, (k z).2]; rfl) x
end
end Vc

set_option Elab.async false
set_option linter.all false
set_option maxRecDepth 100000
set_option maxHeartbeats 1000000
namespace Vc
open PySem PySem.Spec PyProof.Rows L2
section
variable {ca : CA} {F : Fr} {S S' S2 H H' H2 : Hp} {Γ Γ' Γ2 : Tags} {fps fps' fps2 : Nat → List Addr} {σ : L2.St} {env env' : Env} {pu pu' pq : Bool} {Q : VK} {v w : V} {fb : List Addr} {W : Wish} {G : PGm} {Gm : Gam} {sg : Sg}
/-- a cell of one's own is written -/
theorem FI.cell (I : FI ca F S Γ fps σ env H) {i : Nat} {p : Addr} {o : HO} {x' : PV} (ht : tg Γ i = .own ∨ tg Γ i = .mu) (hv : σ[i]? = some (some v)) (hf : fps i = [p]) (hl : i < env.length) (hp : H p ≠ none) (hb : BR ca S (upd H p o) v x' [p]) :
    FI ca F S Γ fps σ (env.set i (some x')) (upd H p o) ∧ Stp false S H fps S (upd H p o) fps := by
  have hpi : p ∈ fps i := by rw [hf]; exact List.mem_cons_self
  obtain ⟨hs, hpr⟩ := I.priv i p hpi
  have dm : ∀ q, H q ≠ none → (upd H p o) q ≠ none := fun q hq => by
    by_cases z : q = p
    · subst z; rw [upd_same]; simp
    · rw [upd_ne z]; exact hq
  refine ⟨⟨fun q u e => ?_, I.grow, I.new, fun q u e k => ?_, by rw [List.length_set]; exact I.len, by rw [List.length_set]; exact I.len2, fun j => ?_, I.priv, I.disj, I.nodup, fun q h => dm q (I.dom q h)⟩, ⟨Same.refl S, fun q u e k => ?_, dm, fun _ _ h => .inl h, (fun k => by cases k), fun _ h => .inl h⟩⟩
  · have z : q ≠ p := by rintro rfl; rw [hs] at e; cases e
    rcases I.sub q u e with y | ⟨ob, kvs, rfl, y⟩
    · exact .inl (by rw [upd_ne z]; exact y)
    · exact .inr ⟨ob, kvs, rfl, by rw [upd_ne z]; exact y⟩
  · have z : q ≠ p := by
      rintro rfl
      rcases hpr with y | ⟨_, y⟩
      · rw [y] at e; cases e
      · exact k y
    rw [upd_ne z]
    exact I.frame q u e k
  · by_cases z : j = i
    · subst z
      rw [getS_same hl, hf]
      unfold SlotOk
      refine ⟨v, hv, ?_⟩
      rcases ht with ht | ht <;> (rw [ht]; exact hb)
    · rw [getS_ne z]
      refine (I.slot j).mono (.refl S) (fun _ h => h) (fun q hq u e => ?_) (fun _ q hq => ?_)
      · have : q ≠ p := by rintro rfl; exact I.disj j i q z hq hpi
        rw [upd_ne this]; exact e
      · have : q ≠ p := by
          rintro rfl
          rcases hq with y | ⟨y1, y2⟩
          · exact y hs
          · rcases hpr with k | ⟨_, k⟩
            · exact y1 k
            · exact y2 k
        exact upd_ne this
  · have z : q ≠ p := by
      rintro rfl
      rcases k with k | k
      · cases k
      · exact k i hpi
    rw [upd_ne z]
    exact e
theorem slot_of (I : FI ca F S Γ fps σ env H) {i : Nat} {x : PV} (h : getS env i = some x) : ∃ v, σ[i]? = some (some v) ∧ match tg Γ i with
      | .own => BR ca S H v x (fps i)
      | .mu => BR ca S H v x (fps i)
      | .sh => fps i = [] ∧ Rep ca S v x
      | .bw => fps i = [] ∧ ∃ fb, BR ca S (rg H) v x fb ∧ ∀ p ∈ fb, S p ≠ none ∨ (F.H0 p ≠ none ∧ p ∉ F.M)
      | .bot => False := by
  have hS := I.slot i
  unfold SlotOk at hS
  rw [h] at hS
  exact hS
theorem tg_some {i : Nat} {t : Tag} (h : Γ[i]? = some t) : tg Γ i = t := by unfold tg; rw [h]; rfl
/-- a name -/
theorem snd_v (i : Nat) : SndV Gm G sg ca (.v i) := by
  intro F S Γ fps σ env H sh t Γ' Q W hc I T
  rw [ev_v] at T
  cases hx : getS env i with
  | none => rw [hx] at T; exact T.elim
  | some x =>
    rw [hx] at T
    obtain ⟨v, hv, hS⟩ := slot_of I hx
    show vR i σ H Q
    unfold vR
    rw [hv]
    have hc : (match Γ[i]? with
      | some .own => if sh = true then some (ET.sh, Γ.set i .sh) else some (.bw [i], Γ)
      | some .sh => some (.sh, Γ)
      | some .bw => if sh = true then none else some (.bw [], Γ)
      | some .mu => if sh = true then none else some (.bw [i], Γ)
      | _ => none) = some (t, Γ') := hc
    have bw : tg Γ i = .own ∨ tg Γ i = .mu → EOk ca F S H fps (.bw [i]) v x [] := fun ht => by
      have hb : BR ca S H v x (fps i) := by rcases ht with ht | ht <;> (rw [ht] at hS; exact hS)
      exact ⟨rfl, fps i, hb.rd, fun p hp => .inr (.inr ⟨i, by simp, hp⟩)⟩
    split at hc
    · rename_i e
      split at hc
      · cases hc
        obtain ⟨S', I', st⟩ := I.freeze (tg_some e)
        obtain ⟨v2, hv2, h2⟩ := slot_of I' hx
        have hi : i < Γ.length := by
          by_cases q : i < Γ.length
          · exact q
          · rw [List.getElem?_eq_none (by omega)] at e; cases e
        rw [tg_same hi] at h2
        rw [hv] at hv2
        cases hv2
        exact T v S' H _ [] I' st.pure (sh_ok h2.2) fun _ h => by cases h
      · cases hc
        exact T v S H fps [] I .refl (bw (.inl (tg_some e))) fun _ h => by cases h
    · rename_i e
      cases hc
      rw [tg_some e] at hS
      exact T v S H fps [] I .refl (sh_ok hS.2) fun _ h => by cases h
    · rename_i e
      split at hc
      · cases hc
      · cases hc
        rw [tg_some e] at hS
        obtain ⟨fb, b1, b2⟩ := hS.2
        exact T v S H fps [] I .refl ⟨rfl, fb, b1, fun p hp => (b2 p hp).imp_right .inl⟩ fun _ h => by cases h
    · rename_i e
      split at hc
      · cases hc
      · cases hc
        exact T v S H fps [] I .refl (bw (.inr (tg_some e))) fun _ h => by cases h
    · cases hc
theorem fresh_upd {p : Addr} {o : HO} : (upd H p o) p = some o := upd_same
/-- a written value -/
theorem snd_c {e : Ex} {z : PV} {u : V} (gr : GR ca G Gm sg) (he : ∀ env, ev G e env = .ok z env) (hz : scalV z = some u) (hw : ∀ W, wP Gm e W = tP Gm.ca (tC u)) (hc : ckX sg e = tst fun _ Γ => some (.own, Γ)) : SndV Gm G sg ca e := by
  intro F S Γ fps σ env H sh t Γ' Q W h I T
  rw [hc] at h
  cases h
  rw [he] at T
  rw [hw]
  exact T u S H fps [] I .refl (scal_ok hz) fun _ h => by cases h
theorem leE_own (t : ET) : leE .own t := by cases t <;> exact trivial
theorem Tri.exs {t t2 : ET} {Q2 : VK} {e : PV} {env1 : Env} (T : Tri ca F pu Γ' t (.ex e env1) S H fps σ Q W) (le : leG Γ2 Γ') (st : Stp pu' S H fps S2 H2 fps2) (k : pu = true → pu' = true ∧ pq = true) : Tri ca F pq Γ2 t2 (.ex e env1) S2 H2 fps2 σ Q2 W :=
  fun S' H' f' cls d I' st' x => ex_tail T le I' (st.trans st') (fun z => by rw [(k z).1, (k z).2]; rfl) x
theorem Tri.exT {t : ET} {Q2 : Bool → Hp → Prop} {e : PV} {env1 : Env} (T : Tri ca F pu Γ' t (.ex e env1) S H fps σ Q W) (le : leG Γ2 Γ') (st : Stp pu' S H fps S2 H2 fps2) (k : pu = true → pu' = true ∧ pq = true) : TriT ca F pq Γ2 (.ex e env1) S2 H2 fps2 σ Q2 W :=
  fun S' H' f' cls d I' st' x => ex_tail T le I' (st.trans st') (fun z => by rw [(k z).1, (k z).2]; rfl) x
theorem TriT.exs {Q Q2 : Bool → Hp → Prop} {e : PV} {env1 : Env} (T : TriT ca F pu Γ' (.ex e env1) S H fps σ Q W) (le : leG Γ2 Γ') (st : Stp pu' S H fps S2 H2 fps2) (k : pu = true → pu' = true ∧ pq = true) : TriT ca F pq Γ2 (.ex e env1) S2 H2 fps2 σ Q2 W :=
  fun S' H' f' cls d I' st' x => ex_tail T le I' (st.trans st') (fun z => by rw [(k z).1, (k z).2]; rfl) x
theorem Tri.exL {t : ET} {Rl : Hp → Hp → List V → List PV → Prop} {Q2 : List V → Hp → Prop} {e : PV} {env1 : Env} (T : Tri ca F pu Γ' t (.ex e env1) S H fps σ Q W) (le : leG Γ2 Γ') (st : Stp pu' S H fps S2 H2 fps2) (k : pu = true → pu' = true ∧ pq = true) : TriL ca F pq Γ2 (.ex e env1) S2 H2 fps2 σ Rl Q2 W :=
  fun S' H' f' cls d I' st' x => ex_tail T le I' (st.trans st') (fun z => by rw [(k z).1, (k z).2]; rfl) x
def TriO (ca : CA) (F : Fr) (pu : Bool) (Γ : Tags) (r : Rs (Option Int)) (S H : Hp) (fps : Nat → List Addr) (σ : L2.St) (Q : Option Int → Hp → Prop) (W : Wish) : Prop :=
  match r with
  | .ok b env' => ∀ S' H' fps', FI ca F S' Γ fps' σ env' H' → Stp pu S H fps S' H' fps' → Q b H'
  | .ex e env' => ∀ S' H' fps' cls d, FI ca F S' Γ fps' σ env' H' → Stp pu S H fps S' H' fps' → ExRep ca S' H' cls d e → W cls d H'
  | .bad => False
theorem Tri.exO {t : ET} {Q2 : Option Int → Hp → Prop} {e : PV} {env1 : Env} (T : Tri ca F pu Γ' t (.ex e env1) S H fps σ Q W) (le : leG Γ2 Γ') (st : Stp pu' S H fps S2 H2 fps2) (k : pu = true → pu' = true ∧ pq = true) : TriO ca F pq Γ2 (.ex e env1) S2 H2 fps2 σ Q2 W :=
  fun S' H' f' cls d I' st' x => ex_tail T le I' (st.trans st') (fun z => by rw [(k z).1, (k z).2]; rfl) x
/-- a truth is told at the end -/
theorem Tri.told {t : ET} {z : PV} {u : V} {env1 : Env} (T : Tri ca F pu Γ' t (.ok z env1) S H fps σ Q W) (hz : scalV z = some u) (le : leG Γ2 Γ') (st : Stp pu S H fps S2 H2 fps2) (I : FI ca F S2 Γ2 fps2 σ env1 H2) : Q u H2 := by
  have T2 := T.sub (t2 := .own) (pq := pu) (fps2 := fps2) (S2 := S2) (H2 := H2) le (leE_own t) st fun z => ⟨z, z⟩
  exact T2 u S2 H2 fps2 [] I .refl (scal_ok hz) fun _ h => by cases h
/-- one value more, ahead of others -/
theorem snd_cons {e : Ex} {r : Exs} {sh : Bool} {t : ET} {Γ1 : Tags} {pr : Bool} {Rr Rl : Hp → Hp → List V → List PV → Prop} {Q : List V → Hp → Prop} {W : WX} (ha : SndV Gm G sg ca e) (hc : (ckX sg e).1 sh Γ = some (t, Γ1)) (hp : isBw t = true → pr = true) (le : leG Γ1 Γ') (I : FI ca F S Γ fps σ env H)
    (hr : ∀ env1 S1 H1 f1 (Qr : List V → Hp → Prop), FI ca F S1 Γ1 f1 σ env1 H1 → TriL ca F pr Γ' (evs G r env1) S1 H1 f1 σ Rr Qr (fun cls d H => W cls d σ H) → wPs Gm r W σ H1 Qr)
    (hl : ∀ v x vs xs env2 S2 H2 f2 fp, EOk ca F S2 H2 f2 t v x fp → FI ca F S2 Γ' f2 σ env2 H2 → Rr S2 H2 vs xs → ∃ S3, FI ca F S3 Γ' f2 σ env2 H2 ∧ Same S2 S3 ∧ (∀ p, S3 p ≠ none → S2 p ≠ none ∨ p ∈ fp) ∧ Rl S3 H2 (v :: vs) (x :: xs))
    (T : TriL ca F (pureE sg e && pr) Γ' (evs G (.cons e r) env) S H fps σ Rl Q (fun cls d H => W cls d σ H)) : wPs Gm (.cons e r) W σ H Q := by
  rw [evs_cons] at T
  show (wP Gm e W).1 σ H fun x H1 => wPs Gm r W σ H1 fun xs H2 => Q (x :: xs) H2
  refine ha F S Γ fps σ env H sh t Γ1 _ W hc I ?_
  cases h1 : ev G e env with
  | bad => rw [h1] at T; exact T
  | ex y env1 =>
    rw [h1] at T
    exact T.ex_sub le .refl fun z => by rw [Bool.and_eq_true] at z; exact ⟨rfl, z.1⟩
  | ok x env1 =>
    rw [h1] at T
    intro v S1 H1 f1 fp I1 st1 ok1 fr1
    refine hr env1 S1 H1 f1 _ I1 ?_
    have T : TriL ca F (pureE sg e && pr) Γ' ((evs G r env1).bind fun xs env => .ok (x :: xs) env) S H fps σ Rl Q (fun cls d H => W cls d σ H) := T
    cases h2 : evs G r env1 with
    | bad => rw [h2] at T; exact T
    | ex y env2 =>
      rw [h2] at T
      exact T.ex_sub (.refl _) st1 fun z => by rw [Bool.and_eq_true] at z; exact z
    | ok xs env2 =>
      rw [h2] at T
      intro vs S2 H2 f2 I2 st2 rr
      have ok2 := ok1.step st2 I2.sub fun ⟨ds, e⟩ => hp (by rw [e]; rfl)
      obtain ⟨S3, I3, sm3, n3, rl⟩ := hl v x vs xs env2 S2 H2 f2 fp ok2 I2 rr
      exact T (v :: vs) S3 H2 f2 I3 ((st1.trans st2).given sm3 n3 fr1) rl
theorem see_up (sm : Same S S') (hm : Same H H') {x : PV} (h : See ca S H v x) : See ca S' H' v x := by
  obtain ⟨fb, h⟩ := h
  refine ⟨fb, h.mono (.of_same sm) fun p _ o e => ?_⟩
  have hn : H p ≠ none := fun z => by
    unfold rg at e
    rw [rd_none z] at e
    dsimp only at e
    cases e
  cases q : H p with
  | none => exact (hn q).elim
  | some u =>
    have : rg H' p = rg H p := by unfold rg rd; rw [hm p u q, q]
    rw [this]
    exact e
theorem SeeL.up (sm : Same S S') (hm : Same H H') : ∀ {xs : List PV} {vs : List V}, SeeL ca S H vs xs → SeeL ca S' H' vs xs
  | [], vs, h => by unfold SeeL at h ⊢; exact h
  | x :: xs, vs, h => by
    unfold SeeL at h ⊢
    obtain ⟨v, r, e, h1, h2⟩ := h
    exact ⟨v, r, e, see_up sm hm h1, SeeL.up sm hm h2⟩
theorem ArgsOk.up (sm : Same S S') (hm : Same H H') : ∀ {ps : List Pm} {xs : List PV} {vs : List V}, ArgsOk ca S H ps vs xs → ArgsOk ca S' H' ps vs xs
  | [], xs, vs, h => by unfold ArgsOk at h ⊢; exact h
  | p :: ps, xs, vs, h => by
    unfold ArgsOk at h ⊢
    obtain ⟨v, vr, x, xr, e1, e2, h1, h2⟩ := h
    refine ⟨v, vr, x, xr, e1, e2, ?_, ArgsOk.up sm hm h2⟩
    cases p with
    | sh => exact h1.mono (.of_same sm)
    | bw => exact see_up sm hm h1
    | mu => exact h1
theorem wb_noMu : ∀ {ps : List Pm} {es : Exs} {ms : List PV} {env env' : Env}, noMu ps = true → wb ps es ms env = some env' → env' = env ∧ ms = []
  | [], es, ms, env, env', _, h => by
    unfold wb at h
    split at h
    all_goals first
      | (cases h; exact ⟨rfl, rfl⟩)
      | (simp at *; done)
      | (rename_i e _; cases e)
      | cases h
  | p :: ps, es, ms, env, env', hn, h => by
    simp only [noMu, List.all_cons, Bool.and_eq_true, decide_eq_true_eq] at hn
    cases p with
    | mu => exact (hn.1 rfl).elim
    | sh =>
      cases es with
      | nil => unfold wb at h; cases h
      | cons e r =>
        unfold wb at h
        exact wb_noMu (by simp only [noMu]; exact hn.2) h
    | bw =>
      cases es with
      | nil => unfold wb at h; cases h
      | cons e r =>
        unfold wb at h
        exact wb_noMu (by simp only [noMu]; exact hn.2) h
/-- a call of a def that changes nothing of ours -/
theorem snd_run {ps : List Pm} {own : Bool} {R : List PV → Res} {xs : List PV} {vs : List V} {es : Exs} {W : WX} {t : ET} (hn : noMu ps = true) (I : FI ca F S2 Γ fps2 σ env H2) (st : Stp pu S H fps S2 H2 fps2) (ha : ArgsOk ca S2 H2 ps vs xs) (ht : t = if own = true then .own else .sh)
    (T : Tri ca F pu Γ t (callP (R xs) ps es env) S H fps σ Q (fun cls d H => W cls d σ H)) : spP ca ps own R vs H2 Q (WE W σ) := by
  refine ⟨S2, xs, I.sub, ha, ?_⟩
  cases hr : R xs with
  | bad => rw [hr] at T; exact T
  | ex e ms =>
    rw [hr] at T
    unfold callP at T
    dsimp only at T
    cases hw : wb ps es ms env with
    | none => rw [hw] at T; exact T.elim
    | some env' =>
      rw [hw] at T
      obtain ⟨rfl, rfl⟩ := wb_noMu hn hw
      refine ⟨rfl, fun S' H' cls d sub sm hm nw x => ?_⟩
      obtain ⟨I', st'⟩ := I.more sm hm sub nw
      exact T S' H' fps2 cls d I' ((st.trans st'.pure).weak fun z => by rw [z]; rfl) x
  | ok x ms =>
    rw [hr] at T
    unfold callP at T
    dsimp only at T
    cases hw : wb ps es ms env with
    | none => rw [hw] at T; exact T.elim
    | some env' =>
      rw [hw] at T
      obtain ⟨rfl, rfl⟩ := wb_noMu hn hw
      refine ⟨rfl, fun v S' H' fp sub sm hm nw rs nd fr => ?_⟩
      obtain ⟨I', st'⟩ := I.more sm hm sub nw
      refine T v S' H' fps2 fp I' ((st.trans st'.pure).weak fun z => by rw [z]; rfl) ?_ fun p hp => none_of st.dom (fr p hp).1
      subst ht
      cases own with
      | true =>
        refine ⟨rs, nd, fun p hp => ?_⟩
        obtain ⟨_, k2, k3⟩ := I.fresh (fr p hp).1
        exact ⟨(fr p hp).2, k2, k3⟩
      | false => exact rs
theorem chain_ck {o o' : CmpOp} {a b c : Ex} {sh : Bool} {t : ET} (h : (ckX sg (.chain o o' a b c)).1 sh Γ = some (t, Γ')) : ∃ ra Γ2 rb rc, pureE sg b = true ∧ pureE sg c = true ∧ (ckX sg a).1 false Γ = some ra ∧ (ckX sg b).1 false ra.2 = some (rb, Γ2) ∧ (ckX sg c).1 false Γ2 = some rc ∧ joTs Γ2 rc.2 = some Γ' ∧ t = .own := by
  have h : (if pureE sg b = true ∧ pureE sg c = true then ((ckX sg a).1 false Γ).bind fun r => ((ckX sg b).1 false r.2).bind fun r2 => ((ckX sg c).1 false r2.2).bind fun r3 => (joTs r2.2 r3.2).map fun Γ => (ET.own, Γ) else none) = some (t, Γ') := h
  split at h
  · rename_i hp
    obtain ⟨r1, e1, h⟩ := Option.bind_eq_some_iff.mp h
    obtain ⟨r2, e2, h⟩ := Option.bind_eq_some_iff.mp h
    obtain ⟨r3, e3, h⟩ := Option.bind_eq_some_iff.mp h
    obtain ⟨Γ4, e4, h⟩ := Option.map_eq_some_iff.mp h
    cases h
    exact ⟨r1, r2.2, r2.1, r3, hp.1, hp.2, e1, e2, e3, e4, rfl⟩
  · cases h
theorem chain_bl {o o' : CmpOp} {a b c : Ex} (env : Env) (x : PV) (env' : Env) (h : ev G (.chain o o' a b c) env = .ok x env') : ∃ b, x = .bl b := by
  rw [ev_chain] at h
  cases h1 : ev G a env with
  | bad => rw [h1] at h; cases h
  | ex e env1 => rw [h1] at h; cases h
  | ok y env1 =>
    rw [h1, Rs.bind_ok] at h
    cases h2 : ev G b env1 with
    | bad => rw [h2] at h; cases h
    | ex e env2 => rw [h2] at h; cases h
    | ok z env2 =>
      rw [h2, Rs.bind_ok] at h
      cases h3 : cmpP o y z with
      | none => rw [h3] at h; cases h
      | some k =>
        rw [h3] at h
        have h : (if k = true then (ev G c env2).bind fun u env => opt ((cmpP o' z u).map .bl) env else .ok (.bl false) env2) = .ok x env' := h
        split at h
        · cases h4 : ev G c env2 with
          | bad => rw [h4] at h; cases h
          | ex e env3 => rw [h4] at h; cases h
          | ok u env3 =>
            rw [h4, Rs.bind_ok] at h
            cases h5 : cmpP o' z u with
            | none => rw [h5] at h; cases h
            | some m => rw [h5] at h; cases h; exact ⟨m, rfl⟩
        · cases h; exact ⟨false, rfl⟩
theorem argsOk_rep : ∀ {ps : List Pm} {vs : List V} {xs : List PV}, (∀ p ∈ ps, p = .sh) → ArgsOk ca S H ps vs xs → RepL ca S vs xs
  | [], vs, xs, _, h => by unfold ArgsOk at h; rw [h.1, h.2]; exact .nil
  | p :: ps, vs, xs, k, h => by
    unfold ArgsOk at h
    obtain ⟨v, vr, x, xr, rfl, rfl, h1, h2⟩ := h
    have := k p List.mem_cons_self
    subst this
    exact .cons h1 (argsOk_rep (fun q hq => k q (List.mem_cons_of_mem _ hq)) h2)
theorem BRF.get {f : Str} {g : Addr → Option HO} : ∀ {fs : List (Str × PV)} {us : List (Str × V)} {fp : List Addr} {y : PV}, BRF ca S g us fs fp → fs.lookup f = some y → ∃ w f2, us.lookup f = some w ∧ BR ca S g w y f2 ∧ ∀ p ∈ f2, p ∈ fp
  | [], us, fp, y, h, e => by cases e
  | (l, x) :: fs, us, fp, y, h, e => by
    unfold BRF at h
    obtain ⟨v, r, f1, f2, rfl, rfl, h1, h2⟩ := h
    rw [List.lookup_cons] at e ⊢
    cases q : f == l with
    | true =>
      rw [q] at e
      cases e
      exact ⟨v, f1, rfl, h1, fun p hp => List.mem_append_left _ hp⟩
    | false =>
      rw [q] at e
      obtain ⟨w, f3, a, b, c⟩ := BRF.get h2 e
      exact ⟨w, f3, a, b, fun p hp => List.mem_append_right _ (c p hp)⟩
theorem BRF.noField {f : Str} {g : Addr → Option HO} : ∀ {fs : List (Str × PV)} {us : List (Str × V)} {fp : List Addr}, BRF ca S g us fs fp → fs.lookup f = none → us.lookup f = none
  | [], us, fp, h, e => by unfold BRF at h; rw [h.1]; rfl
  | (l, x) :: fs, us, fp, h, e => by
    unfold BRF at h
    obtain ⟨v, r, f1, f2, rfl, rfl, h1, h2⟩ := h
    rw [List.lookup_cons] at e ⊢
    cases q : f == l with
    | true => rw [q] at e; cases e
    | false => rw [q] at e; exact BRF.noField h2 e
theorem repL1 {vs : List V} {x : PV} (h : RepL ca S vs [x]) : ∃ v, vs = [v] ∧ Rep ca S v x := by
  unfold RepL at h
  obtain ⟨v, r, rfl, h1, h2⟩ := h
  unfold RepL at h2
  subst h2
  exact ⟨v, rfl, h1⟩
theorem bmT_mut {m : Bm} {x : PV} (hx : See ca S H v x) (h : mutK m x = true) : bmT m v H := by
  unfold mutK at h
  split at h
  all_goals first
    | (obtain ⟨p, us, rfl, e1, r1⟩ := see_lst hx; exact ⟨us, e1⟩)
    | (obtain ⟨p, us, rfl, e1, r1⟩ := see_lst hx; exact .inl ⟨us, e1⟩)
    | (obtain ⟨p, us, rfl, e1, r1⟩ := see_dic hx; exact .inr ⟨us, e1⟩)
    | cases h
theorem mut_out {i : Nat} {m : Bm} {x : PV} {xs : List PV} {vs : List V} {r : PV × PV} (I1 : FI ca F S Γ fps σ env H) (hv : σ[i]? = some (some v)) (ht : tg Γ i = .own) (hS1 : BR ca S H v x (fps i)) (hl : i < env.length)
    (hr : if m = .extend then (∃ w y q, vs = [w] ∧ xs = [y] ∧ BR ca S H w y q ∧ ∀ p ∈ q, ∀ j, p ∉ fps j) else RepL ca S vs xs) (hm : mutP m x xs = some r)
    (k : ∀ w H2, FI ca F S Γ fps σ (env.set i (some r.2)) H2 → Stp false S H fps S H2 fps → EOk ca F S H2 fps (if m = .pop then .sh else .own) w r.1 [] → Q w H2) : bmA m v vs H Q := by
  unfold mutP at hm
  split at hm
  · rename_i ys y
    obtain ⟨hlen, rfl⟩ := grd_some hm
    unfold BR at hS1
    obtain ⟨p, us, rfl, ef, ep, er⟩ := hS1
    rw [if_neg (by simp)] at hr
    obtain ⟨w, rfl, hw⟩ := repL1 hr
    unfold bmA
    simp only [ep]
    obtain ⟨I2, st2⟩ := I1.cell (o := .lst (us ++ [w])) (x' := .lst (ys ++ [y])) (.inl ht) hv ef hl (by rw [ep]; simp) (by
      unfold BR
      exact ⟨p, _, rfl, rfl, upd_same, er.append (.one hw)⟩)
    exact ⟨by rw [er.length]; exact hlen, k .non _ I2 st2 (scal_ok (z := .non) rfl)⟩
  · rename_i ys
    obtain ⟨y, hy, rfl⟩ := Option.map_eq_some_iff.mp hm
    unfold BR at hS1
    obtain ⟨p, us, rfl, ef, ep, er⟩ := hS1
    rw [if_neg (by simp)] at hr
    have : vs = [] := by unfold RepL at hr; exact hr
    subst this
    obtain ⟨w, hw, rw'⟩ := er.get hy
    unfold bmA
    simp only [ep]
    obtain ⟨I2, st2⟩ := I1.cell (o := .lst us.dropLast) (x' := .lst ys.dropLast) (.inl ht) hv ef hl (by rw [ep]; simp) (by
      unfold BR
      exact ⟨p, _, rfl, rfl, upd_same, er.dropLast⟩)
    exact ⟨w, by rw [er.length]; exact hw, k w _ I2 st2 (sh_ok rw')⟩
  · rename_i ys zs
    obtain ⟨hlen, rfl⟩ := grd_some hm
    unfold BR at hS1
    obtain ⟨p, us, rfl, ef, ep, er⟩ := hS1
    rw [if_pos rfl] at hr
    obtain ⟨w, y, q, rfl, e2, hb, hd⟩ := hr
    cases e2
    unfold BR at hb
    obtain ⟨p2, us2, rfl, rfl, ep2, er2⟩ := hb
    have ne : p ≠ p2 := fun z => hd p2 List.mem_cons_self i (by rw [ef, z]; exact List.mem_cons_self)
    unfold bmA
    simp only [ep, ep2]
    obtain ⟨I2, st2⟩ := I1.cell (o := .lst (us ++ us2)) (x' := .lst (ys ++ zs)) (.inl ht) hv ef hl (by rw [ep]; simp) (by
      unfold BR
      exact ⟨p, _, rfl, rfl, upd_same, er.append er2⟩)
    exact ⟨ne, by rw [er.length, er2.length]; exact hlen, k .non _ I2 st2 (scal_ok (z := .non) rfl)⟩
  · rename_i ys
    cases hm
    unfold BR at hS1
    obtain ⟨p, us, rfl, ef, ep, er⟩ := hS1
    rw [if_neg (by simp)] at hr
    have : vs = [] := by unfold RepL at hr; exact hr
    subst this
    unfold bmA
    simp only [ep]
    obtain ⟨I2, st2⟩ := I1.cell (o := .lst []) (x' := .lst []) (.inl ht) hv ef hl (by rw [ep]; simp) (by
      unfold BR
      exact ⟨p, _, rfl, rfl, upd_same, .nil⟩)
    exact k .non _ I2 st2 (scal_ok (z := .non) rfl)
  · rename_i ys
    cases hm
    unfold BR at hS1
    obtain ⟨p, us, rfl, ef, ep, er⟩ := hS1
    rw [if_neg (by simp)] at hr
    have : vs = [] := by unfold RepL at hr; exact hr
    subst this
    unfold bmA
    simp only [ep]
    obtain ⟨I2, st2⟩ := I1.cell (o := .dK []) (x' := .dic []) (.inl ht) hv ef hl (by rw [ep]; simp) (by
      unfold BR
      exact ⟨p, _, rfl, rfl, upd_same, .nil⟩)
    exact k .non _ I2 st2 (scal_ok (z := .non) rfl)
  · cases hm
theorem seeL_of (sub : Sub S H) : ∀ {xs : List PV} {vs : List V}, RepL ca S vs xs → SeeL ca S H vs xs
  | [], vs, h => by unfold RepL at h; unfold SeeL; exact h
  | x :: xs, vs, h => by
    unfold RepL at h
    unfold SeeL
    obtain ⟨v, r, e, h1, h2⟩ := h
    obtain ⟨fb, b, _⟩ := h1.br sub
    exact ⟨v, r, e, ⟨fb, b⟩, seeL_of sub h2⟩
/-- names that hold nothing may hold anything -/
theorem FI.forget (I : FI ca F S Γ fps σ env H) {σ2 : L2.St} (hl : σ2.length = σ.length) (h : ∀ j x, getS env j = some x → σ2[j]? = σ[j]?) : FI ca F S Γ fps σ2 env H :=
  ⟨I.sub, I.grow, I.new, I.frame, by rw [hl]; exact I.len, I.len2, fun i => by
    have hS := I.slot i
    unfold SlotOk at hS ⊢
    split
    · rename_i e; rw [e] at hS; exact hS
    · rename_i x e
      rw [e] at hS
      obtain ⟨v, e1, h2⟩ := hS
      exact ⟨v, by rw [h i x e]; exact e1, h2⟩, I.priv, I.disj, I.nodup, I.dom⟩
theorem wipeP_get {j : Nat} : ∀ (vs : List Nat) (env : Env), getS (wipeP env vs) j = if j ∈ vs then none else getS env j
  | [], env => by simp [wipeP]
  | i :: vs, env => by
    unfold wipeP
    rw [wipeP_get vs]
    by_cases h1 : j ∈ vs
    · rw [if_pos h1, if_pos (List.mem_cons_of_mem _ h1)]
    · rw [if_neg h1]
      by_cases h2 : j = i
      · subst h2
        rw [if_pos List.mem_cons_self]
        by_cases hl : j < env.length
        · exact getS_same hl
        · rw [getS_get, List.getElem?_eq_none (by rw [List.length_set]; omega)]; rfl
      · rw [getS_ne h2, if_neg]
        intro z
        rcases List.mem_cons.mp z with z | z
        · exact h2 z
        · exact h1 z
theorem wipeP_len : ∀ (vs : List Nat) (env : Env), (wipeP env vs).length = env.length
  | [], env => rfl
  | i :: vs, env => by unfold wipeP; rw [wipeP_len vs, List.length_set]
/-- names known to all are forgotten -/
theorem FI.wiped (I : FI ca F S Γ fps σ env H) {vs : List Nat} {σ2 : L2.St} (h : ∀ i ∈ vs, tg Γ i = .sh) (hl : σ2.length = σ.length) (hs : ∀ j, j ∉ vs → σ2[j]? = σ[j]?) : FI ca F S Γ fps σ2 (wipeP env vs) H := by
  refine ⟨I.sub, I.grow, I.new, I.frame, by rw [hl, wipeP_len]; exact I.len, by rw [wipeP_len]; exact I.len2, fun i => ?_, I.priv, I.disj, I.nodup, I.dom⟩
  have hS := I.slot i
  rw [wipeP_get]
  by_cases hi : i ∈ vs
  · rw [if_pos hi]
    rw [h i hi] at hS
    unfold SlotOk at hS ⊢
    split at hS
    · exact hS
    · obtain ⟨_, _, h0, _⟩ := hS
      exact h0
  · rw [if_neg hi, hs i hi]
    exact hS
/-- a cell that nobody knows -/
theorem FI.spare (I : FI ca F S Γ fps σ env H) {D : Addr} {o : HO} (hs : S D = none) (h0 : F.H0 D = none) (hf : ∀ j, D ∉ fps j) : FI ca F S Γ fps σ env (upd H D o) := by
  refine ⟨fun q u e => ?_, I.grow, I.new, fun q u e k => ?_, I.len, I.len2, fun i => (I.slot i).mono (.refl S) (fun _ h => h) (fun q hq u e => ?_) (fun _ q hq => ?_), I.priv, I.disj, I.nodup, fun q h => ?_⟩
  · have z : q ≠ D := by rintro rfl; rw [hs] at e; cases e
    rcases I.sub q u e with y | ⟨ob, kvs, rfl, y⟩
    · exact .inl (by rw [upd_ne z]; exact y)
    · exact .inr ⟨ob, kvs, rfl, by rw [upd_ne z]; exact y⟩
  · have z : q ≠ D := by rintro rfl; rw [h0] at e; cases e
    rw [upd_ne z]; exact I.frame q u e k
  · have z : q ≠ D := by rintro rfl; exact hf i hq
    rw [upd_ne z]; exact e
  · refine upd_ne ?_
    rintro rfl
    rcases hq with y | ⟨y, _⟩
    · exact y hs
    · exact y h0
  · by_cases z : q = D
    · subst z; rw [upd_same]; simp
    · rw [upd_ne z]; exact I.dom q h
theorem Stp.spare {S0 H0 : Hp} {f0 : Nat → List Addr} {D : Addr} {o : HO} (st : Stp pu S0 H0 f0 S H fps) (hD : H0 D = none) : Stp pu S0 H0 f0 S (upd H D o) fps :=
  ⟨st.gs, fun p u e k => by
    have z : p ≠ D := by rintro rfl; rw [hD] at e; cases e
    rw [upd_ne z]; exact st.keep p u e k, fun p h => by
    by_cases z : p = D
    · subst z; rw [upd_same]; simp
    · rw [upd_ne z]; exact st.dom p h, st.fpo, st.fpk, st.snew⟩
theorem set_sh {i : Nat} (h : tg Γ i = .sh) : Γ.set i .sh = Γ := by rw [← h]; exact set_tg
theorem wipe_set {vs : List Nat} {i : Nat} {x : Option V} (hi : i ∈ vs) (σ : L2.St) : wipe (σ.set i x) vs = wipe σ vs := by
  apply List.ext_getElem?
  intro j
  by_cases hj : j ∈ vs
  · have key : ∀ (τ : L2.St), (wipe τ vs)[j]? = if j < τ.length then some none else none := fun τ => by
      split
      · rename_i hl
        have l2 : j < (wipe τ vs).length := by rw [wipe_length]; exact hl
        rw [List.getElem?_eq_getElem l2]
        cases q : (wipe τ vs)[j] with
        | none => rfl
        | some y =>
          have := (wipe_some (σ := τ) (i := j) (x := y) (vs := vs) (by rw [List.getElem?_eq_getElem l2, q])).2
          exact (this hj).elim
      · rw [List.getElem?_eq_none (by rw [wipe_length]; omega)]
    rw [key, key, List.length_set]
  · rw [wipe_out hj, wipe_out hj]
    have : i ≠ j := by rintro rfl; exact hj hi
    rw [List.getElem?_set_ne this]
theorem wipe_wipe {vs : List Nat} (σ : L2.St) : wipe (wipe σ vs) vs = wipe σ vs := by
  apply List.ext_getElem?
  intro j
  by_cases hj : j ∈ vs
  · have key : ∀ (τ : L2.St), (wipe τ vs)[j]? = if j < τ.length then some none else none := fun τ => by
      split
      · rename_i hl
        have l2 : j < (wipe τ vs).length := by rw [wipe_length]; exact hl
        rw [List.getElem?_eq_getElem l2]
        cases q : (wipe τ vs)[j] with
        | none => rfl
        | some y =>
          have := (wipe_some (σ := τ) (i := j) (x := y) (vs := vs) (by rw [List.getElem?_eq_getElem l2, q])).2
          exact (this hj).elim
      · rw [List.getElem?_eq_none (by rw [wipe_length]; omega)]
    rw [key, key, wipe_length]
  · rw [wipe_out hj]
/-- a target's names are given a value that all may know -/
theorem tg_out {K : PySem.W.Frag} {t : Tg} {x : PV} {env1 : Env} {P : L2.St → Hp → Prop} (I : FI ca F S Γ fps σ env H) (hx : Rep ca S v x) (ht : ∀ i ∈ tgSlots t, tg Γ i ≠ .mu ∧ i < Γ.length) (e : tgP t x env = some env1)
    (k : ∀ σ2 Γ2 f2, FI ca F S Γ2 f2 σ2 env1 H → (∀ j, tg Γ2 j = if j ∈ tgSlots t then .sh else tg Γ j) → Γ2.length = Γ.length → (∀ j p, p ∈ f2 j → p ∈ fps j) → (∀ j p, j ∉ tgSlots t → p ∈ fps j → p ∈ f2 j) → (∀ vs, (∀ i ∈ tgSlots t, i ∈ vs) → wipe σ2 vs = wipe σ vs) → σ2.length = σ.length → P σ2 H) : wTg K t v σ H P := by
  cases t with
  | nm i =>
    cases e
    obtain ⟨h1, h2⟩ := ht i (by simp [tgSlots])
    have I2 := I.put (t := .sh) h2 h1 (sh_ok hx) (fun ds => nofun)
    rw [if_neg (by simp)] at I2
    refine k _ _ _ I2 (fun j => ?_) (by simp) (fun j p hp => ?_) (fun j p hj hp => by rw [fset_ne (by simpa [tgSlots] using hj)]; exact hp) (fun vs hv => wipe_set (hv i (by simp [tgSlots])) σ) (by simp)
    · by_cases z : j = i
      · subst z; rw [tg_same h2, if_pos (by simp [tgSlots])]
      · rw [tg_ne z, if_neg (by simp [tgSlots]; exact z)]
    · by_cases z : j = i
      · subst z; rw [fset_same] at hp; cases hp
      · rw [fset_ne z] at hp; exact hp
  | tp is =>
    have main : ∀ (is : List Nat) (xs : List PV) (vs : List V) (σ1 : L2.St) (Γ1 : Tags) (f1 : Nat → List Addr) (env0 : Env), FI ca F S Γ1 f1 σ1 env0 H → RepL ca S vs xs → xs.length = is.length → (∀ i ∈ is, tg Γ1 i ≠ .mu ∧ i < Γ1.length) →
        ∃ Γ2 f2, FI ca F S Γ2 f2 (setAll σ1 is vs) (setAllP env0 is xs) H ∧ (∀ j, tg Γ2 j = if j ∈ is then .sh else tg Γ1 j) ∧ Γ2.length = Γ1.length ∧ (∀ j p, p ∈ f2 j → p ∈ f1 j) ∧ (∀ j p, j ∉ is → p ∈ f1 j → p ∈ f2 j) ∧ (∀ ws, (∀ i ∈ is, i ∈ ws) → wipe (setAll σ1 is vs) ws = wipe σ1 ws) ∧ (setAll σ1 is vs).length = σ1.length := by
      intro is
      induction is with
      | nil =>
        intro xs vs σ1 Γ1 f1 env0 I r hl hh
        refine ⟨Γ1, f1, ?_, fun j => by simp, rfl, fun j p hp => hp, fun j p _ hp => hp, fun ws _ => by unfold setAll; rfl, by unfold setAll; rfl⟩
        unfold setAll setAllP
        exact I
      | cons i is ih =>
        intro xs vs σ1 Γ1 f1 env0 I r hl hh
        cases xs with
        | nil => simp at hl
        | cons x xs =>
          unfold RepL at r
          obtain ⟨v, vr, rfl, r1, r2⟩ := r
          obtain ⟨h1, h2⟩ := hh i List.mem_cons_self
          have I2 := I.put (t := .sh) h2 h1 (sh_ok r1) (fun ds => nofun)
          rw [if_neg (by simp)] at I2
          obtain ⟨Γ2, f2, I3, a1, a2, a3, a6, a4, a5⟩ := ih xs vr _ _ _ _ I2 r2 (by simpa using hl) (fun j hj => by
            obtain ⟨b1, b2⟩ := hh j (List.mem_cons_of_mem _ hj)
            refine ⟨?_, by simpa using b2⟩
            by_cases z : j = i
            · subst z; rw [tg_same h2]; simp
            · rw [tg_ne z]; exact b1)
          refine ⟨Γ2, f2, I3, fun j => ?_, by rw [a2]; simp, fun j p hp => ?_, fun j p hj hp => a6 j p (fun z => hj (List.mem_cons_of_mem _ z)) (by rw [fset_ne (fun z => hj (by rw [z]; exact List.mem_cons_self))]; exact hp), fun ws hw => ?_, ?_⟩
          · rw [a1 j]
            by_cases z : j ∈ is
            · rw [if_pos z, if_pos (List.mem_cons_of_mem _ z)]
            · rw [if_neg z]
              by_cases y : j = i
              · subst y; rw [tg_same h2, if_pos List.mem_cons_self]
              · rw [tg_ne y, if_neg (by simp [y, z])]
          · have := a3 j p hp
            by_cases z : j = i
            · subst z; rw [fset_same] at this; cases this
            · rw [fset_ne z] at this; exact this
          · show wipe (setAll (σ1.set i (some v)) is vr) ws = _
            rw [a4 ws fun j hj => hw j (List.mem_cons_of_mem _ hj)]
            exact wipe_set (hw i List.mem_cons_self) σ1
          · show (setAll (σ1.set i (some v)) is vr).length = _
            rw [a5]; simp
    have fin : ∀ {xs : List PV} {vs : List V} {p : Addr} {u : HO}, RepL ca S vs xs → rd H p = some u → hoSeq u = some vs → xs.length = is.length → setAllP env is xs = env1 → wTg K (.tp is) (.ref p) σ H P := fun {xs vs p u} r hu hs hl he => by
      obtain ⟨Γ2, f2, I3, a1, a2, a3, a6, a4, a5⟩ := main is xs vs σ Γ fps env I r hl ht
      unfold wTg
      simp only [hu, hs]
      rw [he] at I3
      exact ⟨by rw [r.length]; exact hl, k _ _ _ I3 a1 a2 a3 a6 a4 a5⟩
    cases x with
    | lst xs =>
      obtain ⟨hl, he⟩ := grd_some e
      unfold Rep at hx
      obtain ⟨p, us, rfl, q, r⟩ := hx
      exact fin r (I.sub.rd q) rfl hl he
    | tup xs =>
      obtain ⟨hl, he⟩ := grd_some e
      unfold Rep at hx
      obtain ⟨p, us, rfl, q, r⟩ := hx
      exact fin r (I.sub.rd q) rfl hl he
    | _ => cases e
/-- what a walked thing leans on -/
def Sty (pu : Bool) (S H : Hp) (fps : Nat → List Addr) (S' H' : Hp) : Prop := Same S S' ∧ ∀ p o, H p = some o → (pu = true ∨ ∀ i, p ∉ fps i) → H' p = some o
theorem Stp.sty (h : Stp pu S H fps S' H' fps') : Sty pu S H fps S' H' := ⟨h.gs, h.keep⟩
def TriS (ca : CA) (F : Fr) (pu : Bool) (Γ : Tags) (bw : Bool) (r : Rs (List PV)) (S H : Hp) (fps : Nat → List Addr) (σ : L2.St) (R : List V → (Hp → Prop) → Hp → Prop) (W : Wish) : Prop :=
  match r with
  | .ok xs env' => ∀ items okp S' H' fps', FI ca F S' Γ fps' σ env' H' → Stp pu S H fps S' H' fps' → RepL ca S' items xs → okp H' → (∀ pu2 S2 H2, Sty pu2 S' H' fps' S2 H2 → Sub S2 H2 → (bw = true → pu2 = true) → okp H2) → R items okp H'
  | .ex e env' => ∀ S' H' fps' cls d, FI ca F S' Γ fps' σ env' H' → Stp pu S H fps S' H' fps' → ExRep ca S' H' cls d e → W cls d H'
  | .bad => False
theorem Tri.exS {t : ET} {bw : Bool} {R : List V → (Hp → Prop) → Hp → Prop} {e : PV} {env1 : Env} (T : Tri ca F pu Γ' t (.ex e env1) S H fps σ Q W) (le : leG Γ2 Γ') (st : Stp pu' S H fps S2 H2 fps2) (k : pu = true → pu' = true ∧ pq = true) : TriS ca F pq Γ2 bw (.ex e env1) S2 H2 fps2 σ R W :=
  fun S' H' f' cls d I' st' x => ex_tail T le I' (st.trans st') (fun z => by rw [(k z).1, (k z).2]; rfl) x
theorem TriS.exE {bw : Bool} {R : List V → (Hp → Prop) → Hp → Prop} {t : ET} {e : PV} {env1 : Env} {Q2 : VK} (T : TriS ca F pu Γ' bw (.ex e env1) S H fps σ R W) (le : leG Γ2 Γ') (st : Stp pu' S H fps S2 H2 fps2) (k : pu = true → pu' = true ∧ pq = true) : Tri ca F pq Γ2 t (.ex e env1) S2 H2 fps2 σ Q2 W :=
  fun S' H' f' cls d I' st' x => ex_tail T le I' (st.trans st') (fun z => by rw [(k z).1, (k z).2]; rfl) x
theorem repL_signs : ∀ (l : List Nat), RepL ca S (l.map fun c => V.str ⟨#[c]⟩) (l.map fun c => PV.str ⟨#[c]⟩)
  | [] => .nil
  | c :: r => .cons (by unfold Rep; rfl) (repL_signs r)
theorem repL_ints : ∀ (l : List Nat), RepL ca S (l.map fun k => V.int (k : Nat)) (l.map fun (k : Nat) => PV.int k)
  | [] => .nil
  | c :: r => .cons (by unfold Rep; rfl) (repL_ints r)
/-- a list that is walked stays -/
theorem list_stays {t : ET} {x : PV} {fp : List Addr} {a : Addr} {vs : List V} (ok : EOk ca F S H fps t (.ref a) x fp) (hx : (∃ xs, x = .lst xs ∧ rd H a = some (.lst vs)) ∨ (∃ xs, x = .tup xs ∧ rd S a = some (.tup vs))) (I : FI ca F S Γ fps σ env H) :
    ∀ pu2 S2 H2, Sty pu2 S H fps S2 H2 → Sub S2 H2 → (isBw t = true → pu2 = true) → ∀ u, (rd H a = some u) → (u = .lst vs ∨ u = .tup vs) → rd H2 a = some u := fun pu2 S2 H2 st sub hb u hu hk => by
  have viaS : rd S a = some u → rd H2 a = some u := fun h => by
    have h2 : rd S2 a = some u := (Sub.of_same st.1).rd h
    exact sub.rd h2
  have viaH : (∀ o, H a = some o → H2 a = some o) → rd H2 a = some u := fun h => by
    cases q : H a with
    | none => rw [rd_none q] at hu; cases hu
    | some o =>
      have : rd H2 a = rd H a := rd_congr (by rw [h o q, q])
      rw [this]; exact hu
  rcases hx with ⟨xs, rfl, hx⟩ | ⟨xs, rfl, hx⟩
  · rw [hx] at hu
    cases hu
    cases t with
    | own =>
      have hb := ok.1
      unfold BR at hb
      obtain ⟨p, us, e, ef, ep, er⟩ := hb
      cases e
      exact viaH fun o e => st.2 a o e (.inr (ok.2.2 a (by rw [ef]; exact List.mem_cons_self)).2.2)
    | sh =>
      have hr := ok.2
      unfold Rep at hr
      obtain ⟨p, us, e, q, r⟩ := hr
      cases e
      have := I.sub.rd q
      rw [hx] at this
      cases this
      exact viaS q
    | bw ds =>
      have := hb rfl
      subst this
      exact viaH fun o e => st.2 a o e (.inl rfl)
  · have := I.sub.rd hx
    rw [hu] at this
    cases this
    exact viaS hx
/-- a list comprehension's turns -/
theorem lc_run {items : List V} {xs : List PV} {okp : Hp → Prop} {g : TG} {tt : TT} {te : TE} {vs : List Nat} {turn : PV → Env → Rs (Option PV)} {pb : Bool} {env0 : Env} (I : FI ca F S2 Γ' fps2 σ env0 H2) (st : Stp pu S H fps S2 H2 fps2) (hi : RepL ca S2 items xs) (h0 : okp H2)
    (stay : ∀ S3 H3 f3, Stp pb S2 H2 fps2 S3 H3 f3 → Sub S3 H3 → okp H3) (hpb : pu = true → pb = true) (hw : ∀ i ∈ vs, getS env0 i = none)
    (step : ∀ x v env1 S3 H3 f3, FI ca F S3 Γ' f3 σ env1 H3 → (∀ i ∈ vs, getS env1 i = none) → Rep ca S3 v x → ∀ (K : Option V → Hp → Prop),
      (match turn x env1 with
        | .ok (some y) env2 => ∀ w S4 H4 f4, FI ca F S4 Γ' f4 σ env2 H4 → (∀ i ∈ vs, getS env2 i = none) → Stp pb S3 H3 f3 S4 H4 f4 → Rep ca S4 w y → K (some w) H4
        | .ok none env2 => ∀ S4 H4 f4, FI ca F S4 Γ' f4 σ env2 H4 → (∀ i ∈ vs, getS env2 i = none) → Stp pb S3 H3 f3 S4 H4 f4 → K none H4
        | _ => False) → g v (wipe σ vs) H3 fun σ2 H4 => wipe σ2 vs = wipe σ vs ∧ tt σ2 H4 fun b H5 => if b = true then te σ2 H5 fun w H6 => K (some w) H6 else K none H5)
    (T : Tri ca F pu Γ' .own (lcP turn xs [] env0) S H fps σ Q W) : lcQ items okp g tt te vs σ H2 Q := by
  intro J kn D hD
  obtain ⟨d1, d2, d3⟩ := I.fresh hD
  refine ⟨fun i m H1 => m + i = items.length ∧ ∃ S1 f1 env1 accV acc, FI ca F S1 Γ' f1 σ env1 H1 ∧ (∀ i ∈ vs, getS env1 i = none) ∧ Stp pb S2 H2 fps2 S1 H1 f1 ∧ H1 D = some (.lst accV) ∧ RepL ca S1 accV acc ∧ S1 D = none ∧ (∀ j, D ∉ f1 j) ∧ Tri ca F pu Γ' .own (lcP turn (xs.drop i) acc env1) S H fps σ Q W,
    ⟨items.length, rfl, S2, fps2, env0, [], [], I.spare d1 d2 d3, hw, Stp.refl.spare hD, upd_same, .nil, d1, d3, T⟩, ?_⟩
  rintro i m H1 ⟨hm, S1, f1, env1, accV, acc, I1, hw1, st1, hDv, hacc, hS, hf, T1⟩
  have hok := stay _ _ _ st1 I1.sub
  have hpu : pu = true → (pb && pb) = true := fun z => by rw [hpb z]; rfl
  by_cases hlt : i < items.length
  · refine .inr ⟨kn.go i H1 hok hlt, fun H' => ∃ m', m' < m ∧ (m' + (i + 1) = items.length ∧ ∃ S1 f1 env1 accV acc, FI ca F S1 Γ' f1 σ env1 H' ∧ (∀ i ∈ vs, getS env1 i = none) ∧ Stp pb S2 H2 fps2 S1 H' f1 ∧ H' D = some (.lst accV) ∧ RepL ca S1 accV acc ∧ S1 D = none ∧ (∀ j, D ∉ f1 j) ∧ Tri ca F pu Γ' .own (lcP turn (xs.drop (i + 1)) acc env1) S H fps σ Q W), fun _ h => h, fun v H' hy => ?_⟩
    obtain ⟨rfl, hv⟩ := kn.yld i H1 v H' hok hlt hy
    have hlx : i < xs.length := by rw [← hi.length]; exact hlt
    obtain ⟨x, hx, rx⟩ := hi.get' hv
    have ed : xs.drop i = x :: xs.drop (i + 1) := by
      rw [List.drop_eq_getElem_cons hlx]
      rw [List.getElem?_eq_getElem hlx] at hx
      cases hx
      rfl
    rw [ed] at T1
    unfold lcP at T1
    have kD : ∀ {S4 H4 f4}, Stp pb S1 H' f1 S4 H4 f4 → H4 D = some (.lst accV) ∧ S4 D = none ∧ ∀ j, D ∉ f4 j := fun {S4 H4 f4} st4 => by
      refine ⟨st4.keep D _ hDv (.inr hf), ?_, fun j hj => ?_⟩
      · cases q : S4 D with
        | none => rfl
        | some u =>
          rcases st4.snew D (not_none q) with z | z | ⟨j, z⟩
          · exact (z hS).elim
          · rw [z] at hDv; cases hDv
          · exact (hf j z).elim
      · rcases st4.fpo j D hj with z | z
        · exact hf j z
        · rw [z] at hDv; cases hDv
    refine step x v env1 S1 H' f1 I1 hw1 (rx.mono (.of_same st1.gs)) (fun o H4 => match o with
      | some w => ∃ acc, H4 D = some (.lst acc) ∧ acc.length < sizeLine ∧ ∃ m', m' < m ∧ (m' + (i + 1) = items.length ∧ ∃ S1 f1 env1 accV acc2, FI ca F S1 Γ' f1 σ env1 (upd H4 D (.lst (acc ++ [w]))) ∧ (∀ i ∈ vs, getS env1 i = none) ∧ Stp pb S2 H2 fps2 S1 (upd H4 D (.lst (acc ++ [w]))) f1 ∧ (upd H4 D (.lst (acc ++ [w]))) D = some (.lst accV) ∧ RepL ca S1 accV acc2 ∧ S1 D = none ∧ (∀ j, D ∉ f1 j) ∧ Tri ca F pu Γ' .own (lcP turn (xs.drop (i + 1)) acc2 env1) S H fps σ Q W)
      | none => ∃ m', m' < m ∧ (m' + (i + 1) = items.length ∧ ∃ S1 f1 env1 accV acc, FI ca F S1 Γ' f1 σ env1 H4 ∧ (∀ i ∈ vs, getS env1 i = none) ∧ Stp pb S2 H2 fps2 S1 H4 f1 ∧ H4 D = some (.lst accV) ∧ RepL ca S1 accV acc ∧ S1 D = none ∧ (∀ j, D ∉ f1 j) ∧ Tri ca F pu Γ' .own (lcP turn (xs.drop (i + 1)) acc env1) S H fps σ Q W)) ?_
    cases hT : turn x env1 with
    | bad => rw [hT] at T1; exact T1
    | ex e env2 => rw [hT] at T1; exact T1
    | ok o env2 =>
      rw [hT] at T1
      cases o with
      | none =>
        dsimp only at T1
        intro S4 H4 f4 I4 hw4 st4
        obtain ⟨k1, k2, k3⟩ := kD st4
        exact ⟨m - 1, by omega, by omega, S4, f4, env2, accV, acc, I4, hw4, (st1.trans st4).weak fun z => by rw [z]; rfl, k1, hacc.mono (.of_same st4.gs), k2, k3, T1⟩
      | some y =>
        dsimp only at T1
        by_cases hsz : acc.length < sizeLine
        case neg => rw [if_neg hsz] at T1; exact T1.elim
        rw [if_pos hsz] at T1
        intro w S4 H4 f4 I4 hw4 st4 ry
        obtain ⟨k1, k2, k3⟩ := kD st4
        have hl : accV.length < sizeLine := by rw [hacc.length]; exact hsz
        refine ⟨accV, k1, hl, m - 1, by omega, by omega, S4, f4, env2, accV ++ [w], acc ++ [y], I4.spare k2 d2 k3, hw4, ((st1.trans st4).weak fun z => by rw [z]; rfl).spare hD, upd_same, (hacc.mono (.of_same st4.gs)).append (.one ry), k2, k3, T1⟩
  · refine .inl ⟨kn.stop i H1 hok (by omega), ?_⟩
    have : xs.drop i = [] := List.drop_eq_nil_of_le (by rw [← hi.length]; omega)
    rw [this] at T1
    unfold lcP at T1
    refine T1 (.ref D) S1 H1 f1 [D] I1 ((st.trans st1).weak fun z => by rw [z, hpb z]; rfl) ⟨?_, by simp, fun q hq => ?_⟩ fun q hq => ?_
    · unfold BR
      exact ⟨D, accV, rfl, rfl, hDv, hacc⟩
    · rw [List.mem_singleton.mp hq]; exact ⟨hS, d2, hf⟩
    · rw [List.mem_singleton.mp hq]; exact none_of st.dom hD
theorem snd_none {e : Ex} (h : ckX sg e = tst fun _ _ => none) : SndV Gm G sg ca e := by
  intro F S Γ fps σ env H sh t Γ' Q W hc I T
  rw [h] at hc
  cases hc
mutual
theorem snd (gr : GR ca G Gm sg) : ∀ e : Ex, Snd2 Gm G sg ca e
  | .v i => snd_tP gr (snd_v i) (fun _ => rfl) rfl rfl
  | .ki n => snd_tP gr (snd_c (z := .int n) gr (fun _ => rfl) rfl (fun _ => rfl) rfl) (fun _ => rfl) rfl rfl
  | .ks n => snd_tP gr (snd_c (z := .str n) gr (fun _ => rfl) rfl (fun _ => rfl) rfl) (fun _ => rfl) rfl rfl
  | .kb n => snd_tP gr (snd_c (z := .bl n) gr (fun _ => rfl) rfl (fun _ => rfl) rfl) (fun _ => rfl) rfl rfl
  | .kn => snd_tP gr (snd_c (z := .non) gr (fun _ => rfl) rfl (fun _ => rfl) rfl) (fun _ => rfl) rfl rfl
  | .g x => snd_tP gr (by
    intro F S Γ fps σ env H sh t Γ' Q W h I T
    cases h
    rw [ev_g] at T
    cases hg : G.gl x with
    | none => rw [hg] at T; exact T.elim
    | some z =>
      rw [hg] at T
      obtain ⟨u, e1, e2⟩ := gr.gl x z hg
      exact ⟨u, e2, T u S H fps [] I .refl (scal_ok e1) fun _ h => by cases h⟩) (fun _ => rfl) rfl rfl
  | .op o a b => snd_tP gr (by
    intro F S Γ fps σ env H sh t Γ' Q W h I T
    obtain ⟨_, hc, h⟩ := Option.map_eq_some_iff.mp h
    cases h
    exact snd_two (snd gr a).1 (snd gr b).1 hc I T fun x y v w env1 S2 H2 f2 I2 s1 s2 st T => by
      obtain ⟨z, e, out⟩ := out_op T I2 st
      exact op_out I2 s1 s2 e out) (fun _ => rfl) rfl rfl
  | .cmp o a b => snd_tPt (by
    intro F S Γ fps σ env H sh t Γ' Q W h I T
    obtain ⟨_, hc, h⟩ := Option.map_eq_some_iff.mp h
    cases h
    exact snd_two (snd gr a).1 (snd gr b).1 hc I T fun x y v w env1 S2 H2 f2 I2 s1 s2 st T => by
      obtain ⟨z, e, out⟩ := out_op T I2 st
      obtain ⟨b, e1, rfl⟩ := Option.map_eq_some_iff.mp e
      rw [gr.hca]
      exact ⟨x, y, b, s1.deep I2.sub, s2.deep I2.sub, e1, out.scal I2 rfl⟩) (fun _ => rfl) rfl rfl fun env x env' h => by
    cases h1 : (ev2 G a).1 env with
    | bad => rw [h1] at h; cases h
    | ex e env1 => rw [h1] at h; cases h
    | ok y env1 =>
      rw [h1] at h
      have h : ((ev2 G b).1 env1).bind (fun z env => opt ((cmpP o y z).map .bl) env) = .ok x env' := h
      cases h2 : (ev2 G b).1 env1 with
      | bad => rw [h2] at h; cases h
      | ex e env2 => rw [h2] at h; cases h
      | ok z env2 =>
        rw [h2] at h
        have h : opt ((cmpP o y z).map .bl) env2 = .ok x env' := h
        cases h3 : cmpP o y z with
        | none => rw [h3] at h; cases h
        | some b => rw [h3] at h; cases h; exact ⟨b, rfl⟩
  | .chain o o' a b c => snd_tPt (by
    intro F S Γ fps σ env H sh t Γ' Q W h I T
    obtain ⟨ra, Γ2, rb, rc, p1, p2, e1, e2, e3, e4, rfl⟩ := chain_ck h
    obtain ⟨l2, l3⟩ := joTs_le e4
    rw [ev_chain] at T
    have pE : pureE sg (.chain o o' a b c) = pureE sg a := by
      show (pureE sg a && pureE sg b && pureE sg c) = _
      rw [p1, p2]; simp
    rw [pE] at T
    refine (snd gr a).1 F S Γ fps σ env H false ra.1 ra.2 _ W e1 I ?_
    have lb := (ck_le b).1 _ _ _ _ e2
    cases h1 : ev G a env with
    | bad => rw [h1] at T; exact T
    | ex y env1 => rw [h1] at T; exact T.exs (lb.trans l2) .refl fun z => ⟨rfl, z⟩
    | ok x env1 =>
      rw [h1] at T
      intro v S1 H1 f1 fp I1 st1 ok1 fr1
      refine (snd gr b).1 F S1 _ f1 σ env1 H1 false rb Γ2 _ W e2 I1 ?_
      have T : Tri ca F (pureE sg a) Γ' .own ((ev G b env1).bind fun y env => (opt (cmpP o x y) env).bind fun k env => if k = true then (ev G c env).bind fun z env => opt ((cmpP o' y z).map .bl) env else .ok (.bl false) env) S H fps σ Q (fun cls d H => W cls d σ H) := T
      cases h2 : ev G b env1 with
      | bad => rw [h2] at T; exact T
      | ex y env2 => rw [h2] at T; exact T.exs l2 st1 fun z => ⟨z, p1⟩
      | ok y env2 =>
        rw [h2] at T
        intro w S2 H2 f2 fq I2 st2 ok2 fr2
        have T : Tri ca F (pureE sg a) Γ' .own ((opt (cmpP o x y) env2).bind fun k env => if k = true then (ev G c env).bind fun z env => opt ((cmpP o' y z).map .bl) env else .ok (.bl false) env) S H fps σ Q (fun cls d H => W cls d σ H) := T
        rw [p1] at st2
        have s1 := (ok1.step st2 I2.sub fun _ => rfl).see I2.sub
        have st12 := (st1.trans st2).weak (pu' := pureE sg a) fun z => by rw [z]; rfl
        cases h3 : cmpP o x y with
        | none => rw [h3] at T; exact T.elim
        | some k =>
          rw [h3] at T
          have T : Tri ca F (pureE sg a) Γ' .own (if k = true then (ev G c env2).bind fun z env => opt ((cmpP o' y z).map .bl) env else .ok (.bl false) env2) S H fps σ Q (fun cls d H => W cls d σ H) := T
          rw [gr.hca]
          refine ⟨x, y, k, See.deep I2.sub s1, ok2.deep I2.sub, h3, k, rfl, ?_⟩
          split
          · rename_i hk
            rw [if_pos hk] at T
            refine (snd gr c).1 F S2 _ f2 σ env2 H2 false rc.1 rc.2 _ W e3 I2 ?_
            cases h4 : ev G c env2 with
            | bad => rw [h4] at T; exact T
            | ex z env3 => rw [h4] at T; exact T.exs l3 st12 fun z => ⟨z, p2⟩
            | ok z env3 =>
              rw [h4] at T
              intro u S3 H3 f3 fr3 I3 st3 ok3 fr4
              have T : Tri ca F (pureE sg a) Γ' .own (opt ((cmpP o' y z).map .bl) env3) S H fps σ Q (fun cls d H => W cls d σ H) := T
              rw [p2] at st3
              cases h5 : cmpP o' y z with
              | none => rw [h5] at T; exact T.elim
              | some m =>
                rw [h5] at T
                have s2 := (ok2.step st3 I3.sub fun _ => rfl).see I3.sub
                exact ⟨y, z, m, See.deep I3.sub s2, ok3.deep I3.sub, h5, T.told (u := .bl m) rfl l3 ((st12.trans st3).weak fun z => by rw [z]; rfl) I3⟩
          · rename_i hk
            rw [if_neg hk] at T
            exact T.told (u := .bl false) rfl l2 st12 I2) (fun _ => rfl) rfl rfl (chain_bl (G := G) (o := o) (o' := o') (a := a) (b := b) (c := c))
  | .and a b => ⟨by
    intro F S Γ fps σ env H sh t Γ' Q W h I T
    obtain ⟨ra, e1, h⟩ := Option.bind_eq_some_iff.mp h
    obtain ⟨rb, e2, h⟩ := Option.bind_eq_some_iff.mp h
    obtain ⟨_, e3, h⟩ := Option.map_eq_some_iff.mp h
    cases h
    obtain ⟨l1, l2⟩ := joTs_le e3
    have T : Tri ca F (pureE sg a && pureE sg b) Γ' rb.1 (ev G (.and a b) env) S H fps σ Q (fun cls d H => W cls d σ H) := T
    rw [ev_and] at T
    refine (snd gr a).1 F S Γ fps σ env H false ra.1 ra.2 _ W e1 I ?_
    cases h1 : ev G a env with
    | bad => rw [h1] at T; exact T
    | ex y env1 => rw [h1] at T; exact T.exs l1 .refl fun z => ⟨rfl, by rw [Bool.and_eq_true] at z; exact z.1⟩
    | ok x env1 =>
      rw [h1] at T
      intro v S1 H1 f1 fp I1 st1 ok1 fr1
      rw [Rs.bind_ok] at T
      split at T
      · refine ⟨true, see_bl (ok1.see I1.sub), ?_⟩
        rw [if_pos rfl]
        exact (snd gr b).1 F S1 _ f1 σ env1 H1 sh rb.1 rb.2 Q W e2 I1 (T.sub l2 (.refl _) st1 fun z => by rw [Bool.and_eq_true] at z; exact z)
      · refine ⟨false, see_bl (ok1.see I1.sub), ?_⟩
        rw [if_neg (by simp)]
        exact T.told (u := .bl false) rfl l1 (st1.weak fun z => by rw [Bool.and_eq_true] at z; exact z.1) I1
      · exact T.elim, by
    intro F S Γ fps σ env H Γ' Q W h I T
    obtain ⟨Γ1, e1, h⟩ := Option.bind_eq_some_iff.mp h
    obtain ⟨Γ2, e2, h⟩ := Option.bind_eq_some_iff.mp h
    obtain ⟨l1, l2⟩ := joTs_le h
    have T : TriT ca F (pureE sg a && pureE sg b) Γ' ((evT G a env).bind fun k env => if k = true then evT G b env else .ok false env) S H fps σ Q (fun cls d H => W cls d σ H) := T
    refine (snd gr a).2 F S Γ fps σ env H Γ1 _ W e1 I ?_
    cases h1 : evT G a env with
    | bad => rw [h1] at T; exact T
    | ex y env1 => rw [h1] at T; exact T.exs l1 .refl fun z => ⟨rfl, by rw [Bool.and_eq_true] at z; exact z.1⟩
    | ok k env1 =>
      rw [h1] at T
      intro S1 H1 f1 I1 st1
      have T : TriT ca F (pureE sg a && pureE sg b) Γ' (if k = true then evT G b env1 else .ok false env1) S H fps σ Q (fun cls d H => W cls d σ H) := T
      split
      · rename_i hk
        rw [if_pos hk] at T
        exact (snd gr b).2 F S1 _ f1 σ env1 H1 Γ2 Q W e2 I1 (T.sub l2 st1 fun z => by rw [Bool.and_eq_true] at z; exact z)
      · rename_i hk
        rw [if_neg hk] at T
        exact (T.sub l1 st1 fun z => by rw [Bool.and_eq_true] at z; exact z) S1 H1 f1 I1 .refl⟩
  | .or a b => ⟨by
    intro F S Γ fps σ env H sh t Γ' Q W h I T
    obtain ⟨ra, e1, h⟩ := Option.bind_eq_some_iff.mp h
    obtain ⟨rb, e2, h⟩ := Option.bind_eq_some_iff.mp h
    obtain ⟨_, e3, h⟩ := Option.map_eq_some_iff.mp h
    cases h
    obtain ⟨l1, l2⟩ := joTs_le e3
    have T : Tri ca F (pureE sg a && pureE sg b) Γ' rb.1 (ev G (.or a b) env) S H fps σ Q (fun cls d H => W cls d σ H) := T
    rw [ev_or] at T
    refine (snd gr a).1 F S Γ fps σ env H false ra.1 ra.2 _ W e1 I ?_
    cases h1 : ev G a env with
    | bad => rw [h1] at T; exact T
    | ex y env1 => rw [h1] at T; exact T.exs l1 .refl fun z => ⟨rfl, by rw [Bool.and_eq_true] at z; exact z.1⟩
    | ok x env1 =>
      rw [h1] at T
      intro v S1 H1 f1 fp I1 st1 ok1 fr1
      rw [Rs.bind_ok] at T
      split at T
      · refine ⟨true, see_bl (ok1.see I1.sub), ?_⟩
        rw [if_pos rfl]
        exact T.told (u := .bl true) rfl l1 (st1.weak fun z => by rw [Bool.and_eq_true] at z; exact z.1) I1
      · refine ⟨false, see_bl (ok1.see I1.sub), ?_⟩
        rw [if_neg (by simp)]
        exact (snd gr b).1 F S1 _ f1 σ env1 H1 sh rb.1 rb.2 Q W e2 I1 (T.sub l2 (.refl _) st1 fun z => by rw [Bool.and_eq_true] at z; exact z)
      · exact T.elim, by
    intro F S Γ fps σ env H Γ' Q W h I T
    obtain ⟨Γ1, e1, h⟩ := Option.bind_eq_some_iff.mp h
    obtain ⟨Γ2, e2, h⟩ := Option.bind_eq_some_iff.mp h
    obtain ⟨l1, l2⟩ := joTs_le h
    have T : TriT ca F (pureE sg a && pureE sg b) Γ' ((evT G a env).bind fun k env => if k = true then .ok true env else evT G b env) S H fps σ Q (fun cls d H => W cls d σ H) := T
    refine (snd gr a).2 F S Γ fps σ env H Γ1 _ W e1 I ?_
    cases h1 : evT G a env with
    | bad => rw [h1] at T; exact T
    | ex y env1 => rw [h1] at T; exact T.exs l1 .refl fun z => ⟨rfl, by rw [Bool.and_eq_true] at z; exact z.1⟩
    | ok k env1 =>
      rw [h1] at T
      intro S1 H1 f1 I1 st1
      have T : TriT ca F (pureE sg a && pureE sg b) Γ' (if k = true then .ok true env1 else evT G b env1) S H fps σ Q (fun cls d H => W cls d σ H) := T
      split
      · rename_i hk
        rw [if_pos hk] at T
        exact (T.sub l1 st1 fun z => by rw [Bool.and_eq_true] at z; exact z) S1 H1 f1 I1 .refl
      · rename_i hk
        rw [if_neg hk] at T
        exact (snd gr b).2 F S1 _ f1 σ env1 H1 Γ2 Q W e2 I1 (T.sub l2 st1 fun z => by rw [Bool.and_eq_true] at z; exact z)⟩
  | .not a => ⟨by
    intro F S Γ fps σ env H sh t Γ' Q W h I T
    obtain ⟨ra, e1, h⟩ := Option.map_eq_some_iff.mp h
    cases h
    have T : Tri ca F (pureE sg a) ra.2 .own (ev G (.not a) env) S H fps σ Q (fun cls d H => W cls d σ H) := T
    rw [ev_not] at T
    refine (snd gr a).1 F S Γ fps σ env H false ra.1 ra.2 _ W e1 I ?_
    cases h1 : ev G a env with
    | bad => rw [h1] at T; exact T
    | ex y env1 => rw [h1] at T; exact T
    | ok x env1 =>
      rw [h1] at T
      intro v S1 H1 f1 fp I1 st1 ok1 fr1
      rw [Rs.bind_ok] at T
      split at T
      · rename_i k
        exact ⟨k, see_bl (ok1.see I1.sub), T.told (u := .bl (!k)) rfl (.refl _) st1 I1⟩
      · exact T.elim, by
    intro F S Γ fps σ env H Γ' Q W h I T
    have T : TriT ca F (pureE sg a) Γ' ((evT G a env).bind fun k env => .ok (!k) env) S H fps σ Q (fun cls d H => W cls d σ H) := T
    refine (snd gr a).2 F S Γ fps σ env H Γ' _ W h I ?_
    cases h1 : evT G a env with
    | bad => rw [h1] at T; exact T
    | ex y env1 => rw [h1] at T; exact T
    | ok k env1 => rw [h1] at T; exact T⟩
  | .neg a => snd_tP gr (by
    intro F S Γ fps σ env H sh t Γ' Q W h I T
    obtain ⟨ra, e1, h⟩ := Option.map_eq_some_iff.mp h
    cases h
    have T : Tri ca F (pureE sg a) ra.2 .own (ev G (.neg a) env) S H fps σ Q (fun cls d H => W cls d σ H) := T
    rw [ev_neg] at T
    refine (snd gr a).1 F S Γ fps σ env H false ra.1 ra.2 _ W e1 I ?_
    cases h1 : ev G a env with
    | bad => rw [h1] at T; exact T
    | ex y env1 => rw [h1] at T; exact T
    | ok x env1 =>
      rw [h1] at T
      intro v S1 H1 f1 fp I1 st1 ok1 fr1
      rw [Rs.bind_ok] at T
      split at T
      · rename_i k
        exact ⟨k, see_int (ok1.see I1.sub), T.told (u := .int (-k)) rfl (.refl _) st1 I1⟩
      · exact T.elim) (fun _ => rfl) rfl rfl
  | .ife c a b => snd_tP gr (by
    intro F S Γ fps σ env H sh t Γ' Q W h I T
    obtain ⟨Γ1, e1, h⟩ := Option.bind_eq_some_iff.mp h
    obtain ⟨ra, e2, h⟩ := Option.bind_eq_some_iff.mp h
    obtain ⟨rb, e3, h⟩ := Option.bind_eq_some_iff.mp h
    obtain ⟨_, e4, h⟩ := Option.map_eq_some_iff.mp h
    cases h
    obtain ⟨l1, l2⟩ := joTs_le e4
    obtain ⟨j1, j2⟩ := joE_le (a := ra.1) (b := rb.1)
    have T : Tri ca F (pureE sg c && pureE sg a && pureE sg b) Γ' (joE ra.1 rb.1) ((evT G c env).bind fun k env => if k = true then ev G a env else ev G b env) S H fps σ Q (fun cls d H => W cls d σ H) := T
    refine (snd gr c).2 F S Γ fps σ env H Γ1 _ W e1 I ?_
    cases h1 : evT G c env with
    | bad => rw [h1] at T; exact T
    | ex y env1 => rw [h1] at T; exact T.exT (((ck_le a).1 _ _ _ _ e2).trans l1) .refl fun z => ⟨rfl, by rw [Bool.and_eq_true, Bool.and_eq_true] at z; exact z.1.1⟩
    | ok k env1 =>
      rw [h1] at T
      intro S1 H1 f1 I1 st1
      have T : Tri ca F (pureE sg c && pureE sg a && pureE sg b) Γ' (joE ra.1 rb.1) (if k = true then ev G a env1 else ev G b env1) S H fps σ Q (fun cls d H => W cls d σ H) := T
      split
      · rename_i hk
        rw [if_pos hk] at T
        exact (snd gr a).1 F S1 _ f1 σ env1 H1 sh ra.1 ra.2 Q W e2 I1 (T.sub l1 j1 st1 fun z => by rw [Bool.and_eq_true, Bool.and_eq_true] at z; exact z.1)
      · rename_i hk
        rw [if_neg hk] at T
        exact (snd gr b).1 F S1 _ f1 σ env1 H1 sh rb.1 rb.2 Q W e3 I1 (T.sub l2 j2 st1 fun z => by rw [Bool.and_eq_true, Bool.and_eq_true] at z; exact ⟨z.1.1, z.2⟩)) (fun _ => rfl) rfl rfl
  | .call f es => snd_tP gr (by
    intro F S Γ fps σ env H sh t Γ' Q W h I T
    obtain ⟨p, e1, h⟩ := Option.bind_eq_some_iff.mp h
    split at h
    · rename_i hn
      obtain ⟨_, e2, h⟩ := Option.map_eq_some_iff.mp h
      cases h
      have T : Tri ca F (pureEs sg es) Γ' (if p.2 = true then .own else .sh) (ev G (.call f es) env) S H fps σ Q (fun cls d H => W cls d σ H) := T
      rw [ev_call] at T
      show ∃ sp, Gm.fn f = some sp ∧ wPs Gm es W σ H fun vs H1 => sp vs H1 Q (WE W σ)
      cases hf : G.fn f with
      | none => rw [hf] at T; exact T.elim
      | some P =>
        obtain ⟨g1, g2⟩ := gr.fn f P hf
        rw [e1] at g1
        cases g1
        refine ⟨_, g2, sndA gr es _ F S Γ fps σ env H Γ' _ W hn e2 I ?_⟩
        rw [hf] at T
        dsimp only at T
        cases h1 : evs G es env with
        | bad => rw [h1] at T; exact T
        | ex y env1 => rw [h1] at T; exact T.exL (.refl _) .refl fun z => ⟨rfl, z⟩
        | ok xs env1 =>
          rw [h1, Rs.bind_ok] at T
          intro vs S1 H1 f1 I1 st1 ha
          exact snd_run hn I1 st1 ha rfl T
    · cases h) (fun _ => rfl) rfl rfl
  | .bi f es => snd_tP gr (by
    intro F S Γ fps σ env H sh t Γ' Q W h I T
    obtain ⟨r, e2, h⟩ := Option.map_eq_some_iff.mp h
    cases h
    have T : Tri ca F (pureEs sg es) r.2 (biT f r.1) (ev G (.bi f es) env) S H fps σ Q (fun cls d H => W cls d σ H) := T
    rw [ev_bi] at T
    refine sndR gr es F S Γ fps σ env H r.1 r.2 _ W e2 I ?_
    cases h1 : evs G es env with
    | bad => rw [h1] at T; exact T
    | ex y env1 => rw [h1] at T; exact T.exL (.refl _) .refl fun z => ⟨rfl, z⟩
    | ok xs env1 =>
      rw [h1, Rs.bind_ok] at T
      intro vs S1 H1 f1 I1 st1 ha
      obtain ⟨z, e, out⟩ := out_op T I1 st1
      rw [gr.hca]
      rw [← ha.2] at out
      exact bi_out I1 ha.1 e out) (fun _ => rfl) rfl rfl
  | .isi a c => snd_tP gr (by
    intro F S Γ fps σ env H sh t Γ' Q W h I T
    obtain ⟨ra, e1, h⟩ := Option.map_eq_some_iff.mp h
    cases h
    have T : Tri ca F (pureE sg a) ra.2 .own (ev G (.isi a c) env) S H fps σ Q (fun cls d H => W cls d σ H) := T
    rw [ev_isi] at T
    refine (snd gr a).1 F S Γ fps σ env H false ra.1 ra.2 _ W e1 I ?_
    cases h1 : ev G a env with
    | bad => rw [h1] at T; exact T
    | ex y env1 => rw [h1] at T; exact T
    | ok x env1 =>
      rw [h1, Rs.bind_ok] at T
      intro v S1 H1 f1 fp I1 st1 ok1 fr1
      cases hb : isP G x c with
      | none => rw [hb] at T; exact T.elim
      | some b =>
        rw [hb] at T
        obtain ⟨u, g1, g2⟩ := gr.isa x c b hb
        exact ⟨u, g1, g2 v H1 Q (ok1.deep I1.sub) (T.told (u := .bl b) rfl (.refl _) st1 I1)⟩) (fun _ => rfl) rfl rfl
  | .isiT a cs => snd_tP gr (by
    intro F S Γ fps σ env H sh t Γ' Q W h I T
    obtain ⟨ra, e1, h⟩ := Option.map_eq_some_iff.mp h
    cases h
    have T : Tri ca F (pureE sg a) ra.2 .own (ev G (.isiT a cs) env) S H fps σ Q (fun cls d H => W cls d σ H) := T
    rw [ev_isiT] at T
    refine (snd gr a).1 F S Γ fps σ env H false ra.1 ra.2 _ W e1 I ?_
    cases h1 : ev G a env with
    | bad => rw [h1] at T; exact T
    | ex y env1 => rw [h1] at T; exact T
    | ok x env1 =>
      rw [h1, Rs.bind_ok] at T
      intro v S1 H1 f1 fp I1 st1 ok1 fr1
      cases hb : isPs G x cs with
      | none => rw [hb] at T; exact T.elim
      | some b =>
        rw [hb] at T
        obtain ⟨us, g1, g2⟩ := gr.isT x cs b hb
        refine ⟨us, g1, fun p hp => ?_⟩
        obtain ⟨I2, st2⟩ := I1.alloc (o := .tup us) hp
        have ok2 := ok1.step st2 I2.sub fun _ => rfl
        exact g2 v p _ Q (ok2.deep I2.sub) upd_same (T.told (u := .bl b) rfl (.refl _) ((st1.trans st2).weak fun z => by rw [z]; rfl) I2)) (fun _ => rfl) rfl rfl
  | .ix a b => snd_tP gr (by
    intro F S Γ fps σ env H sh t Γ' Q W h I T
    obtain ⟨_, hc, h⟩ := Option.map_eq_some_iff.mp h
    cases h
    exact snd_two (snd gr a).1 (snd gr b).1 hc I T fun x y v w env1 S2 H2 f2 I2 s1 s2 st T => by
      obtain ⟨z, e, out⟩ := out_op T I2 st
      exact ix_out I2 s1 s2 e out) (fun _ => rfl) rfl rfl
  | .lst es => snd_tP gr (by
    intro F S Γ fps σ env H sh t Γ' Q W h I T
    obtain ⟨r, e2, h⟩ := Option.map_eq_some_iff.mp h
    cases h
    have T : Tri ca F (pureEs sg es) Γ' .own (ev G (.lst es) env) S H fps σ Q (fun cls d H => W cls d σ H) := T
    rw [ev_lst] at T
    refine sndL gr es F S Γ fps σ env H Γ' _ W e2 I ?_
    cases h1 : evs G es env with
    | bad => rw [h1] at T; exact T
    | ex y env1 => rw [h1] at T; exact T.exL (.refl _) .refl fun z => ⟨rfl, z⟩
    | ok xs env1 =>
      rw [h1, Rs.bind_ok] at T
      intro vs S1 H1 f1 I1 st1 ha
      obtain ⟨z, e, out⟩ := out_op T I1 st1
      obtain ⟨hl, rfl⟩ := grd_some e
      exact ⟨by rw [ha.length]; exact hl, out.lst I1 ha⟩) (fun _ => rfl) rfl rfl
  | .tup es => snd_tP gr (by
    intro F S Γ fps σ env H sh t Γ' Q W h I T
    obtain ⟨r, e2, h⟩ := Option.map_eq_some_iff.mp h
    cases h
    have T : Tri ca F (pureEs sg es) Γ' .own (ev G (.tup es) env) S H fps σ Q (fun cls d H => W cls d σ H) := T
    rw [ev_tup] at T
    refine sndL gr es F S Γ fps σ env H Γ' _ W e2 I ?_
    cases h1 : evs G es env with
    | bad => rw [h1] at T; exact T
    | ex y env1 => rw [h1] at T; exact T.exL (.refl _) .refl fun z => ⟨rfl, z⟩
    | ok xs env1 =>
      rw [h1, Rs.bind_ok] at T
      intro vs S1 H1 f1 I1 st1 ha
      obtain ⟨z, e, out⟩ := out_op T I1 st1
      obtain ⟨hl, rfl⟩ := grd_some e
      exact ⟨by rw [ha.length]; exact hl, out.tup I1 ha⟩) (fun _ => rfl) rfl rfl
  | .dict0 => snd_tP gr (by
    intro F S Γ fps σ env H sh t Γ' Q W h I T
    cases h
    rw [ev_dict0] at T
    exact (out_of T I .refl).dic I .nil) (fun _ => rfl) rfl rfl
  | .fld o f => snd_tP gr (by
    intro F S Γ fps σ env H sh t Γ' Q W h I T
    have h : (if decide (f ∈ sg.fs) = true then ((ckX sg o).1 sh Γ).bind fun r => some (if r.1 = .own then ET.sh else r.1, r.2) else none) = some (t, Γ') := h
    split at h
    · rename_i hf
      obtain ⟨ra, e1, h⟩ := Option.bind_eq_some_iff.mp h
      cases h
      have T : Tri ca F (pureE sg o) ra.2 (if ra.1 = .own then .sh else ra.1) (ev G (.fld o f) env) S H fps σ Q (fun cls d H => W cls d σ H) := T
      rw [ev_fld] at T
      refine (snd gr o).1 F S Γ fps σ env H sh ra.1 ra.2 _ W e1 I ?_
      cases h1 : ev G o env with
      | bad => rw [h1] at T; exact T
      | ex y env1 => rw [h1] at T; exact T
      | ok x env1 =>
        rw [h1, Rs.bind_ok] at T
        intro v S1 H1 f1 fp I1 st1 ok1 fr1
        cases x with
        | obj c fs =>
          dsimp only at T
          cases hf2 : fs.lookup f with
          | none => rw [hf2] at T; exact T.elim
          | some y =>
            rw [hf2] at T
            have fin : ∀ (S2 : Hp), FI ca F S2 ra.2 f1 σ env1 H1 → Rep ca S2 v (.obj c fs) → (if ra.1 = .own then ET.sh else ra.1) = .sh → Stp (pureE sg o) S H fps S2 H1 f1 → ∃ a C dx us w, v = .ref a ∧ H1 a = some (.ins C dx us) ∧ Cls Gm.K C ∧ NoAttr Gm.K C f ∧ us.lookup f = some w ∧ Q w H1 := fun S2 I2 r ht st2 => by
              unfold Rep at r
              obtain ⟨p, C, dx, us, rfl, ec, q, r⟩ := r
              have hq : H1 p = some (.ins C dx us) := by
                rcases I2.sub p _ q with k | ⟨_, _, k, _⟩
                · exact k
                · cases k
              have g := r.get f
              rw [hf2] at g
              obtain ⟨w, g1, g2⟩ := g
              obtain ⟨c1, c2⟩ := gr.fld c C f ec (of_decide_eq_true hf)
              rw [ht] at T
              exact ⟨p, C, dx, us, w, rfl, hq, c1, c2, g1, T w S2 H1 f1 [] I2 st2 (sh_ok g2) fun _ h => by cases h⟩
            cases ht : ra.1 with
            | own =>
              rw [ht] at ok1
              obtain ⟨S2, I2, sm, r, nw⟩ := I1.give ok1 rfl
              exact fin S2 I2 r (by rw [ht]; rfl) (st1.given sm nw fr1)
            | sh =>
              rw [ht] at ok1
              exact fin S1 I1 ok1.2 (by rw [ht]; rfl) st1
            | bw ds =>
              rw [ht] at ok1 T
              obtain ⟨h0, fb, b1, b2⟩ := ok1
              unfold BR at b1
              obtain ⟨p, C, dx, us, fr, rfl, rfl, ec, q, r⟩ := b1
              obtain ⟨w, f2, g1, g2, g3⟩ := r.get hf2
              obtain ⟨c1, c2⟩ := gr.fld c C f ec (of_decide_eq_true hf)
              exact ⟨p, C, dx, us, w, rfl, rg_ins q, c1, c2, g1, T w S1 H1 f1 [] I1 st1 ⟨rfl, f2, g2, fun p hp => b2 p (List.mem_cons_of_mem _ (g3 p hp))⟩ fun _ h => by cases h⟩
        | _ => exact T.elim
    · cases h) (fun _ => rfl) rfl rfl
  | .make C es => snd_tP gr (by
    intro F S Γ fps σ env H sh t Γ' Q W h I T
    obtain ⟨p, e1, h⟩ := Option.bind_eq_some_iff.mp h
    split at h
    · rename_i hn
      obtain ⟨_, e2, h⟩ := Option.map_eq_some_iff.mp h
      cases h
      have T : Tri ca F (pureEs sg es) Γ' .sh (ev G (.make C es) env) S H fps σ Q (fun cls d H => W cls d σ H) := T
      rw [ev_make] at T
      cases hf : G.mak C with
      | none => rw [hf] at T; exact T.elim
      | some R =>
        obtain ⟨ps, c, g1, g2, g3, g6, g4⟩ := gr.mak C R hf
        rw [e1] at g1
        cases g1
        rw [hf] at T
        dsimp only at T
        have core : ∀ (Qr : List V → Hp → Prop), (∀ xs env1 vs S1 H1 f1, FI ca F S1 Γ' f1 σ env1 H1 → Stp (pureEs sg es) S H fps S1 H1 f1 → ArgsOk ca S1 H1 p vs xs →
            Tri ca F (pureEs sg es) Γ' .sh (match R xs with
              | .ok x _ => .ok x env1
              | _ => .bad) S H fps σ Q (fun cls d H => W cls d σ H) → Qr vs H1) → wPs Gm es W σ H Qr := fun Qr k => by
          refine sndA gr es _ F S Γ fps σ env H Γ' _ W hn e2 I ?_
          cases h1 : evs G es env with
          | bad => rw [h1] at T; exact T
          | ex y env1 => rw [h1] at T; exact T.exL (.refl _) .refl fun z => ⟨rfl, z⟩
          | ok xs env1 =>
            rw [h1, Rs.bind_ok] at T
            intro vs S1 H1 f1 I1 st1 ha
            exact k xs env1 vs S1 H1 f1 I1 st1 ha T
        -- an instance is there
        have inst : ∀ {x dx : Addr} {us : List (Str × V)} {fs : List (Str × PV)} {env1 S1 H1 f1}, FI ca F S1 Γ' f1 σ env1 H1 → Stp (pureEs sg es) S H fps S1 H1 f1 → H1 x = none → H1 dx = none → dx ≠ x → RepF ca S1 us fs →
            Tri ca F (pureEs sg es) Γ' .sh (.ok (.obj C fs) env1) S H fps σ Q (fun cls d H => W cls d σ H) → Q (.ref x) (upd (upd H1 dx (.own x)) x (.ins c dx us)) := fun {x dx us fs env1 S1 H1 f1} I1 st1 hx hdx ne r T => by
          obtain ⟨I2, st2⟩ := I1.alloc (o := .own x) hdx
          have hx2 : (upd H1 dx (.own x)) x = none := by rw [upd_ne (Ne.symm ne)]; exact hx
          obtain ⟨I3, st3⟩ := I2.allocS (o := .ins c dx us) hx2
          refine T (.ref x) _ _ f1 [] I3 (((st1.trans st2).trans st3).weak fun z => by rw [z]; rfl) (sh_ok ?_) fun _ h => by cases h
          unfold Rep
          exact ⟨x, c, dx, us, rfl, g3, upd_same, r.up st3.gs⟩
        rcases g4 with g4 | ⟨g4, g5, rfl⟩
        · refine ⟨c, some (spI ca C c R), g4, core _ fun xs env1 vs S1 H1 f1 I1 st1 ha T x dx hx hdx ne => ?_⟩
          have hr := argsOk_rep g2 ha
          obtain ⟨I2, st2⟩ := I1.alloc (o := .own x) hdx
          have hx2 : (upd H1 dx (.own x)) x = none := by rw [upd_ne (Ne.symm ne)]; exact hx
          obtain ⟨I3, st3⟩ := I2.alloc (o := .ins c dx []) hx2
          refine ⟨x, dx, vs, S1, xs, rfl, upd_same, (I1.fresh hx).1, I3.sub, hr, ?_⟩
          cases hR : R xs with
          | bad => rw [hR] at T; exact T
          | ex _ _ => rw [hR] at T; exact T
          | ok z ms =>
            rw [hR] at T
            have T : Tri ca F (pureEs sg es) Γ' .sh (.ok z env1) S H fps σ Q (fun cls d H => W cls d σ H) := T
            obtain ⟨fs, rfl⟩ := g6 _ _ _ hR
            refine ⟨rfl, fun us r => ⟨rfl, ?_⟩⟩
            rw [upd_upd]
            exact inst I1 st1 hx hdx ne r T
        · refine ⟨c, none, g4, core _ fun xs env1 vs S1 H1 f1 I1 st1 ha T x dx hx hdx ne => ?_⟩
          unfold ArgsOk at ha
          obtain ⟨rfl, rfl⟩ := ha
          rw [g5] at T
          exact ⟨rfl, inst I1 st1 hx hdx ne (by unfold RepF; rfl) T⟩
    · cases h) (fun _ => rfl) rfl rfl
  | .sl a lo hi => snd_tP gr (by
    intro F S Γ fps σ env H sh t Γ' Q W h I T
    have h : (if pureEo sg lo = true ∧ pureEo sg hi = true then ((ckX sg a).1 false Γ).bind fun r => (ckO sg lo r.2).bind fun Γ => (ckO sg hi Γ).map fun Γ => (ET.own, Γ) else none) = some (t, Γ') := h
    split at h
    · rename_i hp
      obtain ⟨ra, e1, h⟩ := Option.bind_eq_some_iff.mp h
      obtain ⟨Γ2, e2, h⟩ := Option.bind_eq_some_iff.mp h
      obtain ⟨_, e3, h⟩ := Option.map_eq_some_iff.mp h
      cases h
      obtain ⟨p1, p2⟩ := hp
      have l3 := ckO_le hi _ _ e3
      have l2 := ckO_le lo _ _ e2
      have pE : pureE sg (.sl a lo hi) = pureE sg a := by
        show (pureE sg a && pureEo sg lo && pureEo sg hi) = _
        rw [p1, p2]; simp
      rw [pE, ev_sl] at T
      refine (snd gr a).1 F S Γ fps σ env H false ra.1 ra.2 _ W e1 I ?_
      cases h1 : ev G a env with
      | bad => rw [h1] at T; exact T
      | ex y env1 => rw [h1] at T; exact T.exs (l2.trans l3) .refl fun z => ⟨rfl, z⟩
      | ok x env1 =>
        rw [h1, Rs.bind_ok] at T
        intro v S1 H1 f1 fp I1 st1 ok1 fr1
        refine sndO gr lo F S1 _ f1 σ env1 H1 _ _ W e2 I1 ?_
        cases h2 : evo G lo env1 with
        | bad => rw [h2] at T; exact T
        | ex y env2 => rw [h2] at T; exact T.exO l3 st1 fun z => ⟨z, p1⟩
        | ok l env2 =>
          rw [h2, Rs.bind_ok] at T
          intro S2 H2 f2 I2 st2
          rw [p1] at st2
          have st12 := (st1.trans st2).weak (pu' := pureE sg a) fun z => by rw [z]; rfl
          refine sndO gr hi F S2 _ f2 σ env2 H2 _ _ W e3 I2 ?_
          cases h3 : evo G hi env2 with
          | bad => rw [h3] at T; exact T
          | ex y env3 => rw [h3] at T; exact T.exO (.refl _) st12 fun z => ⟨z, p2⟩
          | ok u env3 =>
            rw [h3, Rs.bind_ok] at T
            intro S3 H3 f3 I3 st3
            rw [p2] at st3
            have ok3 := (ok1.step st2 I2.sub fun _ => rfl).step st3 I3.sub fun _ => rfl
            obtain ⟨z, e, out⟩ := out_op T I3 ((st12.trans st3).weak (pu' := pureE sg a) fun z => by rw [z]; rfl)
            exact sl_out I3 (ok3.see I3.sub) e out
    · cases h) (fun _ => rfl) rfl rfl
  | .meth m o es => snd_tP gr (by
    intro F S Γ fps σ env H sh t Γ' Q W h I T
    obtain ⟨p, e1, h⟩ := Option.bind_eq_some_iff.mp h
    obtain ⟨ps, own⟩ := p
    cases ps with
    | nil => cases h
    | cons q ps =>
      have h : (if noMu (q :: ps) = true then ((ckX sg o).1 (decide (q = .sh)) Γ).bind fun r => if isBw r.1 = true ∧ pureEs sg es = false then none else (ckA sg es ps r.2).map fun Γ => (if own = true then ET.own else .sh, Γ) else none) = some (t, Γ') := h
      split at h
      · rename_i hn
        obtain ⟨ra, e2, h⟩ := Option.bind_eq_some_iff.mp h
        split at h
        · cases h
        · rename_i hb
          obtain ⟨_, e3, h⟩ := Option.map_eq_some_iff.mp h
          cases h
          have hn2 := hn
          simp only [noMu, List.all_cons, Bool.and_eq_true, decide_eq_true_eq] at hn2
          have T : Tri ca F (pureE sg o && pureEs sg es) Γ' (if own = true then .own else .sh) (ev G (.meth m o es) env) S H fps σ Q (fun cls d H => W cls d σ H) := T
          rw [ev_meth, gr.ms m, e1] at T
          have T : Tri ca F (pureE sg o && pureEs sg es) Γ' (if own = true then .own else .sh) ((ev G o env).bind fun x env => match x with
            | .obj c fs => if (fs.lookup m).isSome = true then .bad else (match G.mt c m with
                | some R => (evs G es env).bind fun xs env => callP (R (.obj c fs :: xs)) (q :: ps) (.cons o es) env
                | none => .bad)
            | _ => .bad) S H fps σ Q (fun cls d H => W cls d σ H) := by
            cases q with
            | mu => exact (hn2.1 rfl).elim
            | sh => exact T
            | bw => exact T
          refine (snd gr o).1 F S Γ fps σ env H (decide (q = .sh)) ra.1 ra.2 _ W e2 I ?_
          cases h1 : ev G o env with
          | bad => rw [h1] at T; exact T
          | ex y env1 => rw [h1] at T; exact T.exs (ckA_le es _ _ _ e3) .refl fun z => ⟨rfl, by rw [Bool.and_eq_true] at z; exact z.1⟩
          | ok x env1 =>
            rw [h1, Rs.bind_ok] at T
            intro v S1 H1 f1 fp I1 st1 ok1 fr1
            cases x with
            | obj c fs =>
              dsimp only at T
              by_cases hm : (fs.lookup m).isSome = true
              · rw [if_pos hm] at T; exact T.elim
              · rw [if_neg hm] at T
                obtain ⟨fb, hb1⟩ := ok1.see I1.sub
                unfold BR at hb1
                obtain ⟨a, C, dx, us, fr, rfl, _, ec, q1, r1⟩ := hb1
                cases hR : G.mt c m with
                | none => rw [hR] at T; exact T.elim
                | some R =>
                  rw [hR] at T
                  dsimp only at T
                  obtain ⟨p2, g1, g2⟩ := gr.mt c C m R ec hR
                  rw [e1] at g1
                  cases g1
                  have nf : us.lookup m = none := r1.noField (by
                    cases k : fs.lookup m with
                    | none => rfl
                    | some y => rw [k] at hm; exact (hm rfl).elim)
                  refine ⟨a, C, dx, us, _, rfl, rg_ins q1, nf, g2, ?_⟩
                  refine sndA gr es ps F S1 _ f1 σ env1 H1 _ _ W (by simp only [noMu]; exact hn2.2) e3 I1 ?_
                  cases h2 : evs G es env1 with
                  | bad => rw [h2] at T; exact T
                  | ex y env2 => rw [h2] at T; exact T.exL (.refl _) st1 fun z => by rw [Bool.and_eq_true] at z; exact z
                  | ok xs env2 =>
                    rw [h2, Rs.bind_ok] at T
                    intro vs S2 H2 f2 I2 st2 ha
                    have ok2 := ok1.step st2 I2.sub fun ⟨ds, e⟩ => by
                      cases k : pureEs sg es with
                      | true => rfl
                      | false => exact (hb ⟨by rw [e]; rfl, k⟩).elim
                    have st12 := st1.trans st2
                    cases q with
                    | mu => exact (hn2.1 rfl).elim
                    | bw =>
                      exact snd_run hn I2 st12 (by unfold ArgsOk; exact ⟨_, vs, _, xs, rfl, rfl, ok2.see I2.sub, ha⟩) rfl T
                    | sh =>
                      have nb := ck_nb o _ _ _ e2
                      obtain ⟨S3, I3, sm, rp, nw⟩ := I2.give ok2 nb
                      exact snd_run hn I3 (st12.given sm nw fr1) (by unfold ArgsOk; exact ⟨_, vs, _, xs, rfl, rfl, rp, ha.up sm (Same.refl _)⟩) rfl T
            | _ => exact T.elim
      · cases h) (fun _ => rfl) rfl rfl
  | .bm m o es => snd_tP gr (by
    intro F S Γ fps σ env H sh t Γ' Q W h I T
    by_cases hmu : isMut m = true
    · unfold ckX tst at h
      dsimp only at h
      rw [if_pos hmu] at h
      have pE : pureE sg (.bm m o es) = false := by
        show (!isMut m && pureE sg o && pureEs sg es) = false
        rw [hmu]; rfl
      rw [pE, ev_bm, if_pos hmu] at T
      cases o with
      | v i =>
        dsimp only at h
        split at h
        · rename_i htg
          have eL : ∀ env : Env, getL env (i, []) = getS env i := fun env => by
            unfold getL
            cases getS env i <;> rfl
          have eS : ∀ (env : Env) (x y : PV), getS env i = some x → setL env (i, []) y = some (env.set i (some y)) := fun env x y hx => by
            unfold setL
            rw [hx]
            rfl
          have T : Tri ca F false Γ' t ((opt (getL env (i, [])) env).bind fun x0 env => if mutK m x0 = true then (evs G es env).bind fun xs env => (opt (getL env (i, [])) env).bind fun x env => (opt (mutP m x xs) env).bind fun r env => (opt (setL env (i, []) r.2) env).bind fun env' _ => .ok r.1 env' else .bad) S H fps σ Q (fun cls d H => W cls d σ H) := T
          cases hx : getS env i with
          | none => rw [eL, hx] at T; exact T.elim
          | some x0 =>
            rw [eL, hx] at T
            have T : Tri ca F false Γ' t (if mutK m x0 = true then (evs G es env).bind fun xs env => (opt (getL env (i, [])) env).bind fun x env => (opt (mutP m x xs) env).bind fun r env => (opt (setL env (i, []) r.2) env).bind fun env' _ => .ok r.1 env' else .bad) S H fps σ Q (fun cls d H => W cls d σ H) := T
            obtain ⟨v, hv, hS⟩ := slot_of I hx
            rw [htg] at hS
            by_cases hk : mutK m x0 = true
            case neg => rw [if_neg hk] at T; exact T.elim
            rw [if_pos hk] at T
            show vR i σ H fun x H1 => bmT m x H1 ∧ wPs Gm es W σ H1 fun xs H2 => bmR Gm.ca m x xs H2 Q
            unfold vR
            rw [hv]
            refine ⟨bmT_mut ⟨_, BR.rd hS⟩ hk, ?_⟩
            -- behind the arguments
            have fin : ∀ (xs : List PV) (vs : List V) (env1 : Env) (S1 H1 : Hp) (f1 : Nat → List Addr), FI ca F S1 Γ' f1 σ env1 H1 → Stp (pureEs sg es) S H fps S1 H1 f1 → tg Γ' i = .own → t = (if m = .pop then .sh else .own) → (if m = .extend then (∃ w y q, vs = [w] ∧ xs = [y] ∧ BR ca S1 H1 w y q ∧ ∀ p ∈ q, ∀ j, p ∉ f1 j) else RepL ca S1 vs xs) →
                Tri ca F false Γ' t ((opt (getL env1 (i, [])) env1).bind fun x env => (opt (mutP m x xs) env).bind fun r env => (opt (setL env (i, []) r.2) env).bind fun env' _ => .ok r.1 env') S H fps σ Q (fun cls d H => W cls d σ H) → bmR Gm.ca m v vs H1 Q := fun xs vs env1 S1 H1 f1 I1 st1 ht1 et hr T => by
              cases hx1 : getS env1 i with
              | none => rw [eL, hx1] at T; exact T.elim
              | some x =>
                rw [eL, hx1] at T
                have T : Tri ca F false Γ' t ((opt (mutP m x xs) env1).bind fun r env => (opt (setL env (i, []) r.2) env).bind fun env' _ => .ok r.1 env') S H fps σ Q (fun cls d H => W cls d σ H) := T
                cases hm : mutP m x xs with
                | none => rw [hm] at T; exact T.elim
                | some r =>
                  rw [hm] at T
                  have T : Tri ca F false Γ' t ((opt (setL env1 (i, []) r.2) env1).bind fun env' _ => .ok r.1 env') S H fps σ Q (fun cls d H => W cls d σ H) := T
                  rw [eS env1 x r.2 hx1] at T
                  have T : Tri ca F false Γ' t (.ok r.1 (env1.set i (some r.2))) S H fps σ Q (fun cls d H => W cls d σ H) := T
                  obtain ⟨v', hv', hS1⟩ := slot_of I1 hx1
                  rw [hv] at hv'
                  cases hv'
                  rw [ht1] at hS1
                  have hl := getS_lt hx1
                  refine .inr (mut_out I1 hv ht1 hS1 hl hr hm fun w H2 I2 st2 ok2 => ?_)
                  rw [et] at T
                  exact T w S1 H2 f1 [] I2 ((st1.trans st2).weak fun z => by cases z) ok2 fun _ h => by cases h
            split at h
            · rename_i hext
              obtain ⟨r, e1, h⟩ := Option.bind_eq_some_iff.mp h
              split at h
              · rename_i hro
                cases h
                cases es with
                | nil => unfold ckOne at e1; cases e1
                | cons e er =>
                  unfold ckOne at e1
                  split at e1
                  · rename_i hnil
                    have : er = .nil := by cases er <;> first | rfl | (cases hnil; done)
                    subst this
                    show (wP Gm e W).1 σ H fun x H1 => wPs Gm .nil W σ H1 fun xs H2 => bmR Gm.ca m v (x :: xs) H2 Q
                    refine (snd gr e).1 F S Γ fps σ env H false r.1 r.2 _ W e1 I ?_
                    rw [evs_cons] at T
                    cases h1 : ev G e env with
                    | bad => rw [h1] at T; exact T
                    | ex y env1 => rw [h1] at T; exact T.exs (pu' := true) (.refl _) .refl fun z => by cases z
                    | ok x env1 =>
                      rw [h1] at T
                      intro w S1 H1 f1 fp I1 st1 ok1 fr1
                      show bmR Gm.ca m v [w] H1 Q
                      rw [hro.1] at ok1
                      exact fin [x] [w] env1 S1 H1 f1 I1 (st1.weak fun z => by
                        have z : (pureE sg e && true) = true := z
                        rw [Bool.and_true] at z
                        exact z) hro.2 (by rw [if_neg (by rw [hext]; simp)]) (by rw [if_pos hext]; exact ⟨w, x, fp, rfl, rfl, ok1.1, fun p hp => (ok1.2.2 p hp).2.2⟩) T
                  · cases e1
              · cases h
            · rename_i hext
              obtain ⟨Γ2, e1, h⟩ := Option.bind_eq_some_iff.mp h
              split at h
              · rename_i hro
                cases h
                refine sndL gr es F S Γ fps σ env H Γ' _ W e1 I ?_
                cases h1 : evs G es env with
                | bad => rw [h1] at T; exact T
                | ex y env1 => rw [h1] at T; exact T.exL (pu' := true) (.refl _) .refl fun z => by cases z
                | ok xs env1 =>
                  rw [h1, Rs.bind_ok] at T
                  intro vs S1 H1 f1 I1 st1 ha
                  exact fin xs vs env1 S1 H1 f1 I1 st1 hro rfl (by rw [if_neg hext]; exact ha) T
              · cases h
        · cases h
      | _ => cases h
    · unfold ckX tst at h
      dsimp only at h
      rw [if_neg hmu] at h
      have pE : pureE sg (.bm m o es) = (pureE sg o && pureEs sg es) := by
        show (!isMut m && pureE sg o && pureEs sg es) = _
        cases q : isMut m with
        | true => exact (hmu q).elim
        | false => simp
      rw [pE, ev_bm, if_neg hmu] at T
      by_cases hiv : m = .items ∨ m = .values
      case pos => rw [if_pos hiv] at h; cases h
      rw [if_neg hiv] at h
      obtain ⟨ra, e1, h⟩ := Option.bind_eq_some_iff.mp h
      split at h
      · cases h
      · rename_i hb
        have le2 : leG ra.2 Γ' := by
          split at h
          · obtain ⟨_, e2, h⟩ := Option.map_eq_some_iff.mp h
            cases h; exact ckL_le es _ _ e2
          · obtain ⟨_, e2, h⟩ := Option.map_eq_some_iff.mp h
            cases h; exact ckR_le es _ _ _ e2
        refine (snd gr o).1 F S Γ fps σ env H false ra.1 ra.2 _ W e1 I ?_
        cases h1 : ev G o env with
        | bad => rw [h1] at T; exact T
        | ex y env1 => rw [h1] at T; exact T.exs le2 .refl fun z => ⟨rfl, by rw [Bool.and_eq_true] at z; exact z.1⟩
        | ok x env1 =>
          rw [h1, Rs.bind_ok] at T
          intro v S1 H1 f1 fp I1 st1 ok1 fr1
          by_cases hk : bmK m x = true
          case neg => rw [if_neg hk] at T; exact T.elim
          rw [if_pos hk] at T
          refine ⟨bmT_see (ok1.see I1.sub) hk, ?_⟩
          rw [gr.hca]
          have hbw : ∀ {pq : Bool}, pq = pureEs sg es → (∃ ds, ra.1 = .bw ds) → pq = true := fun e ⟨ds, z⟩ => by
            rw [e]
            cases k : pureEs sg es with
            | true => rfl
            | false => exact (hb ⟨by rw [z]; rfl, k⟩).elim
          split at h
          · rename_i hget
            obtain ⟨_, e2, h⟩ := Option.map_eq_some_iff.mp h
            cases h
            refine sndL gr es F S1 _ f1 σ env1 H1 _ _ W e2 I1 ?_
            cases h2 : evs G es env1 with
            | bad => rw [h2] at T; exact T
            | ex y env2 => rw [h2] at T; exact T.exL (.refl _) st1 fun z => by rw [Bool.and_eq_true] at z; exact z
            | ok xs env2 =>
              rw [h2, Rs.bind_ok] at T
              intro vs S2 H2 f2 I2 st2 ha
              have ok2 := ok1.step st2 I2.sub (hbw rfl)
              obtain ⟨z, e, out⟩ := out_op T I2 (st1.trans st2)
              subst hget
              exact bm_out I2 (ok2.see I2.sub) (seeL_of I2.sub ha) (fun _ => ha) e (by simp) out
          · rename_i hget
            obtain ⟨r, e2, h⟩ := Option.map_eq_some_iff.mp h
            cases h
            refine sndR gr es F S1 _ f1 σ env1 H1 r.1 r.2 _ W e2 I1 ?_
            cases h2 : evs G es env1 with
            | bad => rw [h2] at T; exact T
            | ex y env2 => rw [h2] at T; exact T.exL (.refl _) st1 fun z => by rw [Bool.and_eq_true] at z; exact z
            | ok xs env2 =>
              rw [h2, Rs.bind_ok] at T
              intro vs S2 H2 f2 I2 st2 ha
              have ok2 := ok1.step st2 I2.sub (hbw rfl)
              obtain ⟨z, e, out⟩ := out_op T I2 (st1.trans st2)
              exact bm_out I2 (ok2.see I2.sub) ha.1 (fun z => (hget z).elim) e ⟨fun z => hiv (.inl z), fun z => hiv (.inr z)⟩ out) (fun _ => rfl) rfl rfl
  | .lc tg0 s c e own => snd_tP gr (by
    intro F S Γ fps σ env H sh t Γ' Q W h I T
    obtain ⟨r, e1, h⟩ := Option.bind_eq_some_iff.mp h
    split at h
    · cases h
    · rename_i hb
      obtain ⟨Γc, re, Γ3, _, _, _, _, _, rfl, l1, k1, k2, k3, l3, hts, hvs, _⟩ := lcTags_of h
      obtain ⟨j1, j2⟩ := joTs_le k3
      have T : Tri ca F (pureSrc sg s && pureEo sg c && pureE sg e) Γ' .own (ev G (.lc tg0 s c e own) env) S H fps σ Q (fun cls d H => W cls d σ H) := T
      rw [ev_lc] at T
      show wSrc Gm W s σ H fun items ok H1 => lcQ items ok (wTg Gm.K tg0) (wPt Gm c W0) (wP Gm e W0).1 (own.map (·.2)) σ H1 Q
      refine sndSrc gr s F S Γ fps σ env H r.1 r.2 _ W e1 I ?_
      cases h1 : evSrc G s env with
      | bad => rw [h1] at T; exact T
      | ex y env1 =>
        rw [h1] at T
        exact fun S' H' f' cls d I' st' x => ex_tail T l1 I' st' (fun z => by rw [Bool.and_eq_true, Bool.and_eq_true] at z; exact z.1.1) x
      | ok xs env1 =>
        rw [h1, Rs.bind_ok] at T
        intro items okp S1 H1 f1 I1 st1 rl hok stay
        obtain ⟨S2, f2, I2, st2⟩ := I1.weak l1
        have I3 := I2.wiped (vs := own.map (·.2)) (σ2 := σ) (fun i hi => (hvs i hi).1) rfl (fun _ _ => rfl)
        refine lc_run (pb := pureEo sg c && pureE sg e) I3 ((st1.trans st2).weak fun z => by rw [Bool.and_eq_true, Bool.and_eq_true] at z; rw [z.1.1]; rfl) (rl.mono (.of_same st2.gs)) hok (fun S3 H3 f3 st3 sub3 => stay _ _ _ (st2.trans st3).sty sub3 fun z => by
          cases q : (pureEo sg c && pureE sg e) with
          | true => rfl
          | false => exact (hb ⟨z, q⟩).elim) (fun z => by rw [Bool.and_eq_true, Bool.and_eq_true] at z; rw [z.1.2, z.2]; rfl) (fun i hi => by rw [wipeP_get, if_pos hi]) ?_ T
        intro x v env2 S3 H3 f3 I4 hw4 rx K hK
        cases ht : tgP tg0 x env2 with
        | none => rw [ht] at hK; exact hK.elim
        | some env3 =>
          rw [ht] at hK
          have I5 := I4.forget (σ2 := wipe σ (own.map (·.2))) (wipe_length _ _) fun j y hj => wipe_out fun hm => by rw [hw4 j hm] at hj; cases hj
          refine tg_out I5 rx (fun i hi => by
            obtain ⟨a1, a2⟩ := hvs i (hts i hi)
            exact ⟨by rw [a1]; simp, a2⟩) ht fun σ2 Γ2 f4 I6 htg hl hf hf2 hws hlen => ⟨by rw [hws _ hts]; exact wipe_wipe σ, ?_⟩
          have lg : leG Γ2 Γ' := ⟨hl.symm, fun j => by
            rw [htg j]
            split
            · rename_i hj; rw [(hvs j (hts j hj)).1]; rfl
            · exact leT_refl _⟩
          obtain ⟨S4, f5, I7, st7⟩ := I6.weak lg
          have st37 : Stp true S3 H3 f3 S4 H3 f5 := ⟨st7.gs, fun p o e _ => e, fun p h => h, fun i p hp => (st7.fpo i p hp).imp_left (hf i p), fun _ i p hp => by
            by_cases z : p ∈ f4 i
            · exact st7.fpk rfl i p z
            · by_cases hi : i ∈ tgSlots tg0
              · have hn := I5.slot i
                unfold SlotOk at hn
                rw [hw4 i (hts i hi)] at hn
                have hn : f3 i = [] := hn
                rw [hn] at hp; cases hp
              · exact (z (hf2 i p hi hp)).elim, fun p hp => by
            rcases st7.snew p hp with z | z | ⟨i, z⟩
            · exact .inl z
            · exact .inr (.inl z)
            · exact .inr (.inr ⟨i, hf i p z⟩)⟩
          have back : ∀ {Γb env5 S6 H6 f6}, FI ca F S6 Γb f6 σ2 env5 H6 → leG Γb Γ' → ∃ S7 f7, FI ca F S7 Γ' f7 σ (wipeP env5 (own.map (·.2))) H6 ∧ Stp true S6 H6 f6 S7 H6 f7 := fun {Γb env5 S6 H6 f6} I8 lb => by
            obtain ⟨S7, f7, I9, st9⟩ := I8.weak lb
            refine ⟨S7, f7, I9.wiped (vs := own.map (·.2)) (fun i hi => (hvs i hi).1) ?_ fun j hj => ?_, st9⟩
            · rw [hlen, wipe_length]
            · have := congrArg (fun l : L2.St => l[j]?) (hws (own.map (·.2)) hts)
              rw [wipe_out hj, wipe_wipe, wipe_out hj] at this
              exact this.symm
          have hK : (match ((evC G c env3).bind fun k env2 => if k = true then (ev G e env2).bind fun y env3 => .ok (some y) (wipeP env3 (own.map (·.2))) else .ok none (wipeP env2 (own.map (·.2)))) with
            | .ok (some y) env2 => ∀ w S4 H4 f4, FI ca F S4 Γ' f4 σ env2 H4 → (∀ i ∈ own.map (·.2), getS env2 i = none) → Stp (pureEo sg c && pureE sg e) S3 H3 f3 S4 H4 f4 → Rep ca S4 w y → K (some w) H4
            | .ok none env2 => ∀ S4 H4 f4, FI ca F S4 Γ' f4 σ env2 H4 → (∀ i ∈ own.map (·.2), getS env2 i = none) → Stp (pureEo sg c && pureE sg e) S3 H3 f3 S4 H4 f4 → K none H4
            | _ => False) := hK
          have nw : ∀ (env : Env), ∀ i ∈ own.map (·.2), getS (wipeP env (own.map (·.2))) i = none := fun env i hi => by rw [wipeP_get, if_pos hi]
          refine sndC gr c F S4 Γ' f5 σ2 env3 H3 Γc _ W0 k1 I7 ?_
          cases h2 : evC G c env3 with
          | bad => rw [h2] at hK; exact hK
          | ex y env4 => rw [h2] at hK; exact hK.elim
          | ok k env4 =>
            rw [h2, Rs.bind_ok] at hK
            intro S5 H5 f6 I8 st8
            cases k with
            | false =>
              rw [if_neg (by simp)] at hK ⊢
              obtain ⟨S7, f7, I9, st9⟩ := back I8 (j1.trans l3)
              exact hK S7 H5 f7 I9 (nw _) (((st37.trans st8).trans st9).weak fun z => by rw [Bool.and_eq_true] at z; rw [z.1]; rfl)
            | true =>
              rw [if_pos rfl] at hK ⊢
              refine (snd gr e).1 F S5 Γc f6 σ2 env4 H5 true re.1 re.2 _ W0 k2 I8 ?_
              cases h3 : ev G e env4 with
              | bad => rw [h3] at hK; exact hK
              | ex y env5 => rw [h3] at hK; exact hK.elim
              | ok y env5 =>
                rw [h3, Rs.bind_ok] at hK
                intro w S6 H6 f7 fp I9 st9 ok9 fr9
                obtain ⟨S7, I10, sm, rp, nw7⟩ := I9.give ok9 (ck_nb e _ _ _ k2)
                obtain ⟨S8, f8, I11, st11⟩ := back I10 (j2.trans l3)
                have s3 : Stp (pureEo sg c && pureE sg e) S3 H3 f3 S6 H6 f7 := ((st37.trans st8).trans st9).weak fun z => by rw [Bool.and_eq_true] at z; rw [z.1, z.2]; rfl
                have s4 := s3.given sm nw7 fun p hp => none_of (fun p h => st37.dom p h) (none_of st8.dom (fr9 p hp))
                exact hK w S8 H6 f8 I11 (nw _) ((s4.trans st11).weak fun z => by rw [z]; rfl) (rp.mono (.of_same st11.gs))) (fun _ => rfl) rfl rfl
  | .dict _ => snd_tP gr (snd_none rfl) (fun _ => rfl) rfl rfl
  | .fstr _ => snd_tP gr (snd_none rfl) (fun _ => rfl) rfl rfl
  | .skey _ _ => snd_tP gr (snd_none rfl) (fun _ => rfl) rfl rfl
  | .minlen _ => snd_tP gr (snd_none rfl) (fun _ => rfl) rfl rfl
  | .mindef _ _ => snd_tP gr (snd_none rfl) (fun _ => rfl) rfl rfl
  | .symd _ _ => snd_tP gr (snd_none rfl) (fun _ => rfl) rfl rfl
theorem sndC (gr : GR ca G Gm sg) : ∀ (o : OEx) (F : Fr) (S : Hp) (Γ : Tags) (fps : Nat → List Addr) (σ : L2.St) (env : Env) (H : Hp) (Γ' : Tags) (Q : Bool → Hp → Prop) (W : WX), ckC sg o Γ = some Γ' → FI ca F S Γ fps σ env H →
    TriT ca F (pureEo sg o) Γ' (evC G o env) S H fps σ Q (fun cls d H => W cls d σ H) → wPt Gm o W σ H Q
  | .none, F, S, Γ, fps, σ, env, H, Γ', Q, W, h, I, T => by
    unfold ckC at h
    cases h
    exact T S H fps I .refl
  | .some e, F, S, Γ, fps, σ, env, H, Γ', Q, W, h, I, T => by
    unfold ckC at h
    exact (snd gr e).2 F S Γ fps σ env H Γ' Q W h I T
/-- what is walked -/
theorem sndSrc (gr : GR ca G Gm sg) : ∀ (s : Src) (F : Fr) (S : Hp) (Γ : Tags) (fps : Nat → List Addr) (σ : L2.St) (env : Env) (H : Hp) (b : Bool) (Γ' : Tags) (R : List V → (Hp → Prop) → Hp → Prop) (W : WX), ckSrc sg s Γ = some (b, Γ') → FI ca F S Γ fps σ env H →
    TriS ca F (pureSrc sg s) Γ' b (evSrc G s env) S H fps σ R (fun cls d H => W cls d σ H) → wSrc Gm W s σ H R
  | .seq e, F, S, Γ, fps, σ, env, H, b, Γ', R, W, h, I, T => by
    unfold ckSrc at h
    obtain ⟨ra, e1, h⟩ := Option.map_eq_some_iff.mp h
    cases h
    have T : TriS ca F (pureE sg e) ra.2 (isBw ra.1) (evSrc G (.seq e) env) S H fps σ R (fun cls d H => W cls d σ H) := T
    rw [evSrc_seq] at T
    show (wP Gm e W).1 σ H fun x H1 => match x with
      | .str z => R (z.cps.toList.map fun c => V.str ⟨#[c]⟩) (fun _ => True) H1
      | .ref a => (match rd H1 a with
          | some (.lst xs) => R xs (fun H => rd H a = some (.lst xs)) H1
          | some (.tup xs) => R xs (fun H => rd H a = some (.tup xs)) H1
          | _ => False)
      | _ => False
    refine (snd gr e).1 F S Γ fps σ env H false ra.1 ra.2 _ W e1 I ?_
    cases h1 : ev G e env with
    | bad => rw [h1] at T; exact T
    | ex y env1 => rw [h1] at T; exact T
    | ok x env1 =>
      rw [h1, Rs.bind_ok] at T
      intro v S1 H1 f1 fp I1 st1 ok1 fr1
      cases x with
      | str z =>
        rw [see_str (ok1.see I1.sub)]
        exact T _ (fun _ => True) S1 H1 f1 I1 st1 (repL_signs _) trivial fun _ _ _ _ _ _ => trivial
      | lst xs =>
        obtain ⟨p, vs, rfl, q, r⟩ := see_lst (ok1.see I1.sub)
        simp only [q]
        exact T vs (fun H => rd H p = some (.lst vs)) S1 H1 f1 I1 st1 r q fun pu2 S2 H2 st2 sub2 hb => list_stays ok1 (.inl ⟨xs, rfl, q⟩) I1 pu2 S2 H2 st2 sub2 hb _ q (.inl rfl)
      | tup xs =>
        obtain ⟨p, vs, rfl, q, r⟩ := see_tup (ok1.see I1.sub)
        have q2 := I1.sub.rd q
        simp only [q2]
        exact T vs (fun H => rd H p = some (.tup vs)) S1 H1 f1 I1 st1 r q2 fun pu2 S2 H2 st2 sub2 hb => list_stays ok1 (.inr ⟨xs, rfl, q⟩) I1 pu2 S2 H2 st2 sub2 hb _ q2 (.inr rfl)
      | _ => exact T.elim
  | .rng e, F, S, Γ, fps, σ, env, H, b, Γ', R, W, h, I, T => by
    unfold ckSrc at h
    obtain ⟨ra, e1, h⟩ := Option.map_eq_some_iff.mp h
    cases h
    have T : TriS ca F (pureE sg e) ra.2 false (evSrc G (.rng e) env) S H fps σ R (fun cls d H => W cls d σ H) := T
    rw [evSrc_rng] at T
    show (wP Gm e W).1 σ H fun x H1 => match x with
      | .int n => (-(2 ^ 62) ≤ n ∧ n < 2 ^ 62) ∧ R ((List.range n.toNat).map fun k => V.int (k : Nat)) (fun _ => True) H1
      | _ => False
    refine (snd gr e).1 F S Γ fps σ env H false ra.1 ra.2 _ W e1 I ?_
    cases h1 : ev G e env with
    | bad => rw [h1] at T; exact T
    | ex y env1 => rw [h1] at T; exact T
    | ok x env1 =>
      rw [h1, Rs.bind_ok] at T
      intro v S1 H1 f1 fp I1 st1 ok1 fr1
      cases x with
      | int n =>
        rw [see_int (ok1.see I1.sub)]
        dsimp only at T ⊢
        cases q : grd (-(2 ^ 62) ≤ n ∧ n < 2 ^ 62) ((List.range n.toNat).map fun (k : Nat) => PV.int k) with
        | none => rw [q] at T; exact T.elim
        | some l =>
          rw [q] at T
          obtain ⟨hl, rfl⟩ := grd_some q
          exact ⟨hl, T _ (fun _ => True) S1 H1 f1 I1 st1 (repL_ints _) trivial fun _ _ _ _ _ _ => trivial⟩
      | _ => exact T.elim
  | .keys _, F, S, Γ, fps, σ, env, H, b, Γ', R, W, h, I, T => by unfold ckSrc at h; cases h
  | .rng2 _ _, F, S, Γ, fps, σ, env, H, b, Γ', R, W, h, I, T => by unfold ckSrc at h; cases h
  | .rng3 _ _ _, F, S, Γ, fps, σ, env, H, b, Γ', R, W, h, I, T => by unfold ckSrc at h; cases h
  | .rev _, F, S, Γ, fps, σ, env, H, b, Γ', R, W, h, I, T => by unfold ckSrc at h; cases h
  | .enum _, F, S, Γ, fps, σ, env, H, b, Γ', R, W, h, I, T => by unfold ckSrc at h; cases h
  | .enums _ _, F, S, Γ, fps, σ, env, H, b, Γ', R, W, h, I, T => by unfold ckSrc at h; cases h
/-- a part of a slice -/
theorem sndO (gr : GR ca G Gm sg) : ∀ (o : OEx) (F : Fr) (S : Hp) (Γ : Tags) (fps : Nat → List Addr) (σ : L2.St) (env : Env) (H : Hp) (Γ' : Tags) (Q : Option Int → Hp → Prop) (W : WX), ckO sg o Γ = some Γ' → FI ca F S Γ fps σ env H →
    TriO ca F (pureEo sg o) Γ' (evo G o env) S H fps σ Q (fun cls d H => W cls d σ H) → wPo Gm o W σ H Q
  | .none, F, S, Γ, fps, σ, env, H, Γ', Q, W, h, I, T => by
    unfold ckO at h
    cases h
    exact T S H fps I .refl
  | .some e, F, S, Γ, fps, σ, env, H, Γ', Q, W, h, I, T => by
    unfold ckO at h
    obtain ⟨ra, e1, h⟩ := Option.map_eq_some_iff.mp h
    cases h
    have T : TriO ca F (pureE sg e) ra.2 (evo G (.some e) env) S H fps σ Q (fun cls d H => W cls d σ H) := T
    rw [evo_some] at T
    refine (snd gr e).1 F S Γ fps σ env H false ra.1 ra.2 _ W e1 I ?_
    cases h1 : ev G e env with
    | bad => rw [h1] at T; exact T
    | ex y env1 => rw [h1] at T; exact T
    | ok x env1 =>
      rw [h1, Rs.bind_ok] at T
      intro v S1 H1 f1 fp I1 st1 ok1 fr1
      split at T
      · exact ⟨_, see_int (ok1.see I1.sub), T S1 H1 f1 I1 st1⟩
      · exact T.elim
/-- several, that all may know -/
theorem sndL (gr : GR ca G Gm sg) : ∀ (es : Exs) (F : Fr) (S : Hp) (Γ : Tags) (fps : Nat → List Addr) (σ : L2.St) (env : Env) (H : Hp) (Γ' : Tags) (Q : List V → Hp → Prop) (W : WX), ckL sg es Γ = some Γ' → FI ca F S Γ fps σ env H →
    TriL ca F (pureEs sg es) Γ' (evs G es env) S H fps σ (fun S' _ vs xs => RepL ca S' vs xs) Q (fun cls d H => W cls d σ H) → wPs Gm es W σ H Q
  | .nil, F, S, Γ, fps, σ, env, H, Γ', Q, W, h, I, T => by
    unfold ckL at h
    cases h
    exact T [] S H fps I .refl .nil
  | .cons e r, F, S, Γ, fps, σ, env, H, Γ', Q, W, h, I, T => by
    unfold ckL at h
    obtain ⟨p, e1, h⟩ := Option.bind_eq_some_iff.mp h
    have nb := ck_nb e _ _ _ e1
    refine snd_cons (snd gr e).1 e1 (fun z => by rw [nb] at z; cases z) (ckL_le r _ _ h) I (fun env1 S1 H1 f1 Qr I1 T1 => sndL gr r F S1 _ f1 σ env1 H1 Γ' Qr W h I1 T1) (fun v x vs xs env2 S2 H2 f2 fp ok I2 rr => ?_) T
    obtain ⟨S3, I3, sm, rp, nw⟩ := I2.give ok nb
    exact ⟨S3, I3, sm, nw, .cons rp (rr.mono (.of_same sm))⟩
/-- several, that are seen -/
theorem sndR (gr : GR ca G Gm sg) : ∀ (es : Exs) (F : Fr) (S : Hp) (Γ : Tags) (fps : Nat → List Addr) (σ : L2.St) (env : Env) (H : Hp) (n : Nat) (Γ' : Tags) (Q : List V → Hp → Prop) (W : WX), ckR sg es Γ = some (n, Γ') → FI ca F S Γ fps σ env H →
    TriL ca F (pureEs sg es) Γ' (evs G es env) S H fps σ (fun S' H' vs xs => SeeL ca S' H' vs xs ∧ xs.length = n) Q (fun cls d H => W cls d σ H) → wPs Gm es W σ H Q
  | .nil, F, S, Γ, fps, σ, env, H, n, Γ', Q, W, h, I, T => by
    unfold ckR at h
    cases h
    exact T [] S H fps I .refl ⟨by unfold SeeL; rfl, rfl⟩
  | .cons e r, F, S, Γ, fps, σ, env, H, n, Γ', Q, W, h, I, T => by
    unfold ckR at h
    obtain ⟨p, e1, h⟩ := Option.bind_eq_some_iff.mp h
    split at h
    · cases h
    · rename_i hb
      obtain ⟨q, e2, h⟩ := Option.map_eq_some_iff.mp h
      cases h
      refine snd_cons (snd gr e).1 e1 (fun z => by
        cases k : pureEs sg r with
        | true => rfl
        | false => exact (hb ⟨z, k⟩).elim) (ckR_le r _ _ _ e2) I (fun env1 S1 H1 f1 Qr I1 T1 => sndR gr r F S1 _ f1 σ env1 H1 _ _ Qr W e2 I1 T1) (fun v x vs xs env2 S2 H2 f2 fp ok I2 rr => ?_) T
      refine ⟨S2, I2, Same.refl _, fun p hp => .inl hp, ?_, by rw [List.length_cons, rr.2]⟩
      unfold SeeL
      exact ⟨v, vs, rfl, ok.see I2.sub, rr.1⟩
/-- arguments -/
theorem sndA (gr : GR ca G Gm sg) : ∀ (es : Exs) (ps : List Pm) (F : Fr) (S : Hp) (Γ : Tags) (fps : Nat → List Addr) (σ : L2.St) (env : Env) (H : Hp) (Γ' : Tags) (Q : List V → Hp → Prop) (W : WX), noMu ps = true → ckA sg es ps Γ = some Γ' → FI ca F S Γ fps σ env H →
    TriL ca F (pureEs sg es) Γ' (evs G es env) S H fps σ (fun S' H' vs xs => ArgsOk ca S' H' ps vs xs) Q (fun cls d H => W cls d σ H) → wPs Gm es W σ H Q
  | .nil, ps, F, S, Γ, fps, σ, env, H, Γ', Q, W, hn, h, I, T => by
    unfold ckA at h
    split at h
    · rename_i e
      subst e
      cases h
      exact T [] S H fps I .refl (by unfold ArgsOk; exact ⟨rfl, rfl⟩)
    · cases h
  | .cons e r, ps, F, S, Γ, fps, σ, env, H, Γ', Q, W, hn, h, I, T => by
    unfold ckA at h
    split at h
    · rename_i p ps
      obtain ⟨q, e1, h⟩ := Option.bind_eq_some_iff.mp h
      split at h
      · cases h
      · rename_i hb
        simp only [noMu, List.all_cons, Bool.and_eq_true, decide_eq_true_eq] at hn
        refine snd_cons (snd gr e).1 e1 (fun z => by
          cases k : pureEs sg r with
          | true => rfl
          | false => exact (hb ⟨z, k⟩).elim) (ckA_le r _ _ _ h) I (fun env1 S1 H1 f1 Qr I1 T1 => sndA gr r ps F S1 _ f1 σ env1 H1 _ Qr W (by simp only [noMu]; exact hn.2) h I1 T1) (fun v x vs xs env2 S2 H2 f2 fp ok I2 rr => ?_) T
        cases p with
        | mu => exact (hn.1 rfl).elim
        | sh =>
          have nb := ck_nb e _ _ _ e1
          obtain ⟨S3, I3, sm, rp, nw⟩ := I2.give ok nb
          refine ⟨S3, I3, sm, nw, ?_⟩
          unfold ArgsOk
          exact ⟨v, vs, x, xs, rfl, rfl, rp, rr.up sm (Same.refl _)⟩
        | bw =>
          refine ⟨S2, I2, Same.refl _, fun p hp => .inl hp, ?_⟩
          unfold ArgsOk
          exact ⟨v, vs, x, xs, rfl, rfl, ok.see I2.sub, rr⟩
    · cases h
end
end
end Vc

set_option Elab.async false
set_option linter.all false
set_option maxRecDepth 100000
set_option maxHeartbeats 2000000
namespace Vc
open PySem PySem.Spec PyProof.Rows L2
/-! ### statements -/
/-- what the clause wishes: the exception stands in the heap from then on -/
def wTrk (K : PySem.W.Frag) (c : Value) (i : Nat) (ts : Addr → TS) (Wout : WX) (D : Ends) : WX := fun cls d σ H =>
  ∃ b, PySem.W.exmOne K cls c = some b ∧ (b = true → ∀ a, H a = none → ts a { nx := fun σ' H' => D.nx (σ'.set i none) H', rt := D.rt, bk := fun σ' H' => D.bk (σ'.set i none) H', ct := fun σ' H' => D.ct (σ'.set i none) H' } (σ.set i (some (.ref a))) (upd H a (excO a cls d))) ∧
    (b = false → Wout cls d σ H)
/-- what the loop rule asks, of any iterator with these items -/
def forQ (items : List V) (ok : Hp → Prop) (t : TG) (b : TS) : TS := fun D σ H => ∀ J : It, Known J items ok → ∃ W : Nat → Nat → L2.St → Hp → Prop, (∃ m, W 0 m σ H) ∧ ∀ i m σ H, W i m σ H →
      (J.stop i H ∧ D.nx σ H) ∨ (J.go i H ∧ ∃ N : L2.St → Hp → Prop, (∀ σ' H', N σ' H' → ∃ m', m' < m ∧ W (i + 1) m' σ' H') ∧ ∀ x H', J.yld i H x H' → t x σ H' fun σ2 H2 => b { D with nx := N, ct := N, bk := D.nx } σ2 H2)
/-- the loop by an invariant over the items gone through -/
def forR (items : List V) (ok : Hp → Prop) (t : TG) (b : TS) : TS := fun D σ H =>
  ∃ Pv : Nat → L2.St → Hp → Prop, Pv 0 σ H ∧ (∀ i σ H, i ≤ items.length → Pv i σ H → ok H) ∧
    (∀ i x σ H, items[i]? = some x → Pv i σ H → t x σ H fun σ2 H2 => b { D with nx := Pv (i + 1), ct := Pv (i + 1), bk := D.nx } σ2 H2) ∧ ∀ σ H, Pv items.length σ H → D.nx σ H
mutual
def wS (G : Gam) : WX → St → TS
  | W, .set i e => tAsg (wP G e W).1 (gName i)
  | W, .unp is e => tAsg (wP G e W).1 (wTg G.K (.tp is))
  | W, .ex e => tDrop (wP G e W).1
  | W, .ifs c a b => tIfS (wP G c W).2 (wSs G W a) (wSs G W b)
  | W, .fors t s b => fun D σ H => wSrc G W s σ H fun items ok H1 => forQ items ok (wTg G.K t) (wSs G W b) D σ H1
  | W, .whl c b => tWhile (wP G c W).2 (wSs G W b)
  | W, .ret e => tRet (wP G e W).1
  | _, .retn => tRetN
  | W, .raise C _ => fun _ σ H => ∃ a, G.exc C = some (a, none) ∧ W (.ref a) none σ H
  | _, .pass => tNext
  | W, .tr b C (some i) h => fun D σ H => ∃ c, G.cls C = some (.ref c) ∧ wSs G (wTrk G.K (.ref c) i (fun _ => wSs G W0 h) W D) b D σ H
  | W, .tr b C none h => fun D σ H => ∃ c, G.cls C = some (.ref c) ∧ wSs G (wOnly G.K (.ref c) (fun _ _ _ => wSs G W0 h) W D) b D σ H
  | W, .sub a i v => sDPut (wP G a W).1 (wP G i W).1 (wP G v W).1
  | W, .lock s => fun D σ H => tLock (wS G W s) D σ H ∨ wS G W s D σ H
  | W, .setlc i t s c e own => tAsg (wP G (.lc t s c e own) W).1 (gName i)
  | W, .sfld o f v => sFld G.K (wP G o W).1 (wP G v W).1 f
  | _, .raise1 _ _ => fun _ _ _ => False
def wSs (G : Gam) : WX → Sts → TS
  | _, .nil => tNext
  | W, .cons s r => tSeq (wS G W s) (wSs G W r)
end
section
theorem forR_for {J : It} {items : List V} {ok : Hp → Prop} (k : Known J items ok) {t : TG} {b : TS} {D : Ends} {σ : L2.St} {H : Hp} (h : forR items ok t b D σ H) :
    ∃ W : Nat → Nat → L2.St → Hp → Prop, (∃ m, W 0 m σ H) ∧ ∀ i m σ H, W i m σ H →
      (J.stop i H ∧ D.nx σ H) ∨ (J.go i H ∧ ∃ N : L2.St → Hp → Prop, (∀ σ' H', N σ' H' → ∃ m', m' < m ∧ W (i + 1) m' σ' H') ∧ ∀ x H', J.yld i H x H' → t x σ H' fun σ2 H2 => b { D with nx := N, ct := N, bk := D.nx } σ2 H2) := by
  obtain ⟨Pv, h0, hok, hs, hd⟩ := h
  refine ⟨fun i m σ H => m + i = items.length ∧ Pv i σ H, ⟨items.length, rfl, h0⟩, ?_⟩
  rintro i m σ H ⟨em, p⟩
  have o := hok i σ H (by omega) p
  by_cases hlt : i < items.length
  · refine .inr ⟨k.go i H o hlt, Pv (i + 1), fun σ' H' p' => ⟨m - 1, by omega, by omega, p'⟩, fun x H' y => ?_⟩
    obtain ⟨rfl, y2⟩ := k.yld i H x H' o hlt y
    exact hs i x σ _ y2 p
  · have e : i = items.length := by omega
    subst e
    exact .inl ⟨k.stop _ H o (Nat.le_refl _), hd σ H p⟩
theorem forQ_of {items : List V} {ok : Hp → Prop} {t : TG} {b : TS} {D : Ends} {σ : L2.St} {H : Hp} (h : forR items ok t b D σ H) : forQ items ok t b D σ H := fun _ k => forR_for k h
end
end Vc

set_option Elab.async false
set_option linter.all false
set_option maxRecDepth 100000
set_option maxHeartbeats 1000000
namespace Vc
open PySem PySem.Spec PyProof.Rows L2
/-! ### a dict is locked for a loop -/
def Fr.lk (F : Fr) (S : Hp) (a : Addr) (o : HO) : Fr := ⟨upd F.H0 a o, S, F.M.filter fun p => decide (p ≠ a)⟩
/-- where a dict stands that isn't held by this def alone -/
def Held (F : Fr) (S : Hp) (a : Addr) : Prop := S a ≠ none ∨ (F.H0 a ≠ none ∧ a ∉ F.M)
section
variable {ca : CA} {F : Fr} {S S' H H' : Hp} {Γ Γ' : Tags} {fps fps' : Nat → List Addr} {σ σ' : L2.St} {env env' : Env} {a : Addr} {us : List (Key × V)} {od : Obj}
theorem FI.held_not (I : FI ca F S Γ fps σ env H) (h : Held F S a) (i : Nat) : a ∉ fps i := fun hm => by
  obtain ⟨h1, h2⟩ := I.priv i a hm
  rcases h with h | ⟨h, hM⟩
  · exact h h1
  · rcases h2 with h2 | ⟨_, h2⟩
    · exact h h2
    · exact hM h2
theorem ne_mem {p a : Addr} {l : List Addr} (h : p ∈ l) (n : a ∉ l) : p ≠ a := fun z => n (z ▸ h)
theorem rd_upd_frz (ha : H a = some (.dK us)) (p : Addr) : rd (upd H a (.frz od (.dK us))) p = rd H p := by
  by_cases e : p = a
  · subst e
    rw [rd_frz upd_same, rd_of ha]
  · exact rd_congr (upd_ne e)
theorem rg_upd_frz (ha : H a = some (.dK us)) (p : Addr) : rg (upd H a (.frz od (.dK us))) p = rg H p := by
  unfold rg
  rw [rd_upd_frz ha]
  split
  · rename_i C dx fs e
    have : p ≠ a := fun z => by
      subst z
      rw [rd_of ha] at e
      cases e
    exact upd_ne this
  · rfl
theorem rg_upd_dK (ha : H' a = some (.frz od (.dK us))) (p : Addr) : rg (upd H' a (.dK us)) p = rg H' p := by
  have r : rd (upd H' a (.dK us)) p = rd H' p := by
    by_cases e : p = a
    · subst e
      rw [rd_frz ha, rd_of upd_same]
    · exact rd_congr (upd_ne e)
  unfold rg
  rw [r]
  split
  · rename_i C dx fs e
    have : p ≠ a := fun z => by
      subst z
      rw [rd_frz ha] at e
      cases e
    exact upd_ne this
  · rfl
theorem mem_lkM {p : Addr} : p ∈ (F.M.filter fun p => decide (p ≠ a)) ↔ p ∈ F.M ∧ p ≠ a := by
  rw [List.mem_filter, decide_eq_true_eq]
theorem FI.lock (I : FI ca F S Γ fps σ env H) (ha : H a = some (.dK us)) (hp : Held F S a) : FI ca (F.lk S a (.frz od (.dK us))) S Γ fps σ env (upd H a (.frz od (.dK us))) := by
  have hn := fun i => I.held_not hp i
  refine ⟨fun p u e => ?_, Same.refl S, fun p h => .inl h, fun p o e hM => ?_, I.len, I.len2, fun i => ?_, fun i p hm => ?_, I.disj, I.nodup, fun p h => ?_⟩
  · rcases I.sub p u e with z | ⟨o, kvs, rfl, z⟩
    · by_cases e2 : p = a
      · subst e2
        rw [ha] at z
        cases z
        exact .inr ⟨od, us, rfl, upd_same⟩
      · exact .inl (by rw [upd_ne e2]; exact z)
    · have : p ≠ a := fun e2 => by
        subst e2
        rw [ha] at z
        cases z
      exact .inr ⟨o, kvs, rfl, by rw [upd_ne this]; exact z⟩
  · by_cases e2 : p = a
    · subst e2
      have e : upd F.H0 p (.frz od (.dK us)) p = some o := e
      rw [upd_same] at e
      rw [upd_same, e]
    · have e : upd F.H0 a (.frz od (.dK us)) p = some o := e
      rw [upd_ne e2] at e
      rw [upd_ne e2]
      exact I.frame p o e fun z => hM (mem_lkM.mpr ⟨z, e2⟩)
  · have := I.slot i
    unfold SlotOk at this ⊢
    split at this
    · exact this
    · obtain ⟨v, ev, h⟩ := this
      refine ⟨v, ev, ?_⟩
      split at h
      · exact h.mono (.of_same (Same.refl S)) fun p hm o e => by rw [upd_ne (ne_mem hm (hn i))]; exact e
      · exact h.mono (.of_same (Same.refl S)) fun p hm o e => by rw [upd_ne (ne_mem hm (hn i))]; exact e
      · exact h
      · obtain ⟨h1, fb, h2, h3⟩ := h
        refine ⟨h1, fb, h2.mono (.of_same (Same.refl S)) fun p _ o e => by rw [rg_upd_frz ha]; exact e, fun p hm => ?_⟩
        rcases h3 p hm with z | ⟨z1, z2⟩
        · exact .inl z
        · refine .inr ⟨fun z => z1 ?_, fun z => z2 (mem_lkM.mp z).1⟩
          have z : upd F.H0 a (.frz od (.dK us)) p = none := z
          by_cases e2 : p = a
          · subst e2; rw [upd_same] at z; cases z
          · rwa [upd_ne e2] at z
      · exact h
  · obtain ⟨h1, h2⟩ := I.priv i p hm
    have hpa : p ≠ a := ne_mem hm (hn i)
    refine ⟨h1, h2.imp (fun z => ?_) fun z => ⟨z.1, mem_lkM.mpr ⟨z.2, hpa⟩⟩⟩
    show upd F.H0 a _ p = none
    rw [upd_ne hpa]
    exact z
  · by_cases e2 : p = a
    · subst e2; rw [upd_same]; simp
    · rw [upd_ne e2]
      refine I.dom p fun z => h ?_
      show upd F.H0 a _ p = none
      rw [upd_ne e2]
      exact z
/-- what the locked frame tells of the dict at the end -/
theorem lk_at (hf : ∀ p o, (F.lk S a (.frz od (.dK us))).H0 p = some o → p ∉ (F.lk S a (.frz od (.dK us))).M → H' p = some o) : H' a = some (.frz od (.dK us)) :=
  hf a _ (by show upd F.H0 a _ a = _; rw [upd_same]) fun z => (mem_lkM.mp z).2 rfl
theorem lk_sub (I : FI ca F S Γ fps σ env H) (ha : H a = some (.dK us)) (sub : Sub S' H') (grow : Same S S') (new : ∀ p, S' p ≠ none → S p ≠ none ∨ (F.lk S a (.frz od (.dK us))).H0 p = none) (h' : H' a = some (.frz od (.dK us))) : Sub S' (upd H' a (.dK us)) := fun p u e => by
  by_cases e2 : p = a
  · subst e2
    have hS : S p ≠ none := by
      rcases new p (by rw [e]; simp) with z | z
      · exact z
      · have z : upd F.H0 p (.frz od (.dK us)) p = none := z
        rw [upd_same] at z
        cases z
    cases q : S p with
    | none => exact (hS q).elim
    | some w =>
      have := grow p w q
      rw [e] at this
      cases this
      rcases I.sub p u q with z | ⟨o, kvs, rfl, z⟩
      · rw [ha] at z
        cases z
        exact .inl upd_same
      · rw [ha] at z
        cases z
  · rw [upd_ne e2]
    exact sub p u e
theorem lk_new (I : FI ca F S Γ fps σ env H) (new : ∀ p, S' p ≠ none → S p ≠ none ∨ (F.lk S a (.frz od (.dK us))).H0 p = none) : ∀ p, S' p ≠ none → F.S0 p ≠ none ∨ F.H0 p = none := fun p h => by
  rcases new p h with z | z
  · exact I.new p z
  · refine .inr ?_
    have z : upd F.H0 a (.frz od (.dK us)) p = none := z
    by_cases e2 : p = a
    · subst e2; rw [upd_same] at z; cases z
    · rwa [upd_ne e2] at z
theorem lk_frame (I : FI ca F S Γ fps σ env H) (ha : H a = some (.dK us)) (hf : ∀ p o, (F.lk S a (.frz od (.dK us))).H0 p = some o → p ∉ (F.lk S a (.frz od (.dK us))).M → H' p = some o) : ∀ p o, F.H0 p = some o → p ∉ F.M → upd H' a (.dK us) p = some o := fun p o e hM => by
  by_cases e2 : p = a
  · subst e2
    have := I.frame p o e hM
    rw [ha] at this
    rw [upd_same, this]
  · rw [upd_ne e2]
    exact hf p o (by show upd F.H0 a _ p = _; rw [upd_ne e2]; exact e) fun z => hM (mem_lkM.mp z).1
theorem FI.unlock (I : FI ca F S Γ fps σ env H) (ha : H a = some (.dK us)) (hp : Held F S a) (I' : FI ca (F.lk S a (.frz od (.dK us))) S' Γ' fps' σ' env' H') : FI ca F S' Γ' fps' σ' env' (upd H' a (.dK us)) := by
  have h' := lk_at I'.frame
  have hn : ∀ i, a ∉ fps' i := fun i hm => by
    obtain ⟨h1, h2⟩ := I'.priv i a hm
    rcases h2 with h2 | ⟨_, h2⟩
    · have z : upd F.H0 a (.frz od (.dK us)) a = none := h2
      rw [upd_same] at z
      cases z
    · exact (mem_lkM.mp h2).2 rfl
  refine ⟨lk_sub I ha I'.sub I'.grow I'.new h', I.grow.trans I'.grow, lk_new I I'.new, lk_frame I ha I'.frame, I'.len, I'.len2, fun i => ?_, fun i p hm => ?_, I'.disj, I'.nodup, fun p h => ?_⟩
  · have := I'.slot i
    unfold SlotOk at this ⊢
    split at this
    · exact this
    · obtain ⟨v, ev, h⟩ := this
      refine ⟨v, ev, ?_⟩
      split at h
      · exact h.mono (.of_same (Same.refl S')) fun p hm o e => by rw [upd_ne (ne_mem hm (hn i))]; exact e
      · exact h.mono (.of_same (Same.refl S')) fun p hm o e => by rw [upd_ne (ne_mem hm (hn i))]; exact e
      · exact h
      · obtain ⟨h1, fb, h2, h3⟩ := h
        refine ⟨h1, fb, h2.mono (.of_same (Same.refl S')) fun p _ o e => by rw [rg_upd_dK h']; exact e, fun p hm => ?_⟩
        rcases h3 p hm with z | ⟨z1, z2⟩
        · exact .inl z
        · by_cases e2 : p = a
          · subst e2
            rcases hp with hp | hp
            · refine .inl ?_
              cases q : S p with
              | none => exact (hp q).elim
              | some w => rw [I'.grow p w q]; simp
            · exact .inr hp
          · refine .inr ⟨fun z => z1 ?_, fun z => z2 (mem_lkM.mpr ⟨z, e2⟩)⟩
            show upd F.H0 a _ p = none
            rw [upd_ne e2]
            exact z
      · exact h
  · obtain ⟨h1, h2⟩ := I'.priv i p hm
    have hpa : p ≠ a := ne_mem hm (hn i)
    refine ⟨h1, h2.imp (fun z => ?_) fun z => ⟨z.1, (mem_lkM.mp z.2).1⟩⟩
    have z : upd F.H0 a (.frz od (.dK us)) p = none := z
    rwa [upd_ne hpa] at z
  · by_cases e2 : p = a
    · subst e2; rw [upd_same]; simp
    · rw [upd_ne e2]
      refine I'.dom p ?_
      show upd F.H0 a _ p ≠ none
      rw [upd_ne e2]
      exact h
end
end Vc

set_option Elab.async false
set_option linter.all false
set_option maxRecDepth 100000
set_option maxHeartbeats 1000000
namespace Vc
open PySem PySem.Spec PyProof.Rows L2
/-! ### statements: who holds what -/
mutual
def pureS (sg : Sg) : St → Bool
  | .set _ e => pureE sg e
  | .unp _ e => pureE sg e
  | .ex e => pureE sg e
  | .ifs c a b => pureE sg c && pureSs sg a && pureSs sg b
  | .fors _ s b => pureSrc sg s && pureSs sg b
  | .whl c b => pureE sg c && pureSs sg b
  | .ret e => pureE sg e
  | .retn => true
  | .raise _ _ => true
  | .pass => true
  | .tr b _ _ h => pureSs sg b && pureSs sg h
  | .setlc _ t s c e own => pureE sg (.lc t s c e own)
  | .lock s => pureS sg s
  | _ => false
def pureSs (sg : Sg) : Sts → Bool
  | .nil => true
  | .cons s r => pureS sg s && pureSs sg r
end
def bots (Γ : Tags) : Tags := Γ.map fun _ => .bot
def settable (Γ : Tags) (i : Nat) : Bool := decide (tg Γ i ≠ .mu) && decide (i < Γ.length)
/-- the turns of a loop: what stands at its head -/
def loopTags (ts : List Nat) (fb : Tags → Option Tags) (Γ : Tags) : Option Tags :=
  (fb (setSh ts Γ)).bind fun Γ2 => (joTs Γ Γ2).bind fun J => (fb (setSh ts J)).bind fun Γ3 => (joTs J Γ3).bind fun J2 => (fb (setSh ts J2)).bind fun Γ4 =>
    if leGB Γ J2 = true ∧ leGB Γ4 J2 = true ∧ ts.all (settable J2) = true then some J2 else none
/-- the suite of a try that a clause may follow: one assignment, one expression, one answer -/
def oneE : Sts → Option (St × Ex)
  | .cons (.set i e) .nil => some (.set i e, e)
  | .cons (.ex e) .nil => some (.ex e, e)
  | _ => none
/-- a dict by its slot -/
def keyV : Src → Option Nat
  | .keys (.v i) => some i
  | _ => none
theorem keyV_of {r : Src} {i : Nat} (h : keyV r = some i) : r = .keys (.v i) := by
  unfold keyV at h
  split at h
  · cases h; rfl
  · cases h
def shOwn (Γ : Tags) (i : Nat) : Tags := if tg Γ i = .own then Γ.set i .sh else Γ
mutual
def ckT' (sg : Sg) (ro : Bool) : St → Tags → Option Tags
  | .set i e, Γ => ((ckX sg e).1 true Γ).bind fun r => if settable r.2 i = true then some (r.2.set i (if r.1 = .own then .own else .sh)) else none
  | .setlc i t s c e own, Γ => ((ckX sg (.lc t s c e own)).1 true Γ).bind fun r => if settable r.2 i = true then some (r.2.set i (if r.1 = .own then .own else .sh)) else none
  | .unp is e, Γ => ((ckX sg e).1 true Γ).bind fun r => if is.all (settable r.2) = true then some (setSh is r.2) else none
  | .ex e, Γ => ((ckX sg e).1 false Γ).map (·.2)
  | .ifs c a b, Γ => ((ckX sg c).2 Γ).bind fun Γ1 => (ckTs' sg ro a Γ1).bind fun Γa => (ckTs' sg ro b Γ1).bind fun Γb => joTs Γa Γb
  | .fors t s b, Γ => (ckSrc sg s Γ).bind fun r => if r.1 = true ∧ pureSs sg b = false then none else loopTags (tgSlots t) (ckTs' sg ro b) r.2
  | .whl c b, Γ => (loopTags [] (fun Γ => ((ckX sg c).2 Γ).bind fun Γ1 => ckTs' sg ro b Γ1) Γ).bind fun J => (ckX sg c).2 J
  | .ret e, Γ => if ro = true then (match e with
      | .v i => if tg Γ i = .own then some (bots Γ) else none
      | _ => ((ckX sg e).1 false Γ).bind fun r => if r.1 = .own then some (bots Γ) else none)
      else ((ckX sg e).1 true Γ).map fun _ => bots Γ
  | .retn, Γ => some (bots Γ)
  | .raise _ _, Γ => some (bots Γ)
  | .pass, Γ => some Γ
  | .tr b C n h, Γ => if decide (C ∈ sg.tr) = true then (ckTs' sg ro b Γ).bind fun Γa => (oneE b).bind fun se => ((ckX sg se.2).1 (match se.1 with
        | .set _ _ => true
        | _ => false) Γ).bind fun r => (match n with
      | some i => if settable r.2 i = true then (ckTs' sg ro h (r.2.set i .sh)).bind fun Γh => if settable Γh i = true then joTs Γa (Γh.set i .sh) else none else none
      | none => (ckTs' sg ro h r.2).bind fun Γh => joTs Γa Γh) else none
  | .sub a i v, Γ => (match a with
      | .v j => ((ckX sg v).1 true Γ).bind fun r => if pureE sg i = true then ((ckX sg i).1 false r.2).bind fun r2 => if tg r2.2 j = .own then some r2.2 else none else none
      | _ => none)
  | .lock s, Γ => ckK sg ro s Γ
  | _, _ => none
def ckK (sg : Sg) (ro : Bool) : St → Tags → Option Tags
  | .fors t r b, Γ => (keyV r).bind fun i => if tg (shOwn Γ i) i = .sh ∨ tg (shOwn Γ i) i = .bw then loopTags (tgSlots t) (ckTs' sg ro b) (shOwn Γ i) else none
  | _, _ => none
def ckTs' (sg : Sg) (ro : Bool) : Sts → Tags → Option Tags
  | .nil, Γ => some Γ
  | .cons s r, Γ => (ckT' sg ro s Γ).bind fun Γ1 => ckTs' sg ro r Γ1
end
structure Sst (pu : Bool) (S H : Hp) (fps : Nat → List Addr) (S' H' : Hp) (fps' : Nat → List Addr) : Prop where
  gs : Same S S'
  keep : ∀ p o, H p = some o → (pu = true ∨ ∀ i, p ∉ fps i) → H' p = some o
  dom : ∀ p, H p ≠ none → H' p ≠ none
  fpo : ∀ i p, p ∈ fps' i → p ∈ fps i ∨ H p = none
/-- what stands at a def's end -/
structure Fin (F : Fr) (S H : Hp) : Prop where
  sub : Sub S H
  grow : Same F.S0 S
  new : ∀ p, S p ≠ none → F.S0 p ≠ none ∨ F.H0 p = none
  frame : ∀ p o, F.H0 p = some o → p ∉ F.M → H p = some o
def RetOk (ro : Bool) (ca : CA) (F : Fr) (S H : Hp) (v : V) (x : PV) (fp : List Addr) : Prop :=
  match ro with
  | true => BR ca S H v x fp ∧ fp.Nodup ∧ ∀ p ∈ fp, S p = none ∧ F.H0 p = none
  | false => fp = [] ∧ Rep ca S v x
def TriB (ca : CA) (F : Fr) (pu : Bool) (Γ : Tags) (ro : Bool) (r : Rs Fl) (S H : Hp) (fps : Nat → List Addr) (D : Ends) (W : WX) : Prop :=
  match r with
  | .ok .nx env' => ∀ σ' S' H' fps', FI ca F S' Γ fps' σ' env' H' → Sst pu S H fps S' H' fps' → D.nx σ' H'
  | .ok (.ret x) env' => ∀ v S' H' fp, Fin F S' H' → RetOk ro ca F S' H' v x fp → D.rt v H'
  | .ex e env' => ∀ σ' S' H' cls d, Fin F S' H' → ExRep ca S' H' cls d e → W cls d σ' H'
  | .bad => False
section
variable {ca : CA} {F : Fr} {S S' S2 H H' H2 : Hp} {Γ Γ' Γ2 : Tags} {fps fps' fps2 : Nat → List Addr} {σ : L2.St} {env env' : Env} {pu pu' pq : Bool} {Q : VK} {v w : V} {W : WX} {G : PGm} {Gm : Gam} {sg : Sg} {ro : Bool} {D : Ends}
theorem FI.fin (I : FI ca F S Γ fps σ env H) : Fin F S H := ⟨I.sub, I.grow, I.new, I.frame⟩
theorem Stp.sst (h : Stp pu S H fps S' H' fps') : Sst pu S H fps S' H' fps' := ⟨h.gs, h.keep, h.dom, h.fpo⟩
theorem Sst.refl : Sst pu S H fps S H fps := Stp.refl.sst
theorem Sst.sty (h : Sst pu S H fps S' H' fps') : Sty pu S H fps S' H' := ⟨h.gs, h.keep⟩
theorem Sst.trans (a : Sst pu S H fps S' H' fps') (b : Sst pu' S' H' fps' S2 H2 fps2) : Sst (pu && pu') S H fps S2 H2 fps2 where
  gs := a.gs.trans b.gs
  keep := fun p o e k => by
    have e1 := a.keep p o e (by
      rcases k with k | k
      · rw [Bool.and_eq_true] at k; exact .inl k.1
      · exact .inr k)
    refine b.keep p o e1 ?_
    rcases k with k | k
    · rw [Bool.and_eq_true] at k; exact .inl k.2
    · refine .inr fun i hp => ?_
      rcases a.fpo i p hp with z | z
      · exact k i z
      · rw [z] at e; cases e
  dom := fun p h => b.dom p (a.dom p h)
  fpo := fun i p hp => by
    rcases b.fpo i p hp with z | z
    · exact a.fpo i p z
    · exact .inr (none_of a.dom z)
theorem Sst.weak (h : Sst pu S H fps S' H' fps') (k : pu' = true → pu = true) : Sst pu' S H fps S' H' fps' :=
  ⟨h.gs, fun p o e z => h.keep p o e (z.imp_left k), h.dom, h.fpo⟩
theorem TriB.sub {r : Rs Fl} (T : TriB ca F pu Γ' ro r S H fps D W) (le : leG Γ2 Γ') (st : Sst pu' S H fps S2 H2 fps2) (k : pu = true → pu' = true ∧ pq = true) : TriB ca F pq Γ2 ro r S2 H2 fps2 D W := by
  cases r with
  | bad => exact T
  | ex e env1 => exact T
  | ok f env1 =>
    cases f with
    | ret x => exact T
    | nx =>
      intro σ' S' H' f' I' st'
      obtain ⟨S3, f3, I3, st3⟩ := I'.weak le
      exact T σ' S3 H' f3 I3 (((st.trans st').trans st3.sst).weak fun z => by rw [(k z).1, (k z).2]; rfl)
/-- a statement's exception, from an expression's -/
theorem TriB.exE {e : PV} {env1 : Env} {t : ET} {Q2 : VK} {Γx : Tags} {S3 H3 : Hp} {f3 : Nat → List Addr} {p3 : Bool} (T : TriB ca F pu Γ' ro (.ex e env1) S H fps D W) : Tri ca F p3 Γx t (.ex e env1) S3 H3 f3 σ Q2 (fun cls d H => W cls d σ H) :=
  fun S' H' f' cls d I' st' x => T σ S' H' cls d I'.fin x
theorem TriB.exT {e : PV} {env1 : Env} {Q2 : Bool → Hp → Prop} {Γx : Tags} {S3 H3 : Hp} {f3 : Nat → List Addr} {p3 : Bool} (T : TriB ca F pu Γ' ro (.ex e env1) S H fps D W) : TriT ca F p3 Γx (.ex e env1) S3 H3 f3 σ Q2 (fun cls d H => W cls d σ H) :=
  fun S' H' f' cls d I' st' x => T σ S' H' cls d I'.fin x
theorem TriB.exS {e : PV} {env1 : Env} {bw : Bool} {R : List V → (Hp → Prop) → Hp → Prop} {Γx : Tags} {S3 H3 : Hp} {f3 : Nat → List Addr} {p3 : Bool} (T : TriB ca F pu Γ' ro (.ex e env1) S H fps D W) : TriS ca F p3 Γx bw (.ex e env1) S3 H3 f3 σ R (fun cls d H => W cls d σ H) :=
  fun S' H' f' cls d I' st' x => T σ S' H' cls d I'.fin x
theorem ck_own_nb {e : Ex} {t : ET} (h : (ckX sg e).1 true Γ = some (t, Γ')) (ds : List Nat) : t ≠ .bw ds := fun z => by
  have := ck_nb e _ _ _ h
  rw [z] at this
  cases this
theorem settable_of {i : Nat} (h : settable Γ i = true) : tg Γ i ≠ .mu ∧ i < Γ.length := by
  unfold settable at h
  rw [Bool.and_eq_true] at h
  exact ⟨of_decide_eq_true h.1, of_decide_eq_true h.2⟩
/-- x = e -/
theorem snd_set {i : Nat} {te : TE} {ge : Env → Rs PV} {pe : Bool} {r : ET × Tags} (hc : ∀ ds, r.1 ≠ .bw ds) (hs : settable r.2 i = true) (I : FI ca F S Γ fps σ env H)
    (he : ∀ (Q : VK), Tri ca F pe r.2 r.1 (ge env) S H fps σ Q (fun cls d H => W cls d σ H) → te σ H Q)
    (T : TriB ca F pe (r.2.set i (if r.1 = .own then .own else .sh)) ro ((ge env).bind fun x env => .ok .nx (env.set i (some x))) S H fps D W) : tAsg te (gName i) D σ H := by
  refine he _ ?_
  cases h1 : ge env with
  | bad => rw [h1] at T; exact T
  | ex y env1 => rw [h1] at T; exact T.exE
  | ok x env1 =>
    rw [h1, Rs.bind_ok] at T
    intro v S1 H1 f1 fp I1 st1 ok1 fr1
    obtain ⟨h1, h2⟩ := settable_of hs
    have I2 := I1.put h2 h1 ok1 hc
    refine T _ S1 H1 _ I2 ⟨st1.gs, st1.keep, st1.dom, fun j p hp => ?_⟩
    by_cases z : j = i
    · subst z; rw [fset_same] at hp; exact .inr (fr1 p hp)
    · rw [fset_ne z] at hp; exact st1.fpo j p hp
theorem setSh_len : ∀ (vs : List Nat) (Γ : Tags), (setSh vs Γ).length = Γ.length
  | [], Γ => rfl
  | i :: vs, Γ => by
    show (setSh vs (Γ.set i .sh)).length = _
    rw [setSh_len vs, List.length_set]
theorem tg_setSh {j : Nat} : ∀ (vs : List Nat) (Γ : Tags), (∀ i ∈ vs, i < Γ.length) → tg (setSh vs Γ) j = if j ∈ vs then .sh else tg Γ j
  | [], Γ, _ => by simp [setSh]
  | i :: vs, Γ, h => by
    show tg (setSh vs (Γ.set i .sh)) j = _
    rw [tg_setSh vs _ fun k hk => by rw [List.length_set]; exact h k (List.mem_cons_of_mem _ hk)]
    by_cases h1 : j ∈ vs
    · rw [if_pos h1, if_pos (List.mem_cons_of_mem _ h1)]
    · rw [if_neg h1]
      by_cases h2 : j = i
      · subst h2
        rw [tg_same (h j List.mem_cons_self), if_pos List.mem_cons_self]
      · rw [tg_ne h2, if_neg]
        intro z
        rcases List.mem_cons.mp z with z | z
        · exact h2 z
        · exact h1 z
theorem loopTags_of {ts : List Nat} {f : Tags → Option Tags} (h : loopTags ts f Γ = some Γ') : ∃ Γ4, leG Γ Γ' ∧ f (setSh ts Γ') = some Γ4 ∧ leG Γ4 Γ' ∧ ∀ i ∈ ts, tg Γ' i ≠ .mu ∧ i < Γ'.length := by
  unfold loopTags at h
  obtain ⟨_, _, h⟩ := Option.bind_eq_some_iff.mp h
  obtain ⟨_, _, h⟩ := Option.bind_eq_some_iff.mp h
  obtain ⟨_, _, h⟩ := Option.bind_eq_some_iff.mp h
  obtain ⟨_, _, h⟩ := Option.bind_eq_some_iff.mp h
  obtain ⟨Γ4, e, h⟩ := Option.bind_eq_some_iff.mp h
  split at h
  · rename_i hc
    obtain ⟨c1, c2, c3⟩ := hc
    cases h
    exact ⟨Γ4, leGB_of c1, e, leGB_of c2, fun i hi => settable_of (List.all_eq_true.mp c3 i hi)⟩
  · cases h
/-- a for's turns -/
theorem for_run {items : List V} {xs : List PV} {okp : Hp → Prop} {t : Tg} {K : PySem.W.Frag} {tb : TS} {turn : Env → Rs Fl} {pb : Bool} {env0 : Env} {Γ4 : Tags} (I : FI ca F S2 Γ' fps2 σ env0 H2) (hi : RepL ca S2 items xs)
    (stay : ∀ S3 H3, Sty pb S2 H2 fps2 S3 H3 → Sub S3 H3 → okp H3) (hst : Sst pu S H fps S2 H2 fps2) (hpb : pu = true → pb = true) (hts : ∀ i ∈ tgSlots t, tg Γ' i ≠ .mu ∧ i < Γ'.length) (l4 : leG Γ4 Γ')
    (body : ∀ S3 f3 σ3 env3 H3 (D3 : Ends), FI ca F S3 (setSh (tgSlots t) Γ') f3 σ3 env3 H3 → TriB ca F pb Γ4 ro (turn env3) S3 H3 f3 D3 W → tb D3 σ3 H3)
    (T : TriB ca F pu Γ' ro (forP (fun x env => (opt (tgP t x env) env).bind fun env1 _ => turn env1) xs env0) S H fps D W) : forQ items okp (wTg K t) tb D σ H2 := by
  refine forQ_of ⟨fun i σ1 H1 => ∃ S1 f1 env1, FI ca F S1 Γ' f1 σ1 env1 H1 ∧ Sst pb S2 H2 fps2 S1 H1 f1 ∧ TriB ca F pu Γ' ro (forP (fun x env => (opt (tgP t x env) env).bind fun env1 _ => turn env1) (xs.drop i) env1) S H fps D W, ⟨S2, fps2, env0, I, .refl, T⟩, ?_, ?_, ?_⟩
  · rintro i σ1 H1 _ ⟨S1, f1, env1, I1, st1, _⟩
    exact stay S1 H1 st1.sty I1.sub
  · rintro i v σ1 H1 hv ⟨S1, f1, env1, I1, st1, T1⟩
    obtain ⟨x, hx, rx⟩ := hi.get' hv
    have hlx : i < xs.length := (List.getElem?_eq_some_iff.mp hx).1
    have ed : xs.drop i = x :: xs.drop (i + 1) := by
      rw [List.drop_eq_getElem_cons hlx]
      rw [List.getElem?_eq_getElem hlx] at hx
      cases hx
      rfl
    rw [ed] at T1
    unfold forP at T1
    cases ht : tgP t x env1 with
    | none => rw [ht] at T1; exact T1.elim
    | some env2 =>
      rw [ht] at T1
      have T1 : TriB ca F pu Γ' ro ((turn env2).bind fun f env' => match f with
        | .nx => forP (fun x env => (opt (tgP t x env) env).bind fun env1 _ => turn env1) (xs.drop (i + 1)) env'
        | .ret y => .ok (.ret y) env') S H fps D W := T1
      refine tg_out I1 (rx.mono (.of_same st1.gs)) hts ht fun σ2 Γ2 f2 I2 htg hl hf hf2 _ _ => ?_
      have lg : leG Γ2 (setSh (tgSlots t) Γ') := ⟨by rw [setSh_len, hl], fun j => by
        rw [htg j, tg_setSh _ _ fun k hk => (hts k hk).2]
        exact leT_refl _⟩
      obtain ⟨S3, f3, I3, st3⟩ := I2.weak lg
      refine body S3 f3 σ2 env2 H1 _ I3 ?_
      cases h1 : turn env2 with
      | bad => rw [h1] at T1; exact T1
      | ex e env3 => rw [h1] at T1; exact T1
      | ok f env3 =>
        rw [h1, Rs.bind_ok] at T1
        cases f with
        | ret y => exact T1
        | nx =>
          intro σ4 S4 H4 f4 I4 st4
          obtain ⟨S5, f5, I5, st5⟩ := I4.weak l4
          have s13 : Sst true S1 H1 f1 S3 H1 f3 := ⟨st3.gs, fun p o e _ => e, fun p h => h, fun j p hp => (st3.fpo j p hp).imp_left (hf j p)⟩
          exact ⟨S5, f5, env3, I5, (((st1.trans s13).trans st4).trans st5.sst).weak fun z => by rw [z]; rfl, T1⟩
  · rintro σ1 H1 ⟨S1, f1, env1, I1, st1, T1⟩
    have : xs.drop items.length = [] := List.drop_eq_nil_of_le (by rw [hi.length]; exact Nat.le_refl _)
    rw [this] at T1
    unfold forP at T1
    exact T1 σ1 S1 H1 f1 I1 ((hst.trans st1).weak fun z => by rw [z, hpb z]; rfl)
/-- a while's turns -/
theorem whl_run {c : Env → Rs Bool} {tc : TT} {tb : TS} {turn : Env → Rs Fl} {n : Nat} {env0 : Env} {Γc Γ4 : Tags} {p1 p2 : Bool} (I : FI ca F S2 Γ' fps2 σ env0 H2) (hst : Sst pu S H fps S2 H2 fps2) (hp : pu = true → p1 = true ∧ p2 = true) (l4 : leG Γ4 Γ')
    (cond : ∀ S3 f3 σ3 env3 H3 (Q : Bool → Hp → Prop), FI ca F S3 Γ' f3 σ3 env3 H3 → TriT ca F p1 Γc (c env3) S3 H3 f3 σ3 Q (fun cls d H => W cls d σ3 H) → tc σ3 H3 Q)
    (body : ∀ S3 f3 σ3 env3 H3 (D3 : Ends), FI ca F S3 Γc f3 σ3 env3 H3 → TriB ca F p2 Γ4 ro (turn env3) S3 H3 f3 D3 W → tb D3 σ3 H3)
    (T : TriB ca F pu Γc ro (whlP c turn n env0) S H fps D W) : tWhile tc tb D σ H2 := by
  refine ⟨fun m σ1 H1 => ∃ S1 f1 env1, FI ca F S1 Γ' f1 σ1 env1 H1 ∧ Sst pu S H fps S1 H1 f1 ∧ TriB ca F pu Γc ro (whlP c turn m env1) S H fps D W, ⟨n, S2, fps2, env0, I, hst, T⟩, ?_⟩
  rintro m σ1 H1 ⟨S1, f1, env1, I1, st1, T1⟩
  cases m with
  | zero => exact T1.elim
  | succ m =>
    unfold whlP at T1
    refine cond S1 f1 σ1 env1 H1 _ I1 ?_
    cases h1 : c env1 with
    | bad => rw [h1] at T1; exact T1
    | ex e env2 => rw [h1] at T1; exact T1.exT
    | ok k env2 =>
      rw [h1, Rs.bind_ok] at T1
      intro S3 H3 f3 I3 st3
      have st13 : Sst pu S H fps S3 H3 f3 := (st1.trans st3.sst).weak fun z => by rw [z, (hp z).1]; rfl
      cases k with
      | false =>
        rw [if_neg (by simp)] at T1 ⊢
        exact T1 σ1 S3 H3 f3 I3 st13
      | true =>
        rw [if_pos rfl] at T1 ⊢
        refine ⟨fun σ' H' => ∃ S1 f1 env1, FI ca F S1 Γ' f1 σ' env1 H' ∧ Sst pu S H fps S1 H' f1 ∧ TriB ca F pu Γc ro (whlP c turn m env1) S H fps D W, fun σ' H' h => ⟨m, by omega, h⟩, ?_⟩
        refine body S3 f3 σ1 env2 H3 _ I3 ?_
        cases h2 : turn env2 with
        | bad => rw [h2] at T1; exact T1
        | ex e env3 => rw [h2] at T1; exact T1
        | ok f env3 =>
          rw [h2, Rs.bind_ok] at T1
          cases f with
          | ret y => exact T1
          | nx =>
            intro σ4 S4 H4 f4 I4 st4
            obtain ⟨S5, f5, I5, st5⟩ := I4.weak l4
            exact ⟨S5, f5, env3, I5, ((st13.trans st4).trans st5.sst).weak fun z => by rw [z, (hp z).2]; rfl, T1⟩
theorem retOk {t : ET} {x : PV} {fp : List Addr} (ok : EOk ca F S H fps t v x fp) (ht : t = if ro = true then .own else .sh) : RetOk ro ca F S H v x fp := by
  subst ht
  cases ro with
  | true => exact ⟨ok.1, ok.2.1, fun p hp => ⟨(ok.2.2 p hp).1, (ok.2.2 p hp).2.1⟩⟩
  | false => exact ok
/-- d[i] = v -/
theorem dput_run {j : Nat} {kvs : List (Key × PV)} {k : Key} {y : PV} {w u : V} (I : FI ca F S Γ fps σ env H) (ht : tg Γ j = .own) (hx : getS env j = some (.dic kvs)) (hl : kvs.length < sizeLine) (hw : Rep ca S w y) (hu : u = kV k) :
    ∃ v a H4, σ[j]? = some (some v) ∧ v = .ref a ∧ DPut H a u w H4 ∧ FI ca F S Γ fps σ (env.set j (some (.dic (dput kvs k y)))) H4 ∧ Stp false S H fps S H4 fps := by
  obtain ⟨v, hv, hS⟩ := slot_of I hx
  rw [ht] at hS
  have hS : BR ca S H v (.dic kvs) (fps j) := hS
  unfold BR at hS
  obtain ⟨p, us, rfl, ef, ep, er⟩ := hS
  subst hu
  have hlu : us.length < sizeLine := by rw [er.length]; exact hl
  obtain ⟨I2, st2⟩ := I.cell (o := .dK (putK us k w)) (x' := .dic (dput kvs k y)) (.inl ht) hv ef (getS_lt hx) (by rw [ep]; simp) (by
    unfold BR
    exact ⟨p, _, rfl, rfl, upd_same, er.put hw⟩)
  exact ⟨_, p, _, hv, rfl, DPut.k ep hlu, I2, st2⟩
def hdlR (Gm : Gam) (n : Option Nat) (h0 : Sts) (D : Ends) (a : Addr) (cls : Value) (d : Option Addr) (σ : L2.St) (H' : Hp) : Prop :=
  match n with
  | some i => wSs Gm W0 h0 { nx := fun σ' H' => D.nx (σ'.set i none) H', rt := D.rt, bk := fun σ' H' => D.bk (σ'.set i none) H', ct := fun σ' H' => D.ct (σ'.set i none) H' } (σ.set i (some (.ref a))) (upd H' a (excO a cls d))
  | none => wSs Gm W0 h0 D σ H'
def wTry (Gm : Gam) (c : Addr) (n : Option Nat) (h0 : Sts) (W : WX) (D : Ends) : WX :=
  match n with
  | some i => wTrk Gm.K (.ref c) i (fun _ => wSs Gm W0 h0) W D
  | none => wOnly Gm.K (.ref c) (fun _ _ _ => wSs Gm W0 h0) W D
theorem oneE_of {b : Sts} {se : St × Ex} (h : oneE b = some se) : (∃ i e, b = .cons (.set i e) .nil ∧ se = (.set i e, e)) ∨ ∃ e, b = .cons (.ex e) .nil ∧ se = (.ex e, e) := by
  unfold oneE at h
  split at h
  · cases h; exact .inl ⟨_, _, rfl, rfl⟩
  · cases h; exact .inr ⟨_, rfl, rfl⟩
  · cases h
/-! a loop over a dict -/
def unl (D : Ends) (a : Addr) (od : Obj) (u : HO) : Ends := ⟨fun σ' H' => H' a = some (.frz od u) ∧ D.nx σ' (upd H' a u), fun v H' => H' a = some (.frz od u) ∧ D.rt v (upd H' a u), fun σ' H' => H' a = some (.frz od u) ∧ D.bk σ' (upd H' a u), fun σ' H' => H' a = some (.frz od u) ∧ D.ct σ' (upd H' a u)⟩
theorem Sst.unlock {a : Addr} {us : List (Key × V)} {od : Obj} {f : Nat → List Addr} (ha : H a = some (.dK us)) (st : Sst pu S (upd H a (.frz od (.dK us))) fps S' H' f) : Sst pu S H fps S' (upd H' a (.dK us)) f where
  gs := st.gs
  keep := fun p o e k => by
    by_cases z : p = a
    · subst z
      rw [ha] at e
      rw [upd_same, e]
    · rw [upd_ne z]
      exact st.keep p o (by rw [upd_ne z]; exact e) k
  dom := fun p h => by
    by_cases z : p = a
    · subst z; rw [upd_same]; simp
    · rw [upd_ne z]
      exact st.dom p (by rw [upd_ne z]; exact h)
  fpo := fun i p hp => by
    rcases st.fpo i p hp with z | z
    · exact .inl z
    · refine .inr ?_
      by_cases e : p = a
      · subst e; rw [upd_same] at z; cases z
      · rwa [upd_ne e] at z
theorem TriB.lock {r : Rs Fl} {a : Addr} {us : List (Key × V)} {od : Obj} (I : FI ca F S Γ fps σ env H) (ha : H a = some (.dK us)) (hp : Held F S a) (T : TriB ca F pu Γ' ro (noEx r) S H fps D W) :
    TriB ca (F.lk S a (.frz od (.dK us))) pu Γ' ro r S (upd H a (.frz od (.dK us))) fps (unl D a od (.dK us)) W := by
  cases r with
  | bad => exact T
  | ex e env1 => exact (show False from T).elim
  | ok f env1 =>
    cases f with
    | nx =>
      intro σ' S' H' f' I' st'
      exact ⟨lk_at I'.frame, T σ' S' _ f' (I.unlock ha hp I') (st'.unlock ha)⟩
    | ret x =>
      intro v S' H' fp fin ok
      have h' := lk_at fin.frame
      refine ⟨h', T v S' _ fp ⟨lk_sub I ha fin.sub fin.grow fin.new h', I.grow.trans fin.grow, lk_new I fin.new, lk_frame I ha fin.frame⟩ ?_⟩
      cases ro with
      | false => exact ok
      | true =>
        obtain ⟨h1, h2, h3⟩ := ok
        have hn : ∀ p ∈ fp, p ≠ a := fun p hm z => by
          subst z
          have q : upd F.H0 p (.frz od (.dK us)) p = none := (h3 p hm).2
          rw [upd_same] at q
          cases q
        refine ⟨h1.mono (.of_same (Same.refl S')) fun p hm o e => by rw [upd_ne (hn p hm)]; exact e, h2, fun p hm => ⟨(h3 p hm).1, ?_⟩⟩
        have q : upd F.H0 a (.frz od (.dK us)) p = none := (h3 p hm).2
        rwa [upd_ne (hn p hm)] at q
theorem noEx_bind {α : Type} {r : Rs α} (h : ∀ e env, r ≠ .ex e env) : noEx r = r := by
  cases r <;> first | rfl | exact (h _ _ rfl).elim
theorem TriB.free {r : Rs Fl} (T : TriB ca F pu Γ' ro (noEx r) S H fps D W) : TriB ca F pu Γ' ro r S H fps D W := by
  cases r with
  | bad => exact T
  | ex e env1 => exact (show False from T).elim
  | ok f env1 => exact T
theorem shOwn_le (Γ : Tags) (i : Nat) : leG Γ (shOwn Γ i) := by
  unfold shOwn
  split
  · rename_i h
    exact leG.set (by rw [h]; rfl)
  · exact leG.refl _
/-- the dict that a slot holds for others, too -/
theorem slot_dic {i : Nat} {kvs : List (Key × PV)} (I : FI ca F S Γ fps σ env H) (ht : tg Γ i = .sh ∨ tg Γ i = .bw) (e : getS env i = some (.dic kvs)) : ∃ a us, σ[i]? = some (some (.ref a)) ∧ rd H a = some (.dK us) ∧ RepK ca S us kvs ∧ Held F S a := by
  have := I.slot i
  unfold SlotOk at this
  rw [e] at this
  obtain ⟨v, ev, h⟩ := this
  rcases ht with ht | ht
  · rw [ht] at h
    obtain ⟨_, h⟩ := h
    unfold Rep at h
    obtain ⟨a, us, rfl, h1, h2⟩ := h
    refine ⟨a, us, ev, I.sub.rd h1, h2, .inl fun z => ?_⟩
    rw [rd_none z] at h1
    cases h1
  · rw [ht] at h
    obtain ⟨_, fb, h, h3⟩ := h
    unfold BR at h
    obtain ⟨a, us, rfl, rfl, h1, h2⟩ := h
    exact ⟨a, us, ev, rg_rd h1, h2, h3 a List.mem_cons_self⟩
theorem rd_cases {a : Addr} {us : List (Key × V)} (h : rd H a = some (.dK us)) : H a = some (.dK us) ∨ ∃ o, H a = some (.frz o (.dK us)) := by
  unfold rd at h
  split at h
  · rename_i o u e
    cases h
    exact .inr ⟨o, e⟩
  · exact .inl h
theorem Held.up {a' : Addr} (h : Held F S a') (sm : Same S S') : Held F S' a' := h.imp_left fun z q => by
  cases e : S a' with
  | none => exact z e
  | some o => rw [sm a' o e] at q; cases q
mutual
theorem sndS (gr : GR ca G Gm sg) : ∀ (s : St) (F : Fr) (S : Hp) (Γ : Tags) (fps : Nat → List Addr) (σ : L2.St) (env : Env) (H : Hp) (ro : Bool) (Γ' : Tags) (D : Ends) (W : WX), ckT' sg ro s Γ = some Γ' → FI ca F S Γ fps σ env H →
    TriB ca F (pureS sg s) Γ' ro (run G s env) S H fps D W → wS Gm W s D σ H
  | .set i e, F, S, Γ, fps, σ, env, H, ro, Γ', D, W, h, I, T => by
    unfold ckT' at h
    obtain ⟨r, e1, h⟩ := Option.bind_eq_some_iff.mp h
    split at h
    · rename_i hs
      cases h
      unfold run at T
      exact snd_set (te := (wP Gm e W).1) (ge := ev G e) (ck_own_nb e1) hs I (fun Q TQ => (snd gr e).1 F S Γ fps σ env H true r.1 r.2 Q W e1 I TQ) T
    · cases h
  | .setlc i t s c e own, F, S, Γ, fps, σ, env, H, ro, Γ', D, W, h, I, T => by
    unfold ckT' at h
    obtain ⟨r, e1, h⟩ := Option.bind_eq_some_iff.mp h
    split at h
    · rename_i hs
      cases h
      unfold run at T
      exact snd_set (te := (wP Gm (.lc t s c e own) W).1) (ge := ev G (.lc t s c e own)) (ck_own_nb e1) hs I (fun Q TQ => (snd gr (.lc t s c e own)).1 F S Γ fps σ env H true r.1 r.2 Q W e1 I TQ) T
    · cases h
  | .unp is e, F, S, Γ, fps, σ, env, H, ro, Γ', D, W, h, I, T => by
    unfold ckT' at h
    obtain ⟨r, e1, h⟩ := Option.bind_eq_some_iff.mp h
    split at h
    · rename_i hs
      cases h
      unfold run at T
      replace T : TriB ca F (pureE sg e) (setSh is r.2) ro ((ev G e env).bind fun x env => (opt (tgP (.tp is) x env) env).bind fun env' _ => .ok .nx env') S H fps D W := T
      refine (snd gr e).1 F S Γ fps σ env H true r.1 r.2 _ W e1 I ?_
      cases h1 : ev G e env with
      | bad => rw [h1] at T; exact T
      | ex y env1 => rw [h1] at T; exact T.exE
      | ok x env1 =>
        rw [h1, Rs.bind_ok] at T
        intro v S1 H1 f1 fp I1 st1 ok1 fr1
        obtain ⟨S2, I2, sm, rp, nw⟩ := I1.give ok1 (ck_nb e _ _ _ e1)
        cases ht : tgP (.tp is) x env1 with
        | none => rw [ht] at T; exact T.elim
        | some env2 =>
          rw [ht] at T
          have hts : ∀ i ∈ tgSlots (.tp is), tg r.2 i ≠ .mu ∧ i < r.2.length := fun i hi => settable_of (List.all_eq_true.mp hs i hi)
          refine tg_out I2 rp hts ht fun σ2 Γ2 f2 I3 htg hl hf hf2 _ _ => ?_
          have lg : leG Γ2 (setSh is r.2) := ⟨by rw [setSh_len, hl], fun j => by
            rw [htg j, show tg (setSh is r.2) j = _ from tg_setSh is _ fun k hk => (hts k hk).2]
            exact leT_refl _⟩
          obtain ⟨S3, f3, I4, st4⟩ := I3.weak lg
          refine T σ2 S3 H1 f3 I4 ⟨(st1.gs.trans sm).trans st4.gs, st1.keep, st1.dom, fun j p hp => ?_⟩
          rcases st4.fpo j p hp with z | z
          · exact st1.fpo j p (hf j p z)
          · exact .inr (none_of st1.dom z)
    · cases h
  | .ex e, F, S, Γ, fps, σ, env, H, ro, Γ', D, W, h, I, T => by
    unfold ckT' at h
    obtain ⟨r, e1, h⟩ := Option.map_eq_some_iff.mp h
    cases h
    unfold run at T
    replace T : TriB ca F (pureE sg e) r.2 ro ((ev G e env).bind fun _ env => .ok .nx env) S H fps D W := T
    refine (snd gr e).1 F S Γ fps σ env H false r.1 r.2 _ W e1 I ?_
    cases h1 : ev G e env with
    | bad => rw [h1] at T; exact T
    | ex y env1 => rw [h1] at T; exact T.exE
    | ok x env1 =>
      rw [h1, Rs.bind_ok] at T
      exact fun v S1 H1 f1 fp I1 st1 ok1 fr1 => T σ S1 H1 f1 I1 st1.sst
  | .ifs c a b, F, S, Γ, fps, σ, env, H, ro, Γ', D, W, h, I, T => by
    unfold ckT' at h
    obtain ⟨Γ1, e1, h⟩ := Option.bind_eq_some_iff.mp h
    obtain ⟨Γa, e2, h⟩ := Option.bind_eq_some_iff.mp h
    obtain ⟨Γb, e3, h⟩ := Option.bind_eq_some_iff.mp h
    obtain ⟨l1, l2⟩ := joTs_le h
    unfold run at T
    replace T : TriB ca F (pureE sg c && pureSs sg a && pureSs sg b) Γ' ro ((evT G c env).bind fun k env => if k = true then runs G a env else runs G b env) S H fps D W := T
    refine (snd gr c).2 F S Γ fps σ env H Γ1 _ W e1 I ?_
    cases h1 : evT G c env with
    | bad => rw [h1] at T; exact T
    | ex y env1 => rw [h1] at T; exact T.exT
    | ok k env1 =>
      rw [h1, Rs.bind_ok] at T
      intro S1 H1 f1 I1 st1
      split
      · rename_i hk
        rw [if_pos hk] at T
        exact sndSs gr a F S1 Γ1 f1 σ env1 H1 ro Γa D W e2 I1 (T.sub l1 st1.sst fun z => by rw [Bool.and_eq_true, Bool.and_eq_true] at z; exact z.1)
      · rename_i hk
        rw [if_neg hk] at T
        exact sndSs gr b F S1 Γ1 f1 σ env1 H1 ro Γb D W e3 I1 (T.sub l2 st1.sst fun z => by rw [Bool.and_eq_true, Bool.and_eq_true] at z; exact ⟨z.1.1, z.2⟩)
  | .fors t s b, F, S, Γ, fps, σ, env, H, ro, Γ', D, W, h, I, T => by
    unfold ckT' at h
    obtain ⟨r, e1, h⟩ := Option.bind_eq_some_iff.mp h
    split at h
    · cases h
    · rename_i hb
      obtain ⟨Γ4, l1, e2, l4, hts⟩ := loopTags_of h
      unfold run at T
      replace T : TriB ca F (pureSrc sg s && pureSs sg b) Γ' ro ((evSrc G s env).bind fun items env => forP (fun x env => (opt (tgP t x env) env).bind fun env1 _ => runs G b env1) items env) S H fps D W := T
      show wSrc Gm W s σ H fun items ok H1 => forQ items ok (wTg Gm.K t) (wSs Gm W b) D σ H1
      refine sndSrc gr s F S Γ fps σ env H r.1 r.2 _ W e1 I ?_
      cases h1 : evSrc G s env with
      | bad => rw [h1] at T; exact T
      | ex y env1 => rw [h1] at T; exact T.exS
      | ok xs env1 =>
        rw [h1, Rs.bind_ok] at T
        intro items okp S1 H1 f1 I1 st1 rl hok stay
        obtain ⟨S2, f2, I2, st2⟩ := I1.weak l1
        exact for_run (pb := pureSs sg b) I2 (rl.mono (.of_same st2.gs)) (fun S3 H3 st3 sub3 => stay (pureSs sg b) S3 H3 ⟨st2.gs.trans st3.1, fun p o e k => st3.2 p o e (k.imp_right fun k j hj => by
          rcases st2.fpo j p hj with z | z
          · exact k j z
          · rw [z] at e; cases e)⟩ sub3 fun z => by
          cases q : pureSs sg b with
          | true => rfl
          | false => exact (hb ⟨z, q⟩).elim) ((st1.trans st2).sst.weak fun z => by rw [Bool.and_eq_true] at z; rw [z.1]; rfl) (fun z => by rw [Bool.and_eq_true] at z; exact z.2) hts l4
          (fun S3 f3 σ3 env3 H3 D3 I3 T3 => sndSs gr b F S3 _ f3 σ3 env3 H3 ro Γ4 D3 W e2 I3 T3) T
  | .whl c b, F, S, Γ, fps, σ, env, H, ro, Γ', D, W, h, I, T => by
    unfold ckT' at h
    obtain ⟨J, e1, h⟩ := Option.bind_eq_some_iff.mp h
    obtain ⟨Γ4, l1, e2, l4, _⟩ := loopTags_of e1
    obtain ⟨Γc, e3, e4⟩ := Option.bind_eq_some_iff.mp e2
    have hJ : setSh [] J = J := rfl
    rw [hJ, h] at e3
    cases e3
    unfold run at T
    replace T : TriB ca F (pureE sg c && pureSs sg b) Γ' ro (whlP (evT G c) (runs G b) G.fuel env) S H fps D W := T
    obtain ⟨S2, f2, I2, st2⟩ := I.weak l1
    exact whl_run (p1 := pureE sg c) (p2 := pureSs sg b) I2 st2.pure.sst (fun z => by rw [Bool.and_eq_true] at z; exact z) l4 (fun S3 f3 σ3 env3 H3 Q I3 T3 => (snd gr c).2 F S3 J f3 σ3 env3 H3 Γ' Q W h I3 T3)
      (fun S3 f3 σ3 env3 H3 D3 I3 T3 => sndSs gr b F S3 Γ' f3 σ3 env3 H3 ro Γ4 D3 W e4 I3 T3) T
  | .ret e, F, S, Γ, fps, σ, env, H, ro, Γ', D, W, h, I, T => by
    unfold ckT' at h
    unfold run at T
    replace T : TriB ca F (pureE sg e) Γ' ro ((ev G e env).bind fun x env => .ok (.ret x) env) S H fps D W := T
    have main : ∀ (sh : Bool) (t : ET) (Γ1 : Tags), (ckX sg e).1 sh Γ = some (t, Γ1) → leE t (if ro = true then .own else .sh) → (wP Gm e W).1 σ H D.rt := fun sh t Γ1 e1 le => by
      refine (snd gr e).1 F S Γ fps σ env H sh t Γ1 _ W e1 I ?_
      cases h1 : ev G e env with
      | bad => rw [h1] at T; exact T
      | ex y env1 => rw [h1] at T; exact T.exE
      | ok x env1 =>
        rw [h1, Rs.bind_ok] at T
        intro v S1 H1 f1 fp I1 st1 ok1 fr1
        obtain ⟨S2, fq, I2, sm, nw, q, ok2⟩ := ok1.lift I1 le
        exact T v S2 H1 fq I2.fin (retOk ok2 rfl)
    split at h
    · rename_i hro
      split at h
      · rename_i i
        split at h
        · rename_i ht
          show vR i σ H D.rt
          rw [ev_v] at T
          cases hx : getS env i with
          | none => rw [hx] at T; exact T.elim
          | some x =>
            rw [hx] at T
            obtain ⟨v, hv, hS⟩ := slot_of I hx
            unfold vR
            rw [hv]
            rw [ht] at hS
            refine T v S H (fps i) I.fin ?_
            rw [hro]
            refine ⟨hS, I.nodup i, fun p hp => ?_⟩
            obtain ⟨a, b⟩ := I.priv i p hp
            rcases b with b | ⟨b, _⟩
            · exact ⟨a, b⟩
            · rw [ht] at b; cases b
        · cases h
      · obtain ⟨r, e1, h⟩ := Option.bind_eq_some_iff.mp h
        split at h
        · rename_i ht
          exact main false r.1 r.2 e1 (by rw [ht]; exact leE_own _)
        · cases h
    · rename_i hro
      obtain ⟨r, e1, h⟩ := Option.map_eq_some_iff.mp h
      refine main true r.1 r.2 e1 ?_
      rw [if_neg hro]
      have := ck_nb e _ _ _ e1
      cases q : r.1 with
      | own => exact trivial
      | sh => exact trivial
      | bw ds => rw [q] at this; cases this
  | .retn, F, S, Γ, fps, σ, env, H, ro, Γ', D, W, h, I, T => by
    unfold run at T
    refine T .non S H [] I.fin ?_
    cases ro with
    | true => exact ⟨(scal_ok (ca := ca) (F := F) (S := S) (H := H) (fps := fps) (z := .non) rfl).1, .nil, fun _ h => by cases h⟩
    | false => exact ⟨rfl, by unfold Rep; rfl⟩
  | .raise C m, F, S, Γ, fps, σ, env, H, ro, Γ', D, W, h, I, T => by
    unfold run at T
    cases hx : G.exc C with
    | none => rw [hx] at T; exact T.elim
    | some f =>
      cases f with
      | some f => rw [hx] at T; exact T.elim
      | none =>
        rw [hx] at T
        obtain ⟨a, g1, g2⟩ := gr.exc C none hx
        exact ⟨a, g1, T σ S H (.ref a) none I.fin ⟨a, g2, rfl, [], rfl, by unfold RepF; rfl⟩⟩
  | .pass, F, S, Γ, fps, σ, env, H, ro, Γ', D, W, h, I, T => by
    unfold ckT' at h
    cases h
    unfold run at T
    exact T σ S H fps I .refl
  | .tr b C n h0, F, S, Γ, fps, σ, env, H, ro, Γ', D, W, h, I, T => by
    unfold ckT' at h
    split at h
    · rename_i hC
      obtain ⟨c, g1, g2⟩ := gr.tr C (of_decide_eq_true hC)
      obtain ⟨Γa, ea, h⟩ := Option.bind_eq_some_iff.mp h
      obtain ⟨se, eo, h⟩ := Option.bind_eq_some_iff.mp h
      obtain ⟨r, er, h⟩ := Option.bind_eq_some_iff.mp h
      unfold run at T
      replace T : TriB ca F (pureSs sg b && pureSs sg h0) Γ' ro (tryP (fun e => isP G e C) n (runs G h0) (runs G b env)) S H fps D W := T
      -- what the clause owes, behind the one expression
      have clause : ∀ (env1 : Env) (e : PV), TriB ca F (pureSs sg b && pureSs sg h0) Γ' ro (tryP (fun e => isP G e C) n (runs G h0) (.ex e env1)) S H fps D W →
          ∀ S' H' fps' cls d, FI ca F S' r.2 fps' σ env1 H' → Stp (pureSs sg b) S H fps S' H' fps' → ExRep ca S' H' cls d e → ∃ bb, PySem.W.exmOne Gm.K cls (.ref c) = some bb ∧ (bb = true → ∀ a, H' a = none → hdlR Gm n h0 D a cls d σ H') ∧ (bb = false → W cls d σ H') := fun env1 e TT S' H' fps' cls d I' st' x => by
        replace TT : TriB ca F (pureSs sg b && pureSs sg h0) Γ' ro (match isP G e C with
          | some true => catchP n (runs G h0) e env1
          | some false => .ex e env1
          | none => .bad) S H fps D W := TT
        cases hi : isP G e C with
        | none => rw [hi] at TT; exact TT.elim
        | some bb =>
          rw [hi] at TT
          refine ⟨bb, g2 e bb cls d S' H' hi x, fun hb a ha => ?_, fun hb => ?_⟩
          · subst hb
            have TT : TriB ca F (pureSs sg b && pureSs sg h0) Γ' ro (catchP n (runs G h0) e env1) S H fps D W := TT
            unfold catchP at TT
            cases n with
            | none =>
              dsimp only at TT h
              show wSs Gm W0 h0 D σ H'
              obtain ⟨Γh, eh, h⟩ := Option.bind_eq_some_iff.mp h
              obtain ⟨l1, l2⟩ := joTs_le h
              refine sndSs gr h0 F S' r.2 fps' σ env1 H' ro Γh D W0 eh I' ?_
              cases q : runs G h0 env1 with
              | bad => rw [q] at TT; exact TT
              | ex y env2 => rw [q] at TT; exact TT.elim
              | ok f env2 =>
                rw [q] at TT
                have T3 := TriB.sub (pq := pureSs sg h0) TT l2 st'.sst fun z => by rw [Bool.and_eq_true] at z; exact z
                cases f with
                | nx => exact T3
                | ret y => exact T3
            | some i =>
              dsimp only at TT h
              show wSs Gm W0 h0 { nx := fun σ' H' => D.nx (σ'.set i none) H', rt := D.rt, bk := fun σ' H' => D.bk (σ'.set i none) H', ct := fun σ' H' => D.ct (σ'.set i none) H' } (σ.set i (some (.ref a))) (upd H' a (excO a cls d))
              split at h
              · rename_i hs
                obtain ⟨Γh, eh, h⟩ := Option.bind_eq_some_iff.mp h
                split at h
                · rename_i hs2
                  obtain ⟨l1, l2⟩ := joTs_le h
                  obtain ⟨a1, a2⟩ := settable_of hs
                  obtain ⟨b1, b2⟩ := settable_of hs2
                  obtain ⟨I2, st2⟩ := I'.allocS (o := excO a cls d) ha
                  have rx : Rep ca (upd S' a (excO a cls d)) (.ref a) e := by
                    cases e with
                    | exc c0 fs =>
                      obtain ⟨C0, x1, x2, us, x3, x4⟩ := x
                      subst x2
                      unfold Rep
                      refine ⟨a, C0, d, us, rfl, x1, upd_same, ?_, x4.up st2.gs⟩
                      cases d with
                      | none => exact x3
                      | some z => exact ⟨(Sub.of_same st2.gs).rd x3.1, x3.2⟩
                    | _ => exact x.elim
                  have I3 := I2.put (t := .sh) a2 a1 (sh_ok rx) (fun ds => nofun)
                  rw [if_neg (by simp)] at I3
                  refine sndSs gr h0 F _ _ _ _ _ _ ro Γh _ W0 eh I3 ?_
                  cases q : runs G h0 (env1.set i (some e)) with
                  | bad => rw [q] at TT; exact TT
                  | ex y env2 => rw [q] at TT; exact TT.elim
                  | ok f env2 =>
                    rw [q] at TT
                    cases f with
                    | ret y => exact TT
                    | nx =>
                      dsimp only at TT
                      intro σ4 S4 H4 f4 I4 st4
                      have I5 := I4.del (i := i) b1
                      have I6 := I5.retag (i := i) (t := .sh) (by
                        have hl : i < env2.length := by rw [← I4.len2]; exact b2
                        rw [getS_same hl, fset_same]
                        rfl) fset_same
                      obtain ⟨S7, f7, I7, st7⟩ := I6.weak l2
                      have s1 : Sst (pureSs sg b) S H fps _ _ (fset fps' i []) := ⟨st'.gs.trans st2.gs, fun p o e k => st2.keep p o (st'.keep p o e k) (.inl rfl), fun p h => st2.dom p (st'.dom p h), fun j p hp => by
                        by_cases z : j = i
                        · subst z; rw [fset_same] at hp; cases hp
                        · rw [fset_ne z] at hp; exact st'.fpo j p hp⟩
                      have s2 : Sst true S4 H4 f4 S7 H4 f7 := ⟨st7.gs, fun p o e _ => e, fun p h => h, fun j p hp => by
                        rcases st7.fpo j p hp with z | z
                        · by_cases y : j = i
                          · subst y; rw [fset_same] at z; cases z
                          · rw [fset_ne y] at z; exact .inl z
                        · exact .inr z⟩
                      exact TT _ S7 H4 f7 I7 (((s1.trans st4).trans s2).weak fun z => by rw [Bool.and_eq_true] at z; rw [z.1, z.2]; rfl)
                · cases h
              · cases h
          · subst hb
            exact TT σ S' H' cls d I'.fin x
      -- the body: one assignment or one expression
      have wx : ∀ (Wx : WX), Wx = wTry Gm c n h0 W D → ∀ (env1 : Env) (e : PV), TriB ca F (pureSs sg b && pureSs sg h0) Γ' ro (tryP (fun e => isP G e C) n (runs G h0) (.ex e env1)) S H fps D W →
          ∀ S' H' fps' cls d, FI ca F S' r.2 fps' σ env1 H' → Stp (pureSs sg b) S H fps S' H' fps' → ExRep ca S' H' cls d e → Wx cls d σ H' := fun Wx hW env1 e TT S' H' fps' cls d I' st' x => by
        have := clause env1 e TT S' H' fps' cls d I' st' x
        subst hW
        cases n with
        | some i => exact this
        | none => exact this
      have fin : ∀ (Wx : WX), Wx = wTry Gm c n h0 W D → wSs Gm Wx b D σ H := fun Wx hW => by
        have wx := wx Wx hW
        have la : leG Γa Γ' := by
          cases n with
          | none =>
            obtain ⟨Γh, eh, h⟩ := Option.bind_eq_some_iff.mp h
            exact (joTs_le h).1
          | some i =>
            dsimp only at h
            split at h
            · obtain ⟨Γh, eh, h⟩ := Option.bind_eq_some_iff.mp h
              split at h
              · exact (joTs_le h).1
              · cases h
            · cases h
        rcases oneE_of eo with ⟨i, e, rfl, rfl⟩ | ⟨e, rfl, rfl⟩
        · dsimp only at er
          unfold ckTs' ckT' at ea
          obtain ⟨Γ1, ea, eb⟩ := Option.bind_eq_some_iff.mp ea
          obtain ⟨r1, ec, ea⟩ := Option.bind_eq_some_iff.mp ea
          rw [er] at ec
          cases ec
          by_cases hs : settable r.2 i = true
          case neg => rw [if_neg hs] at ea; cases ea
          rw [if_pos hs] at ea
          cases ea
          unfold ckTs' at eb
          cases eb
          show tAsg (wP Gm e Wx).1 (gName i) { D with nx := tNext D } σ H
          have eR : runs G (.cons (.set i e) .nil) env = (ev G e env).bind fun x env => .ok .nx (env.set i (some x)) := by
            unfold runs run
            cases ev G e env <;> rfl
          rw [eR] at T
          refine (snd gr e).1 F S Γ fps σ env H true r.1 r.2 _ Wx er I ?_
          have pz : ∀ {z0 : Bool}, (pureSs sg (.cons (.set i e) .nil) && z0) = true → pureE sg e = true := fun {z0} z => by
            rw [Bool.and_eq_true] at z
            have z1 : (pureE sg e && true) = true := z.1
            rw [Bool.and_true] at z1; exact z1
          cases h1 : ev G e env with
          | bad => rw [h1] at T; exact T
          | ex y env1 =>
            rw [h1] at T
            exact fun S' H' f' cls d I' st' x => wx env1 y T S' H' f' cls d I' (st'.weak fun z => by
              have z1 : (pureE sg e && true) = true := z
              rw [Bool.and_true] at z1; exact z1) x
          | ok x env1 =>
            rw [h1] at T
            intro v S1 H1 f1 fp I1 st1 ok1 fr1
            obtain ⟨k1, k2⟩ := settable_of hs
            have I2 := I1.put k2 k1 ok1 (ck_own_nb er)
            obtain ⟨S3, f3, I3, st3⟩ := I2.weak la
            replace T : TriB ca F (pureSs sg (.cons (.set i e) .nil) && pureSs sg h0) Γ' ro (.ok .nx (env1.set i (some x))) S H fps D W := T
            refine T _ S3 H1 f3 I3 ⟨st1.gs.trans st3.gs, fun p o e k => st1.keep p o e (k.imp_left pz), st1.dom, fun j p hp => ?_⟩
            rcases st3.fpo j p hp with z | z
            · by_cases y : j = i
              · subst y; rw [fset_same] at z; exact .inr (fr1 p z)
              · rw [fset_ne y] at z; exact st1.fpo j p z
            · exact .inr (none_of st1.dom z)
        · dsimp only at er
          unfold ckTs' ckT' at ea
          obtain ⟨Γ1, ea, eb⟩ := Option.bind_eq_some_iff.mp ea
          obtain ⟨r1, ec, ea⟩ := Option.map_eq_some_iff.mp ea
          rw [er] at ec
          cases ec
          cases ea
          unfold ckTs' at eb
          cases eb
          show tDrop (wP Gm e Wx).1 { D with nx := tNext D } σ H
          have eR : runs G (.cons (.ex e) .nil) env = (ev G e env).bind fun _ env => .ok .nx env := by
            unfold runs run
            cases ev G e env <;> rfl
          rw [eR] at T
          refine (snd gr e).1 F S Γ fps σ env H false r.1 r.2 _ Wx er I ?_
          have pz : ∀ {z0 : Bool}, (pureSs sg (.cons (.ex e) .nil) && z0) = true → pureE sg e = true := fun {z0} z => by
            rw [Bool.and_eq_true] at z
            have z1 : (pureE sg e && true) = true := z.1
            rw [Bool.and_true] at z1; exact z1
          cases h1 : ev G e env with
          | bad => rw [h1] at T; exact T
          | ex y env1 =>
            rw [h1] at T
            exact fun S' H' f' cls d I' st' x => wx env1 y T S' H' f' cls d I' (st'.weak fun z => by
              have z1 : (pureE sg e && true) = true := z
              rw [Bool.and_true] at z1; exact z1) x
          | ok x env1 =>
            rw [h1] at T
            intro v S1 H1 f1 fp I1 st1 ok1 fr1
            obtain ⟨S3, f3, I3, st3⟩ := I1.weak la
            replace T : TriB ca F (pureSs sg (.cons (.ex e) .nil) && pureSs sg h0) Γ' ro (.ok .nx env1) S H fps D W := T
            exact T σ S3 H1 f3 I3 ((st1.trans st3).sst.weak fun z => by rw [pz z]; rfl)
      cases n with
      | some i => exact ⟨c, g1, fin _ rfl⟩
      | none => exact ⟨c, g1, fin _ rfl⟩
    · cases h
  | .sub a i v, F, S, Γ, fps, σ, env, H, ro, Γ', D, W, h, I, T => by
    unfold ckT' at h
    split at h
    · rename_i j
      obtain ⟨r, e1, h⟩ := Option.bind_eq_some_iff.mp h
      split at h
      · rename_i hp
        obtain ⟨r2, e2, h⟩ := Option.bind_eq_some_iff.mp h
        split at h
        · rename_i ht
          cases h
          unfold run at T
          replace T : TriB ca F false r2.2 ro ((ev G v env).bind fun y env => (opt (getL env (j, [])) env).bind fun _ env => (ev G i env).bind fun k env => (opt (getL env (j, [])) env).bind fun x env => match x with
            | .dic kvs => (match keyP k with
                | some k => if kvs.length < sizeLine then (opt (setL env (j, []) (.dic (dput kvs k y))) env).bind fun env' _ => .ok .nx env' else .bad
                | none => .bad)
            | _ => .bad) S H fps D W := T
          have eL : ∀ env : Env, getL env (j, []) = getS env j := fun env => by
            unfold getL
            cases getS env j <;> rfl
          have eS : ∀ (env : Env) (x y : PV), getS env j = some x → setL env (j, []) y = some (env.set j (some y)) := fun env x y hx => by
            unfold setL
            rw [hx]
            rfl
          show (wP Gm v W).1 σ H fun w H1 => vR j σ H1 fun x H2 => (wP Gm i W).1 σ H2 fun y H3 => ∃ a H4, x = .ref a ∧ DPut H3 a y w H4 ∧ D.nx σ H4
          refine (snd gr v).1 F S Γ fps σ env H true r.1 r.2 _ W e1 I ?_
          cases h1 : ev G v env with
          | bad => rw [h1] at T; exact T
          | ex y env1 => rw [h1] at T; exact T.exE
          | ok y env1 =>
            rw [h1, Rs.bind_ok] at T
            intro w S1 H1 f1 fp I1 st1 ok1 fr1
            cases hx0 : getS env1 j with
            | none => rw [eL, hx0] at T; exact T.elim
            | some x0 =>
              rw [eL, hx0] at T
              obtain ⟨u0, hu0, _⟩ := slot_of I1 hx0
              replace T : TriB ca F false r2.2 ro ((ev G i env1).bind fun k env => (opt (getL env (j, [])) env).bind fun x env => match x with
                | .dic kvs => (match keyP k with
                    | some k => if kvs.length < sizeLine then (opt (setL env (j, []) (.dic (dput kvs k y))) env).bind fun env' _ => .ok .nx env' else .bad
                    | none => .bad)
                | _ => .bad) S H fps D W := T
              unfold vR
              rw [hu0]
              refine (snd gr i).1 F S1 r.2 f1 σ env1 H1 false r2.1 r2.2 _ W e2 I1 ?_
              cases h2 : ev G i env1 with
              | bad => rw [h2] at T; exact T
              | ex z env2 => rw [h2] at T; exact T.exE
              | ok k env2 =>
                rw [h2, Rs.bind_ok] at T
                intro u S2 H2 f2 fq I2 st2 ok2 fr2
                cases hx1 : getS env2 j with
                | none => rw [eL, hx1] at T; exact T.elim
                | some x =>
                  rw [eL, hx1] at T
                  cases x with
                  | dic kvs =>
                    replace T : TriB ca F false r2.2 ro (match keyP k with
                      | some k => if kvs.length < sizeLine then (opt (setL env2 (j, []) (.dic (dput kvs k y))) env2).bind fun env' _ => .ok .nx env' else .bad
                      | none => .bad) S H fps D W := T
                    cases hk : keyP k with
                    | none => rw [hk] at T; exact T.elim
                    | some l =>
                      rw [hk] at T
                      dsimp only at T
                      by_cases hl : kvs.length < sizeLine
                      case neg => rw [if_neg hl] at T; exact T.elim
                      rw [if_pos hl, eS env2 _ _ hx1] at T
                      have ok1' := ok1.step st2 I2.sub fun ⟨ds, e⟩ => (ck_own_nb e1 ds e).elim
                      obtain ⟨S3, I3, sm, rp, nw⟩ := I2.give ok1' (ck_nb v _ _ _ e1)
                      obtain ⟨v2, a, H4, hv2, rfl, hd, I4, st4⟩ := dput_run I3 ht hx1 hl rp (kP_keyP hk (ok2.see I2.sub))
                      rw [hu0] at hv2
                      cases hv2
                      have s3 := ((st1.trans st2).given sm nw fr1).sst
                      exact ⟨a, H4, rfl, hd, T σ S3 H4 f2 I4 ((s3.trans st4.sst).weak fun z => by cases z)⟩
                  | _ => exact T.elim
        · cases h
      · cases h
    · cases h
  | .lock s, F, S, Γ, fps, σ, env, H, ro, Γ', D, W, h, I, T => by
    unfold ckT' at h
    unfold run at T
    exact sndK gr s F S Γ fps σ env H ro Γ' D W h I T
  | .sfld _ _ _, F, S, Γ, fps, σ, env, H, ro, Γ', D, W, h, I, T => by unfold ckT' at h; cases h
  | .raise1 _ _, F, S, Γ, fps, σ, env, H, ro, Γ', D, W, h, I, T => by unfold ckT' at h; cases h
theorem sndK (gr : GR ca G Gm sg) : ∀ (s : St) (F : Fr) (S : Hp) (Γ : Tags) (fps : Nat → List Addr) (σ : L2.St) (env : Env) (H : Hp) (ro : Bool) (Γ' : Tags) (D : Ends) (W : WX), ckK sg ro s Γ = some Γ' → FI ca F S Γ fps σ env H →
    TriB ca F (pureS sg s) Γ' ro (noEx (run G s env)) S H fps D W → tLock (wS Gm W s) D σ H ∨ wS Gm W s D σ H
  | .fors t r b, F, S, Γ, fps, σ, env, H, ro, Γ', D, W, h, I, T => by
    unfold ckK at h
    obtain ⟨i, ei, h2⟩ := Option.bind_eq_some_iff.mp h
    have er := keyV_of ei
    subst er
    replace h := h2
    clear h2
    split at h
    · rename_i ht
      obtain ⟨Γ4, l1, e2, l4, hts⟩ := loopTags_of h
      obtain ⟨S1, f1, I1, st1⟩ := I.weak (shOwn_le Γ i)
      unfold run at T
      replace T : TriB ca F (pureE sg (.v i) && pureSs sg b) Γ' ro (noEx ((evSrc G (.keys (.v i)) env).bind fun items env => forP (fun x env => (opt (tgP t x env) env).bind fun env1 _ => runs G b env1) items env)) S H fps D W := T
      rw [evSrc_keys] at T
      have ev1 : ev G (.v i) env = opt (getS env i) env := rfl
      rw [ev1] at T
      cases hx : getS env i with
      | none => rw [hx] at T; exact (show False from T).elim
      | some x =>
        rw [hx] at T
        cases x with
        | dic kvs =>
          replace T : TriB ca F (pureE sg (.v i) && pureSs sg b) Γ' ro (noEx (forP (fun x env => (opt (tgP t x env) env).bind fun env1 _ => runs G b env1) (kvs.map fun kv => kP kv.1) env)) S H fps D W := T
          obtain ⟨a, us, es, er, rk, hp⟩ := slot_dic I1 ht hx
          obtain ⟨S2, f2, I2, st2⟩ := I1.weak l1
          have hp2 := hp.up st2.gs
          have rl : RepL ca S2 (us.map fun kv => kV kv.1) (kvs.map fun kv => kP kv.1) := repL_keys (rk.mono (.of_same st2.gs))
          have T2 : TriB ca F (pureE sg (.v i) && pureSs sg b) Γ' ro (noEx (forP (fun x env => (opt (tgP t x env) env).bind fun env1 _ => runs G b env1) (kvs.map fun kv => kP kv.1) env)) S2 H f2 D W :=
            T.sub (leG.refl _) (st1.trans st2).sst fun z => ⟨rfl, z⟩
          have hpb : (pureE sg (.v i) && pureSs sg b) = true → pureSs sg b = true := fun z => by rw [Bool.and_eq_true] at z; exact z.2
          rcases rd_cases er with ha | ⟨o, ha⟩
          · left
            refine ⟨a, .dK us, ha, trivial, fun od => ?_⟩
            show vR i σ _ fun x H1 => ∃ c o kvs, x = .ref c ∧ H1 c = some (.frz o (.dK kvs)) ∧ forQ (kvs.map fun p => kV p.1) (fun H => H c = some (.frz o (.dK kvs))) (wTg Gm.K t) (wSs Gm W b) (unl D a od (.dK us)) σ H1
            unfold vR
            rw [es]
            refine ⟨a, od, us, rfl, upd_same, ?_⟩
            have IL := I2.lock (od := od) ha hp2
            exact for_run (pb := pureSs sg b) IL rl (fun S3 H3 st3 _ => st3.2 a _ upd_same (.inr fun j => I2.held_not hp2 j)) .refl hpb hts l4
              (fun S3 f3 σ3 env3 H3 D3 I3 T3 => sndSs gr b _ S3 _ f3 σ3 env3 H3 ro Γ4 D3 W e2 I3 T3) (TriB.lock I2 ha hp2 T2)
          · right
            show vR i σ H fun x H1 => ∃ a o kvs, x = .ref a ∧ H1 a = some (.frz o (.dK kvs)) ∧ forQ (kvs.map fun p => kV p.1) (fun H => H a = some (.frz o (.dK kvs))) (wTg Gm.K t) (wSs Gm W b) D σ H1
            unfold vR
            rw [es]
            refine ⟨a, o, us, rfl, ha, ?_⟩
            exact for_run (pb := pureSs sg b) I2 rl (fun S3 H3 st3 _ => st3.2 a _ ha (.inr fun j => I2.held_not hp2 j)) .refl hpb hts l4
              (fun S3 f3 σ3 env3 H3 D3 I3 T3 => sndSs gr b _ S3 _ f3 σ3 env3 H3 ro Γ4 D3 W e2 I3 T3) T2.free
        | _ => exact (show False from T).elim
    · cases h
  | .set _ _, _, _, _, _, _, _, _, _, _, _, _, h, _, _ => by unfold ckK at h; cases h
  | .unp _ _, _, _, _, _, _, _, _, _, _, _, _, h, _, _ => by unfold ckK at h; cases h
  | .ex _, _, _, _, _, _, _, _, _, _, _, _, h, _, _ => by unfold ckK at h; cases h
  | .ifs _ _ _, _, _, _, _, _, _, _, _, _, _, _, h, _, _ => by unfold ckK at h; cases h
  | .whl _ _, _, _, _, _, _, _, _, _, _, _, _, h, _, _ => by unfold ckK at h; cases h
  | .ret _, _, _, _, _, _, _, _, _, _, _, _, h, _, _ => by unfold ckK at h; cases h
  | .retn, _, _, _, _, _, _, _, _, _, _, _, h, _, _ => by unfold ckK at h; cases h
  | .raise _ _, _, _, _, _, _, _, _, _, _, _, _, h, _, _ => by unfold ckK at h; cases h
  | .pass, _, _, _, _, _, _, _, _, _, _, _, h, _, _ => by unfold ckK at h; cases h
  | .tr _ _ _ _, _, _, _, _, _, _, _, _, _, _, _, h, _, _ => by unfold ckK at h; cases h
  | .sub _ _ _, _, _, _, _, _, _, _, _, _, _, _, h, _, _ => by unfold ckK at h; cases h
  | .lock _, _, _, _, _, _, _, _, _, _, _, _, h, _, _ => by unfold ckK at h; cases h
  | .setlc _ _ _ _ _ _, _, _, _, _, _, _, _, _, _, _, _, h, _, _ => by unfold ckK at h; cases h
  | .sfld _ _ _, _, _, _, _, _, _, _, _, _, _, _, h, _, _ => by unfold ckK at h; cases h
  | .raise1 _ _, _, _, _, _, _, _, _, _, _, _, _, h, _, _ => by unfold ckK at h; cases h
theorem sndSs (gr : GR ca G Gm sg) : ∀ (s : Sts) (F : Fr) (S : Hp) (Γ : Tags) (fps : Nat → List Addr) (σ : L2.St) (env : Env) (H : Hp) (ro : Bool) (Γ' : Tags) (D : Ends) (W : WX), ckTs' sg ro s Γ = some Γ' → FI ca F S Γ fps σ env H →
    TriB ca F (pureSs sg s) Γ' ro (runs G s env) S H fps D W → wSs Gm W s D σ H
  | .nil, F, S, Γ, fps, σ, env, H, ro, Γ', D, W, h, I, T => by
    unfold ckTs' at h
    cases h
    unfold runs at T
    exact T σ S H fps I .refl
  | .cons s r, F, S, Γ, fps, σ, env, H, ro, Γ', D, W, h, I, T => by
    unfold ckTs' at h
    obtain ⟨Γ1, e1, h⟩ := Option.bind_eq_some_iff.mp h
    unfold runs at T
    replace T : TriB ca F (pureS sg s && pureSs sg r) Γ' ro ((run G s env).bind fun f env => match f with
      | .nx => runs G r env
      | .ret y => .ok (.ret y) env) S H fps D W := T
    refine sndS gr s F S Γ fps σ env H ro Γ1 { D with nx := wSs Gm W r D } W e1 I ?_
    cases h1 : run G s env with
    | bad => rw [h1] at T; exact T
    | ex y env1 => rw [h1] at T; exact T
    | ok f env1 =>
      rw [h1, Rs.bind_ok] at T
      cases f with
      | ret y => exact T
      | nx =>
        intro σ1 S1 H1 f1 I1 st1
        exact sndSs gr r F S1 Γ1 f1 σ1 env1 H1 ro Γ' D W h I1 (T.sub (.refl _) st1 fun z => by rw [Bool.and_eq_true] at z; exact z)
end
end
end Vc

set_option Elab.async false
set_option linter.all false
set_option maxRecDepth 100000
set_option maxHeartbeats 1000000
namespace Vc
open PySem PySem.Spec PyProof.Rows L2
/-! ### a def by its tree -/
def pTag : Pm → Tag
  | .sh => .sh
  | .bw => .bw
  | .mu => .mu
def startTags (ps : List Pm) (n : Nat) : Tags := ps.map pTag ++ List.replicate (n - ps.length) .bot
/-- the body's tree keeps the promise, by the readings alone -/
def Keeps (G : Gam) (N : List Str) (b : Sts) (sp : Sp) : Prop :=
  ∀ (H : Hp) (vs : List V) (Q : VK) (E : XK), sp vs H Q E → wSs G (fun cls d _ H => E cls d H) b { nx := fun _ H' => Q .non H', rt := Q } (start N vs) H
section
variable {ca : CA} {S H : Hp} {G : PGm} {Gm : Gam} {sg : Sg}
theorem args_len : ∀ {ps : List Pm} {vs : List V} {xs : List PV}, ArgsOk ca S H ps vs xs → vs.length = ps.length ∧ xs.length = ps.length
  | [], vs, xs, h => by unfold ArgsOk at h; rw [h.1, h.2]; exact ⟨rfl, rfl⟩
  | p :: ps, vs, xs, h => by
    unfold ArgsOk at h
    obtain ⟨v, vr, x, xr, rfl, rfl, _, h⟩ := h
    obtain ⟨h1, h2⟩ := args_len h
    exact ⟨by simp [h1], by simp [h2]⟩
theorem args_slot {sub : Sub S H} : ∀ {ps : List Pm} {vs : List V} {xs : List PV} (i : Nat), ArgsOk ca S H ps vs xs → i < ps.length → ∃ v x, vs[i]? = some v ∧ xs[i]? = some x ∧ SlotOk ca ⟨H, S, []⟩ S H (tg (ps.map pTag) i) (some (some v)) (some x) []
  | [], vs, xs, i, h, hi => by simp at hi
  | p :: ps, vs, xs, i, h, hi => by
    unfold ArgsOk at h
    obtain ⟨v, vr, x, xr, rfl, rfl, h1, h2⟩ := h
    cases i with
    | zero =>
      refine ⟨v, x, rfl, rfl, ?_⟩
      unfold SlotOk
      refine ⟨v, rfl, ?_⟩
      cases p with
      | sh => exact ⟨rfl, h1⟩
      | bw =>
        obtain ⟨fb, hb⟩ := h1
        refine ⟨rfl, fb, hb, fun q hq => .inr ⟨?_, by simp⟩⟩
        obtain ⟨o, e⟩ := hb.there q hq
        intro z
        unfold rg at e
        rw [rd_none z] at e
        dsimp only at e
        cases e
      | mu => exact h1.elim
    | succ i =>
      obtain ⟨v', x', a, b, c⟩ := args_slot (sub := sub) i h2 (by simpa using hi)
      refine ⟨v', x', by simpa using a, by simpa using b, ?_⟩
      rw [List.map_cons, tg_succ]
      exact c
theorem muts_none : ∀ {ps : List Pm} {i : Nat} {env : Env}, noMu ps = true → mutsP ps i env = []
  | [], i, env, _ => rfl
  | p :: ps, i, env, h => by
    simp only [noMu, List.all_cons, Bool.and_eq_true, decide_eq_true_eq] at h
    cases p with
    | mu => exact (h.1 rfl).elim
    | sh => unfold mutsP; exact muts_none (by simp only [noMu]; exact h.2)
    | bw => unfold mutsP; exact muts_none (by simp only [noMu]; exact h.2)
theorem keeps_of (gr : GR ca G Gm sg) {ps : List Pm} {own : Bool} {n : Nat} {b : Sts} {N : List Str} (hN : N.length = n) (hn : ps.length ≤ n) (hps : noMu ps = true) (hck : (ckTs' sg own b (startTags ps n)).isSome = true) : Keeps Gm N b (spP ca ps own (defP G ps n b)) := by
  rintro H vs Q E ⟨S, xs, sub, ha, hm⟩
  obtain ⟨Γ', hc⟩ := Option.isSome_iff_exists.mp hck
  obtain ⟨lv, lx⟩ := args_len ha
  have I : FI ca ⟨H, S, []⟩ S (startTags ps n) (fun _ => []) (start N vs) (startP n xs) H := by
    refine ⟨sub, Same.refl S, fun p h => .inl h, fun p o e _ => e, ?_, ?_, fun i => ?_, (fun i p hp => by cases hp), (fun i j p _ hp => by cases hp), fun i => .nil, fun p h => h⟩
    · unfold L2.start startP
      simp [lv, lx, hN]
    · unfold startTags startP
      simp [lx]
    · by_cases hi : i < ps.length
      · obtain ⟨v, x, e1, e2, e3⟩ := args_slot (sub := sub) i ha hi
        have a1 : (start N vs)[i]? = some (some v) := by
          unfold L2.start
          rw [List.getElem?_append_left (by simp; omega), List.getElem?_map, e1]; rfl
        have a2 : getS (startP n xs) i = some x := by
          unfold startP
          rw [getS_get, List.getElem?_append_left (by simp; omega), List.getElem?_map, e2]; rfl
        have a3 : tg (startTags ps n) i = tg (ps.map pTag) i := by
          unfold startTags tg
          rw [List.getElem?_append_left (by simp; omega)]
        rw [a1, a2, a3]
        exact e3
      · have a2 : getS (startP n xs) i = none := by
          unfold startP
          rw [getS_get, List.getElem?_append_right (by simp; omega)]
          by_cases z : i - (xs.map some).length < n - xs.length
          · rw [List.getElem?_replicate_of_lt z]; rfl
          · rw [List.getElem?_eq_none (by simp; simp at z; omega)]; rfl
        rw [a2]
        rfl
  refine sndSs gr b ⟨H, S, []⟩ S _ _ _ _ H own Γ' _ _ hc I ?_
  unfold defP at hm
  have fin : ∀ {S' H' : Hp}, Fin ⟨H, S, []⟩ S' H' → Sub S' H' ∧ Same S S' ∧ Same H H' ∧ ∀ p, S' p ≠ none → S p ≠ none ∨ H p = none := fun f => ⟨f.sub, f.grow, fun p o e => f.frame p o e (by simp), f.new⟩
  have ret : ∀ {x : PV} {ms : List PV}, (∀ v S' H' fp, Sub S' H' → Same S S' → Same H H' → (∀ p, S' p ≠ none → S p ≠ none ∨ H p = none) → ResOk own ca S' H' v x fp → fp.Nodup → (∀ p ∈ fp, H p = none ∧ S' p = none) → Q v H') → ∀ v S' H' fp, Fin ⟨H, S, []⟩ S' H' → RetOk own ca ⟨H, S, []⟩ S' H' v x fp → Q v H' := fun k v S' H' fp f r => by
    obtain ⟨a1, a2, a3, a4⟩ := fin f
    cases own with
    | true => exact k v S' H' fp a1 a2 a3 a4 r.1 r.2.1 fun p hp => ⟨(r.2.2 p hp).2, (r.2.2 p hp).1⟩
    | false => exact k v S' H' fp a1 a2 a3 a4 r (by rw [r.1]; exact .nil) fun p hp => by rw [r.1] at hp; cases hp
  cases hr : runs G b (startP n xs) with
  | bad => rw [hr] at hm; exact hm
  | ex e env' =>
    rw [hr] at hm
    exact fun σ' S' H' cls d f x => by
      obtain ⟨a1, a2, a3, a4⟩ := fin f
      exact hm.2 S' H' cls d a1 a2 a3 a4 x
  | ok f env' =>
    rw [hr] at hm
    cases f with
    | ret x => exact ret (ms := []) hm.2
    | nx =>
      intro σ' S' H' f' I' st'
      refine ret (ms := []) hm.2 .non S' H' [] I'.fin ?_
      cases own with
      | true => exact ⟨(scal_ok (ca := ca) (F := ⟨H, S, []⟩) (S := S') (H := H') (fps := f') (z := .non) rfl).1, .nil, fun _ h => by cases h⟩
      | false => exact ⟨rfl, by unfold Rep; rfl⟩
end
end Vc

set_option Elab.async false
set_option linter.all false
set_option maxRecDepth 100000
set_option maxHeartbeats 1000000
namespace Vc
open PySem PySem.Spec PyProof.Rows L2 PySem.SeqAt
/-! ### == of data -/
section
variable {ca : CA} {H : Hp}
mutual
theorem rep_uniq : ∀ {x y : PV} {v : V} {n m : Nat}, Rep ca H v x → Rep ca H v y → datN x n = true → datN y m = true → x = y
  | .non, y, v, n, m, h, k, _, d => by
    unfold Rep at h
    subst h
    cases y <;> first | rfl | (cases d; done) | (unfold Rep at k; first | (cases k; done) | (obtain ⟨p, _, k, _⟩ := k; cases k; done))
  | .bl b, y, v, n, m, h, k, _, d => by
    unfold Rep at h
    subst h
    cases y <;> first | (cases d; done) | (unfold Rep at k; first | (cases k <;> rfl) | (obtain ⟨p, _, k, _⟩ := k; cases k; done))
  | .int b, y, v, n, m, h, k, _, d => by
    unfold Rep at h
    subst h
    cases y <;> first | (cases d; done) | (unfold Rep at k; first | (cases k <;> rfl) | (obtain ⟨p, _, k, _⟩ := k; cases k; done))
  | .str b, y, v, n, m, h, k, _, d => by
    unfold Rep at h
    subst h
    cases y <;> first | (cases d; done) | (unfold Rep at k; first | (cases k <;> rfl) | (obtain ⟨p, _, k, _⟩ := k; cases k; done))
  | .lst xs, y, v, n, m, h, k, dn, d => by
    cases n with
    | zero => cases dn
    | succ n =>
    unfold Rep at h
    obtain ⟨p, vs, rfl, q, r⟩ := h
    cases y with
    | lst ys =>
      cases m with
      | zero => cases d
      | succ m =>
        unfold Rep at k
        obtain ⟨p2, us, e, q2, r2⟩ := k
        cases e
        rw [q] at q2
        cases q2
        rw [repL_uniq r r2 dn d]
    | tup ys =>
      unfold Rep at k
      obtain ⟨p2, us, e, q2, r2⟩ := k
      cases e
      rw [q] at q2
      cases q2
    | dic _ => cases d
    | obj _ _ => cases d
    | exc _ _ => cases d
    | _ => unfold Rep at k; cases k
  | .tup xs, y, v, n, m, h, k, dn, d => by
    cases n with
    | zero => cases dn
    | succ n =>
    unfold Rep at h
    obtain ⟨p, vs, rfl, q, r⟩ := h
    cases y with
    | tup ys =>
      cases m with
      | zero => cases d
      | succ m =>
        unfold Rep at k
        obtain ⟨p2, us, e, q2, r2⟩ := k
        cases e
        rw [q] at q2
        cases q2
        rw [repL_uniq r r2 dn d]
    | lst ys =>
      unfold Rep at k
      obtain ⟨p2, us, e, q2, r2⟩ := k
      cases e
      rw [q] at q2
      cases q2
    | dic _ => cases d
    | obj _ _ => cases d
    | exc _ _ => cases d
    | _ => unfold Rep at k; cases k
  | .dic _, y, v, n, m, h, k, dn, d => by cases dn
  | .obj _ _, y, v, n, m, h, k, dn, d => by cases dn
  | .exc _ _, y, v, n, m, h, k, dn, d => by cases dn
theorem repL_uniq : ∀ {xs ys : List PV} {vs : List V} {n m : Nat}, RepL ca H vs xs → RepL ca H vs ys → datNL xs n = true → datNL ys m = true → xs = ys
  | [], ys, vs, n, m, h, k, _, _ => by
    unfold RepL at h
    subst h
    cases ys with
    | nil => rfl
    | cons _ _ => unfold RepL at k; obtain ⟨_, _, e, _⟩ := k; cases e
  | x :: xs, ys, vs, n, m, h, k, d1, d2 => by
    unfold RepL at h
    obtain ⟨v, r, rfl, h1, h2⟩ := h
    cases ys with
    | nil => unfold RepL at k; cases k
    | cons y ys =>
      unfold RepL at k
      obtain ⟨v2, r2, e, k1, k2⟩ := k
      cases e
      unfold datNL at d1 d2
      rw [Bool.and_eq_true] at d1 d2
      rw [rep_uniq h1 k1 d1.1 d2.1, repL_uniq h2 k2 d1.2 d2.2]
end
mutual
theorem eqP_refl : ∀ {x : PV} {n : Nat}, datN x n = true → eqP x x = true
  | .non, _, _ => rfl
  | .bl b, _, _ => by unfold eqP; simp
  | .int b, _, _ => by unfold eqP; simp
  | .str b, _, _ => by unfold eqP; simp
  | .lst xs, n, h => by
    cases n with
    | zero => cases h
    | succ n => unfold eqP; exact eqL_refl h
  | .tup xs, n, h => by
    cases n with
    | zero => cases h
    | succ n => unfold eqP; exact eqL_refl h
  | .dic _, _, h => by cases h
  | .obj _ _, _, h => by cases h
  | .exc _ _, _, h => by cases h
theorem eqL_refl : ∀ {xs : List PV} {n : Nat}, datNL xs n = true → eqL xs xs = true
  | [], _, _ => rfl
  | x :: xs, n, h => by
    unfold datNL at h
    rw [Bool.and_eq_true] at h
    unfold eqL
    show (eqP x x && eqL xs xs) = true
    rw [eqP_refl h.1, eqL_refl h.2]; rfl
end
def prE (xs ys : List PV) (j : Nat) : Bool :=
  match xs[j]?, ys[j]? with
  | some x, some y => eqP x y
  | _, _ => false
theorem eqL_range : ∀ (xs ys : List PV), eqL xs ys = ((List.range (min xs.length ys.length)).all (prE xs ys) && xs.length == ys.length)
  | [], ys => by
    cases ys <;> simp [eqL]
  | x :: xs, [] => by simp [eqL]
  | x :: xs, y :: ys => by
    unfold eqL
    show (eqP x y && eqL xs ys) = _
    rw [eqL_range xs ys]
    have e : min (x :: xs).length (y :: ys).length = min xs.length ys.length + 1 := by simp
    rw [e, List.range_succ_eq_map, List.all_cons, List.all_map]
    have e2 : (prE (x :: xs) (y :: ys) ∘ Nat.succ) = prE xs ys := by
      funext j
      simp [prE]
    rw [e2]
    have e3 : prE (x :: xs) (y :: ys) 0 = eqP x y := by simp [prE]
    have e4 : ((x :: xs).length == (y :: ys).length) = (xs.length == ys.length) := by simp
    rw [e3, e4, Bool.and_assoc]
end
section
variable {X : Cx} {pins : List (Addr × Obj)} {σ : L2.St} {H : Hp} {s : Shared} {ca : CA}
theorem at_list (I : Inv X pins σ H s) {p : Addr} {vs : List V} (h : rd H p = some (.lst vs)) : ∃ its : List Value, Vals vs its ∧ s.heap.IsList p its.toArray := by
  obtain ⟨its, r, pl, _⟩ := I.list (rd_lst h)
  exact ⟨its, r, pl.isList⟩
theorem at_tuple (I : Inv X pins σ H s) {p : Addr} {vs : List V} (h : rd H p = some (.tup vs)) : ∃ its : List Value, Vals vs its ∧ s.heap.IsTuple p its.toArray := by
  obtain ⟨its, r, pl, _⟩ := I.tuple (rd_tup h)
  obtain ⟨o, e, c, n, d⟩ := pl
  exact ⟨its, r, o, e, c, n, d⟩
theorem in1_units {A : Around} : A.in1.units = A.units + 1 := rfl
mutual
/-- == of data, asked of the types -/
theorem rcAtP (I : Inv X pins σ H s) : ∀ (x y : PV) (n : Nat) (A : Around) (p q : Addr), datN x n = true → datN y n = true → Rep ca H (.ref p) x → Rep ca H (.ref q) y → A.units + n < cLine → RcAt A s (.ref p) (.ref q) (eqP x y)
  | .lst xs, y, n, A, p, q, dx, dy, hx, hy, hu => by
    cases n with
    | zero => cases dx
    | succ n =>
      unfold Rep at hx
      obtain ⟨p', vs, e, e1, r1⟩ := hx
      cases e
      obtain ⟨its, rv, hl⟩ := at_list I e1
      cases y with
      | lst ys =>
        unfold Rep at hy
        obtain ⟨q', us, e, e2, r2⟩ := hy
        cases e
        obtain ⟨its2, rv2, hl2⟩ := at_list I e2
        unfold eqP
        dsimp only
        have l1 : its.length = xs.length := by rw [← rv.length, r1.length]
        have l2 : its2.length = ys.length := by rw [← rv2.length, r2.length]
        by_cases hsz : xs.length = ys.length
        · have := RcAt.lists (e := prE xs ys) (A := A) hl hl2 (by simp [l1, l2, hsz]) (by omega) (eqAll I xs ys n A.in1 vs us its its2 dx dy r1 r2 rv rv2 (by rw [in1_units]; omega))
          rw [eqL_range, hsz]
          have e3 : its.toArray.size = ys.length := by simp [l1, hsz]
          rw [e3] at this
          simpa using this
        · have := RcAt.lists_lengths (A := A) hl hl2 (by simp [l1, l2, hsz]) (by omega)
          rw [eqL_range, show (xs.length == ys.length) = false from by simpa using hsz, Bool.and_false]
          exact this
      | tup ys =>
        unfold Rep at hy
        obtain ⟨q', us, e, e2, r2⟩ := hy
        cases e
        obtain ⟨its2, rv2, hl2⟩ := at_tuple I e2
        exact RcAt.list_tuple hl hl2 (by omega)
      | dic _ => cases dy
      | obj _ _ => cases dy
      | exc _ _ => cases dy
      | _ => unfold Rep at hy; cases hy
  | .tup xs, y, n, A, p, q, dx, dy, hx, hy, hu => by
    cases n with
    | zero => cases dx
    | succ n =>
      unfold Rep at hx
      obtain ⟨p', vs, e, e1, r1⟩ := hx
      cases e
      obtain ⟨its, rv, hl⟩ := at_tuple I e1
      cases y with
      | tup ys =>
        unfold Rep at hy
        obtain ⟨q', us, e, e2, r2⟩ := hy
        cases e
        obtain ⟨its2, rv2, hl2⟩ := at_tuple I e2
        unfold eqP
        dsimp only
        have l1 : its.length = xs.length := by rw [← rv.length, r1.length]
        have l2 : its2.length = ys.length := by rw [← rv2.length, r2.length]
        have := RcAt.tuples (e := prE xs ys) (A := A) hl hl2 (by omega) (eqAll I xs ys n A.in1 vs us its its2 dx dy r1 r2 rv rv2 (by rw [in1_units]; omega))
        rw [eqL_range]
        have e3 : its.toArray.size = xs.length := by simp [l1]
        have e4 : its2.toArray.size = ys.length := by simp [l2]
        rw [e3, e4] at this
        exact this
      | lst ys =>
        unfold Rep at hy
        obtain ⟨q', us, e, e2, r2⟩ := hy
        cases e
        obtain ⟨its2, rv2, hl2⟩ := at_list I e2
        exact RcAt.tuple_list hl hl2 (by omega)
      | dic _ => cases dy
      | obj _ _ => cases dy
      | exc _ _ => cases dy
      | _ => unfold Rep at hy; cases hy
  | .non, _, _, _, _, _, _, _, hx, _, _ => by unfold Rep at hx; cases hx
  | .bl _, _, _, _, _, _, _, _, hx, _, _ => by unfold Rep at hx; cases hx
  | .int _, _, _, _, _, _, _, _, hx, _, _ => by unfold Rep at hx; cases hx
  | .str _, _, _, _, _, _, _, _, hx, _, _ => by unfold Rep at hx; cases hx
  | .dic _, _, _, _, _, _, dx, _, _, _, _ => by cases dx
  | .obj _ _, _, _, _, _, _, dx, _, _, _, _ => by cases dx
  | .exc _ _, _, _, _, _, _, dx, _, _, _, _ => by cases dx
/-- == where the things may be one -/
theorem eqAtP (I : Inv X pins σ H s) : ∀ (x y : PV) (n : Nat) (A : Around) (v w : V) (a b : Value), datN x n = true → datN y n = true → Rep ca H v x → Rep ca H w y → RelV v a → RelV w b → A.units + n < cLine → EqAt A s a b (eqP x y)
  | .lst xs, y, n, A, v, w, a, b, dx, dy, hx, hy, ra, rb, hu => by
    have hx0 := hx
    unfold Rep at hx
    obtain ⟨p, vs, rfl, e1, r1⟩ := hx
    obtain rfl : a = Value.ref p := ra
    obtain ⟨its, rv, hl⟩ := at_list I e1
    have hu1 : A.units < cLine := by omega
    cases y with
    | lst ys =>
      have hy0 := hy
      unfold Rep at hy
      obtain ⟨q, us, rfl, e2, r2⟩ := hy
      obtain rfl : b = Value.ref q := rb
      by_cases z : p = q
      · subst z
        rw [← rep_uniq hx0 hy0 dx dy, eqP_refl dx]
        exact EqAt.same _
      · exact EqAt.of_refs z (rcAtP I (.lst xs) _ n A p q dx dy hx0 hy0 hu)
    | tup ys =>
      have hy0 := hy
      unfold Rep at hy
      obtain ⟨q, us, rfl, e2, r2⟩ := hy
      obtain rfl : b = Value.ref q := rb
      obtain ⟨its2, rv2, hl2⟩ := at_tuple I e2
      exact EqAt.list_tuple hl hl2 hu1
    | non => unfold Rep at hy; subst hy; cases rb; exact EqAt.list_none hl hu1
    | bl _ => unfold Rep at hy; subst hy; cases rb; exact EqAt.list_bool _ hl hu1
    | int _ => unfold Rep at hy; subst hy; obtain ⟨t, rfl⟩ := rb; exact EqAt.list_int _ t hl hu1
    | str _ => unfold Rep at hy; subst hy; obtain ⟨t, rfl⟩ := rb; exact EqAt.list_str _ t hl hu1
    | dic _ => cases dy
    | obj _ _ => cases dy
    | exc _ _ => cases dy
  | .tup xs, y, n, A, v, w, a, b, dx, dy, hx, hy, ra, rb, hu => by
    have hx0 := hx
    unfold Rep at hx
    obtain ⟨p, vs, rfl, e1, r1⟩ := hx
    obtain rfl : a = Value.ref p := ra
    obtain ⟨its, rv, hl⟩ := at_tuple I e1
    have hu1 : A.units < cLine := by omega
    cases y with
    | tup ys =>
      have hy0 := hy
      unfold Rep at hy
      obtain ⟨q, us, rfl, e2, r2⟩ := hy
      obtain rfl : b = Value.ref q := rb
      by_cases z : p = q
      · subst z
        rw [← rep_uniq hx0 hy0 dx dy, eqP_refl dx]
        exact EqAt.same _
      · exact EqAt.of_refs z (rcAtP I (.tup xs) _ n A p q dx dy hx0 hy0 hu)
    | lst ys =>
      have hy0 := hy
      unfold Rep at hy
      obtain ⟨q, us, rfl, e2, r2⟩ := hy
      obtain rfl : b = Value.ref q := rb
      obtain ⟨its2, rv2, hl2⟩ := at_list I e2
      exact EqAt.tuple_list hl hl2 hu1
    | non => unfold Rep at hy; subst hy; cases rb; exact EqAt.tuple_none hl hu1
    | bl _ => unfold Rep at hy; subst hy; cases rb; exact EqAt.tuple_bool _ hl hu1
    | int _ => unfold Rep at hy; subst hy; obtain ⟨t, rfl⟩ := rb; exact EqAt.tuple_int _ t hl hu1
    | str _ => unfold Rep at hy; subst hy; obtain ⟨t, rfl⟩ := rb; exact EqAt.tuple_str _ t hl hu1
    | dic _ => cases dy
    | obj _ _ => cases dy
    | exc _ _ => cases dy
  | .non, y, n, A, v, w, a, b, dx, dy, hx, hy, ra, rb, hu => by
    unfold Rep at hx
    subst hx
    cases ra
    have hu1 : A.units < cLine := by omega
    cases y with
    | non => unfold Rep at hy; subst hy; cases rb; exact EqAt.same _
    | bl _ => unfold Rep at hy; subst hy; cases rb; exact EqAt.none_bool _
    | int _ => unfold Rep at hy; subst hy; obtain ⟨t, rfl⟩ := rb; exact EqAt.none_int _ t
    | str _ => unfold Rep at hy; subst hy; obtain ⟨t, rfl⟩ := rb; exact EqAt.none_str _ t
    | lst ys => unfold Rep at hy; obtain ⟨q, us, rfl, e2, r2⟩ := hy; obtain rfl : b = Value.ref q := rb; obtain ⟨its2, rv2, hl2⟩ := at_list I e2; exact EqAt.none_list hl2 hu1
    | tup ys => unfold Rep at hy; obtain ⟨q, us, rfl, e2, r2⟩ := hy; obtain rfl : b = Value.ref q := rb; obtain ⟨its2, rv2, hl2⟩ := at_tuple I e2; exact EqAt.none_tuple hl2 hu1
    | dic _ => cases dy
    | obj _ _ => cases dy
    | exc _ _ => cases dy
  | .bl x, y, n, A, v, w, a, b, dx, dy, hx, hy, ra, rb, hu => by
    unfold Rep at hx
    subst hx
    cases ra
    have hu1 : A.units < cLine := by omega
    cases y with
    | non => unfold Rep at hy; subst hy; cases rb; exact EqAt.bool_none _
    | bl _ => unfold Rep at hy; subst hy; cases rb; exact EqAt.bool_bool _ _
    | int _ => unfold Rep at hy; subst hy; obtain ⟨t, rfl⟩ := rb; exact EqAt.bool_int _ _ t
    | str _ => unfold Rep at hy; subst hy; obtain ⟨t, rfl⟩ := rb; exact EqAt.bool_str _ _ t
    | lst ys => unfold Rep at hy; obtain ⟨q, us, rfl, e2, r2⟩ := hy; obtain rfl : b = Value.ref q := rb; obtain ⟨its2, rv2, hl2⟩ := at_list I e2; exact EqAt.bool_list _ hl2 hu1
    | tup ys => unfold Rep at hy; obtain ⟨q, us, rfl, e2, r2⟩ := hy; obtain rfl : b = Value.ref q := rb; obtain ⟨its2, rv2, hl2⟩ := at_tuple I e2; exact EqAt.bool_tuple _ hl2 hu1
    | dic _ => cases dy
    | obj _ _ => cases dy
    | exc _ _ => cases dy
  | .int x, y, n, A, v, w, a, b, dx, dy, hx, hy, ra, rb, hu => by
    unfold Rep at hx
    subst hx
    obtain ⟨t0, rfl⟩ := ra
    have hu1 : A.units < cLine := by omega
    cases y with
    | non => unfold Rep at hy; subst hy; cases rb; exact EqAt.int_none _ _
    | bl _ => unfold Rep at hy; subst hy; cases rb; exact EqAt.int_bool _ _ _
    | int _ => unfold Rep at hy; subst hy; obtain ⟨t, rfl⟩ := rb; exact EqAt.int_int _ _ _ t
    | str _ => unfold Rep at hy; subst hy; obtain ⟨t, rfl⟩ := rb; exact EqAt.int_str _ _ _ t
    | lst ys => unfold Rep at hy; obtain ⟨q, us, rfl, e2, r2⟩ := hy; obtain rfl : b = Value.ref q := rb; obtain ⟨its2, rv2, hl2⟩ := at_list I e2; exact EqAt.int_list _ _ hl2 hu1
    | tup ys => unfold Rep at hy; obtain ⟨q, us, rfl, e2, r2⟩ := hy; obtain rfl : b = Value.ref q := rb; obtain ⟨its2, rv2, hl2⟩ := at_tuple I e2; exact EqAt.int_tuple _ _ hl2 hu1
    | dic _ => cases dy
    | obj _ _ => cases dy
    | exc _ _ => cases dy
  | .str x, y, n, A, v, w, a, b, dx, dy, hx, hy, ra, rb, hu => by
    unfold Rep at hx
    subst hx
    obtain ⟨t0, rfl⟩ := ra
    have hu1 : A.units < cLine := by omega
    cases y with
    | non => unfold Rep at hy; subst hy; cases rb; exact EqAt.str_none _ _
    | bl _ => unfold Rep at hy; subst hy; cases rb; exact EqAt.str_bool _ _ _
    | int _ => unfold Rep at hy; subst hy; obtain ⟨t, rfl⟩ := rb; exact EqAt.str_int _ _ _ t
    | str _ => unfold Rep at hy; subst hy; obtain ⟨t, rfl⟩ := rb; exact EqAt.str_str _ _ _ t
    | lst ys => unfold Rep at hy; obtain ⟨q, us, rfl, e2, r2⟩ := hy; obtain rfl : b = Value.ref q := rb; obtain ⟨its2, rv2, hl2⟩ := at_list I e2; exact EqAt.str_list _ _ hl2 hu1
    | tup ys => unfold Rep at hy; obtain ⟨q, us, rfl, e2, r2⟩ := hy; obtain rfl : b = Value.ref q := rb; obtain ⟨its2, rv2, hl2⟩ := at_tuple I e2; exact EqAt.str_tuple _ _ hl2 hu1
    | dic _ => cases dy
    | obj _ _ => cases dy
    | exc _ _ => cases dy
  | .dic _, _, _, _, _, _, _, _, dx, _, _, _, _, _, _ => by cases dx
  | .obj _ _, _, _, _, _, _, _, _, dx, _, _, _, _, _, _ => by cases dx
  | .exc _ _, _, _, _, _, _, _, _, dx, _, _, _, _, _, _ => by cases dx
theorem eqAll (I : Inv X pins σ H s) : ∀ (xs ys : List PV) (n : Nat) (A : Around) (vs ws : List V) (as bs : List Value), datNL xs n = true → datNL ys n = true → RepL ca H vs xs → RepL ca H ws ys → Vals vs as → Vals ws bs → A.units + n < cLine →
    ∀ j (h1 : j < as.toArray.size) (h2 : j < bs.toArray.size), EqAt A s as.toArray[j] bs.toArray[j] (prE xs ys j)
  | [], ys, n, A, vs, ws, as, bs, dx, dy, hx, hy, ra, rb, hu => fun j h1 h2 => by
    unfold RepL at hx
    subst hx
    cases ra
    exact absurd h1 (by simp)
  | x :: xs, [], n, A, vs, ws, as, bs, dx, dy, hx, hy, ra, rb, hu => fun j h1 h2 => by
    unfold RepL at hy
    subst hy
    cases rb
    exact absurd h2 (by simp)
  | x :: xs, y :: ys, n, A, vs, ws, as, bs, dx, dy, hx, hy, ra, rb, hu => fun j h1 h2 => by
    unfold RepL at hx hy
    obtain ⟨v, vr, rfl, x1, x2⟩ := hx
    obtain ⟨w, wr, rfl, y1, y2⟩ := hy
    cases ra with
    | cons ra1 ra2 =>
      cases rb with
      | cons rb1 rb2 =>
        unfold datNL at dx dy
        rw [Bool.and_eq_true] at dx dy
        cases j with
        | zero => exact eqAtP I x y n A v w _ _ dx.1 dy.1 x1 y1 ra1 rb1 hu
        | succ j => exact eqAll I xs ys n A vr wr _ _ dx.2 dy.2 x2 y2 ra2 rb2 hu j (by simpa using h1) (by simpa using h2)
end
theorem dK_at (I : Inv X pins σ H s) {p : Addr} {us : List (Key × V)} (h : rd H p = some (.dK us)) : (p == sysModules) = false ∧ ∃ vs, KV us vs ∧ s.heap.DictOf (mixKind X.prog X.w) p vs := by
  obtain ⟨_, y, vs, r, d⟩ := (show ObjOk X.prog X.w H s.heap p (.dK us) from (rd_Rd h).ok I.hok)
  exact ⟨y, vs, r, d⟩
theorem hits_P (I : Inv X pins σ H s) {A : Around} {ls : List (Key × PV)} {lv : List (Key × V)} {vb : List (Key × Value)} (rl : RepK ca H lv ls) (rb : KV lv vb) (hl : ∀ kv ∈ ls, datN kv.2 50 = true) (hu : A.units + 50 < cLine) :
    ∀ {ks : List (Key × PV)} {kv : List (Key × V)} {va : List (Key × Value)}, RepK ca H kv ks → KV kv va → (∀ kv ∈ ks, datN kv.2 50 = true) → PySem.W.KeqHitsP X.prog X.w A s vb va (eqD ks ls)
  | [], kv, va, rk, ra, hk => by
    unfold RepK at rk
    subst rk
    cases ra
    exact .nil
  | (k, x) :: ks, kv, va, rk, ra, hk => by
    unfold RepK at rk
    obtain ⟨v, r, rfl, h1, h2⟩ := rk
    cases ra with
    | @cons _ q _ qs h t =>
      obtain ⟨key, val⟩ := q
      obtain ⟨h3, h4⟩ := h
      have h3 : k = key := h3
      subst h3
      have ih := hits_P I rl rb hl hu h2 t fun kv m => hk kv (List.mem_cons_of_mem _ m)
      have g := rl.get k
      unfold eqD
      cases e : dget ls k with
      | none =>
        rw [e] at g
        rw [Bool.false_and]
        refine .miss ?_
        have := rb.val k
        rw [show valV lv k = none from g] at this
        cases q : valueAt vb k with
        | none => rfl
        | some y => rw [q] at this; exact this.elim
      | some y =>
        rw [e] at g
        obtain ⟨u, g1, g2⟩ := g
        have rr : RelO (some u) (valueAt vb k) := by rw [← g1]; exact rb.val k
        obtain ⟨w, hw, rw'⟩ := rr.some_of
        have hm : ∃ kv ∈ ls, kv.2 = y := by
          unfold dget at e
          obtain ⟨kv, e1, e2⟩ := Option.map_eq_some_iff.mp e
          exact ⟨kv, List.mem_of_find?_eq_some e1, e2⟩
        obtain ⟨kv0, m0, rfl⟩ := hm
        exact .hit hw ((eqAtP I x kv0.2 50 A v u _ _ (hk (k, x) List.mem_cons_self) (hl kv0 m0) h1 g2 h4 rw' hu).eqP) ih
/-- == of two dicts of data -/
theorem rc_dic (I : Inv X pins σ H s) {A : Around} {ks ls : List (Key × PV)} {p q : Addr} (hx : Rep ca H (.ref p) (.dic ks)) (hy : Rep ca H (.ref q) (.dic ls)) (dx : dicD (.dic ks) = true) (dy : dicD (.dic ls) = true) (hu : A.units + 52 < cLine)
    (E Q : Value → Shared → Prop) (h : Q (.bool (eqP (.dic ks) (.dic ls))) s) : wpAny (model X.prog X.w) A (richCompare .Eq (.ref p) (.ref q)) Q E s := by
  unfold Rep at hx hy
  obtain ⟨p', us, e, e1, r1⟩ := hx
  cases e
  obtain ⟨q', ws, e, e2, r2⟩ := hy
  cases e
  obtain ⟨y1, va, k1, d1⟩ := dK_at I e1
  obtain ⟨y2, vb, k2, d2⟩ := dK_at I e2
  refine PySem.W.rcP_dicts (knd := mixKind X.prog X.w) (r := eqD ks ls) y1 y2 d1 d2 (by omega) (fun _ => hits_P I r2 k2 (List.all_eq_true.mp dy) (by rw [in1_units]; omega) r1 k1 (List.all_eq_true.mp dx)) E Q ?_
  have l1 : va.length = ks.length := by rw [← k1.length, r1.length]
  have l2 : vb.length = ls.length := by rw [← k2.length, r2.length]
  rw [l1, l2]
  exact h
theorem dicD_refl (ks : List (Key × PV)) (hn : (ks.map (·.1)).Nodup) (h : dicD (.dic ks) = true) : eqP (.dic ks) (.dic ks) = true := by
  have main : ∀ (l : List (Key × PV)), (∀ kv ∈ l, kv ∈ ks) → eqD l ks = true := by
    intro l
    induction l with
    | nil => intro _; rfl
    | cons kv l ih =>
      intro hl
      obtain ⟨k, x⟩ := kv
      unfold eqD
      have : dget ks k = some x := by
        have m := hl (k, x) List.mem_cons_self
        clear ih h hl
        unfold dget
        induction ks with
        | nil => cases m
        | cons y ys ihh =>
          rw [List.find?_cons]
          rw [List.map_cons, List.nodup_cons] at hn
          rcases List.mem_cons.mp m with e | m
          · subst e; simp
          · have : y.1 ≠ k := fun z => hn.1 (by rw [z]; exact List.mem_map.mpr ⟨_, m, rfl⟩)
            rw [show decide (y.1 = k) = false from decide_eq_false this]
            exact ihh hn.2 m
      rw [this]
      dsimp only
      rw [eqP_refl (List.all_eq_true.mp h _ (hl (k, x) List.mem_cons_self)), ih fun kv m => hl kv (List.mem_cons_of_mem _ m)]
      rfl
  unfold eqP
  dsimp only
  rw [main ks fun _ h => h]
  simp
theorem rcTop (I : Inv X pins σ H s) : ∀ (x y : PV) (n : Nat) (A : Around) (v w : V) (a b : Value), datN x n = true → datN y n = true → Rep ca H v x → Rep ca H w y → RelV v a → RelV w b → A.units + n < cLine → RcAt A s a b (eqP x y)
  | .non, y, n, A, v, w, a, b, dx, dy, hx, hy, ra, rb, hu => by
    have hu1 : A.units < cLine := by omega
    unfold Rep at hx
    subst hx
    cases ra
    cases y with
    | non =>
      unfold Rep at hy
      subst hy
      cases rb
      exact RcAt.none_none
    | bl _ =>
      unfold Rep at hy
      subst hy
      cases rb
      exact RcAt.none_bool _
    | int _ =>
      unfold Rep at hy
      subst hy
      obtain ⟨t, rfl⟩ := rb
      exact RcAt.none_int _ t
    | str _ =>
      unfold Rep at hy
      subst hy
      obtain ⟨t, rfl⟩ := rb
      exact RcAt.none_str _ t
    | lst ys =>
      have hy0 := hy
      unfold Rep at hy
      obtain ⟨q, us, rfl, e2, r2⟩ := hy
      obtain rfl : b = Value.ref q := rb
      obtain ⟨its2, rv2, hl2⟩ := at_list I e2
      exact RcAt.none_list hl2 hu1
    | tup ys =>
      have hy0 := hy
      unfold Rep at hy
      obtain ⟨q, us, rfl, e2, r2⟩ := hy
      obtain rfl : b = Value.ref q := rb
      obtain ⟨its2, rv2, hl2⟩ := at_tuple I e2
      exact RcAt.none_tuple hl2 hu1
    | dic _ => cases dy
    | obj _ _ => cases dy
    | exc _ _ => cases dy
  | .bl x, y, n, A, v, w, a, b, dx, dy, hx, hy, ra, rb, hu => by
    have hu1 : A.units < cLine := by omega
    unfold Rep at hx
    subst hx
    cases ra
    cases y with
    | non =>
      unfold Rep at hy
      subst hy
      cases rb
      exact RcAt.bool_none _
    | bl _ =>
      unfold Rep at hy
      subst hy
      cases rb
      exact RcAt.bool_bool _ _
    | int _ =>
      unfold Rep at hy
      subst hy
      obtain ⟨t, rfl⟩ := rb
      exact RcAt.bool_int _ _ t
    | str _ =>
      unfold Rep at hy
      subst hy
      obtain ⟨t, rfl⟩ := rb
      exact RcAt.bool_str _ _ t
    | lst ys =>
      have hy0 := hy
      unfold Rep at hy
      obtain ⟨q, us, rfl, e2, r2⟩ := hy
      obtain rfl : b = Value.ref q := rb
      obtain ⟨its2, rv2, hl2⟩ := at_list I e2
      exact RcAt.bool_list _ hl2 hu1
    | tup ys =>
      have hy0 := hy
      unfold Rep at hy
      obtain ⟨q, us, rfl, e2, r2⟩ := hy
      obtain rfl : b = Value.ref q := rb
      obtain ⟨its2, rv2, hl2⟩ := at_tuple I e2
      exact RcAt.bool_tuple _ hl2 hu1
    | dic _ => cases dy
    | obj _ _ => cases dy
    | exc _ _ => cases dy
  | .int x, y, n, A, v, w, a, b, dx, dy, hx, hy, ra, rb, hu => by
    have hu1 : A.units < cLine := by omega
    unfold Rep at hx
    subst hx
    obtain ⟨t0, rfl⟩ := ra
    cases y with
    | non =>
      unfold Rep at hy
      subst hy
      cases rb
      exact RcAt.int_none _ _
    | bl _ =>
      unfold Rep at hy
      subst hy
      cases rb
      exact RcAt.int_bool _ _ _
    | int _ =>
      unfold Rep at hy
      subst hy
      obtain ⟨t, rfl⟩ := rb
      exact RcAt.int_int _ _ _ t
    | str _ =>
      unfold Rep at hy
      subst hy
      obtain ⟨t, rfl⟩ := rb
      exact RcAt.int_str _ _ _ t
    | lst ys =>
      have hy0 := hy
      unfold Rep at hy
      obtain ⟨q, us, rfl, e2, r2⟩ := hy
      obtain rfl : b = Value.ref q := rb
      obtain ⟨its2, rv2, hl2⟩ := at_list I e2
      exact RcAt.int_list _ _ hl2 hu1
    | tup ys =>
      have hy0 := hy
      unfold Rep at hy
      obtain ⟨q, us, rfl, e2, r2⟩ := hy
      obtain rfl : b = Value.ref q := rb
      obtain ⟨its2, rv2, hl2⟩ := at_tuple I e2
      exact RcAt.int_tuple _ _ hl2 hu1
    | dic _ => cases dy
    | obj _ _ => cases dy
    | exc _ _ => cases dy
  | .str x, y, n, A, v, w, a, b, dx, dy, hx, hy, ra, rb, hu => by
    have hu1 : A.units < cLine := by omega
    unfold Rep at hx
    subst hx
    obtain ⟨t0, rfl⟩ := ra
    cases y with
    | non =>
      unfold Rep at hy
      subst hy
      cases rb
      exact RcAt.str_none _ _
    | bl _ =>
      unfold Rep at hy
      subst hy
      cases rb
      exact RcAt.str_bool _ _ _
    | int _ =>
      unfold Rep at hy
      subst hy
      obtain ⟨t, rfl⟩ := rb
      exact RcAt.str_int _ _ _ t
    | str _ =>
      unfold Rep at hy
      subst hy
      obtain ⟨t, rfl⟩ := rb
      exact RcAt.str_str _ _ _ t
    | lst ys =>
      have hy0 := hy
      unfold Rep at hy
      obtain ⟨q, us, rfl, e2, r2⟩ := hy
      obtain rfl : b = Value.ref q := rb
      obtain ⟨its2, rv2, hl2⟩ := at_list I e2
      exact RcAt.str_list _ _ hl2 hu1
    | tup ys =>
      have hy0 := hy
      unfold Rep at hy
      obtain ⟨q, us, rfl, e2, r2⟩ := hy
      obtain rfl : b = Value.ref q := rb
      obtain ⟨its2, rv2, hl2⟩ := at_tuple I e2
      exact RcAt.str_tuple _ _ hl2 hu1
    | dic _ => cases dy
    | obj _ _ => cases dy
    | exc _ _ => cases dy
  | .lst xs, y, n, A, v, w, a, b, dx, dy, hx, hy, ra, rb, hu => by
    have hu1 : A.units < cLine := by omega
    have hx0 := hx
    unfold Rep at hx
    obtain ⟨p, vs, rfl, e1, r1⟩ := hx
    obtain rfl : a = Value.ref p := ra
    obtain ⟨its, rv, hl⟩ := at_list I e1
    cases y with
    | non =>
      unfold Rep at hy
      subst hy
      cases rb
      exact RcAt.list_none hl hu1
    | bl _ =>
      unfold Rep at hy
      subst hy
      cases rb
      exact RcAt.list_bool _ hl hu1
    | int _ =>
      unfold Rep at hy
      subst hy
      obtain ⟨t, rfl⟩ := rb
      exact RcAt.list_int _ t hl hu1
    | str _ =>
      unfold Rep at hy
      subst hy
      obtain ⟨t, rfl⟩ := rb
      exact RcAt.list_str _ t hl hu1
    | lst ys =>
      have hy0 := hy
      unfold Rep at hy
      obtain ⟨q, us, rfl, e2, r2⟩ := hy
      obtain rfl : b = Value.ref q := rb
      obtain ⟨its2, rv2, hl2⟩ := at_list I e2
      exact rcAtP I (.lst xs) _ n A p q dx dy hx0 hy0 hu
    | tup ys =>
      have hy0 := hy
      unfold Rep at hy
      obtain ⟨q, us, rfl, e2, r2⟩ := hy
      obtain rfl : b = Value.ref q := rb
      obtain ⟨its2, rv2, hl2⟩ := at_tuple I e2
      exact RcAt.list_tuple hl hl2 hu1
    | dic _ => cases dy
    | obj _ _ => cases dy
    | exc _ _ => cases dy
  | .tup xs, y, n, A, v, w, a, b, dx, dy, hx, hy, ra, rb, hu => by
    have hu1 : A.units < cLine := by omega
    have hx0 := hx
    unfold Rep at hx
    obtain ⟨p, vs, rfl, e1, r1⟩ := hx
    obtain rfl : a = Value.ref p := ra
    obtain ⟨its, rv, hl⟩ := at_tuple I e1
    cases y with
    | non =>
      unfold Rep at hy
      subst hy
      cases rb
      exact RcAt.tuple_none hl hu1
    | bl _ =>
      unfold Rep at hy
      subst hy
      cases rb
      exact RcAt.tuple_bool _ hl hu1
    | int _ =>
      unfold Rep at hy
      subst hy
      obtain ⟨t, rfl⟩ := rb
      exact RcAt.tuple_int _ t hl hu1
    | str _ =>
      unfold Rep at hy
      subst hy
      obtain ⟨t, rfl⟩ := rb
      exact RcAt.tuple_str _ t hl hu1
    | lst ys =>
      have hy0 := hy
      unfold Rep at hy
      obtain ⟨q, us, rfl, e2, r2⟩ := hy
      obtain rfl : b = Value.ref q := rb
      obtain ⟨its2, rv2, hl2⟩ := at_list I e2
      exact RcAt.tuple_list hl hl2 hu1
    | tup ys =>
      have hy0 := hy
      unfold Rep at hy
      obtain ⟨q, us, rfl, e2, r2⟩ := hy
      obtain rfl : b = Value.ref q := rb
      obtain ⟨its2, rv2, hl2⟩ := at_tuple I e2
      exact rcAtP I (.tup xs) _ n A p q dx dy hx0 hy0 hu
    | dic _ => cases dy
    | obj _ _ => cases dy
    | exc _ _ => cases dy
  | .dic _, _, _, _, _, _, _, _, dx, _, _, _, _, _, _ => by cases dx
  | .obj _ _, _, _, _, _, _, _, _, dx, _, _, _, _, _, _ => by cases dx
  | .exc _ _, _, _, _, _, _, _, _, dx, _, _, _, _, _, _ => by cases dx
theorem rcNeP (I : Inv X pins σ H s) : ∀ (x y : PV) (n : Nat) (A : Around) (p q : Addr), datN x n = true → datN y n = true → Rep ca H (.ref p) x → Rep ca H (.ref q) y → A.units + n < cLine → RcNeAt A s (.ref p) (.ref q) (!eqP x y)
  | .lst xs, y, n, A, p, q, dx, dy, hx, hy, hu => by
    cases n with
    | zero => cases dx
    | succ n =>
      unfold Rep at hx
      obtain ⟨p', vs, e, e1, r1⟩ := hx
      cases e
      obtain ⟨its, rv, hl⟩ := at_list I e1
      cases y with
      | lst ys =>
        unfold Rep at hy
        obtain ⟨q', us, e, e2, r2⟩ := hy
        cases e
        obtain ⟨its2, rv2, hl2⟩ := at_list I e2
        unfold eqP
        dsimp only
        have l1 : its.length = xs.length := by rw [← rv.length, r1.length]
        have l2 : its2.length = ys.length := by rw [← rv2.length, r2.length]
        by_cases hsz : xs.length = ys.length
        · have := RcNeAt.lists (e := prE xs ys) (A := A) hl hl2 (by simp [l1, l2, hsz]) (by omega) (eqAll I xs ys n A.in1 vs us its its2 dx dy r1 r2 rv rv2 (by rw [in1_units]; omega))
          rw [eqL_range, hsz]
          have e3 : its.toArray.size = ys.length := by simp [l1, hsz]
          rw [e3] at this
          simpa using this
        · have := RcNeAt.lists_lengths (A := A) hl hl2 (by simp [l1, l2, hsz]) (by omega)
          rw [eqL_range, show (xs.length == ys.length) = false from by simpa using hsz, Bool.and_false]
          exact this
      | tup ys =>
        unfold Rep at hy
        obtain ⟨q', us, e, e2, r2⟩ := hy
        cases e
        obtain ⟨its2, rv2, hl2⟩ := at_tuple I e2
        exact RcNeAt.list_tuple hl hl2 (by omega)
      | dic _ => cases dy
      | obj _ _ => cases dy
      | exc _ _ => cases dy
      | _ => unfold Rep at hy; cases hy
  | .tup xs, y, n, A, p, q, dx, dy, hx, hy, hu => by
    cases n with
    | zero => cases dx
    | succ n =>
      unfold Rep at hx
      obtain ⟨p', vs, e, e1, r1⟩ := hx
      cases e
      obtain ⟨its, rv, hl⟩ := at_tuple I e1
      cases y with
      | tup ys =>
        unfold Rep at hy
        obtain ⟨q', us, e, e2, r2⟩ := hy
        cases e
        obtain ⟨its2, rv2, hl2⟩ := at_tuple I e2
        unfold eqP
        dsimp only
        have l1 : its.length = xs.length := by rw [← rv.length, r1.length]
        have l2 : its2.length = ys.length := by rw [← rv2.length, r2.length]
        have := RcNeAt.tuples (e := prE xs ys) (A := A) hl hl2 (by omega) (eqAll I xs ys n A.in1 vs us its its2 dx dy r1 r2 rv rv2 (by rw [in1_units]; omega))
        rw [eqL_range]
        have e3 : its.toArray.size = xs.length := by simp [l1]
        have e4 : its2.toArray.size = ys.length := by simp [l2]
        rw [e3, e4] at this
        exact this
      | lst ys =>
        unfold Rep at hy
        obtain ⟨q', us, e, e2, r2⟩ := hy
        cases e
        obtain ⟨its2, rv2, hl2⟩ := at_list I e2
        exact RcNeAt.tuple_list hl hl2 (by omega)
      | dic _ => cases dy
      | obj _ _ => cases dy
      | exc _ _ => cases dy
      | _ => unfold Rep at hy; cases hy
  | .non, _, _, _, _, _, _, _, hx, _, _ => by unfold Rep at hx; cases hx
  | .bl _, _, _, _, _, _, _, _, hx, _, _ => by unfold Rep at hx; cases hx
  | .int _, _, _, _, _, _, _, _, hx, _, _ => by unfold Rep at hx; cases hx
  | .str _, _, _, _, _, _, _, _, hx, _, _ => by unfold Rep at hx; cases hx
  | .dic _, _, _, _, _, _, dx, _, _, _, _ => by cases dx
  | .obj _ _, _, _, _, _, _, dx, _, _, _, _ => by cases dx
  | .exc _ _, _, _, _, _, _, dx, _, _, _, _ => by cases dx
theorem rcNeTop (I : Inv X pins σ H s) : ∀ (x y : PV) (n : Nat) (A : Around) (v w : V) (a b : Value), datN x n = true → datN y n = true → Rep ca H v x → Rep ca H w y → RelV v a → RelV w b → A.units + n < cLine → RcNeAt A s a b (!eqP x y)
  | .non, y, n, A, v, w, a, b, dx, dy, hx, hy, ra, rb, hu => by
    have hu1 : A.units < cLine := by omega
    unfold Rep at hx
    subst hx
    cases ra
    cases y with
    | non =>
      unfold Rep at hy
      subst hy
      cases rb
      exact RcNeAt.none_none
    | bl _ =>
      unfold Rep at hy
      subst hy
      cases rb
      exact RcNeAt.none_bool _
    | int _ =>
      unfold Rep at hy
      subst hy
      obtain ⟨t, rfl⟩ := rb
      exact RcNeAt.none_int _ t
    | str _ =>
      unfold Rep at hy
      subst hy
      obtain ⟨t, rfl⟩ := rb
      exact RcNeAt.none_str _ t
    | lst ys =>
      have hy0 := hy
      unfold Rep at hy
      obtain ⟨q, us, rfl, e2, r2⟩ := hy
      obtain rfl : b = Value.ref q := rb
      obtain ⟨its2, rv2, hl2⟩ := at_list I e2
      exact RcNeAt.none_list hl2 hu1
    | tup ys =>
      have hy0 := hy
      unfold Rep at hy
      obtain ⟨q, us, rfl, e2, r2⟩ := hy
      obtain rfl : b = Value.ref q := rb
      obtain ⟨its2, rv2, hl2⟩ := at_tuple I e2
      exact RcNeAt.none_tuple hl2 hu1
    | dic _ => cases dy
    | obj _ _ => cases dy
    | exc _ _ => cases dy
  | .bl x, y, n, A, v, w, a, b, dx, dy, hx, hy, ra, rb, hu => by
    have hu1 : A.units < cLine := by omega
    unfold Rep at hx
    subst hx
    cases ra
    cases y with
    | non =>
      unfold Rep at hy
      subst hy
      cases rb
      exact RcNeAt.bool_none _
    | bl _ =>
      unfold Rep at hy
      subst hy
      cases rb
      exact RcNeAt.bool_bool _ _
    | int _ =>
      unfold Rep at hy
      subst hy
      obtain ⟨t, rfl⟩ := rb
      exact RcNeAt.bool_int _ _ t
    | str _ =>
      unfold Rep at hy
      subst hy
      obtain ⟨t, rfl⟩ := rb
      exact RcNeAt.bool_str _ _ t
    | lst ys =>
      have hy0 := hy
      unfold Rep at hy
      obtain ⟨q, us, rfl, e2, r2⟩ := hy
      obtain rfl : b = Value.ref q := rb
      obtain ⟨its2, rv2, hl2⟩ := at_list I e2
      exact RcNeAt.bool_list _ hl2 hu1
    | tup ys =>
      have hy0 := hy
      unfold Rep at hy
      obtain ⟨q, us, rfl, e2, r2⟩ := hy
      obtain rfl : b = Value.ref q := rb
      obtain ⟨its2, rv2, hl2⟩ := at_tuple I e2
      exact RcNeAt.bool_tuple _ hl2 hu1
    | dic _ => cases dy
    | obj _ _ => cases dy
    | exc _ _ => cases dy
  | .int x, y, n, A, v, w, a, b, dx, dy, hx, hy, ra, rb, hu => by
    have hu1 : A.units < cLine := by omega
    unfold Rep at hx
    subst hx
    obtain ⟨t0, rfl⟩ := ra
    cases y with
    | non =>
      unfold Rep at hy
      subst hy
      cases rb
      exact RcNeAt.int_none _ _
    | bl _ =>
      unfold Rep at hy
      subst hy
      cases rb
      exact RcNeAt.int_bool _ _ _
    | int _ =>
      unfold Rep at hy
      subst hy
      obtain ⟨t, rfl⟩ := rb
      exact RcNeAt.int_int _ _ _ t
    | str _ =>
      unfold Rep at hy
      subst hy
      obtain ⟨t, rfl⟩ := rb
      exact RcNeAt.int_str _ _ _ t
    | lst ys =>
      have hy0 := hy
      unfold Rep at hy
      obtain ⟨q, us, rfl, e2, r2⟩ := hy
      obtain rfl : b = Value.ref q := rb
      obtain ⟨its2, rv2, hl2⟩ := at_list I e2
      exact RcNeAt.int_list _ _ hl2 hu1
    | tup ys =>
      have hy0 := hy
      unfold Rep at hy
      obtain ⟨q, us, rfl, e2, r2⟩ := hy
      obtain rfl : b = Value.ref q := rb
      obtain ⟨its2, rv2, hl2⟩ := at_tuple I e2
      exact RcNeAt.int_tuple _ _ hl2 hu1
    | dic _ => cases dy
    | obj _ _ => cases dy
    | exc _ _ => cases dy
  | .str x, y, n, A, v, w, a, b, dx, dy, hx, hy, ra, rb, hu => by
    have hu1 : A.units < cLine := by omega
    unfold Rep at hx
    subst hx
    obtain ⟨t0, rfl⟩ := ra
    cases y with
    | non =>
      unfold Rep at hy
      subst hy
      cases rb
      exact RcNeAt.str_none _ _
    | bl _ =>
      unfold Rep at hy
      subst hy
      cases rb
      exact RcNeAt.str_bool _ _ _
    | int _ =>
      unfold Rep at hy
      subst hy
      obtain ⟨t, rfl⟩ := rb
      exact RcNeAt.str_int _ _ _ t
    | str _ =>
      unfold Rep at hy
      subst hy
      obtain ⟨t, rfl⟩ := rb
      exact RcNeAt.str_str _ _ _ t
    | lst ys =>
      have hy0 := hy
      unfold Rep at hy
      obtain ⟨q, us, rfl, e2, r2⟩ := hy
      obtain rfl : b = Value.ref q := rb
      obtain ⟨its2, rv2, hl2⟩ := at_list I e2
      exact RcNeAt.str_list _ _ hl2 hu1
    | tup ys =>
      have hy0 := hy
      unfold Rep at hy
      obtain ⟨q, us, rfl, e2, r2⟩ := hy
      obtain rfl : b = Value.ref q := rb
      obtain ⟨its2, rv2, hl2⟩ := at_tuple I e2
      exact RcNeAt.str_tuple _ _ hl2 hu1
    | dic _ => cases dy
    | obj _ _ => cases dy
    | exc _ _ => cases dy
  | .lst xs, y, n, A, v, w, a, b, dx, dy, hx, hy, ra, rb, hu => by
    have hu1 : A.units < cLine := by omega
    have hx0 := hx
    unfold Rep at hx
    obtain ⟨p, vs, rfl, e1, r1⟩ := hx
    obtain rfl : a = Value.ref p := ra
    obtain ⟨its, rv, hl⟩ := at_list I e1
    cases y with
    | non =>
      unfold Rep at hy
      subst hy
      cases rb
      exact RcNeAt.list_none hl hu1
    | bl _ =>
      unfold Rep at hy
      subst hy
      cases rb
      exact RcNeAt.list_bool _ hl hu1
    | int _ =>
      unfold Rep at hy
      subst hy
      obtain ⟨t, rfl⟩ := rb
      exact RcNeAt.list_int _ t hl hu1
    | str _ =>
      unfold Rep at hy
      subst hy
      obtain ⟨t, rfl⟩ := rb
      exact RcNeAt.list_str _ t hl hu1
    | lst ys =>
      have hy0 := hy
      unfold Rep at hy
      obtain ⟨q, us, rfl, e2, r2⟩ := hy
      obtain rfl : b = Value.ref q := rb
      obtain ⟨its2, rv2, hl2⟩ := at_list I e2
      exact rcNeP I (.lst xs) _ n A p q dx dy hx0 hy0 hu
    | tup ys =>
      have hy0 := hy
      unfold Rep at hy
      obtain ⟨q, us, rfl, e2, r2⟩ := hy
      obtain rfl : b = Value.ref q := rb
      obtain ⟨its2, rv2, hl2⟩ := at_tuple I e2
      exact RcNeAt.list_tuple hl hl2 hu1
    | dic _ => cases dy
    | obj _ _ => cases dy
    | exc _ _ => cases dy
  | .tup xs, y, n, A, v, w, a, b, dx, dy, hx, hy, ra, rb, hu => by
    have hu1 : A.units < cLine := by omega
    have hx0 := hx
    unfold Rep at hx
    obtain ⟨p, vs, rfl, e1, r1⟩ := hx
    obtain rfl : a = Value.ref p := ra
    obtain ⟨its, rv, hl⟩ := at_tuple I e1
    cases y with
    | non =>
      unfold Rep at hy
      subst hy
      cases rb
      exact RcNeAt.tuple_none hl hu1
    | bl _ =>
      unfold Rep at hy
      subst hy
      cases rb
      exact RcNeAt.tuple_bool _ hl hu1
    | int _ =>
      unfold Rep at hy
      subst hy
      obtain ⟨t, rfl⟩ := rb
      exact RcNeAt.tuple_int _ t hl hu1
    | str _ =>
      unfold Rep at hy
      subst hy
      obtain ⟨t, rfl⟩ := rb
      exact RcNeAt.tuple_str _ t hl hu1
    | lst ys =>
      have hy0 := hy
      unfold Rep at hy
      obtain ⟨q, us, rfl, e2, r2⟩ := hy
      obtain rfl : b = Value.ref q := rb
      obtain ⟨its2, rv2, hl2⟩ := at_list I e2
      exact RcNeAt.tuple_list hl hl2 hu1
    | tup ys =>
      have hy0 := hy
      unfold Rep at hy
      obtain ⟨q, us, rfl, e2, r2⟩ := hy
      obtain rfl : b = Value.ref q := rb
      obtain ⟨its2, rv2, hl2⟩ := at_tuple I e2
      exact rcNeP I (.tup xs) _ n A p q dx dy hx0 hy0 hu
    | dic _ => cases dy
    | obj _ _ => cases dy
    | exc _ _ => cases dy
  | .dic _, _, _, _, _, _, _, _, dx, _, _, _, _, _, _ => by cases dx
  | .obj _ _, _, _, _, _, _, _, _, dx, _, _, _, _, _, _ => by cases dx
  | .exc _ _, _, _, _, _, _, _, _, dx, _, _, _, _, _, _ => by cases dx
end
end Vc

set_option Elab.async false
set_option linter.all false
set_option maxRecDepth 100000
set_option maxHeartbeats 1000000
namespace Vc
open PySem PySem.Spec PyProof.Rows L2 PySem.SeqAt
open AutoSeq1 (wpAny_loadPart')
open MeetsSeq MeetsSeq2 MeetsSeq3 SeqRoads2
/-! ### != of lists, of dicts, within one model -/
section
variable {P : Program} {w : World}
abbrev lobj (xs : Array Value) (n : Nat) (dd : Option Addr) (sl : Array (Option Value)) : Obj := { cls := .type "list", dict := dd, data := .seq xs n, slots := sl }
theorem neL_loop (l b : Addr) (xs ys : Array Value) (n m : Nat) (dd de : Option Addr) (sl sm : Array (Option Value)) (hz : xs.size = ys.size) (e : Nat → Bool) (k : Nat) :
    ∀ i : Nat, xs.size - i = k → MeetsIn P w (Builtin.«list.__eq__.loop» ⟨[.ref l, .ref b, rawInt i, rawInt 3], []⟩)
      (fun A R s => s.heap.get? l = some (lobj xs n dd sl) ∧ s.heap.get? b = some (lobj ys m de sm) ∧
        (∀ j (h1 : j < xs.size) (h2 : j < ys.size), EqP P w A.in1 s xs[j] ys[j] (e j)) ∧ R (.ok (.ret (.bool (!((List.range xs.size).drop i).all e)))) s) := by
  induction k with
  | zero =>
    intro i hk A R s h
    obtain ⟨hp, g, d, tk, os⟩ := s; obtain ⟨h1, h2, he, h⟩ := h
    wp_walk using wpAny_loadPart' h1, wpAny_loadPart' h2
    have a1 : xs[((i : Nat) : Int).toNat]? = none := by simp; omega
    have a2 : ys[((i : Nat) : Int).toNat]? = none := by simp; omega
    have a3 : (List.range xs.size).drop i = [] := by simp; omega
    rw [a3] at h
    rw [a1, a2]
    wp_walk using wpAny_loadPart' h1, wpAny_loadPart' h2
    show R (.ok (.ret (.bool (xs.size != ys.size)))) _
    rw [hz]
    simpa using h
  | succ k ih =>
    intro i hk A R s h
    obtain ⟨hp, g, d, tk, os⟩ := s; obtain ⟨h1, h2, he, h⟩ := h
    wp_walk using wpAny_loadPart' h1, wpAny_loadPart' h2
    have p1 : i < xs.size := by omega
    have p2 : i < ys.size := by omega
    have a1 : xs[((i : Nat) : Int).toNat]? = some xs[i] := by simp [p1]
    have a2 : ys[((i : Nat) : Int).toNat]? = some ys[i] := by simp [p2]
    have a3 : (List.range xs.size).drop i = i :: (List.range xs.size).drop (i + 1) := by simp [List.drop_eq_getElem_cons, p1]
    have a4 : ((i : Int) + 1) = ((i + 1 : Nat) : Int) := by push_cast; rfl
    rw [a3, List.all_cons] at h
    rw [a1, a2]
    refine wpAny_bind (he i p1 p2 _ _ ?_)
    cases hb : e i with
    | true =>
      rw [hb] at h
      wp_walk
      rw [a4]
      refine ⟨plainId_quiet plain_eq_loop _, codeAny_builtin entry_eq_loop ?_⟩
      rw [Around.under_plainId plain_eq_loop _]
      exact ih (i + 1) (by omega) A R _ ⟨h1, h2, he, by simpa using h⟩
    | false =>
      rw [hb] at h
      wp_walk using wpAny_loadPart' h1, wpAny_loadPart' h2
      rw [a1, a2]
      wp_walk
      simpa using h
theorem neL_run (l b : Addr) (xs ys : Array Value) (n m : Nat) (dd de : Option Addr) (sl sm : Array (Option Value)) (hz : xs.size = ys.size) (e : Nat → Bool) :
    MeetsIn P w (Builtin.«list.__ne__» ⟨[.ref l, .ref b], []⟩)
      (fun A R s => s.heap.get? l = some (lobj xs n dd sl) ∧ s.heap.get? b = some (lobj ys m de sm) ∧
        (∀ j (h1 : j < xs.size) (h2 : j < ys.size), EqP P w A.in1 s xs[j] ys[j] (e j)) ∧ R (.ok (.ret (.bool (!(List.range xs.size).all e)))) s) := by
  intro A R s h
  obtain ⟨hp, g, d, tk, os⟩ := s; obtain ⟨h1, h2, he, h⟩ := h
  have f := AutoSeq1.sub_list_list
  have q : ¬ (xs.size != ys.size) = true := by simp [hz]
  wp_walk using wpAny_loadPart' h1, wpAny_loadPart' h2
  refine ⟨plainId_quiet plain_eq_loop _, codeAny_builtin entry_eq_loop ?_⟩
  rw [Around.under_plainId plain_eq_loop _]
  exact neL_loop l b xs ys n m dd de sl sm hz e _ 0 rfl A R _ ⟨h1, h2, he, by simpa using h⟩
theorem rcNe_lists {A : Around} {s : Shared} {l b : Addr} {xs ys : Array Value} {e : Nat → Bool} (hl : s.heap.IsList l xs) (hb : s.heap.IsList b ys) (hz : xs.size = ys.size) (hu : A.units < cLine)
    (he : ∀ j (h1 : j < xs.size) (h2 : j < ys.size), EqP P w A.in1 s xs[j] ys[j] (e j)) (E Q : Value → Shared → Prop) (h : Q (.bool (!(List.range xs.size).all e)) s) : wpAny (model P w) A (richCompare .NotEq (.ref l) (.ref b)) Q E s := by
  obtain ⟨⟨c1, dd, d1, sl⟩, ho, hc, n, hd⟩ := id hl
  obtain ⟨⟨c2, de, d2, sm⟩, ho2, hc2, m, hd2⟩ := id hb
  simp only at hc hd hc2 hd2
  subst hc hd hc2 hd2
  have ta : s.TypeIs (.ref l) "list" := ⟨_, ho, rfl⟩
  have tb : s.TypeIs (.ref b) "list" := ⟨_, ho2, rfl⟩
  refine wpAny_richCompare_same_room (op := .NotEq) ta tb F.slot_list_ne ?_ hu
  refine call_meetsIn F.slot_list_ne ta F.entry_list_ne (F.args_list_ne_2 _ _) (neL_run l b xs ys n m dd de sl sm hz e) ?_
  refine ⟨ho, ho2, he, ?_⟩
  show Value.bool (!(List.range xs.size).all e) ≠ Value.notImplemented ∧ Q (.bool (!(List.range xs.size).all e)) s
  exact ⟨(fun x => nomatch x), h⟩
theorem rcNe_dicts {K : Type} [DecidableEq K] {knd : PySem.KeyKind P w K} {A : Around} {s : Shared} {a b : Addr} {ka kb : List (K × Value)} {r : Bool} (ha : (a == sysModules) = false) (hb : (b == sysModules) = false)
    (da : s.heap.DictOf knd a ka) (db : s.heap.DictOf knd b kb) (hu : A.units < cLine) (hits : ka.length = kb.length → PySem.W.KeqHitsP P w A.in1 s kb ka r) (E Q : Value → Shared → Prop)
    (h : Q (.bool (!(ka.length == kb.length && r))) s) : wpAny (model P w) A (richCompare .NotEq (.ref a) (.ref b)) Q E s := by
  refine wpAny_richCompare_same_room (op := .NotEq) da.typeIs db.typeIs PySem.F.slot_dict_ne ?_ hu
  refine wpAny_call_entry PySem.F.slot_dict_ne da.typeIs PySem.F.entry_dict_ne ?_ (PySem.F.args_dict_ne_2 _ _)
  show wpAny _ _ (Builtin.Dict.dictSlotArgs "__ne__" ⟨[.ref a, .ref b], []⟩ >>= _) _ _ s
  refine wpAny_bind ?_
  unfold Builtin.Dict.dictSlotArgs
  refine wpAny_bind (wpAny_notOrdered_dict da.typeIs ?_)
  show wpAny _ _ (pure (Value.ref a, Value.ref b)) _ _ s
  refine wpAny_pure (wpAny_bind (wpAny_isInstance (T := "dict") db.typeIs PySem.F.sub_dict_dict ?_))
  simp only [Bool.not_true, Bool.false_eq_true, if_false]
  refine wpAny_bind (wpAny_pure (wpAny_bind (wpAny_pure ?_)))
  refine wpAny_bind (PySem.W.samePairsP ha hb da db hits ?_)
  refine wpAny_pure ⟨_, rfl, (fun x => nomatch x), ?_⟩
  simpa using h
end
section
variable {X : Cx} {pins : List (Addr × Obj)} {s : Shared} {σ : L2.St} {H : Hp} {ca : CA}
theorem rcNe_dic (I : Inv X pins σ H s) {A : Around} {ks ls : List (Key × PV)} {p q : Addr} (hx : Rep ca H (.ref p) (.dic ks)) (hy : Rep ca H (.ref q) (.dic ls)) (dx : dicD (.dic ks) = true) (dy : dicD (.dic ls) = true) (hu : A.units + 52 < cLine)
    (E Q : Value → Shared → Prop) (h : Q (.bool (!eqP (.dic ks) (.dic ls))) s) : wpAny (model X.prog X.w) A (richCompare .NotEq (.ref p) (.ref q)) Q E s := by
  unfold Rep at hx hy
  obtain ⟨p', us, e, e1, r1⟩ := hx
  cases e
  obtain ⟨q', ws, e, e2, r2⟩ := hy
  cases e
  obtain ⟨y1, va, k1, d1⟩ := dK_at I e1
  obtain ⟨y2, vb, k2, d2⟩ := dK_at I e2
  refine rcNe_dicts (knd := mixKind X.prog X.w) (r := eqD ks ls) y1 y2 d1 d2 (by omega) (fun _ => hits_P I r2 k2 (List.all_eq_true.mp dy) (by rw [in1_units]; omega) r1 k1 (List.all_eq_true.mp dx)) E Q ?_
  have l1 : va.length = ks.length := by rw [← k1.length, r1.length]
  have l2 : vb.length = ls.length := by rw [← k2.length, r2.length]
  rw [l1, l2]
  exact h
/-- a dict's names are told once -/
theorem dic_nodup (I : Inv X pins σ H s) {p : Addr} {ks : List (Key × PV)} (hx : Rep ca H (.ref p) (.dic ks)) : (ks.map (·.1)).Nodup := by
  unfold Rep at hx
  obtain ⟨p', us, e, e1, r1⟩ := hx
  cases e
  obtain ⟨y1, va, k1, d1⟩ := dK_at I e1
  obtain ⟨_, _, _, _, _, _, _, _, hn⟩ := d1
  rw [← k1.keys] at hn
  have : us.map (·.1) = ks.map (·.1) := RepK.keys r1
  rw [← this]
  exact hn
theorem repK_uniq : ∀ {ks ls : List (Key × PV)} {us : List (Key × V)}, RepK ca H us ks → RepK ca H us ls → (∀ kv ∈ ks, datN kv.2 50 = true) → (∀ kv ∈ ls, datN kv.2 50 = true) → ks = ls
  | [], ls, us, h, k, _, _ => by
    unfold RepK at h
    subst h
    cases ls with
    | nil => rfl
    | cons q _ => obtain ⟨_, _⟩ := q; unfold RepK at k; obtain ⟨_, _, e, _⟩ := k; cases e
  | (c, x) :: ks, ls, us, h, k, d1, d2 => by
    unfold RepK at h
    obtain ⟨v, r, rfl, h1, h2⟩ := h
    cases ls with
    | nil => unfold RepK at k; cases k
    | cons q ls =>
      obtain ⟨c', y⟩ := q
      unfold RepK at k
      obtain ⟨v', r', e, k1, k2⟩ := k
      cases e
      rw [rep_uniq h1 k1 (d1 _ List.mem_cons_self) (d2 _ List.mem_cons_self), repK_uniq h2 k2 (fun kv m => d1 kv (List.mem_cons_of_mem _ m)) fun kv m => d2 kv (List.mem_cons_of_mem _ m)]
theorem dic_of {x : PV} (h : dicD x = true) : ∃ ks, x = .dic ks := by
  cases x <;> first | exact ⟨_, rfl⟩ | cases h
theorem dic_ref {ks : List (Key × PV)} {v : V} (h : Rep ca H v (.dic ks)) : ∃ p, v = .ref p := by
  unfold Rep at h
  obtain ⟨p, _, e, _⟩ := h
  exact ⟨p, e⟩
/-- == of two dicts, asked as of items -/
theorem eqP_dic (I : Inv X pins σ H s) {A : Around} {x y : PV} {v u : V} {a b : Value} (dx : dicD x = true) (dy : dicD y = true) (hx : Rep ca H v x) (hy : Rep ca H u y) (ra : RelV v a) (rb : RelV u b) (hu : A.units + 52 < cLine) :
    EqP X.prog X.w A s a b (eqP x y) := by
  obtain ⟨ks, rfl⟩ := dic_of dx
  obtain ⟨ls, rfl⟩ := dic_of dy
  obtain ⟨p, rfl⟩ := dic_ref hx
  obtain ⟨q, rfl⟩ := dic_ref hy
  cases ra
  cases rb
  by_cases hpq : p = q
  · subst hpq
    have : ks = ls := by
      have hx' := hx
      have hy' := hy
      unfold Rep at hx' hy'
      obtain ⟨_, us, e, e1, r1⟩ := hx'
      cases e
      obtain ⟨_, ws, e, e2, r2⟩ := hy'
      cases e
      rw [e1] at e2
      cases e2
      exact repK_uniq r1 r2 (List.all_eq_true.mp dx) (List.all_eq_true.mp dy)
    subst this
    rw [dicD_refl ks (dic_nodup I hx) dx]
    intro E Q hq
    unfold eqBool
    refine wpAny_holding ?_
    refine wpAny_ite_split (fun _ => ?_) (fun h => absurd (by simp) h)
    exact wpAny_pure (M := model X.prog X.w) (E := E) hq
  · exact eqP_refs hpq fun E Q h => rc_dic I hx hy dx dy hu E Q h
theorem eqP_all (I : Inv X pins σ H s) {A : Around} (hu : A.units + 52 < cLine) : ∀ (xs ys : List PV) (vs ws : List V) (as bs : List Value), xs.all dicD = true → ys.all dicD = true → RepL ca H vs xs → RepL ca H ws ys → Vals vs as → Vals ws bs →
    ∀ j (h1 : j < as.toArray.size) (h2 : j < bs.toArray.size), EqP X.prog X.w A s as.toArray[j] bs.toArray[j] (prE xs ys j)
  | [], ys, vs, ws, as, bs, dx, dy, hx, hy, ra, rb => fun j h1 h2 => by
    unfold RepL at hx
    subst hx
    cases ra
    exact absurd h1 (by simp)
  | x :: xs, [], vs, ws, as, bs, dx, dy, hx, hy, ra, rb => fun j h1 h2 => by
    unfold RepL at hy
    subst hy
    cases rb
    exact absurd h2 (by simp)
  | x :: xs, y :: ys, vs, ws, as, bs, dx, dy, hx, hy, ra, rb => fun j h1 h2 => by
    rw [List.all_cons, Bool.and_eq_true] at dx dy
    unfold RepL at hx hy
    obtain ⟨v, vr, rfl, x1, x2⟩ := hx
    obtain ⟨w, wr, rfl, y1, y2⟩ := hy
    cases ra with
    | cons ra1 ra2 =>
      cases rb with
      | cons rb1 rb2 =>
        cases j with
        | zero => exact eqP_dic I dx.1 dy.1 x1 y1 ra1 rb1 hu
        | succ j => exact eqP_all I hu xs ys vr wr _ _ dx.2 dy.2 x2 y2 ra2 rb2 j (by simpa using h1) (by simpa using h2)
theorem lst_of {x : PV} (h : dicL x = true) : ∃ xs, x = .lst xs ∧ xs.all dicD = true := by
  cases x <;> first | exact ⟨_, rfl, h⟩ | cases h
theorem lst_at (I : Inv X pins σ H s) {xs : List PV} {v : V} (h : Rep ca H v (.lst xs)) : ∃ p vs its, v = .ref p ∧ RepL ca H vs xs ∧ Vals vs its ∧ s.heap.IsList p its.toArray := by
  unfold Rep at h
  obtain ⟨p, vs, e, e1, r⟩ := h
  obtain ⟨its, rv, hl⟩ := at_list I e1
  exact ⟨p, vs, its, e, r, rv, hl⟩
/-- == and != of lists of dicts -/
theorem rc_dls (I : Inv X pins σ H s) {A : Around} {x y : PV} {v u : V} {a b : Value} (dx : dicL x = true) (dy : dicL y = true) (hx : Rep ca H v x) (hy : Rep ca H u y) (ra : RelV v a) (rb : RelV u b) (hu : A.units + 60 < cLine)
    (E Q : Value → Shared → Prop) (h : Q (.bool (eqP x y)) s) : wpAny (model X.prog X.w) A (richCompare .Eq a b) Q E s := by
  obtain ⟨xs, rfl, dx⟩ := lst_of dx
  obtain ⟨ys, rfl, dy⟩ := lst_of dy
  obtain ⟨p, vs, its, rfl, r1, rv, hl⟩ := lst_at I hx
  obtain ⟨q, us, its2, rfl, r2, rv2, hl2⟩ := lst_at I hy
  cases ra
  cases rb
  have l1 : its.length = xs.length := by rw [← rv.length, r1.length]
  have l2 : its2.length = ys.length := by rw [← rv2.length, r2.length]
  unfold eqP at h
  dsimp only at h
  rw [eqL_range] at h
  by_cases hsz : xs.length = ys.length
  · refine rcP_lists (e := prE xs ys) hl hl2 (by simp [l1, l2, hsz]) (by omega) (eqP_all I (by rw [in1_units]; omega) xs ys vs us its its2 dx dy r1 r2 rv rv2) E Q ?_
    rw [hsz] at h
    have e3 : its.toArray.size = ys.length := by simp [l1, hsz]
    rw [e3]
    simpa using h
  · rw [show (xs.length == ys.length) = false from by simpa using hsz, Bool.and_false] at h
    exact RcAt.lists_lengths (A := A) hl hl2 (by simp [l1, l2, hsz]) (by omega) _ _ E Q h
theorem rcNe_dls (I : Inv X pins σ H s) {A : Around} {x y : PV} {v u : V} {a b : Value} (dx : dicL x = true) (dy : dicL y = true) (hx : Rep ca H v x) (hy : Rep ca H u y) (ra : RelV v a) (rb : RelV u b) (hu : A.units + 60 < cLine)
    (E Q : Value → Shared → Prop) (h : Q (.bool (!eqP x y)) s) : wpAny (model X.prog X.w) A (richCompare .NotEq a b) Q E s := by
  obtain ⟨xs, rfl, dx⟩ := lst_of dx
  obtain ⟨ys, rfl, dy⟩ := lst_of dy
  obtain ⟨p, vs, its, rfl, r1, rv, hl⟩ := lst_at I hx
  obtain ⟨q, us, its2, rfl, r2, rv2, hl2⟩ := lst_at I hy
  cases ra
  cases rb
  have l1 : its.length = xs.length := by rw [← rv.length, r1.length]
  have l2 : its2.length = ys.length := by rw [← rv2.length, r2.length]
  unfold eqP at h
  dsimp only at h
  rw [eqL_range] at h
  by_cases hsz : xs.length = ys.length
  · refine rcNe_lists (e := prE xs ys) hl hl2 (by simp [l1, l2, hsz]) (by omega) (eqP_all I (by rw [in1_units]; omega) xs ys vs us its its2 dx dy r1 r2 rv rv2) E Q ?_
    rw [hsz] at h
    have e3 : its.toArray.size = ys.length := by simp [l1, hsz]
    rw [e3]
    simpa using h
  · rw [show (xs.length == ys.length) = false from by simpa using hsz, Bool.and_false] at h
    exact RcNeAt.lists_lengths (A := A) hl hl2 (by simp [l1, l2, hsz]) (by omega) _ _ E Q h
/-- == by values -/
theorem eqG_ok (I : Inv X pins σ H s) {A : Around} {x y : PV} {v u : V} {a b : Value} (g : eqG x y = true) (hx : Rep ca H v x) (hy : Rep ca H u y) (ra : RelV v a) (rb : RelV u b) (hu : A.units + 60 < cLine)
    (E Q : Value → Shared → Prop) (h : Q (.bool (eqP x y)) s) : wpAny (model X.prog X.w) A (richCompare .Eq a b) Q E s := by
  unfold eqG at g
  rw [Bool.or_eq_true, Bool.or_eq_true, Bool.and_eq_true, Bool.and_eq_true, Bool.and_eq_true] at g
  rcases g with (⟨d1, d2⟩ | ⟨d1, d2⟩) | ⟨d1, d2⟩
  · exact rcTop I x y 60 A v u a b d1 d2 hx hy ra rb hu _ _ E Q h
  · obtain ⟨ks, rfl⟩ := dic_of d1
    obtain ⟨ls, rfl⟩ := dic_of d2
    obtain ⟨p, rfl⟩ := dic_ref hx
    obtain ⟨q, rfl⟩ := dic_ref hy
    cases ra
    cases rb
    exact rc_dic I hx hy d1 d2 (by omega) E Q h
  · exact rc_dls I d1 d2 hx hy ra rb hu E Q h
theorem neG_ok (I : Inv X pins σ H s) {A : Around} {x y : PV} {v u : V} {a b : Value} (g : eqG x y = true) (hx : Rep ca H v x) (hy : Rep ca H u y) (ra : RelV v a) (rb : RelV u b) (hu : A.units + 60 < cLine)
    (E Q : Value → Shared → Prop) (h : Q (.bool (!eqP x y)) s) : wpAny (model X.prog X.w) A (richCompare .NotEq a b) Q E s := by
  unfold eqG at g
  rw [Bool.or_eq_true, Bool.or_eq_true, Bool.and_eq_true, Bool.and_eq_true, Bool.and_eq_true] at g
  rcases g with (⟨d1, d2⟩ | ⟨d1, d2⟩) | ⟨d1, d2⟩
  · exact rcNeTop I x y 60 A v u a b d1 d2 hx hy ra rb hu _ _ E Q h
  · obtain ⟨ks, rfl⟩ := dic_of d1
    obtain ⟨ls, rfl⟩ := dic_of d2
    obtain ⟨p, rfl⟩ := dic_ref hx
    obtain ⟨q, rfl⟩ := dic_ref hy
    cases ra
    cases rb
    exact rcNe_dic I hx hy d1 d2 (by omega) E Q h
  · exact rcNe_dls I d1 d2 hx hy ra rb hu E Q h
end
end Vc
namespace Vc
open PySem PySem.Spec PyProof.Rows L2 PySem.SeqAt
/-! ### in, of lists and tuples of data -/
section
variable {X : Cx} {pins : List (Addr × Obj)} {s : Shared} {σ : L2.St} {H : Hp} {ca : CA}
open Classical in
/-- does this item equal x -/
noncomputable def hitV (ca : CA) (H : Hp) (x : PV) (a : Value) : Bool := decide (∃ v y, RelV v a ∧ Rep ca H v y ∧ datN y 50 = true ∧ eqP y x = true)
open Classical in
theorem hitV_eq {x y : PV} {v : V} {a : Value} (r : RelV v a) (h : Rep ca H v y) (d : datN y 50 = true) : hitV ca H x a = eqP y x := by
  unfold hitV
  cases e : eqP y x with
  | true => exact decide_eq_true ⟨v, y, r, h, d, e⟩
  | false =>
    refine decide_eq_false ?_
    rintro ⟨v', y', r', h', d', e'⟩
    obtain rfl := r.inj r'
    rw [rep_uniq h h' d d'] at e
    rw [e] at e'
    cases e'
theorem hitV_any : ∀ {ys : List PV} {vs : List V} {as : List Value} {x : PV}, Vals vs as → RepL ca H vs ys → datNL ys 50 = true → as.any (hitV ca H x) = ys.any fun y => eqP y x
  | [], vs, as, x, r, h, _ => by
    unfold RepL at h
    subst h
    cases r
    rfl
  | y :: ys, vs, as, x, r, h, d => by
    unfold RepL at h
    obtain ⟨v, t, rfl, h1, h2⟩ := h
    unfold datNL at d
    rw [Bool.and_eq_true] at d
    cases r with
    | cons r1 r2 =>
      rw [List.any_cons, List.any_cons, hitV_eq r1 h1 d.1, hitV_any r2 h2 d.2]
theorem hitV_cnt : ∀ {ys : List PV} {vs : List V} {as : List Value} {x : PV}, Vals vs as → RepL ca H vs ys → datNL ys 50 = true → as.countP (hitV ca H x) = (ys.filter fun y => eqP y x).length
  | [], vs, as, x, r, h, _ => by
    unfold RepL at h
    subst h
    cases r
    rfl
  | y :: ys, vs, as, x, r, h, d => by
    unfold RepL at h
    obtain ⟨v, t, rfl, h1, h2⟩ := h
    unfold datNL at d
    rw [Bool.and_eq_true] at d
    cases r with
    | cons r1 r2 =>
      rw [List.countP_cons, List.filter_cons, hitV_eq r1 h1 d.1, hitV_cnt r2 h2 d.2]
      cases eqP y x <;> simp
theorem hitV_at (I : Inv X pins σ H s) {A : Around} {x : PV} {v : V} {b : Value} (hx : Rep ca H v x) (dx : datN x 50 = true) (rb : RelV v b) (hu : A.units + 52 < cLine) : ∀ {ys : List PV} {vs : List V} {as : List Value}, Vals vs as → RepL ca H vs ys → datNL ys 50 = true → ∀ a ∈ as, EqAt A s a b (hitV ca H x a)
  | [], vs, as, r, h, _ => by
    unfold RepL at h
    subst h
    cases r
    intro a m
    cases m
  | y :: ys, vs, as, r, h, d => by
    unfold RepL at h
    obtain ⟨u, t, rfl, h1, h2⟩ := h
    unfold datNL at d
    rw [Bool.and_eq_true] at d
    cases r with
    | cons r1 r2 =>
      intro a m
      rcases List.mem_cons.mp m with rfl | m
      · rw [hitV_eq r1 h1 d.1]
        exact eqAtP I y x 50 A u v a b d.1 dx h1 hx r1 rb (by omega)
      · exact hitV_at I hx dx rb hu r2 h2 d.2 a m
theorem tup_at (I : Inv X pins σ H s) {xs : List PV} {v : V} (h : Rep ca H v (.tup xs)) : ∃ p vs its, v = .ref p ∧ RepL ca H vs xs ∧ Vals vs its ∧ s.heap.IsTuple p its.toArray := by
  unfold Rep at h
  obtain ⟨p, vs, e, e1, r⟩ := h
  obtain ⟨its, rv, hl⟩ := at_tuple I e1
  exact ⟨p, vs, its, e, r, rv, hl⟩
theorem str_one {a : Str} {c : Nat} (h : a.cps.toList = [c]) : a = ⟨#[c]⟩ := by
  obtain ⟨cps⟩ := a
  congr 1
  exact Array.toList_inj.mp (by rw [h])
theorem rep_str {v : V} {z : Str} (h : Rep ca H v (.str z)) : v = .str z := by unfold Rep at h; exact h
theorem rep_int {v : V} {i : Int} (h : Rep ca H v (.int i)) : v = .int i := by unfold Rep at h; exact h
theorem rep_bl {v : V} {b : Bool} (h : Rep ca H v (.bl b)) : v = .bl b := by unfold Rep at h; exact h
theorem rep_non {v : V} (h : Rep ca H v .non) : v = .non := by unfold Rep at h; exact h
theorem rep_dic {v : V} {ks : List (Key × PV)} (h : Rep ca H v (.dic ks)) : ∃ p us, v = .ref p ∧ rd H p = some (.dK us) ∧ RepK ca H us ks := by unfold Rep at h; exact h
theorem rep_lst {v : V} {xs : List PV} (h : Rep ca H v (.lst xs)) : ∃ p us, v = .ref p ∧ rd H p = some (.lst us) ∧ RepL ca H us xs := by unfold Rep at h; exact h
theorem rep_tup {v : V} {xs : List PV} (h : Rep ca H v (.tup xs)) : ∃ p us, v = .ref p ∧ rd H p = some (.tup us) ∧ RepL ca H us xs := by unfold Rep at h; exact h
theorem rep_key {x : PV} {k : Key} {v : V} (e : keyP x = some k) (h : Rep ca H v x) : v = kV k := by
  cases x <;> first | (cases e; done) | skip
  · cases e; exact rep_int h
  · cases e; exact rep_str h
theorem dget_some (k : Key) {us : List (Key × V)} {ks : List (Key × PV)} (h : RepK ca H us ks) : (valV us k).isSome = (dget ks k).isSome := by
  have := h.get k
  cases e : dget ks k with
  | none =>
    rw [e] at this
    rw [show valV us k = none from this]
    rfl
  | some y =>
    rw [e] at this
    obtain ⟨u, g, _⟩ := this
    rw [show valV us k = some u from g]
    rfl
end
end Vc

set_option Elab.async false
set_option linter.all false
set_option maxRecDepth 100000
set_option maxHeartbeats 1000000
namespace Vc
open PySem PySem.Spec PyProof.Rows L2
/-! ### orders, plain -/
section
variable {α : Type} (lt : α → α → Bool)
def insG (x : α) : List α → List α
  | [] => [x]
  | y :: ys => if lt x y then x :: y :: ys else y :: insG x ys
def sortG (xs : List α) : List α := xs.foldl (fun acc x => insG lt x acc) []
def UpG (l : List α) : Prop := l.Pairwise fun x y => lt y x = false
structure Lin : Prop where
  asym : ∀ x y, lt x y = true → lt y x = false
  tr : ∀ x y z, lt y x = false → lt z y = false → lt z x = false
  anti : ∀ x y, lt x y = false → lt y x = false → x = y
variable {lt}
theorem insG_perm (x : α) : ∀ l : List α, (insG lt x l).Perm (x :: l)
  | [] => .refl _
  | y :: ys => by
    unfold insG
    split
    · exact .refl _
    · exact ((insG_perm x ys).cons y).trans (.swap x y ys)
theorem foldG_perm : ∀ (xs acc : List α), (xs.foldl (fun acc x => insG lt x acc) acc).Perm (xs ++ acc)
  | [], _ => .refl _
  | x :: xs, acc => by
    rw [List.foldl_cons]
    refine (foldG_perm xs (insG lt x acc)).trans ?_
    exact ((insG_perm x acc).append_left xs).trans List.perm_middle
theorem sortG_perm (xs : List α) : (sortG lt xs).Perm xs := by
  have := foldG_perm (lt := lt) xs []
  rw [List.append_nil] at this
  exact this
theorem insG_up (as : ∀ x y, lt x y = true → lt y x = false) (tr : ∀ x y z, lt y x = false → lt z y = false → lt z x = false) (x : α) : ∀ {l : List α}, UpG lt l → UpG lt (insG lt x l)
  | [], _ => List.pairwise_singleton _ _
  | y :: ys, h => by
    have h1 := List.pairwise_cons.mp h
    unfold insG
    split
    · rename_i e
      refine List.pairwise_cons.mpr ⟨fun z m => ?_, h⟩
      have a := as x y e
      rcases List.mem_cons.mp m with rfl | m
      · exact a
      · exact tr x y z a (h1.1 z m)
    · rename_i e
      refine List.pairwise_cons.mpr ⟨fun z m => ?_, insG_up as tr x h1.2⟩
      rcases List.mem_cons.mp ((insG_perm x ys).mem_iff.mp m) with rfl | m
      · simpa using e
      · exact h1.1 z m
theorem foldG_up (as : ∀ x y, lt x y = true → lt y x = false) (tr : ∀ x y z, lt y x = false → lt z y = false → lt z x = false) : ∀ (xs : List α) {acc : List α}, UpG lt acc → UpG lt (xs.foldl (fun acc x => insG lt x acc) acc)
  | [], _, h => h
  | x :: xs, acc, h => foldG_up as tr xs (insG_up as tr x h)
theorem sortG_up (O : Lin lt) (xs : List α) : UpG lt (sortG lt xs) := foldG_up O.asym O.tr xs List.Pairwise.nil
theorem up_uniq (O : Lin lt) {l m : List α} (h : UpG lt l) (k : UpG lt m) (p : l.Perm m) : l = m :=
  List.Perm.eq_of_pairwise (le := fun x y => lt y x = false) (fun a b _ _ h1 h2 => (O.anti a b h2 h1)) h k p
/-- an arrangement of xs that rises is the sorted one -/
theorem sortG_of (O : Lin lt) {l xs : List α} (h : UpG lt l) (p : l.Perm xs) : l = sortG lt xs := up_uniq O h (sortG_up O xs) (p.trans (sortG_perm xs).symm)
theorem insB_map (f : α → PV) (e : ∀ a b, ltB (f a) (f b) = lt a b) (x : α) : ∀ l : List α, insB ltB (f x) (l.map f) = (insG lt x l).map f
  | [] => rfl
  | y :: ys => by
    unfold insG
    show (if ltB (f x) (f y) = true then f x :: f y :: ys.map f else f y :: insB ltB (f x) (ys.map f)) = _
    rw [e]
    split
    · rfl
    · rw [insB_map f e x ys]; rfl
theorem foldB_map (f : α → PV) (e : ∀ a b, ltB (f a) (f b) = lt a b) : ∀ (l acc : List α), (l.map f).foldl (fun acc x => insB ltB x acc) (acc.map f) = (l.foldl (fun acc x => insG lt x acc) acc).map f
  | [], _ => rfl
  | x :: l, acc => by
    rw [List.map_cons, List.foldl_cons, List.foldl_cons, insB_map f e, foldB_map f e l]
theorem sortB_map (f : α → PV) (e : ∀ a b, ltB (f a) (f b) = lt a b) (l : List α) : sortB ltB (l.map f) = (sortG lt l).map f := foldB_map f e l []
end
def ltS (a b : Str) : Bool := decide (a.cps.toList < b.cps.toList)
def ltI (a b : Int) : Bool := decide (a < b)
theorem lin_int : Lin ltI where
  asym x y h := by unfold ltI at *; simp at *; omega
  tr x y z h k := by unfold ltI at *; simp at *; omega
  anti x y h k := by unfold ltI at *; simp at *; omega
theorem lin_str : Lin ltS where
  asym x y h := by
    unfold ltS at *
    rw [decide_eq_true_eq] at h
    exact decide_eq_false (List.lt_asymm h)
  tr x y z h k := by
    unfold ltS at *
    rw [decide_eq_false_iff_not] at *
    exact List.not_lt.mpr (List.le_trans (List.not_lt.mp h) (List.not_lt.mp k))
  anti x y h k := by
    unfold ltS at *
    rw [decide_eq_false_iff_not] at *
    have := List.le_antisymm (List.not_lt.mp h) (List.not_lt.mp k)
    obtain ⟨a⟩ := x
    obtain ⟨b⟩ := y
    congr 1
    exact Array.toList_inj.mp this.symm
theorem ltB_str (a b : Str) : ltB (.str a) (.str b) = ltS a b := rfl
theorem ltB_int (a b : Int) : ltB (.int a) (.int b) = ltI a b := rfl
theorem rising_up : ∀ (l : List Str) (p : Str), risingS p l = true → (∀ x ∈ l, ltS x p = false) ∧ UpG ltS l
  | [], p, _ => ⟨fun _ m => (nomatch m), List.Pairwise.nil⟩
  | x :: r, p, h => by
    have h' : (!ltCps x.cps.toList p.cps.toList && risingS x r) = true := h
    rw [Bool.and_eq_true, ltCps_eq] at h'
    obtain ⟨h1, h2⟩ := h'
    obtain ⟨i1, i2⟩ := rising_up r x h2
    have e : ltS x p = false := by
      unfold ltS
      simpa using h1
    refine ⟨fun y m => ?_, List.pairwise_cons.mpr ⟨i1, i2⟩⟩
    rcases List.mem_cons.mp m with rfl | m
    · exact e
    · exact lin_str.tr p x y e (i1 y m)
theorem sortedS_up {l : List Str} (h : sortedS l = true) : UpG ltS l := by
  cases l with
  | nil => exact List.Pairwise.nil
  | cons x r =>
    have := rising_up r x h
    exact List.pairwise_cons.mpr this
theorem sort_strs {ys zs : List Str} (p : ys.Perm zs) (h : sortedS ys = true) : ys.map PV.str = sortB ltB (zs.map PV.str) := by
  rw [sortB_map PV.str (lt := ltS) ltB_str, ← sortG_of lin_str (sortedS_up h) p]
theorem sort_ints {ys zs : List Int} (p : ys.Perm zs) (h : ys.Pairwise (· ≤ ·)) : ys.map PV.int = sortB ltB (zs.map PV.int) := by
  have : UpG ltI ys := h.imp fun {a b} h => by unfold ltI; simp; omega
  rw [sortB_map PV.int (lt := ltI) ltB_int, ← sortG_of lin_int this p]
/-! ### lists of ints, of texts, of Bools -/
theorem intsOf_eq : ∀ {xs : List PV} {ns : List Int}, intsOf xs = some ns → xs = ns.map PV.int
  | [], ns, h => by cases h; rfl
  | x :: r, ns, h => by
    cases x <;> first | (cases h; done) | skip
    unfold intsOf at h
    obtain ⟨ms, e, rfl⟩ := Option.map_eq_some_iff.mp h
    rw [intsOf_eq e]
    rfl
theorem strsOf_eq : ∀ {xs : List PV} {ns : List Str}, strsOf xs = some ns → xs = ns.map PV.str
  | [], ns, h => by cases h; rfl
  | x :: r, ns, h => by
    cases x <;> first | (cases h; done) | skip
    unfold strsOf at h
    obtain ⟨ms, e, rfl⟩ := Option.map_eq_some_iff.mp h
    rw [strsOf_eq e]
    rfl
theorem blsOf_eq : ∀ {xs : List PV} {ns : List Bool}, blsOf xs = some ns → xs = ns.map PV.bl
  | [], ns, h => by cases h; rfl
  | x :: r, ns, h => by
    cases x <;> first | (cases h; done) | skip
    unfold blsOf at h
    obtain ⟨ms, e, rfl⟩ := Option.map_eq_some_iff.mp h
    rw [blsOf_eq e]
    rfl
/-! ### the greatest, the least -/
def maxI : Int → List Int → Int
  | m, [] => m
  | m, x :: r => maxI (if m < x then x else m) r
def minI : Int → List Int → Int
  | m, [] => m
  | m, x :: r => minI (if x < m then x else m) r
theorem maxB_ints : ∀ (r : List Int) (m : Int), maxB ltB (.int m) (r.map PV.int) = .int (maxI m r)
  | [], m => rfl
  | x :: r, m => by
    show maxB ltB (if ltB (.int m) (.int x) = true then .int x else .int m) (r.map PV.int) = _
    unfold maxI
    by_cases h : m < x
    · rw [if_pos (by rw [ltB_int]; exact decide_eq_true h), if_pos h, maxB_ints r x]
    · rw [if_neg (by rw [ltB_int]; unfold ltI; simpa using h), if_neg h, maxB_ints r m]
theorem minB_ints : ∀ (r : List Int) (m : Int), minB ltB (.int m) (r.map PV.int) = .int (minI m r)
  | [], m => rfl
  | x :: r, m => by
    show minB ltB (if ltB (.int x) (.int m) = true then .int x else .int m) (r.map PV.int) = _
    unfold minI
    by_cases h : x < m
    · rw [if_pos (by rw [ltB_int]; exact decide_eq_true h), if_pos h, minB_ints r x]
    · rw [if_neg (by rw [ltB_int]; unfold ltI; simpa using h), if_neg h, minB_ints r m]
theorem maxI_is : ∀ (r : List Int) (m : Int), maxI m r ∈ m :: r ∧ ∀ y ∈ m :: r, y ≤ maxI m r
  | [], m => ⟨by simp [maxI], by simp [maxI]⟩
  | x :: r, m => by
    unfold maxI
    by_cases h : m < x
    · rw [if_pos h]
      obtain ⟨a, b⟩ := maxI_is r x
      refine ⟨List.mem_cons_of_mem _ a, fun y hy => ?_⟩
      rcases List.mem_cons.mp hy with rfl | hy
      · have := b x List.mem_cons_self; omega
      · exact b y hy
    · rw [if_neg h]
      obtain ⟨a, b⟩ := maxI_is r m
      refine ⟨?_, fun y hy => ?_⟩
      · rcases List.mem_cons.mp a with e | e
        · rw [e]; exact List.mem_cons_self
        · exact List.mem_cons_of_mem _ (List.mem_cons_of_mem _ e)
      · rcases List.mem_cons.mp hy with rfl | hy
        · exact b y List.mem_cons_self
        · rcases List.mem_cons.mp hy with rfl | hy
          · have := b m List.mem_cons_self; omega
          · exact b y (List.mem_cons_of_mem _ hy)
theorem minI_is : ∀ (r : List Int) (m : Int), minI m r ∈ m :: r ∧ ∀ y ∈ m :: r, minI m r ≤ y
  | [], m => ⟨by simp [minI], by simp [minI]⟩
  | x :: r, m => by
    unfold minI
    by_cases h : x < m
    · rw [if_pos h]
      obtain ⟨a, b⟩ := minI_is r x
      refine ⟨List.mem_cons_of_mem _ a, fun y hy => ?_⟩
      rcases List.mem_cons.mp hy with rfl | hy
      · have := b x List.mem_cons_self; omega
      · exact b y hy
    · rw [if_neg h]
      obtain ⟨a, b⟩ := minI_is r m
      refine ⟨?_, fun y hy => ?_⟩
      · rcases List.mem_cons.mp a with e | e
        · rw [e]; exact List.mem_cons_self
        · exact List.mem_cons_of_mem _ (List.mem_cons_of_mem _ e)
      · rcases List.mem_cons.mp hy with rfl | hy
        · exact b y List.mem_cons_self
        · rcases List.mem_cons.mp hy with rfl | hy
          · have := b m List.mem_cons_self; omega
          · exact b y (List.mem_cons_of_mem _ hy)
end Vc

set_option Elab.async false
set_option linter.all false
set_option maxRecDepth 100000
set_option maxHeartbeats 1000000
namespace Vc
open PySem PySem.Spec PyProof.Rows L2 PySem.SeqAt
/-! ### each operation's reading is right -/
section
variable {X : Cx} {ca : CA}
theorem addR_ok : OpR X (binaryOp .Add) addR := by
  intro pins s σ H x y v u Q I rx ry h
  unfold addR at h
  split at h
  · exact op_add pins s σ H _ _ v u Q I rx ry ⟨_, _, rfl, rfl, h⟩
  · exact op_add_str pins s σ H _ _ v u Q I rx ry ⟨_, _, rfl, rfl, h.1, h.2⟩
  · split at h
    · rename_i xs ys e1 e2
      obtain ⟨hz, q⟩ := h
      cases rx
      cases ry
      obtain ⟨its, r, ⟨o, n, e, hc, hd, hs⟩, _⟩ := I.list (rd_lst e1)
      obtain ⟨its2, r2, ⟨o2, n2, e2', hc2, hd2, hs2⟩, _⟩ := I.list (rd_lst e2)
      have l1 := r.length
      have l2 := r2.length
      obtain ⟨c1, dd1, da1, sl1⟩ := o
      obtain ⟨c2, dd2, da2, sl2⟩ := o2
      simp only at hc hd hs hc2 hd2 hs2
      subst hc hd hs hc2 hd2 hs2
      refine concat_meets ⟨_, e, rfl⟩ ⟨_, e2', rfl⟩ noFill_list_add seq_list_add PySem.F.slot_list_add PySem.F.entry_list_add (PySem.F.args_list_add_2 _ _) (list_addW _ _ its.toArray its2.toArray n n2 none none sl1 sl2 (by rw [List.size_toArray, List.size_toArray]; omega)) ⟨e, e2', ?_⟩
      have ea : its.toArray ++ its2.toArray = (its ++ its2).toArray := by simp
      rw [ea]
      exact ⟨.ref _, _, I.lnew (t' := s.toks) (r.append r2) (by rw [List.length_append]; omega), rfl, q _ I.fresh⟩
    · rename_i xs ys e1 e2
      obtain ⟨hz, q1, q2, q3⟩ := h
      refine op_catA pins s σ H _ _ v u Q I rx ry ⟨_, _, xs, ys, rfl, rfl, rd_tup e1, rd_tup e2, hz, fun e => q2 (by rw [e]; rfl), fun _ e => q1 (by rw [e, List.append_nil]), fun _ _ p hp => q3 p hp⟩
    · exact h.elim
  · exact h.elim
theorem opP_int {o : Operator} {i j k : Int} (h : opP o (.int i) (.int j) = some (.int k)) :
    (o = .Add ∧ k = i + j) ∨ (o = .Sub ∧ k = i - j) ∨ (o = .Mult ∧ mulOk i j ∧ k = i * j) ∨ (o = .FloorDiv ∧ (0 < j ∧ j < 1073741824) ∧ k = i / j) ∨ (o = .Mod ∧ 0 < j ∧ k = i % j) ∨ (o = .Pow ∧ (0 ≤ j ∧ j ≤ 1000000 ∧ i.natAbs < 2 ^ 64) ∧ k = i ^ j.toNat) := by
  unfold opP at h
  cases o <;> simp only at h
  · cases h; exact .inl ⟨rfl, rfl⟩
  · cases h; exact .inr (.inl ⟨rfl, rfl⟩)
  · unfold grd at h
    split at h
    · rename_i hh; cases h; exact .inr (.inr (.inl ⟨rfl, hh, rfl⟩))
    · cases h
  all_goals first | (cases h; done) | skip
  all_goals (
    unfold grd at h
    split at h
    · rename_i hh
      cases h
      first
        | exact .inr (.inr (.inr (.inl ⟨rfl, hh, rfl⟩)))
        | exact .inr (.inr (.inr (.inr (.inl ⟨rfl, hh, rfl⟩))))
        | exact .inr (.inr (.inr (.inr (.inr ⟨rfl, hh, rfl⟩))))
    · cases h)
theorem opR_ok (o : Operator) : OpR X (binaryOp o) (opR o) := by
  intro pins s σ H x y v u Q I rx ry h
  unfold opR at h
  split at h
  · exact addR_ok pins s σ H _ _ v u Q I rx ry h
  · obtain ⟨i, j, k, rfl, rfl, e, q⟩ := h
    rcases opP_int e with ⟨rfl, rfl⟩ | ⟨rfl, rfl⟩ | ⟨rfl, c, rfl⟩ | ⟨rfl, c, rfl⟩ | ⟨rfl, c, rfl⟩ | ⟨rfl, c, rfl⟩
    · exact op_add pins s σ H _ _ v u Q I rx ry ⟨_, _, rfl, rfl, q⟩
    · exact op_sub pins s σ H _ _ v u Q I rx ry ⟨_, _, rfl, rfl, q⟩
    · exact op_mul pins s σ H _ _ v u Q I rx ry ⟨_, _, rfl, rfl, c, q⟩
    · exact op_fdiv pins s σ H _ _ v u Q I rx ry ⟨_, _, rfl, rfl, c, q⟩
    · exact op_mod pins s σ H _ _ v u Q I rx ry ⟨_, _, rfl, rfl, c, q⟩
    · exact op_pow pins s σ H _ _ v u Q I rx ry ⟨_, _, rfl, rfl, c, q⟩
theorem grd_some' {α : Type} {p : Prop} [Decidable p] {x y : α} (h : grd p x = some y) : p ∧ x = y := by
  unfold grd at h
  split at h
  · rename_i hp; cases h; exact ⟨hp, rfl⟩
  · cases h
/-- in -/
theorem inR_ok (hu : X.A.units + 64 < cLine) {x y : PV} {b : Bool} (e : inP x y = some b) {pins : List (Addr × Obj)} {s : Shared} {σ : L2.St} {H : Hp} {v w : V} {a c : Value} {Q : VK} (I : Inv X pins σ H s) (ra : RelV v a) (rc : RelV w c) (hx : Rep ca H v x) (hy : Rep ca H w y) (q : Q (.bl b) H) :
    wpAny (model X.prog X.w) X.A (compareOp .In a c) (EP X pins σ Q) X.xe s := by
  unfold inP at e
  split at e
  · split at e
    · split at e
      · rename_i ce
        cases e
        rw [rep_str hx, str_one ce] at ra
        rw [rep_str hy] at rc
        exact op_in_sign pins s σ H _ _ a c Q I ra rc ⟨_, _, rfl, rfl, q⟩
      · cases e
    · cases e
  · rename_i xs
    obtain ⟨⟨d1, d2⟩, rfl⟩ := grd_some' e
    obtain ⟨p, vs, its, rfl, r1, rv, hl⟩ := lst_at I hy
    cases rc
    refine in_listAt (hitV ca H x) hl (fun t ht => hitV_at I hx d1 ra (by rw [in1_units]; omega) rv r1 d2 t (by simpa using ht)) ⟨.bl _, H, I, rfl, ?_⟩
    rw [show its.toArray.any (hitV ca H x) = its.any (hitV ca H x) by simp, hitV_any rv r1 d2]
    exact q
  · rename_i xs
    obtain ⟨⟨d1, d2⟩, rfl⟩ := grd_some' e
    obtain ⟨p, vs, its, rfl, r1, rv, hl⟩ := tup_at I hy
    cases rc
    refine in_tupleAt (hitV ca H x) hl (fun t ht => hitV_at I hx d1 ra (by rw [in1_units]; omega) rv r1 d2 t (by simpa using ht)) ⟨.bl _, H, I, rfl, ?_⟩
    rw [show its.toArray.any (hitV ca H x) = its.any (hitV ca H x) by simp, hitV_any rv r1 d2]
    exact q
  · obtain ⟨k, ek, rfl⟩ := Option.map_eq_some_iff.mp e
    obtain ⟨p, us, rfl, e1, r1⟩ := rep_dic hy
    cases rc
    rw [rep_key ek hx] at ra
    refine d_in (by omega) I (.inl ⟨us, k, rd_dK e1, rfl, rfl⟩) ra fun s3 I3 => ⟨.bl _, H, I3, rfl, ?_⟩
    rw [dget_some k r1]
    exact q
  · cases e
theorem ninR_ok (hu : X.A.units + 64 < cLine) {x y : PV} {b : Bool} (e : inP x y = some b) {pins : List (Addr × Obj)} {s : Shared} {σ : L2.St} {H : Hp} {v w : V} {a c : Value} {Q : VK} (I : Inv X pins σ H s) (ra : RelV v a) (rc : RelV w c) (hx : Rep ca H v x) (hy : Rep ca H w y) (q : Q (.bl (!b)) H) :
    wpAny (model X.prog X.w) X.A (compareOp .NotIn a c) (EP X pins σ Q) X.xe s := by
  unfold inP at e
  split at e
  · split at e
    · split at e
      · rename_i ce
        cases e
        rw [rep_str hx, str_one ce] at ra
        rw [rep_str hy] at rc
        exact op_notIn_sign pins s σ H _ _ a c Q I ra rc ⟨_, _, rfl, rfl, q⟩
      · cases e
    · cases e
  · rename_i xs
    obtain ⟨⟨d1, d2⟩, rfl⟩ := grd_some' e
    obtain ⟨p, vs, its, rfl, r1, rv, hl⟩ := lst_at I hy
    cases rc
    refine notIn_listAt (hitV ca H x) hl (fun t ht => hitV_at I hx d1 ra (by rw [in1_units]; omega) rv r1 d2 t (by simpa using ht)) ⟨.bl _, H, I, rfl, ?_⟩
    rw [show its.toArray.any (hitV ca H x) = its.any (hitV ca H x) by simp, hitV_any rv r1 d2]
    exact q
  · rename_i xs
    obtain ⟨⟨d1, d2⟩, rfl⟩ := grd_some' e
    obtain ⟨p, vs, its, rfl, r1, rv, hl⟩ := tup_at I hy
    cases rc
    refine notIn_tupleAt (hitV ca H x) hl (fun t ht => hitV_at I hx d1 ra (by rw [in1_units]; omega) rv r1 d2 t (by simpa using ht)) ⟨.bl _, H, I, rfl, ?_⟩
    rw [show its.toArray.any (hitV ca H x) = its.any (hitV ca H x) by simp, hitV_any rv r1 d2]
    exact q
  · obtain ⟨k, ek, rfl⟩ := Option.map_eq_some_iff.mp e
    obtain ⟨p, us, rfl, e1, r1⟩ := rep_dic hy
    cases rc
    rw [rep_key ek hx] at ra
    refine d_notIn (by omega) I (.inl ⟨us, k, rd_dK e1, rfl, rfl⟩) ra fun s3 I3 => ⟨.bl _, H, I3, rfl, ?_⟩
    rw [dget_some k r1]
    exact q
  · cases e
def nonB : PV → Bool
  | .non => true
  | _ => false
theorem non_iff {v : V} {x : PV} {H : Hp} (h : Rep ca H v x) : nonB x = decide (v = .non) := by
  cases x <;> unfold Rep at h
  · subst h; rfl
  · subst h; rfl
  · subst h; rfl
  · subst h; rfl
  all_goals first | (obtain ⟨p, _, rfl, _⟩ := h; rfl) | (obtain ⟨p, _, _, _, rfl, _⟩ := h; rfl)
def nnB : PV → Bool
  | .non => false
  | _ => true
theorem nnB_eq (x : PV) : nnB x = !nonB x := by cases x <;> rfl
theorem cmpR_ok (hu : X.A.units + 64 < cLine) (o : CmpOp) : OpR X (compareOp o) (cmpR ca o) := by
  intro pins s σ H v w a c Q I ra rc h
  unfold cmpR at h
  obtain ⟨x, y, b, hx, hy, e, q⟩ := h
  unfold cmpP at e
  split at e
  · obtain ⟨g, rfl⟩ := grd_some' e
    exact eqG_ok I g hx hy ra rc (by omega) X.xe _ ⟨.bl _, H, I, rfl, q⟩
  · obtain ⟨g, rfl⟩ := grd_some' e
    exact neG_ok I g hx hy ra rc (by omega) X.xe _ ⟨.bl _, H, I, rfl, q⟩
  · cases e
    rw [rep_int hx] at ra; rw [rep_int hy] at rc
    exact op_lt pins s σ H _ _ a c Q I ra rc ⟨_, _, rfl, rfl, q⟩
  · cases e
    rw [rep_int hx] at ra; rw [rep_int hy] at rc
    exact op_le pins s σ H _ _ a c Q I ra rc ⟨_, _, rfl, rfl, q⟩
  · cases e
    rw [rep_int hx] at ra; rw [rep_int hy] at rc
    exact op_gt pins s σ H _ _ a c Q I ra rc ⟨_, _, rfl, rfl, q⟩
  · cases e
    rw [rep_int hx] at ra; rw [rep_int hy] at rc
    exact op_ge pins s σ H _ _ a c Q I ra rc ⟨_, _, rfl, rfl, q⟩
  · cases e
    rw [rep_str hx] at ra; rw [rep_str hy] at rc
    exact op_lt_str pins s σ H _ _ a c Q I ra rc ⟨_, _, rfl, rfl, q⟩
  · replace e : nonB x = b := Option.some.inj e
    rw [← e, non_iff hx] at q
    exact op_isN pins s σ H _ _ a c Q I ra rc ⟨rep_non hy, q⟩
  · replace e : nnB x = b := Option.some.inj e
    rw [← e, nnB_eq, non_iff hx] at q
    exact op_notN pins s σ H _ _ a c Q I ra rc ⟨rep_non hy, q⟩
  · exact inR_ok hu e I ra rc hx hy q
  · obtain ⟨b', e', rfl⟩ := Option.map_eq_some_iff.mp e
    exact ninR_ok hu e' I ra rc hx hy q
  · cases e
theorem truR_ok : TruR X (fun x H Q => truR ca x H Q) := by
  intro pins s σ H v a Q I ra h
  obtain ⟨x, b, hx, e, q⟩ := h
  refine tru_ok pins s σ H v a Q I ra ?_
  unfold truP at e
  split at e
  · cases e; rw [rep_non hx]; exact ⟨_, rfl, q⟩
  · cases e; rw [rep_bl hx]; exact ⟨_, rfl, q⟩
  · cases e; rw [rep_int hx]; exact ⟨_, rfl, q⟩
  · cases e
    obtain ⟨p, us, rfl, e1, r1⟩ := rep_lst hx
    refine ⟨_, .inl ⟨us, rd_lst e1, rfl⟩, ?_⟩
    have := r1.length
    rename_i xs
    rw [show us.isEmpty = xs.isEmpty by rw [Bool.eq_iff_iff, List.isEmpty_iff_length_eq_zero, List.isEmpty_iff_length_eq_zero, this]]
    exact q
  · cases e
    obtain ⟨p, us, rfl, e1, r1⟩ := rep_tup hx
    refine ⟨_, .inr (.inl ⟨us, rd_tup e1, rfl⟩), ?_⟩
    have := r1.length
    rename_i xs
    rw [show us.isEmpty = xs.isEmpty by rw [Bool.eq_iff_iff, List.isEmpty_iff_length_eq_zero, List.isEmpty_iff_length_eq_zero, this]]
    exact q
  · cases e
theorem repL0 {vs : List V} {H : Hp} (h : RepL ca H vs []) : vs = [] := by unfold RepL at h; exact h
theorem repV1 {vs : List V} {x : PV} {H : Hp} (h : RepL ca H vs [x]) : ∃ v, vs = [v] ∧ Rep ca H v x := by
  unfold RepL at h
  obtain ⟨v, r, rfl, h1, h2⟩ := h
  rw [repL0 h2]
  exact ⟨v, rfl, h1⟩
theorem repL2 {vs : List V} {x y : PV} {H : Hp} (h : RepL ca H vs [x, y]) : ∃ v w, vs = [v, w] ∧ Rep ca H v x ∧ Rep ca H w y := by
  unfold RepL at h
  obtain ⟨v, r, rfl, h1, h2⟩ := h
  obtain ⟨w, rfl, h3⟩ := repV1 h2
  exact ⟨v, w, rfl, h1, h3⟩
theorem repV_ints : ∀ {ns : List Int} {vs : List V} {H : Hp}, RepL ca H vs (ns.map PV.int) → vs = ns.map V.int
  | [], vs, H, h => repL0 h
  | n :: r, vs, H, h => by
    unfold RepL at h
    obtain ⟨v, t, rfl, h1, h2⟩ := h
    rw [rep_int h1, repV_ints h2]
    rfl
theorem repL_strs' : ∀ {ns : List Str} {vs : List V} {H : Hp}, RepL ca H vs (ns.map PV.str) → vs = ns.map V.str
  | [], vs, H, h => repL0 h
  | n :: r, vs, H, h => by
    unfold RepL at h
    obtain ⟨v, t, rfl, h1, h2⟩ := h
    rw [rep_str h1, repL_strs' h2]
    rfl
theorem repL_bls : ∀ {ns : List Bool} {vs : List V} {H : Hp}, RepL ca H vs (ns.map PV.bl) → vs = ns.map V.bl
  | [], vs, H, h => repL0 h
  | n :: r, vs, H, h => by
    unfold RepL at h
    obtain ⟨v, t, rfl, h1, h2⟩ := h
    rw [rep_bl h1, repL_bls h2]
    rfl
theorem scal_eq {v u : V} {z : PV} {H : Hp} (h : Rep ca H v z) (e : scalV z = some u) : v = u := by
  unfold scalV at e
  split at e
  · cases e; exact rep_non h
  · cases e; exact rep_bl h
  · cases e; exact rep_int h
  · cases e; exact rep_str h
  · cases e
/-! calls of built-ins -/
def Bi.val : Bi → Value
  | .len => .builtin "len" | .str => .type "str" | .int => .type "int" | .abs => .builtin "abs" | .max => .builtin "max" | .min => .builtin "min"
  | .divmod => .builtin "divmod" | .any => .builtin "any" | .list => .type "list" | .dict => .type "dict" | .sorted => .builtin "sorted" | .tuple => .type "tuple"
theorem Bi.boot : ∀ f : Bi, bootBuiltins f.nm = some f.val := by
  intro f
  cases f <;> decide +kernel
theorem max_of {x : PV} {xs : List PV} {ns : List Int} (e : intsOf (x :: xs) = some ns) : ∃ m, maxB ltB x xs = .int m ∧ m ∈ ns ∧ ∀ y ∈ ns, y ≤ m := by
  have e1 := intsOf_eq e
  cases ns with
  | nil => cases e1
  | cons n r =>
    cases e1
    rw [maxB_ints]
    exact ⟨_, rfl, maxI_is r n⟩
theorem min_of {x : PV} {xs : List PV} {ns : List Int} (e : intsOf (x :: xs) = some ns) : ∃ m, minB ltB x xs = .int m ∧ m ∈ ns ∧ ∀ y ∈ ns, m ≤ y := by
  have e1 := intsOf_eq e
  cases ns with
  | nil => cases e1
  | cons n r =>
    cases e1
    rw [minB_ints]
    exact ⟨_, rfl, minI_is r n⟩
theorem biS_ok (hc : X.calm = true) (f : Bi) : CallR X f.val (biS ca f) := by
  intro pins s σ H vs us Q I r h
  obtain ⟨xs, z, u, hx, e, hz, q⟩ := h
  unfold biP at e
  split at e
  · rename_i x
    obtain ⟨n, en, rfl⟩ := Option.map_eq_some_iff.mp e
    cases hz
    obtain ⟨v, rfl, hv⟩ := repV1 hx
    unfold lenP at en
    split at en
    · obtain ⟨g, rfl⟩ := grd_some' en
      rw [rep_str hv] at r
      exact call_len_str pins s σ H _ us Q I r ⟨_, rfl, g, q⟩
    · cases en
      obtain ⟨p, ws, rfl, e1, r1⟩ := rep_lst hv
      exact call_len_seq pins s σ H _ us Q I r ⟨_, _, rfl, .inl (rd_lst e1), by rw [r1.length]; exact q⟩
    · cases en
      obtain ⟨p, ws, rfl, e1, r1⟩ := rep_tup hv
      exact call_len_seq pins s σ H _ us Q I r ⟨_, _, rfl, .inr (rd_tup e1), by rw [r1.length]; exact q⟩
    · cases en
      obtain ⟨p, ws, rfl, e1, r1⟩ := rep_dic hv
      obtain ⟨u, rfl, rx⟩ := vals1 r
      cases rx
      exact d_len I (rd_dK e1) fun t s' I' => ⟨.int _, H, I', ⟨t, rfl⟩, by rw [r1.length]; exact q⟩
    · cases en
  · obtain ⟨g, rfl⟩ := grd_some' e
    cases hz
    obtain ⟨v, rfl, hv⟩ := repV1 hx
    rw [rep_int hv] at r
    exact call_str_int pins s σ H _ us Q I r ⟨_, rfl, g, q⟩
  · cases e
    cases hz
    obtain ⟨v, rfl, hv⟩ := repV1 hx
    rw [rep_int hv] at r
    exact call_int1 pins s σ H _ us Q I r (.inl ⟨_, rfl, q⟩)
  · cases e
    cases hz
    obtain ⟨v, rfl, hv⟩ := repV1 hx
    rw [rep_bl hv] at r
    exact call_int1 pins s σ H _ us Q I r (.inr ⟨_, rfl, q⟩)
  · split at e
    · rename_i n en
      obtain ⟨g, rfl⟩ := grd_some' e
      cases hz
      obtain ⟨v, rfl, hv⟩ := repV1 hx
      rw [rep_str hv] at r
      exact call_int_str pins s σ H _ us Q I r ⟨_, n, rfl, en, g, q⟩
    · cases e
  · cases e
    cases hz
    obtain ⟨v, rfl, hv⟩ := repV1 hx
    rw [rep_int hv] at r
    exact call_abs pins s σ H _ us Q I r ⟨_, rfl, q⟩
  · cases e
    cases hz
    obtain ⟨v, w, rfl, hv, hw⟩ := repL2 hx
    rw [rep_int hv, rep_int hw] at r
    exact call_max2 hc pins s σ H _ us Q I r ⟨_, _, rfl, q⟩
  · cases e
    cases hz
    obtain ⟨v, w, rfl, hv, hw⟩ := repL2 hx
    rw [rep_int hv, rep_int hw] at r
    exact call_min2 hc pins s σ H _ us Q I r ⟨_, _, rfl, q⟩
  · rename_i x xs
    obtain ⟨g, rfl⟩ := grd_some' e
    obtain ⟨ns, en⟩ := Option.isSome_iff_exists.mp g
    obtain ⟨m, em, m1, m2⟩ := max_of en
    rw [em] at hz
    cases hz
    obtain ⟨v, rfl, hv⟩ := repV1 hx
    obtain ⟨p, ws, rfl, e1, r1⟩ := rep_lst hv
    rw [intsOf_eq en] at r1
    rw [repV_ints r1] at e1
    refine cr_max hc pins s σ H _ us Q I r ⟨_, ns, rfl, rd_lst e1, List.length_pos_of_mem m1, fun k k1 k2 => ?_⟩
    obtain rfl : k = m := Int.le_antisymm (m2 k k1) (k2 m m1)
    exact q
  · rename_i x xs
    obtain ⟨g, rfl⟩ := grd_some' e
    obtain ⟨ns, en⟩ := Option.isSome_iff_exists.mp g
    obtain ⟨m, em, m1, m2⟩ := min_of en
    rw [em] at hz
    cases hz
    obtain ⟨v, rfl, hv⟩ := repV1 hx
    obtain ⟨p, ws, rfl, e1, r1⟩ := rep_lst hv
    rw [intsOf_eq en] at r1
    rw [repV_ints r1] at e1
    refine cr_min hc pins s σ H _ us Q I r ⟨_, ns, rfl, rd_lst e1, List.length_pos_of_mem m1, fun k k1 k2 => ?_⟩
    obtain rfl : k = m := Int.le_antisymm (k2 m m1) (m2 k k1)
    exact q
  · obtain ⟨g, rfl⟩ := grd_some' e
    cases hz
  · obtain ⟨bs, eb, rfl⟩ := Option.map_eq_some_iff.mp e
    cases hz
    obtain ⟨v, rfl, hv⟩ := repV1 hx
    obtain ⟨p, ws, rfl, e1, r1⟩ := rep_lst hv
    rw [blsOf_eq eb] at r1
    rw [repL_bls r1] at e1
    exact cr_any hc pins s σ H _ us Q I r ⟨_, bs, rfl, rd_lst e1, q⟩
  · obtain ⟨ys, _, rfl⟩ := Option.map_eq_some_iff.mp e
    cases hz
  · split at e
    · cases e; cases hz
    · cases e; cases hz
    · cases e
  · cases e; cases hz
  · obtain ⟨g, rfl⟩ := grd_some' e
    cases hz
  · obtain ⟨g, rfl⟩ := grd_some' e
    cases hz
  · cases e
theorem biP_max {ds : List PV} {m : PV} (h : biP .max [.lst ds] = some m) : ∃ (ns : List Int) (k : Int), ds = ns.map PV.int ∧ m = .int k ∧ k ∈ ns ∧ ∀ y ∈ ns, y ≤ k := by
  cases ds with
  | nil => cases h
  | cons x xs =>
    obtain ⟨g, rfl⟩ := grd_some' (show grd ((intsOf (x :: xs)).isSome = true) (maxB ltB x xs) = some m from h)
    obtain ⟨ns, en⟩ := Option.isSome_iff_exists.mp g
    obtain ⟨k, e, h1, h2⟩ := max_of en
    exact ⟨ns, k, intsOf_eq en, e, h1, h2⟩
theorem biP_min {ds : List PV} {m : PV} (h : biP .min [.lst ds] = some m) : ∃ (ns : List Int) (k : Int), ds = ns.map PV.int ∧ m = .int k ∧ k ∈ ns ∧ ∀ y ∈ ns, k ≤ y := by
  cases ds with
  | nil => cases h
  | cons x xs =>
    obtain ⟨g, rfl⟩ := grd_some' (show grd ((intsOf (x :: xs)).isSome = true) (minB ltB x xs) = some m from h)
    obtain ⟨ns, en⟩ := Option.isSome_iff_exists.mp g
    obtain ⟨k, e, h1, h2⟩ := min_of en
    exact ⟨ns, k, intsOf_eq en, e, h1, h2⟩
theorem zip_strs (ks : List Str) : (ks.map V.str).zip (ks.map PV.str) = ks.map fun k => (V.str k, PV.str k) := by
  induction ks with
  | nil => rfl
  | cons k r ih => simp [ih]
theorem zip_ints (ks : List Int) : (ks.map V.int).zip (ks.map PV.int) = ks.map fun k => (V.int k, PV.int k) := by
  induction ks with
  | nil => rfl
  | cons k r ih => simp [ih]
theorem biA_ok (hc : X.calm = true) (f : Bi) : CallR X f.val (biA ca f) := by
  intro pins s σ H vs us Q I r h
  unfold biA at h
  split at h
  · exact call_divmod pins s σ H _ us Q I r ⟨_, _, rfl, h.1, h.2⟩
  · split at h
    · rename_i e
      exact call_dictD pins s σ H _ us Q I r ⟨_, _, rfl, rd_dK e, h⟩
    · exact h.elim
  · split at h
    · rename_i e
      exact call_listD hc pins s σ H _ us Q I r ⟨_, _, rfl, rd_dK e, h⟩
    · rename_i e
      exact call_list_of pins s σ H _ us Q I r ⟨_, _, rfl, .inl (rd_lst e), h⟩
    · rename_i e
      exact call_list_of pins s σ H _ us Q I r ⟨_, _, rfl, .inr (rd_tup e), h⟩
    · exact h.elim
  · split at h
    · rename_i e
      exact call_tuple_of pins s σ H _ us Q I r ⟨_, _, rfl, .inl ⟨rd_lst e, h⟩⟩
    · rename_i e
      exact call_tuple_of pins s σ H _ us Q I r ⟨_, _, rfl, .inr ⟨rd_tup e, h⟩⟩
    · exact h.elim
  · split at h
    · rename_i zs e
      obtain ⟨ds, hr, hk, q⟩ := h
      unfold srtOk at hk
      split at hk
      · rename_i ks ek
        rw [strsOf_eq ek] at hr
        have ez := repL_strs' hr
        subst ez
        refine cr_sortedS pins s σ H _ us Q I r ⟨_, ks, rfl, rd_lst e, by simpa using hk, fun ys p hp hs hn => ?_⟩
        have := q (ys.map fun k => (V.str k, PV.str k)) p (by rw [strsOf_eq ek, zip_strs]; exact hp.map _) (by rw [List.map_map, strsOf_eq ek]; exact sort_strs hp hs) hn
        rw [List.map_map] at this
        exact this
      · obtain ⟨ns, en⟩ := Option.isSome_iff_exists.mp hk
        rw [intsOf_eq en] at hr
        have ez := repV_ints hr
        subst ez
        refine cr_sortedI pins s σ H _ us Q I r ⟨_, ns, rfl, rd_lst e, fun ys p hp hs hn => ?_⟩
        have := q (ys.map fun k => (V.int k, PV.int k)) p (by rw [intsOf_eq en, zip_ints]; exact hp.map _) (by rw [List.map_map, intsOf_eq en]; exact sort_ints hp hs) hn
        rw [List.map_map] at this
        exact this
    · rename_i kvs e
      obtain ⟨hk, q⟩ := h
      unfold srtOkD at hk
      rw [Bool.and_eq_true, Bool.or_eq_true] at hk
      obtain ⟨hl, hk⟩ := hk
      rw [decide_eq_true_eq, List.length_map] at hl
      rcases hk with hk | hk
      · obtain ⟨ks, ek⟩ := Option.isSome_iff_exists.mp hk
        have e2 := strsOf_eq ek
        have e3 : kvs.map (·.1) = ks.map Sum.inr := by
          clear e q hl ek hk
          induction kvs generalizing ks with
          | nil => cases ks with
            | nil => rfl
            | cons _ _ => cases e2
          | cons kv t ih => cases ks with
            | nil => cases e2
            | cons k ks =>
              rw [List.map_cons, List.map_cons] at e2
              obtain ⟨a1, a2⟩ := List.cons.inj e2
              rw [List.map_cons, List.map_cons, ih ks a2]
              congr 1
              cases h : kv.1 with
              | inl i => rw [h] at a1; cases a1
              | inr i => rw [h] at a1; cases a1; rfl
        have hl' : ks.length < 64 := by
          have := congrArg List.length e3
          rw [List.length_map, List.length_map] at this
          omega
        refine call_sortedD hc pins s σ H _ us Q I r ⟨_, kvs, ks, rfl, rd_dK e, e3, hl', fun ys p hp hs hn => ?_⟩
        have := q (ys.map Sum.inr) p (by rw [e3]; exact hp.map _) (by rw [List.map_map, e2]; exact sort_strs hp hs) hn
        rw [List.map_map] at this
        exact this
      · obtain ⟨ks, ek⟩ := Option.isSome_iff_exists.mp hk
        have e2 := intsOf_eq ek
        have e3 : kvs.map (·.1) = ks.map Sum.inl := by
          clear e q hl ek hk
          induction kvs generalizing ks with
          | nil => cases ks with
            | nil => rfl
            | cons _ _ => cases e2
          | cons kv t ih => cases ks with
            | nil => cases e2
            | cons k ks =>
              rw [List.map_cons, List.map_cons] at e2
              obtain ⟨a1, a2⟩ := List.cons.inj e2
              rw [List.map_cons, List.map_cons, ih ks a2]
              congr 1
              cases h : kv.1 with
              | inr i => rw [h] at a1; cases a1
              | inl i => rw [h] at a1; cases a1; rfl
        have hl' : ks.length < 64 := by
          have := congrArg List.length e3
          rw [List.length_map, List.length_map] at this
          omega
        refine call_sortedDI hc pins s σ H _ us Q I r ⟨_, kvs, ks, rfl, rd_dK e, e3, hl', fun ys p hp hs hn => ?_⟩
        have := q (ys.map Sum.inl) p (by rw [e3]; exact hp.map _) (by rw [List.map_map, e2]; exact sort_ints hp hs) hn
        rw [List.map_map] at this
        exact this
    · exact h.elim
  · split at h
    · rename_i zs e
      obtain ⟨ds, m, hr, hm, q⟩ := h
      obtain ⟨ns, k, rfl, rfl, h1, h2⟩ := biP_max hm
      have ez := repV_ints hr
      subst ez
      refine cr_max hc pins s σ H _ us Q I r ⟨_, ns, rfl, rd_lst e, List.length_pos_of_mem h1, fun l l1 l2 => ?_⟩
      obtain rfl : l = k := Int.le_antisymm (h2 l l1) (l2 k h1)
      obtain ⟨i, hi⟩ := List.getElem?_of_mem h1
      exact q i (.int l) (by rw [List.getElem?_map, hi]; rfl) (by rw [List.getElem?_map, hi]; rfl)
    · exact h.elim
  · split at h
    · rename_i zs e
      obtain ⟨ds, m, hr, hm, q⟩ := h
      obtain ⟨ns, k, rfl, rfl, h1, h2⟩ := biP_min hm
      have ez := repV_ints hr
      subst ez
      refine cr_min hc pins s σ H _ us Q I r ⟨_, ns, rfl, rd_lst e, List.length_pos_of_mem h1, fun l l1 l2 => ?_⟩
      obtain rfl : l = k := Int.le_antisymm (l2 k h1) (h2 l l1)
      obtain ⟨i, hi⟩ := List.getElem?_of_mem h1
      exact q i (.int l) (by rw [List.getElem?_map, hi]; rfl) (by rw [List.getElem?_map, hi]; rfl)
    · exact h.elim
  · exact h.elim
theorem biR_ok (hc : X.calm = true) (f : Bi) : CallR X f.val (biR ca f) := by
  intro pins s σ H vs us Q I r h
  rcases h with h | h
  · exact biS_ok hc f pins s σ H vs us Q I r h
  · exact biA_ok hc f pins s σ H vs us Q I r h
/-! subscripts -/
theorem ixR_ok (hu : X.A.units + 1 < cLine) : IxR X ixR := by
  intro value slice pins s σ H x y v u Q I rx ry h hs
  unfold ixR at h
  split at h
  · split at h
    · obtain ⟨hz, c, e, q⟩ := h
      exact ix_str value slice pins s σ H _ _ v u Q I rx ry ⟨_, _, c, rfl, rfl, hz, e, q⟩ hs
    · exact h.elim
  · split at h
    · rename_i e
      obtain ⟨k, v', rfl, ea, q⟩ := h
      exact ix_list value slice pins s σ H _ _ v u Q I rx ry ⟨_, _, _, v', rfl, rfl, rd_lst e, ea, q⟩ hs
    · rename_i e
      obtain ⟨k, v', rfl, ea, q⟩ := h
      exact ix_tup value slice pins s σ H _ _ v u Q I rx ry ⟨_, _, _, v', rfl, rfl, rd_tup e, ea, q⟩ hs
    · rename_i e
      obtain ⟨k, v', rfl, ev, q⟩ := h
      cases rx
      have g : DGet H _ _ (some v') := .inl ⟨_, k, rd_dK e, rfl, ev.symm⟩
      exact tail_any (dict_typeIs I g) PySem.F.slot_dict_getitem.lookup (d_getItem hu I g ry fun w' s3 I3 rw' => ⟨v', H, I3, rw', q⟩) hs
    · exact h.elim
  · exact h.elim
theorem cutV_whole {xs : List V} {lo hi : Option Int} (h : HT.sIx xs.length 0 lo = 0 ∧ HT.sIx xs.length xs.length hi = xs.length) : cutV xs lo hi = xs := by
  unfold cutV
  rw [h.1, h.2, Nat.sub_zero, List.drop_zero, List.take_length]
theorem slR_ok : SlR X slR := by
  intro pins s σ H x v vl vu lo hi sl Q I rx hs pl pu h
  unfold slR at h
  split at h
  · exact sl_str pins s σ H _ v vl vu lo hi sl Q I rx hs pl pu ⟨_, rfl, h.1, h.2⟩
  · split at h
    · rename_i e
      exact sl_list pins s σ H _ v vl vu lo hi sl Q I rx hs pl pu ⟨_, _, rfl, rd_lst e, h⟩
    · rename_i e
      exact sl_tupA pins s σ H _ v vl vu lo hi sl Q I rx hs pl pu ⟨_, _, rfl, rd_tup e, fun w => h.1 (cutV_whole w), fun _ p hp => h.2 p hp⟩
    · exact h.elim
  · exact h.elim
/-! methods of built-in types -/
def Bm.ty : Bm → String
  | .append => "list" | .pop => "list" | .extend => "list" | .clear => "list" | .count => "list"
  | .get => "dict" | .items => "dict" | .values => "dict" | .setdefault => "dict"
  | .split => "str" | .partition => "str" | .join => "str" | .zfill => "str" | .index => "str" | .replace => "str"
def Bm.id : Bm → String
  | .append => "list.append" | .pop => "list.pop" | .extend => "list.extend" | .clear => "list.clear" | .count => "list.count"
  | .get => "dict.get" | .items => "dict.items" | .values => "dict.values" | .setdefault => "dict.setdefault"
  | .split => "str.split" | .partition => "str.partition" | .join => "str.join" | .zfill => "str.zfill" | .index => "str.index" | .replace => "str.replace"
theorem Bm.plain : ∀ m : Bm, PlainAttrs m.ty
  | .append | .pop | .extend | .clear | .count => PySem.F.plainAttrs_list
  | .get | .items | .values | .setdefault => PySem.F.plainAttrs_dict
  | .split | .partition | .join | .zfill | .index | .replace => PySem.F.plainAttrs_str
theorem Bm.slot : ∀ m : Bm, Slot m.ty m.nm m.id
  | .append => PySem.F.slot_list_append | .pop => PySem.F.slot_list_pop | .extend => PySem.F.slot_list_extend | .clear => PySem.F.slot_list_clear | .count => PySem.F.slot_list_count
  | .get => PySem.F.slot_dict_get | .items => PySem.F.slot_dict_items | .values => PySem.F.slot_dict_values | .setdefault => PySem.F.slot_dict_setdefault
  | .split => PySem.F.slot_str_split | .partition => PySem.F.slot_str_partition | .join => PySem.F.slot_str_join | .zfill => PySem.F.slot_str_zfill | .index => PySem.F.slot_str_index | .replace => PySem.F.slot_str_replace
theorem Bm.typ : ∀ m : Bm, typeOf (.builtin m.id) = pure (.type "method_descriptor")
  | .append => PySem.F.type_list_append | .pop => PySem.F.type_list_pop | .extend => PySem.F.type_list_extend | .clear => PySem.F.type_list_clear | .count => PySem.F.type_list_count
  | .get => PySem.F.type_dict_get | .items => PySem.F.type_dict_items | .values => PySem.F.type_dict_values | .setdefault => PySem.F.type_dict_setdefault
  | .split => PySem.F.type_str_split | .partition => PySem.F.type_str_partition | .join => PySem.F.type_str_join | .zfill => PySem.F.type_str_zfill | .index => PySem.F.type_str_index | .replace => PySem.F.type_str_replace
theorem dget_get {H : Hp} (k : Key) {us : List (Key × V)} {ks : List (Key × PV)} (h : RepK ca H us ks) : (valV us k = none ∧ dget ks k = none) ∨ ∃ v x, valV us k = some v ∧ dget ks k = some x ∧ Rep ca H v x := by
  have := h.get k
  cases e : dget ks k with
  | none =>
    rw [e] at this
    exact .inl ⟨this, rfl⟩
  | some y =>
    rw [e] at this
    obtain ⟨u, g, g2⟩ := this
    exact .inr ⟨u, y, g, rfl, g2⟩
theorem bmS_ok (hu : X.A.units + 64 < cLine) (m : Bm) : MtR X m.id (bmS ca m) := by
  intro pins s σ H w vs b us Q I rw1 rvs h
  obtain ⟨x, xs, z, u, hx, hxs, e, hz, q⟩ := h
  unfold bmP at e
  split at e
  · obtain ⟨_, rfl⟩ := grd_some' e; cases hz
  · obtain ⟨_, rfl⟩ := grd_some' e; cases hz
  · obtain ⟨g, rfl⟩ := grd_some' e
    cases hz
    obtain ⟨v, rfl, hv⟩ := repV1 hxs
    rw [rep_str hx] at rw1
    rw [rep_int hv] at rvs
    exact mt_zfill pins s σ H _ _ b us Q I rw1 rvs ⟨_, _, rfl, rfl, g, q⟩
  · split at e
    · obtain ⟨zs, ez, e2⟩ := Option.bind_eq_some_iff.mp e
      obtain ⟨g, rfl⟩ := grd_some' e2
      cases hz
      obtain ⟨v, rfl, hv⟩ := repV1 hxs
      rw [rep_str hx] at rw1
      obtain ⟨p, ws, rfl, e1, r1⟩ := rep_lst hv
      rw [strsOf_eq ez] at r1
      rw [repL_strs' r1] at e1
      exact mt_join pins s σ H _ _ b us Q I rw1 rvs ⟨_, _, zs, rfl, rfl, .inl (rd_lst e1), g, q⟩
    · cases e
  · obtain ⟨i, ei, rfl⟩ := Option.map_eq_some_iff.mp e
    cases hz
    obtain ⟨v, rfl, hv⟩ := repV1 hxs
    rw [rep_str hx] at rw1
    rw [rep_str hv] at rvs
    obtain ⟨rest, er⟩ := List.head?_eq_some_iff.mp ei
    exact mt_sindex pins s σ H _ _ b us Q I rw1 rvs ⟨_, _, i, rest, rfl, rfl, er, q⟩
  · obtain ⟨k, ek, rfl⟩ := Option.map_eq_some_iff.mp e
    obtain ⟨kv, dv, rfl, hk, hd⟩ := repL2 hxs
    obtain ⟨p, ws, rfl, e1, r1⟩ := rep_dic hx
    obtain ⟨u1, u2, rfl, t1, t2⟩ := Vals.two rvs
    cases rw1
    rw [rep_key ek hk] at t1
    refine d_get2 (by omega) I (.inl ⟨_, k, rd_dK e1, rfl, rfl⟩) t1 t2 fun w' s4 I4 rw' => ⟨u, H, I4, ?_, q⟩
    rcases dget_get k r1 with ⟨a1, a2⟩ | ⟨v, y, a1, a2, a3⟩
    · rw [a1] at rw'
      rw [a2] at hz
      have : dv = u := scal_eq hd hz
      rw [← this]
      exact rw'
    · rw [a1] at rw'
      rw [a2] at hz
      have : v = u := scal_eq a3 hz
      rw [← this]
      exact rw'
  · cases e; cases hz
  · cases e; cases hz
  · obtain ⟨⟨d1, d2⟩, rfl⟩ := grd_some' e
    cases hz
    obtain ⟨v, rfl, hv⟩ := repV1 hxs
    obtain ⟨u1, rfl, t1⟩ := rvs.one
    obtain ⟨p, ws, its, rfl, r1, rv, hl⟩ := lst_at I hx
    cases rw1
    obtain ⟨⟨cls, dd, data, sl⟩, ho, hc, n, hdn⟩ := hl
    simp only at hc hdn
    subst hc hdn
    refine call_meets PySem.F.slot_list_count ⟨_, ho, rfl⟩ PySem.F.entry_list_count (PySem.F.args_list_count_2 _ _)
      (SeqAt.list_countAt p its.toArray n dd sl u1 (hitV ca H _)) ⟨ho, fun y hy => hitV_at I hv d1 t1 (by rw [in1_units]; omega) rv r1 d2 y (by simpa using hy), ?_⟩
    refine ⟨.int _, H, I.tok _, ⟨s.toks, ?_⟩, q⟩
    show Value.int ((its.toArray.toList.countP _ : Nat) : Int) s.toks = Value.int _ s.toks
    rw [← hitV_cnt rv r1 d2]
  · cases e
theorem bmA_ok (hu : X.A.units + 1 < cLine) (m : Bm) (hm : m ≠ .clear) : MtR X m.id (bmA m) := by
  intro pins s σ H x xs v us Q I rx rxs h
  unfold bmA at h
  split at h
  · split at h
    · rename_i e
      exact mt_append pins s σ H _ _ v us Q I rx rxs ⟨_, _, _, rfl, rfl, e, h.1, h.2⟩
    · exact h.elim
  · split at h
    · rename_i e
      obtain ⟨y, ey, q⟩ := h
      exact mt_pop pins s σ H _ _ v us Q I rx rxs ⟨_, _, y, rfl, rfl, e, ey, q⟩
    · exact h.elim
  · obtain ⟨_, h⟩ := h
    split at h
    · rename_i e1 e2
      exact mt_extend pins s σ H _ _ v us Q I rx rxs ⟨_, _, _, _, rfl, rfl, e1, e2, h.1, h.2⟩
    · exact h.elim
  · exact absurd rfl hm
  · exact mt_split pins s σ H _ _ v us Q I rx rxs ⟨_, _, rfl, rfl, h.1, h.2.1, h.2.2⟩
  · exact mt_partition pins s σ H _ _ v us Q I rx rxs ⟨_, _, rfl, rfl, h.1, h.2.1, h.2.2⟩
  · split at h
    · rename_i e
      obtain ⟨k, rfl, q⟩ := h
      obtain ⟨u1, u2, rfl, r1, r2⟩ := Vals.two rxs
      cases rx
      exact d_get2 hu I (.inl ⟨_, k, rd_dK e, rfl, rfl⟩) r1 r2 fun w' s4 I4 rw' => ⟨_, H, I4, rw', q⟩
    · exact h.elim
  · exact h.elim
theorem bmR_ok (hu : X.A.units + 64 < cLine) (m : Bm) (hm : m ≠ .clear) : MtR X m.id (bmR ca m) := by
  intro pins s σ H x xs v us Q I rx rxs h
  rcases h with h | h
  · exact bmS_ok hu m pins s σ H x xs v us Q I rx rxs h
  · exact bmA_ok (by omega) m hm pins s σ H x xs v us Q I rx rxs h
/-- the method that the receiver's type has -/
structure MtAt (X : Cx) (s : Shared) (v : Value) (m : Bm) (T id : String) : Prop where
  plain : PlainAttrs T
  slot : Slot T m.nm id
  typ : typeOf (.builtin id) = pure (.type "method_descriptor")
  is : s.TypeIs v T
  nd : ∀ b, v = .ref b → ∃ ob, s.heap.get? b = some ob ∧ ob.dict = none
theorem rd_list {pins : List (Addr × Obj)} {s : Shared} {σ : L2.St} {H : Hp} {v : Value} {l : Addr} {ys : List V} (I : Inv X pins σ H s) (e : rd H l = some (.lst ys)) (rx : RelV (.ref l) v) : s.TypeIs v "list" ∧ (∀ b, v = .ref b → ∃ ob, s.heap.get? b = some ob ∧ ob.dict = none) := by
  cases rx
  obtain ⟨its, r, ⟨o, n, e, hc, hd, hs⟩, _⟩ := I.list (rd_lst e)
  exact ⟨⟨o, e, hc⟩, fun b eb => by cases eb; exact ⟨o, e, hd⟩⟩
theorem rd_dict {pins : List (Addr × Obj)} {s : Shared} {σ : L2.St} {H : Hp} {v : Value} {l : Addr} {kvs : List (Key × V)} (I : Inv X pins σ H s) (e : rd H l = some (.dK kvs)) (rx : RelV (.ref l) v) : s.TypeIs v "dict" ∧ (∀ b, v = .ref b → ∃ ob, s.heap.get? b = some ob ∧ ob.dict = none) := by
  cases rx
  have g : DGet H _ (.int 0) (valV kvs (Sum.inl 0)) := .inl ⟨kvs, .inl 0, rd_dK e, rfl, rfl⟩
  exact ⟨dict_typeIs I g, dict_noDict I g⟩
theorem bmT_ok {pins : List (Addr × Obj)} {s : Shared} {σ : L2.St} {H : Hp} {x : V} {m : Bm} (I : Inv X pins σ H s) (h : bmT m x H) (hm : m ≠ .clear) {v : Value} (rx : RelV x v) : MtAt X s v m m.ty m.id := by
  suffices s.TypeIs v m.ty ∧ (∀ b, v = .ref b → ∃ ob, s.heap.get? b = some ob ∧ ob.dict = none) from ⟨m.plain, m.slot, m.typ, this.1, this.2⟩
  unfold bmT at h
  split at h
  all_goals first
    | exact h.elim
    | exact absurd rfl hm
    | (obtain ⟨t, rfl⟩ := rx; exact ⟨typeIs_str _ _ _, fun _ e => nomatch e⟩)
    | (obtain ⟨ys, e⟩ := h; exact rd_list I e rx)
    | (obtain ⟨ys, e⟩ := h; exact rd_dict I e rx)
theorem bmA_clear {x : V} {H : Hp} {Q : VK} (q : bmA .clear x [] H Q) : ∃ l, x = .ref l ∧ ((∃ ys, H l = some (.lst ys) ∧ Q .non (upd H l (.lst []))) ∨ ∃ ys, H l = some (.dK ys) ∧ Q .non (upd H l (.dK []))) := by
  cases x
  case ref l =>
    refine ⟨l, rfl, ?_⟩
    replace q : (match H l with
      | some (.lst ys) => Q .non (upd H l (.lst []))
      | some (.dK ys) => Q .non (upd H l (.dK []))
      | _ => False) := q
    split at q
    · rename_i ys e; exact .inl ⟨ys, e, q⟩
    · rename_i ys e; exact .inr ⟨ys, e, q⟩
    · exact q.elim
  all_goals exact (show False from q).elim
/-- without arguments: clear, too -/
theorem bm0_ok (hu : X.A.units + 64 < cLine) (m : Bm) {pins : List (Addr × Obj)} {s : Shared} {σ : L2.St} {H : Hp} {x : V} {Q : VK} (I : Inv X pins σ H s) (h : bmT m x H) {v : Value} (rx : RelV x v) (q : bmR ca m x [] H Q) :
    ∃ T id, MtAt X s v m T id ∧ wpAny (model X.prog X.w) X.A (call (.builtin id) [v]) (EP X pins σ Q) X.xe s := by
  by_cases hm : m = .clear
  · subst hm
    rcases q with ⟨y, ys, z, u, _, hys, e, _⟩ | q
    · unfold bmP at e
      cases e
    · obtain ⟨l, rfl, ⟨ys, e, q⟩ | ⟨ys, e, q⟩⟩ := bmA_clear q
      · obtain ⟨a1, a2⟩ := rd_list I (rd_of e) rx
        exact ⟨"list", "list.clear", ⟨PySem.F.plainAttrs_list, PySem.F.slot_list_clear, PySem.F.type_list_clear, a1, a2⟩, mt_clear pins s σ H _ [] v [] Q I rx .nil ⟨_, _, rfl, rfl, e, q⟩⟩
      · obtain ⟨a1, a2⟩ := rd_dict I (rd_of e) rx
        exact ⟨"dict", "dict.clear", ⟨PySem.F.plainAttrs_dict, PySem.F.slot_dict_clear, PySem.F.type_dict_clear, a1, a2⟩, mtd_clear pins s σ H _ [] v [] Q I rx .nil ⟨_, _, rfl, rfl, e, q⟩⟩
  · exact ⟨m.ty, m.id, bmT_ok I h hm rx, bmR_ok hu m hm pins s σ H x [] v [] Q I rx .nil q⟩
theorem bmA_cons {x y : V} {ys : List V} {H : Hp} {Q : VK} (q : bmR ca .clear x (y :: ys) H Q) : False := by
  rcases q with ⟨x', ys, z, u, _, hys, e, _⟩ | q
  · unfold bmP at e
    cases e
  · unfold bmA at q
    split at q
    all_goals first | exact q | skip
    all_goals (rename_i h1 h2; first | (cases h1; done) | (cases h2; done) | skip)
end
end Vc

set_option Elab.async false
set_option linter.all false
set_option maxRecDepth 100000
set_option maxHeartbeats 2000000
namespace Vc
open PySem PySem.Spec PyProof.Rows L2
section
variable {X : Cx} {pins : List (Addr × Obj)} {σ : L2.St} {H : Hp} {s : Shared} {a : Addr} {cls : Value} {d : Option Addr}
theorem suite_track (I : Inv X pins σ H s) {oe : Obj} {vs : Array Value} (he : s.heap.get? a = some oe) (hc : oe.cls = cls) (hd : oe.dict = d) (hf : oe.data = .fields vs) (na : H a = none) (nL : a ≠ X.env.locals)
    (old : X.s_0.heap.get? a = none) (npin : ∀ p ∈ X.pn ++ pins, p.1 ≠ a) : Inv (X.suite a (X.pn ++ pins)) [] σ (upd H a (excO a cls d)) s := by
  have other : ∀ {b : Addr} {u : HO}, H b = some u → (upd H a (excO a cls d)) b = some u := fun {b u} e => by rw [upd_ne (ne_of_none e na)]; exact e
  have gone : ∀ {b : Addr}, b ≠ a → H b = none → (upd H a (excO a cls d)) b = none := fun {b} hb e => by rw [upd_ne hb]; exact e
  have cellNe : ∀ x c, X.env.cells.lookup x = some c → c ≠ a := fun x c e z => by
    obtain ⟨v, o, ho, hv⟩ := I.cell x c e
    rw [z, he] at ho
    cases ho
    rw [hf] at hv
    cases hv
  have ub := I.base
  refine ⟨I.ok.suite _ _, I.os, I.bare, ⟨ub.keep, ub.slot, fun b o e n hx => gone (fun z => ?_) (ub.free b o e n hx), ub.there, fun b xs e => other (ub.tups b xs e), fun b o u e => other (ub.frzs b o u e), fun b ps e => ?_⟩, I.loc, I.cell, gone nL.symm I.free,
    fun x c e => gone (cellNe x c e) (I.freeC x c e), fun p hp => ?_, fun b u e => ?_, I.len⟩
  · have e' : X.s_0.heap.get? b = some o := e
    rw [z, old] at e'
    cases e'
  · obtain ⟨more, q⟩ := ub.tbls b ps e
    exact ⟨more, other q⟩
  · have hp' : p ∈ X.pn ++ pins := by rw [List.append_nil] at hp; exact hp
    obtain ⟨p1, p2, p3, p4, p5⟩ := I.pin p hp'
    exact ⟨p1, gone (npin p hp') p2, p3, p4, p5⟩
  · by_cases hb : b = a
    · subst hb
      rw [upd_same] at e
      cases e
      refine ⟨⟨oe, vs, he, hc, hd, hf⟩, ⟨oe, he⟩, fun h1 h2 ⟨o, w, k1, k2⟩ k => ⟨o, w, k o k1, k2⟩⟩
    · rw [upd_ne hb] at e
      exact (I.hok b u e).stay (fun _ _ _ z => z) (fun _ z => other z) fun _ _ z => other z
theorem suite_back {A : Addr} {pn' : List (Addr × Obj)} (I : Inv (X.suite A (X.pn ++ pins)) pn' σ H s) (ok : X.Ok) : Inv X pins σ H s :=
  ⟨ok, I.os, I.bare, I.base, I.loc, I.cell, I.free, I.freeC, fun p hp => I.pin p (List.mem_append_left _ hp), I.hok, I.len⟩
end
section
variable {X : Cx} {x n : Str} {c : Value} {i : Nat} {body suite : List Stmt} {b₀ : Stmt} {np pos pos' : Pos} {tb : WX → TS} {ts : Addr → TS} {Wout : WX}
theorem try_track (hs : X.stack = X.env :: X.outer) (hf : X.env.frame = some X.env.locals) (hex : X.ex = []) (hN : X.N.Nodup) (hi : X.N[i]? = some n) (hln : X.env.kindOf n = some .local) (hc : Names X x c) (tk : Takes X Wout)
    (hb : ∀ (W : WX) (pn : List (Addr × Obj)) (xe : Value → Shared → Prop), Takes (X.tr pn xe) W → PassesOwn (model X.prog X.w) X.A X.env xe → PSs (X.tr pn xe) body (tb W))
    (hsu : ∀ (a : Addr) (pn : List (Addr × Obj)), PSs (X.suite a pn) (b₀ :: suite) (ts a)) :
    PS X (.Try body [.ExceptHandler (some (.Name x np)) (some n) (b₀ :: suite) pos'] [] [] pos) (fun D σ H => tb (wTrk X.K c i ts Wout D) D σ H) := by
  refine ⟨fun pins s σ H D I h => ?_⟩
  have ok := I.ok
  have hloc : Loc X.env.scope n := .inl hln
  have hfr : X.A.frames = some (X.env :: X.outer) := hs ▸ ok.frames
  have run := (hb (wTrk X.K c i ts Wout D) (X.pn ++ pins) (fun e s₁ => wpAny (model X.prog X.w) X.A (noteFrame e X.env) (fun _ s₂ => wpAny (model X.prog X.w) X.A (setFlight e none) (fun _ s₃ =>
    wpAny (model X.prog X.w) X.A (handleBy e X.env [.ExceptHandler (some (.Name x np)) (some n) (b₀ :: suite) pos']) (SP X pins D) X.xe s₃) X.xe s₂) X.xe s₁) (fun u s' xx => ?_) PassesOwn.looking).run [] s σ H D (I.toTry _) h
  · refine wpAny_Try_except (wpAny_mono run (fun f s1 hsp => ?_) fun _ _ he => he)
    cases f with
    | next => exact let ⟨σ', H', J, q⟩ := hsp; wpAny_execs_nil ⟨σ', H', J.ofTry ok, q⟩
    | brk => exact let ⟨σ', H', J, q⟩ := hsp; ⟨σ', H', J.ofTry ok, q⟩
    | cont => exact let ⟨σ', H', J, q⟩ := hsp; ⟨σ', H', J.ofTry ok, q⟩
    | ret u => exact let ⟨v, σ', H', J, r, q⟩ := hsp; ⟨v, σ', H', J.ofTry ok, r, q⟩
  · obtain ⟨a, B, sI, pins', σ', H', cls, d, rfl, Jt, nb, up, sky, na, os, ag, b, hb1, hyes, hno⟩ := xx
    have J : Inv X pins σ' H' sI := Jt.ofTry ok
    rw [show (X.tr (X.pn ++ pins) _).stack = X.env :: X.outer from hs] at sky
    show wpAny (model X.prog X.w) X.A (noteFrame (.ref a) X.env) _ _ _
    refine Sky.land Zc.steady hfr hf sky fun h3 fl3 up3 => ?_
    have J3 : Inv X pins σ' H' { s' with heap := h3 } := J.landed nb fl3.1 (up.trans up3) os ag
    obtain ⟨oe3, vs3, he3, hz3, hd3⟩ := fl3.there
    have Bn : B.get? a = none := fl3.2.1
    have nfr : a ∉ frs (X.env :: X.outer) := fun hm => by
      obtain ⟨_, o', e', hnf⟩ := fl3.2.2.1.mem hm
      rw [he3] at e'
      cases e'
      exact hnf _ hd3
    have nL : a ≠ X.env.locals := fun z => nfr (List.mem_filterMap.mpr ⟨X.env, List.mem_cons_self, by rw [hf, z]⟩)
    have nF : a ∉ X.fs := fun hm => by
      obtain ⟨e, he, q⟩ := List.mem_filterMap.mp hm
      exact nfr (List.mem_filterMap.mpr ⟨e, List.mem_cons_of_mem _ he, q⟩)
    have noI : sI.heap.get? a = none := by
      cases q : sI.heap.get? a with
      | none => rfl
      | some o =>
        have := nb a o q (by rw [show (X.tr (X.pn ++ pins) _).stack = X.env :: X.outer from hs]; exact nfr)
        rw [Bn] at this
        cases this
    have old : X.s_0.heap.get? a = none := by
      cases q : X.s_0.heap.get? a with
      | none => rfl
      | some o =>
        obtain ⟨o', z⟩ := J.base.there a o q (by rw [hex]; simp)
        rw [noI] at z
        cases z
    have npin : ∀ p ∈ X.pn ++ pins, p.1 ≠ a := fun p hp z => by
      have := (J.pin p hp).1
      rw [z, noI] at this
      cases this
    refine wpAny_handleBy_cons (codeAny_handlers_test ?_) (by intro q; cases q)
    have LT : PySem.W.Looks (model X.prog X.w) h3 (typeOf (.ref a)) cls := fun _ _ _ _ k q => wpAny_typeOf_ref (k _ _ he3) (by rw [hz3.1]; exact q)
    have LM := PySem.W.exm_one (M := model X.prog X.w) J3.kIn LT hb1
    have S3 := J3.suite he3 hd3 na nL nF
    have test : ∀ {Q : Value → Shared → Prop} {E : Value → Shared → Prop}, Q c { s' with heap := h3 } → wpAny (model X.prog X.w) (X.A.mark (some (.ref a))) (eval (.Name x np) X.env) Q E { s' with heap := h3 } := fun {Q E} q => by
      obtain ⟨hg, hdbg, hm | ⟨hm, hv, hnn⟩⟩ := hc
      · exact ld_glob (X := X.suite a _) S3 hg hm q hdbg
      · exact ld_blt (X := X.suite a _) S3 hg hm hv q hnn hdbg
    refine test (LM.here ?_)
    cases b with
    | false =>
      refine wpAny_handleBy_nil ?_
      obtain ⟨_, _, _, oe, vs, T, _, _, he, _, hd, h1, _⟩ := id fl3
      have fin : wpAny (model X.prog X.w) X.A (setFlight (.ref a) X.env.frame) (fun _ s4 => wpAny (model X.prog X.w) X.A (throw (.ref a) : Sem Flow) (SP X pins D) X.xe s4) X.xe { s' with heap := h3 } := by
        rw [hf]
        exact HandSPX.setFlight_upZ fl3 fun h4 hh4 up4 => wpAny_throw (tk _ _ ⟨a, B, sI, pins, σ', H', cls, d, rfl, J, nb, (up.trans up3).trans up4, .inr (.inr (hs ▸ hh4)), na, os, ag, hno rfl⟩)
      unfold PySem.passOn
      refine wpAny_bind (wpAny_field he hd h1 ?_)
      rw [if_neg (show ¬ ((Value.ref T == Value.none) = true) from by simp)]
      first
        | exact wpAny_bind (wpAny_pure (wpAny_bind fin))
        | exact wpAny_bind fin
    | true =>
      refine codeAny_handlers_suite_as (HandSPX.lands_againZ fl3 fun h4 fl4 up4 => ?_)
      have J4 : Inv X pins σ' H' { s' with heap := h4 } := J.landed nb fl4.1 ((up.trans up3).trans up4) os ag
      obtain ⟨oe4, vs4, he4, hz4, hd4⟩ := fl4.there
      have S4 := suite_track J4 he4 hz4.1 hz4.2 hd4 na nL old npin
      refine store_ok (X := X.suite a (X.pn ++ pins)) (v := .ref a) S4 hN hi hloc rfl (fun s5 S5 => ?_) (.inr hln)
      refine wpAny_mono ((hsu a (X.pn ++ pins)).run [] s5 _ _ _ S5 (hyes rfl a na)) (fun f s6 hsp => ?_) fun _ _ z => False.elim z
      have fin : ∀ {σ6 : L2.St} {H6 : Hp} {Q : Shared → Prop}, Inv (X.suite a (X.pn ++ pins)) [] σ6 H6 s6 → (∀ s7, Inv X pins (σ6.set i none) H6 s7 → Q s7) →
          wpAny (model X.prog X.w) X.A (do bindName X.env n .none; unbindBehindTheSuite X.env n pos') (fun _ s7 => Q s7) X.xe s6 := fun {σ6 H6 Q} S6 hq => gone_ok (suite_back S6 ok) hN hi hln hq
      cases f with
      | next => exact let ⟨σ6, H6, S6, q6⟩ := hsp; fin S6 fun s7 J7 => ⟨_, _, J7, q6⟩
      | brk => exact let ⟨σ6, H6, S6, q6⟩ := hsp; fin S6 fun s7 J7 => ⟨_, _, J7, q6⟩
      | cont => exact let ⟨σ6, H6, S6, q6⟩ := hsp; fin S6 fun s7 J7 => ⟨_, _, J7, q6⟩
      | ret u => exact let ⟨v6, σ6, H6, S6, r6, q6⟩ := hsp; fin S6 fun s7 J7 => ⟨_, _, _, J7, r6, q6⟩
end
/-- isinstance of such an exception -/
theorem exc_inst {X : Cx} {pins : List (Addr × Obj)} {σ : L2.St} {H : Hp} {s : Shared} {a D : Addr} (I : Inv X pins σ H s) (h : H a = some (excO a (.ref D) none)) : ∃ oe, PySem.W.InstAt s.heap a oe D none := by
  obtain ⟨⟨oe, vs, hg, h1, h2, h3⟩, _⟩ := I.hok a _ h
  obtain ⟨oc, od, oda, osl⟩ := oe
  dsimp only at h1 h2 h3
  subst h1 h2 h3
  exact ⟨_, hg, rfl, rfl, trivial⟩
theorem isiR_ok {X : Cx} {pins : List (Addr × Obj)} {σ : L2.St} {H : Hp} {s : Shared} {x c : V} {v u : Value} {Q : VK} (I : Inv X pins σ H s) (rx : RelV x v) (rc : RelV c u) (h : isiR X.K x c H Q) :
    wpAny (model X.prog X.w) X.A (call (.builtin "isinstance") [v, u]) (EP X pins σ Q) X.xe s := by
  rcases h with h | ⟨a, D, w, b, rfl, ha, C, k, e, q⟩
  · exact call_isi pins s σ H [x, c] [v, u] Q I (.cons rx (.cons rc .nil)) h
  · cases rx
    obtain ⟨oe, J⟩ := exc_inst I ha
    have ec := k.eq rc
    subst ec
    exact PySem.W.kia_one (PySem.W.handS_kitx_exc C.hg C.hk C.hs C.hd C.ha C.hn C.ht C.hm) I.kIn J e (fun z => nomatch z) fun tk => ⟨.bl b, H, I.kept (t' := tk) fun _ _ z => z, rfl, q⟩
theorem isiTR_ok {X : Cx} {pins : List (Addr × Obj)} {σ : L2.St} {H : Hp} {s : Shared} {x : V} {p : Addr} {cs : List V} {v : Value} {Q : VK} (I : Inv X pins σ H s) (rx : RelV x v) (h : isiTR X.K x p cs H Q) :
    wpAny (model X.prog X.w) X.A (call (.builtin "isinstance") [v, .ref p]) (EP X pins σ Q) X.xe s := by
  rcases h with h | ⟨a, D, us, b, rfl, ha, C, k, hT, e, q⟩
  · exact call_isiT pins s σ H [x, .ref p] [v, .ref p] Q I (.cons rx (.cons rfl .nil)) h
  · cases rx
    obtain ⟨oe, J⟩ := exc_inst I ha
    obtain ⟨_, its, rv, o, h1, h2, n, h3⟩ := (show ObjOk X.prog X.w H s.heap p (.tup cs) from I.hok p _ hT)
    have e3 := ClsV.all k rv
    subst e3
    obtain ⟨oc, od, dt, sl⟩ := o
    simp only at h2 h3
    subst h2 h3
    exact PySem.W.kia_tup (PySem.W.handS_kitx_exc C.hg C.hk C.hs C.hd C.ha C.hn C.ht C.hm) I.kIn J h1 e (fun z => nomatch z) fun tk => ⟨.bl b, H, I.kept (t' := tk) fun _ _ z => z, rfl, q⟩
end Vc

set_option Elab.async false
set_option linter.all false
set_option maxRecDepth 100000
set_option maxHeartbeats 2000000
namespace Vc
open PySem PySem.Spec PyProof.Rows L2
/-! ### does my tree stand for this text? -/
def isStar : Expr → Bool
  | .Starred .. => true
  | _ => false
/-- an expression that may be a receiver: no call of a name without arguments -/
def plainB : Expr → Bool
  | .Call (.Name _ _) [] [] _ => false
  | _ => true
def noLc : Expr → Bool
  | .ListComp .. => false
  | .SetComp .. => false
  | .DictComp .. => false
  | _ => true
/-- its test is its value's truth -/
def plainT : Expr → Bool
  | .UnaryOp .Not _ _ => false
  | .BoolOp .. => false
  | .IfExp .. => false
  | .Compare .. => false
  | _ => true
def noSlice : Expr → Bool
  | .Slice .. => false
  | _ => true
theorem star_of {e : Expr} (h : isStar e = false) (es : List Expr) (env : PySem.Env) : starEach (e :: es) env = (false, eval e env) :: starEach es env := by
  cases e <;> first | rfl | (simp [isStar] at h)
theorem base_of {e : Expr} (h : plainB e = true) (f : Str) (env : PySem.Env) (w : Sem Value) : attributeBase e f env w = w := by
  unfold attributeBase
  split
  · simp [plainB] at h
  · rfl
theorem swaps_of {e : Expr} (h : noLc e = true) (t : Option Expr) (l : Nat) (env : PySem.Env) : swapsWith e t l env = pure false := by
  cases e <;> first | rfl | (simp [noLc] at h)
theorem isTrue_of {e : Expr} (h : plainT e = true) (env : PySem.Env) (whole : Sem Value) : isTrue e env whole = (do let v ← whole; standAt e.pos; holding [v] (truthy v)) := by
  cases e with
  | UnaryOp o x p => cases o <;> first | rfl | (simp [plainT] at h)
  | _ => first | rfl | (simp [plainT] at h)
theorem subs_of {e : Expr} (h : noSlice e = true) (o i : Value) : subscripted e false o i = operate [o, i] (getItem o i) := by
  cases e <;> first | rfl | (simp [noSlice] at h)
def visB (sc : Scope) (x : Str) : Bool :=
  match sc.names.lookup x with
  | some .local => true
  | some .cell => true
  | some .free => true
  | _ => false
def glB (sc : Scope) (x : Str) : Bool :=
  match sc.names.lookup x with
  | some .globalImplicit => true
  | _ => false
def isN (x : Str) (e : Expr) : Bool :=
  match e with
  | .Name y _ => decide (y = x)
  | _ => false
def locB (N : List Str) (sc : Scope) (i : Nat) (x : Str) : Bool :=
  decide (N[i]? = some x) && (match sc.names.lookup x with
    | some .local => true
    | some .cell => true
    | _ => false)
def notTup : Expr → Bool
  | .Tuple .. => false
  | _ => true
def notSet : Expr → Bool
  | .Set .. => false
  | _ => true
def ckTs (N : List Str) (sc : Scope) : List Nat → List Expr → Bool
  | [], ts => ts.isEmpty
  | i :: is, ts => match ts with
      | .Name x _ :: r => locB N sc i x && ckTs N sc is r
      | _ => false
def ckTg (N : List Str) (sc : Scope) : Tg → Expr → Bool
  | .nm i, e => (match e with
      | .Name x _ => locB N sc i x
      | _ => false)
  | .tp is, e => (match e with
      | .Tuple ts _ _ => ckTs N sc is ts
      | _ => false)
/-- the block of a comprehension -/
def blkB (N : List Str) (sc scope : Scope) (own : List (Str × Nat)) : Bool :=
  decide (scope.kind = .function) && scope.names.all (fun y => decide (scope.names.lookup y.1 = some y.2)) && own.all (fun p => decide (N[p.2]? = some p.1)) &&
  scope.names.all (fun y => decide (y.2 ≠ .free) || decide (sc.names.lookup y.1 = some .cell) || decide (sc.names.lookup y.1 = some .free)) &&
  scope.names.all (fun y => decide (y.2 ≠ .local) && decide (y.2 ≠ .cell) || decide (y.1 ∈ own.map (·.1)) || decide (y.1 ∉ N))
def ckNs (sc : Scope) : List Str → List Expr → Bool
  | [], es => es.isEmpty
  | c :: cs, es => match es with
      | .Name y _ :: r => decide (y = c) && glB sc y && !(y == "__debug__") && ckNs sc cs r
      | _ => false
mutual
def ck (N : List Str) : Ex → Bool → Scope → Expr → Bool
  | .v i, _, sc, e => (match e with
      | .Name x _ => decide (N[i]? = some x) && visB sc x && !(x == "__debug__") && !(x == "__classdict__")
      | _ => false)
  | .ki n, _, _, e => (match e with
      | .Constant (.int m) _ _ => decide (m = n)
      | _ => false)
  | .ks n, _, _, e => (match e with
      | .Constant (.str m) _ _ => decide (m = n)
      | _ => false)
  | .kb n, _, _, e => (match e with
      | .Constant (.bool m) _ _ => decide (m = n)
      | _ => false)
  | .kn, _, _, e => (match e with
      | .Constant .none _ _ => true
      | _ => false)
  | .g y, _, sc, e => (match e with
      | .Name x _ => decide (x = y) && glB sc x && !(x == "__debug__")
      | _ => false)
  | .op o a b, _, sc, e => (match e with
      | .BinOp ea o' eb _ => decide (o' = o) && ck N a false sc ea && ck N b false sc eb
      | _ => false)
  | .cmp o a b, _, sc, e => (match e with
      | .Compare ea [o'] [eb] _ => decide (o' = o) && ck N a false sc ea && ck N b false sc eb && !behindInMarks o' eb
      | _ => false)
  | .chain o1 o2 a b c, _, sc, e => (match e with
      | .Compare ea [p1, p2] [eb, ec] _ => decide (p1 = o1) && decide (p2 = o2) && ck N a false sc ea && ck N b false sc eb && ck N c false sc ec && !lastMarks [p1, p2] [eb, ec]
      | _ => false)
  | .and a b, t, sc, e => (match e with
      | .BoolOp .And [e1, e2] _ => ck N a t sc e1 && ck N b t sc e2
      | .BoolOp .And (e1 :: e2 :: e3 :: r) p => ck N a t sc e1 && ck N b t sc (.BoolOp .And (e2 :: e3 :: r) p)
      | _ => false)
  | .or a b, t, sc, e => (match e with
      | .BoolOp .Or [e1, e2] _ => ck N a t sc e1 && ck N b t sc e2
      | .BoolOp .Or (e1 :: e2 :: e3 :: r) p => ck N a t sc e1 && ck N b t sc (.BoolOp .Or (e2 :: e3 :: r) p)
      | _ => false)
  | .not a, t, sc, e => (match e with
      | .UnaryOp .Not ea _ => ck N a t sc ea
      | _ => false)
  | .neg a, _, sc, e => (match e with
      | .UnaryOp .USub ea _ => ck N a false sc ea
      | _ => false)
  | .ife c a b, t, sc, e => (match e with
      | .IfExp ec ea eb _ => !t && ck N c true sc ec && ck N a false sc ea && ck N b false sc eb
      | _ => false)
  | .call f es, _, sc, e => (match e with
      | .Call (.Name x _) args [] _ => decide (x = f) && glB sc x && !(x == "__debug__") && cks N es sc args
      | _ => false)
  | .bi f es, _, sc, e => (match e with
      | .Call (.Name x _) (a :: args) [] _ => decide (x = f.nm) && glB sc x && !(x == "__debug__") && cks N es sc (a :: args)
      | _ => false)
  | .isi a c, _, sc, e => (match e with
      | .Call (.Name x _) [ea, .Name y _] [] _ => decide (x = "isinstance") && glB sc x && decide (y = c) && glB sc y && !(y == "__debug__") && ck N a false sc ea && !isStar ea
      | _ => false)
  | .isiT a cs, _, sc, e => (match e with
      | .Call (.Name x _) [ea, .Tuple es _ _] [] _ => decide (x = "isinstance") && glB sc x && ck N a false sc ea && !isStar ea && ckNs sc cs es && decide (cs.length < 20)
      | _ => false)
  | .bm m o es, _, sc, e => (match e with
      | .Call (.Attribute eo x apos) args [] pos => decide (x = m.nm) && ck N o false sc eo && plainB eo && (apos.endLine == pos.line) && decide (args.length < 20) && cks N es sc args && (decide (m ≠ .clear) || args.isEmpty)
      | _ => false)
  | .ix a i, _, sc, e => (match e with
      | .Subscript ea ei _ => ck N a false sc ea && ck N i false sc ei && noSlice ei
      | _ => false)
  | .sl a lo hi, _, sc, e => (match e with
      | .Subscript ea (.Slice l u none _) _ => ck N a false sc ea && cko N lo sc l && cko N hi sc u
      | _ => false)
  | .lst es, _, sc, e => (match e with
      | .List args _ => cks N es sc args
      | _ => false)
  | .tup es, _, sc, e => (match e with
      | .Tuple args _ _ => cks N es sc args
      | _ => false)
  | .dict0, _, _, e => (match e with
      | .Dict [] [] _ => true
      | _ => false)
  | .lc t s c x own, _, sc, e => (match e with
      | .ListComp elt [⟨tg, iter, ifs, 0⟩] scope _ => blkB N sc scope own && ckTg N scope t tg && ckSr N s sc iter && ckIf N c (relS scope sc) ifs && ck N x false (relS scope sc) elt
      | _ => false)
  | .fld o f, _, sc, e => (match e with
      | .Attribute eo x _ => decide (x = f) && ck N o false sc eo && plainB eo
      | _ => false)
  | .meth m o es, _, sc, e => (match e with
      | .Call (.Attribute eo x apos) args [] pos => decide (x = m) && ck N o false sc eo && plainB eo && cks N es sc args && (apos.endLine == pos.line) && decide (args.length < 20)
      | _ => false)
  | .make f es, _, sc, e => (match e with
      | .Call (.Name x _) args [] _ => decide (x = f) && glB sc x && !(x == "__debug__") && cks N es sc args
      | _ => false)
  | .dict _, _, _, _ => false
  | .fstr _, _, _, _ => false
  | .skey _ _, _, _, _ => false
  | .minlen _, _, _, _ => false
  | .mindef _ _, _, _, _ => false
  | .symd _ _, _, _, _ => false
def cks (N : List Str) : Exs → Scope → List Expr → Bool
  | .nil, _, es => es.isEmpty
  | .cons x r, sc, es => (match es with
      | e :: rest => ck N x false sc e && !isStar e && cks N r sc rest
      | [] => false)
def cko (N : List Str) : OEx → Scope → Option Expr → Bool
  | .none, _, e => e.isNone
  | .some x, sc, e => (match e with
      | some e => ck N x false sc e
      | none => false)
def ckIf (N : List Str) : OEx → Scope → List Expr → Bool
  | .none, _, es => es.isEmpty
  | .some x, sc, es => (match es with
      | [e] => ck N x true sc e
      | _ => false)
def ckSr (N : List Str) : Src → Scope → Expr → Bool
  | .seq x, sc, e => ck N x false sc e && notSet e
  | .keys x, sc, e => ck N x false sc e && notSet e
  | .rng x, sc, e => (match e with
      | .Call (.Name y _) [a] [] _ => decide (y = "range") && glB sc y && ck N x false sc a && !isStar a
      | _ => false)
  | .rng2 _ _, _, _ => false
  | .rng3 _ _ _, _, _ => false
  | .rev _, _, _ => false
  | .enum _, _, _ => false
  | .enums _ _, _, _ => false
end

/-! ### the context is as the readings take it -/
structure FnAt (X : Cx) (x : Str) (sp : Sp) : Prop where
  ex : ∃ (a : Addr) (fd : FuncData) (ps : List Str) (k : Nat), FnOk X.prog X.w X.K X.mg X.base (L2.CX X.prog X.w) k a fd ps sp ∧ Room k X.A ∧ X.mg x = some (.ref a) ∧ PySem.W.keepIn X.K (.ref a) = true ∧ Binds X.K fd ps []
/-- a method by the class that the thing is of -/
structure MtF (X : Cx) (C : Addr) (m : Str) (sp : Sp) : Prop where
  cls : Cls X.K C
  ex : ∃ (g : Addr) (fd : FuncData) (ps : List Str) (k : Nat), Meth X.K C m g ∧ FnOk X.prog X.w X.K X.mg X.base (L2.CX X.prog X.w) k g fd ps sp ∧ Room k X.A ∧ Binds X.K fd ps []
/-- C(..) where no __init__ is but object's -/
structure Mk0 (K : PySem.W.Frag) (C : Addr) : Prop where
  makes : PySem.W.makesIn K C = true
  top : PySem.W.mroIn K C (.type "object") = some true
  init : PySem.W.findIn K (.ref C) "__init__" = some (some (.builtin "object.__init__"))
  kp : PySem.W.keepIn K (.ref C) = true
structure MkF (X : Cx) (x : Str) (c : Addr) (sp : Option Sp) : Prop where
  at_ : X.mg x = some (.ref c)
  ex : match sp with
    | some sp => ∃ (f : Addr) (fd : FuncData) (ps : List Str) (k : Nat), Mk X.K c f ∧ FnOk X.prog X.w X.K X.mg X.base (L2.CX X.prog X.w) k f fd ps sp ∧ Room (k + 1) X.A ∧ Binds X.K fd ps []
    | none => Mk0 X.K c
structure GOk (X : Cx) (G : Gam) : Prop where
  K : X.K = G.K
  fn : ∀ f sp, G.fn f = some sp → FnAt X f sp
  gl : ∀ x v, G.gl x = some v → ∃ u, X.mg x = some u ∧ RelV v u
  bi : ∀ b : Bi, X.mg b.nm = none
  isi : X.mg "isinstance" = none
  rng : X.mg "range" = none
  cls : ∀ x v, G.cls x = some v → x ≠ "__name__" ∧ ∃ u, RelV v u ∧ (X.mg x = some u ∨ (X.mg x = none ∧ bootBuiltins x = some u))
  hu : X.A.units + 64 < cLine
  mt : ∀ C m sp, G.mt C m = some sp → MtF X C m sp
  mak : ∀ x c sp, G.mak x = some (c, sp) → MkF X x c sp
structure COk (X : Cx) (N : List Str) (sc : Scope) (W : WX) : Prop where
  hN : X.N = N
  hsc : X.env.scope = sc
  nd : N.Nodup
  calm : X.calm = true
  tk : Takes X W
section
variable {X : Cx} {G : Gam} {N : List Str} {sc : Scope} {W : WX}
theorem vis_of {x : Str} (h : visB X.env.scope x = true) : Vis X.env.scope x := by
  unfold visB at h
  split at h
  · exact .inl (by assumption)
  · exact .inr (.inl (by assumption))
  · exact .inr (.inr (by assumption))
  · cases h
theorem gl_of {x : Str} (h : glB X.env.scope x = true) : Gl X x := by
  unfold glB at h
  split at h
  · assumption
  · cases h
/-- what is shown of an expression -/
structure SE (X : Cx) (K : PySem.W.Frag) (e : Expr) (t : TE × TT) : Prop where
  val : PE X e t.1
theorem PE.imp {e : Expr} {t u : TE} (h : PE X e t) (i : ∀ σ H Q, u σ H Q → t σ H Q) : PE X e u := ⟨fun pins s σ H Q I q => h.run pins s σ H Q I (i _ _ _ q)⟩
theorem PT.imp {e : Expr} {t u : TT} (h : PT X e t) (i : ∀ σ H Q, u σ H Q → t σ H Q) : PT X e u := ⟨fun pins s σ H Q I q => h.run pins s σ H Q I (i _ _ _ q)⟩
/-- a plain expression as a test -/
theorem pt_plain {ca : CA} {e : Expr} {t : TE} (h : PE X e t) (p : plainT e = true) : PT X e (tTr ca t) := by
  refine ⟨fun pins s σ H Q I q => ?_⟩
  exact isTrue_plain (thn (h.run pins s σ H _ I q) fun v s1 ⟨x, H1, I1, r1, q1⟩ => truR_ok (ca := ca) pins s1 σ H1 x v Q I1 r1 q1) (isTrue_of p _ _)
theorem back_plain {N : List Str} {sc : Scope} : ∀ {es : Exs} {args : List Expr} (h : cks N es sc args = true) (pos : Pos) (env : PySem.Env), (backTo pos (starEach args env)).any (·.1) = false
  | .nil, args, h, pos, env => by
    unfold cks at h
    cases args with
    | nil => rfl
    | cons _ _ => cases h
  | .cons x r, args, h, pos, env => by
    unfold cks at h
    cases args with
    | nil => cases h
    | cons e rest =>
      simp only [Bool.and_eq_true, Bool.not_eq_true'] at h
      rw [star_of h.1.2]
      show (false || (backTo pos (starEach rest env)).any (·.1)) = false
      rw [back_plain h.2 pos env]
      rfl
theorem back_all {N : List Str} {sc : Scope} : ∀ {es : Exs} {args : List Expr} (h : cks N es sc args = true) (pos : Pos) (env : PySem.Env), (backTo pos (starEach args env)).all (fun x => !x.1) = true
  | .nil, args, h, pos, env => by
    unfold cks at h
    cases args with
    | nil => rfl
    | cons _ _ => cases h
  | .cons x r, args, h, pos, env => by
    unfold cks at h
    cases args with
    | nil => cases h
    | cons e rest =>
      simp only [Bool.and_eq_true, Bool.not_eq_true'] at h
      rw [star_of h.1.2]
      show (true && (backTo pos (starEach rest env)).all (fun x => !x.1)) = true
      rw [back_all h.2 pos env]
      rfl

theorem Bi.kind (f : Bi) : (∃ id, f.val = .builtin id) ∨ ∃ T, f.val = .type T := by
  cases f <;> first
    | exact .inl ⟨_, rfl⟩
    | exact .inr ⟨_, rfl⟩
theorem Bi.nmain (f : Bi) : f.nm ≠ "__name__" := by cases f <;> decide +kernel
/-- the reading is right: as a value (t = false), as a test (t = true) -/
def Snd (X : Cx) (G : Gam) (W : WX) (x : Ex) (t : Bool) (e : Expr) : Prop :=
  (t = false → PE X e (wP G x W).1) ∧ (t = true → PT X e (wP G x W).2 ∧ ∀ op vs p, e = .BoolOp op vs p → PW X e (wP G x W).2)
theorem snd_plain {x : Ex} {t : Bool} {e : Expr} (hG : GOk X G) (h : PE X e (wP G x W).1) (p : plainT e = true) (e2 : (wP G x W).2 = tTr G.ca (wP G x W).1) : Snd X G W x t e := by
  refine ⟨fun _ => h, fun _ => ⟨?_, fun op vs q z => ?_⟩⟩
  · rw [e2]
    exact pt_plain h p
  · subst z
    simp [plainT] at p
theorem pe_cls {y : Str} {p : Pos} {v : V} (hG : GOk X G) (hgl : Gl X y) (h5 : (y == ("__debug__" : Str)) = false) (ev : G.cls y = some v) : PE X (.Name y p) (tC v) := by
  obtain ⟨hn, u2, rv, hm | ⟨hm, hb⟩⟩ := hG.cls _ v ev
  · exact pe_glob hgl hm rv h5
  · exact pe_bltn hgl hm hb rv hn h5
theorem pa_cls (hG : GOk X G) (hsc : X.env.scope = sc) : ∀ {cs : List Str} {es : List Expr} {vs : List V}, ckNs sc cs es = true → cs.mapM G.cls = some vs → PA X es (fun _ H Q => Q vs H) ∧ vs.length = cs.length
  | [], es, vs, h, e => by
    unfold ckNs at h
    cases es with
    | cons _ _ => cases h
    | nil =>
      have : vs = [] := by simpa using e.symm
      subst this
      exact ⟨pa_nil, rfl⟩
  | c :: cs, es, vs, h, e => by
    unfold ckNs at h
    split at h
    · simp only [Bool.and_eq_true, decide_eq_true_eq, Bool.not_eq_true'] at h
      obtain ⟨⟨⟨h1, h2⟩, h3⟩, h4⟩ := h
      subst h1
      rw [List.mapM_cons] at e
      cases e1 : G.cls _ with
      | none => rw [e1] at e; simp at e
      | some v =>
        rw [e1] at e
        cases e2 : cs.mapM G.cls with
        | none => rw [e2] at e; simp at e
        | some ws =>
          rw [e2] at e
          have ev : v :: ws = vs := by simpa using e
          subst ev
          obtain ⟨p1, p2⟩ := pa_cls hG hsc h4 e2
          refine ⟨pa_cons (pe_cls hG (gl_of (by rw [hsc]; exact h2)) h3 e1) p1 rfl, ?_⟩
          show ws.length + 1 = cs.length + 1
          rw [p2]
    · cases h
theorem PG.imp {e : Expr} {t u : TG} (h : PG X e t) (i : ∀ v σ H Q, u v σ H Q → t v σ H Q) : PG X e u := ⟨fun pins s σ H v w Q I r q => h.run pins s σ H v w Q I r (i _ _ _ _ q)⟩
theorem PI.imp {tg it : Expr} {t u : TI} (h : PI X tg it t) (i : ∀ σ H R, u σ H R → t σ H R) : PI X tg it u := ⟨fun pins s σ H R I q => h.run pins s σ H R I (i _ _ _ q)⟩
/-- where one may store -/
def Sto (X : Cx) (N : List Str) (sc : Scope) : Prop := ∀ {i : Nat} {x : Str}, locB N sc i x = true → X.N[i]? = some x ∧ Loc X.env.scope x ∧ (X.fn x = true ∨ X.env.scope.names.lookup x = some .local)
theorem loc_of {i : Nat} {x : Str} (hC : COk X N sc W) (h : locB N sc i x = true) : X.N[i]? = some x ∧ Loc X.env.scope x := by
  unfold locB at h
  rw [Bool.and_eq_true] at h
  obtain ⟨h1, h2⟩ := h
  refine ⟨by rw [hC.hN]; exact of_decide_eq_true h1, ?_⟩
  rw [hC.hsc]
  split at h2
  · exact .inl (by assumption)
  · exact .inr (by assumption)
  · cases h2
def gAll (is : List Nat) : TGs := fun vs σ H Q => vs.length = is.length ∧ Q (setAll σ is vs) H
theorem each_name {ts : List Expr} {x : Str} {p : Pos} {env : PySem.Env} : (assignEach (.Name x p :: ts) env).map (·.2) = assign (.Name x p) env :: (assignEach ts env).map (·.2) := rfl
theorem sto_of (hC : COk X N sc W) (hf : ∀ x, X.fn x = true) : Sto X N sc := fun h => ⟨(loc_of hC h).1, (loc_of hC h).2, .inl (hf _)⟩
theorem tgs_ok (nd : X.N.Nodup) (hL : Sto X N sc) : ∀ {is : List Nat} {ts : List Expr}, ckTs N sc is ts = true → PGs X ts (gAll is) ∧ (assignEach ts X.env).length = is.length ∧ (assignEach ts X.env).findIdx? (·.1) = none
  | [], ts, h => by
    unfold ckTs at h
    cases ts with
    | nil =>
      refine ⟨⟨fun pins s σ H vs us Q I r q => ?_⟩, rfl, rfl⟩
      refine pgs_nil.run pins s σ H vs us Q I r ⟨?_, ?_⟩
      · exact List.length_eq_zero_iff.mp q.1
      · have : vs = [] := List.length_eq_zero_iff.mp q.1
        subst this
        exact q.2
    | cons _ _ => cases h
  | i :: is, ts, h => by
    unfold ckTs at h
    split at h
    · rw [Bool.and_eq_true] at h
      obtain ⟨h1, h2⟩ := h
      obtain ⟨k1, k2, k3⟩ := hL h1
      obtain ⟨r1, r2, r3⟩ := tgs_ok nd hL h2
      refine ⟨⟨fun pins s σ H vs us Q I r q => ?_⟩, ?_, ?_⟩
      · refine (pgs_cons (pg_name nd k1 k2 k3) r1 each_name).run pins s σ H vs us Q I r ?_
        obtain ⟨q1, q2⟩ := q
        cases vs with
        | nil => cases q1
        | cons v vr => exact ⟨v, vr, rfl, by simpa using q1, q2⟩
      · show (assignEach _ X.env).length + 1 = is.length + 1
        rw [r2]
      · show List.findIdx? _ (_ :: _) = none
        rw [List.findIdx?_cons]
        simp only [Bool.false_eq_true, if_false]
        rw [r3]
        rfl
    · cases h
theorem tg_ok (calm : X.calm = true) (nd : X.N.Nodup) (hL : Sto X N sc) : ∀ {t : Tg} {e : Expr}, ckTg N sc t e = true → PG X e (wTg X.K t)
  | .nm i, e, h => by
    simp only [ckTg] at h
    split at h
    · obtain ⟨k1, k2, k3⟩ := hL h
      exact pg_name nd k1 k2 k3
    · cases h
  | .tp is, e, h => by
    simp only [ckTg] at h
    split at h
    · obtain ⟨r1, r2, r3⟩ := tgs_ok nd hL h
      refine ⟨fun pins s σ H v u Q I r q => ?_⟩
      simp only [wTg] at q
      split at q
      · rename_i a
        split at q
        · rename_i w e
          split at q
          · rename_i xs e2
            cases w <;> first | cases e2 | skip
            · exact (pg_lst calm r1 r2 r3).run pins s σ H _ u Q I r ⟨_, xs, rfl, rd_lst e, q.1, q.1, q.2⟩
            · exact (pg_tup calm r1 r2 r3).run pins s σ H _ u Q I r ⟨_, xs, rfl, rd_tup e, q.1, q.1, q.2⟩
          · exact q.elim
        · exact q.elim
      · exact q.elim
    · cases h
theorem set_of {e : Expr} (h : notSet e = true) (env : PySem.Env) (x : Value) : foldedSetIterable e env x = pure x := by
  cases e <;> first | rfl | (simp [notSet] at h)
theorem known_list {K : PySem.W.Frag} {a : Addr} {xs : List V} : Known (Itl K a) xs (fun H => rd H a = some (.lst xs)) := by
  refine ⟨fun i H o hi => ⟨xs, xs[i], rd_lst o, by simp [hi]⟩, fun i H x H' o _ y => ⟨y.1, y.2 xs (rd_lst o)⟩, fun i H o hi => ⟨xs, rd_lst o, hi⟩⟩
theorem known_tup {K : PySem.W.Frag} {a : Addr} {xs : List V} : Known (Itt K a) xs (fun H => rd H a = some (.tup xs)) := by
  refine ⟨fun i H o hi => ⟨xs, xs[i], rd_tup o, by simp [hi]⟩, fun i H x H' o _ y => ⟨y.1, y.2 xs (rd_tup o)⟩, fun i H o hi => ⟨xs, rd_tup o, hi⟩⟩
theorem known_str {z : Str} : Known (Its z) (z.cps.toList.map fun c => V.str ⟨#[c]⟩) (fun _ => True) := by
  refine ⟨fun i H o hi => ?_, fun i H x H' o _ y => ⟨y.1, ?_⟩, fun i H o hi => ?_⟩
  · show i < z.cps.size
    simpa using hi
  · obtain ⟨c, ec, rfl⟩ := y.2
    simp only [List.getElem?_map, Array.getElem?_toList, ec]
    rfl
  · show z.cps.size ≤ i
    simpa using hi
theorem known_keys {a : Addr} {o : Obj} {kvs : List (Key × V)} : Known (Itk a o kvs) (kvs.map fun p => kV p.1) (fun H => H a = some (.frz o (.dK kvs))) := by
  refine ⟨fun i H k hi => ⟨k, by simpa using hi⟩, fun i H x H' k hi y => ?_, fun i H k hi => ⟨k, by simpa using hi⟩⟩
  obtain ⟨e, key, v, e1, rfl⟩ := y
  refine ⟨e, ?_⟩
  rw [List.getElem?_map, e1]
  rfl
theorem known_rng {n : Nat} : Known (Itr 0 n) ((List.range n).map fun k => V.int (k : Nat)) (fun _ => True) := by
  have hl : ((List.range n).map fun k => V.int (k : Nat)).length = n := by simp
  refine ⟨fun i H o hi => ?_, fun i H x H' o hi y => ⟨y.1, ?_⟩, fun i H o hi => ?_⟩
  · show i < n
    omega
  · have g : i < n := by omega
    rw [List.getElem?_map, List.getElem?_range g, y.2]
    simp
  · show n ≤ i
    omega
/-- an iterator begins, by the walked value -/
theorem iv_list {pins : List (Addr × Obj)} {σ : L2.St} {H : Hp} {s : Shared} {a : Addr} {xs : List V} {tg : Expr} {R : It → Hp → Prop} (I : Inv X pins σ H s) (hq : SqL X.K H a xs) (q : R (Itl X.K a) H) :
    wpAny (model X.prog X.w) X.A (pyIter (.ref a)) (PIE X pins σ tg R) X.xe s := by
  have pe : PE X (.Constant .none 0 ⟨0, 0, 0, 0⟩) (fun σ' H' Q => σ' = σ ∧ H' = H ∧ Q (.ref a) H) → True := fun _ => trivial
  obtain ⟨its, rv, pl, hz⟩ := I.list hq
  have sz : ∀ b, b = s.heap.objs.size → FpOk X pins H b := fun b e => by
    subst e
    exact I.fpOk (Nat.le_refl _) (I.hok.fresh (Nat.le_refl _))
  exact wpAny_pyIter_list pl.isList ⟨_, [s.heap.objs.size], _, _, H, rfl, I.kept (t' := s.toks) fun b o e => Heap.get?_push_of_some _ e, turn_list a _, ⟨_, Heap.get?_push_size _ rfl, rfl, rfl⟩, fun b hb => sz b (by simpa using hb), q⟩
theorem iv_tup {pins : List (Addr × Obj)} {σ : L2.St} {H : Hp} {s : Shared} {a : Addr} {xs : List V} {tg : Expr} {R : It → Hp → Prop} (I : Inv X pins σ H s) (hq : SqT X.K H a xs) (q : R (Itt X.K a) H) :
    wpAny (model X.prog X.w) X.A (pyIter (.ref a)) (PIE X pins σ tg R) X.xe s := by
  obtain ⟨its, rv, pl, hz⟩ := I.tuple hq
  have sz : ∀ b, b = s.heap.objs.size → FpOk X pins H b := fun b e => by
    subst e
    exact I.fpOk (Nat.le_refl _) (I.hok.fresh (Nat.le_refl _))
  exact wpAny_pyIter_tuple (show s.heap.IsTuple a its.toArray from pl) ⟨_, [s.heap.objs.size], _, _, H, rfl, I.kept (t' := s.toks) fun b o e => Heap.get?_push_of_some _ e, turn_tuple a _, ⟨_, Heap.get?_push_size _ rfl, rfl, rfl⟩, fun b hb => sz b (by simpa using hb), q⟩
theorem iv_str {pins : List (Addr × Obj)} {σ : L2.St} {H : Hp} {s : Shared} {x : Str} {t : Tok} {tg : Expr} {R : It → Hp → Prop} (I : Inv X pins σ H s) (q : R (Its x) H) :
    wpAny (model X.prog X.w) X.A (pyIter (.str x t)) (PIE X pins σ tg R) X.xe s := by
  cases ha : x.cps.all (· < 128)
  · exact wpAny_pyIter_wide ha (pi_one (tk := s.toks) I _ (turn_str _ x t "str_iterator" (.inr rfl)) ⟨_, Heap.get?_push_size _ rfl, rfl, rfl⟩ q)
  · exact wpAny_pyIter_ascii ha (pi_one (tk := s.toks) I _ (turn_str _ x t "str_ascii_iterator" (.inl rfl)) ⟨_, Heap.get?_push_size _ rfl, rfl, rfl⟩ q)
/-! the block of a comprehension -/
theorem GOk.blk (hG : GOk X G) {s : Shared} {H : Hp} {scope : Scope} {env : PySem.Env} {fp : List Addr} : GOk (X.blk s H scope env fp) G :=
  ⟨hG.K, fun f sp e => ⟨(hG.fn f sp e).ex⟩, hG.gl, hG.bi, hG.isi, hG.rng, hG.cls, hG.hu, fun C m sp e => ⟨(hG.mt C m sp e).cls, (hG.mt C m sp e).ex⟩, fun x c sp e => ⟨(hG.mak x c sp e).at_, (hG.mak x c sp e).ex⟩⟩
theorem takes0 {Y : Cx} : Takes Y W0 := fun u s' ⟨a, B, sI, pins, σ, H, cls, d, e, I, nb, up, sky, na, os, ag, w⟩ => w.elim
theorem COk.blk (hC : COk X N sc W) {s : Shared} {H : Hp} {scope : Scope} {cl : List (Str × Addr)} {C : Addr} {fp : List Addr} : COk (X.blk s H scope (compEnvC scope cl C X.env) fp) N (relS scope sc) W0 :=
  ⟨hC.hN, by
    show relS scope X.env.scope = relS scope sc
    rw [hC.hsc], hC.nd, hC.calm, takes0⟩
theorem sto_blk (hC : COk X N sc W) {s : Shared} {H : Hp} {scope : Scope} {cl : List (Str × Addr)} {C : Addr} {fp : List Addr} : Sto (X.blk s H scope (compEnvC scope cl C X.env) fp) N scope := fun {i x} h => by
  unfold locB at h
  rw [Bool.and_eq_true] at h
  obtain ⟨h1, h2⟩ := h
  have kp : ∀ {k : NameKind}, k ≠ .free → scope.names.lookup x = some k → (relS scope X.env.scope).names.lookup x = some k := fun hk e => lookup_relS_keep hk e
  refine ⟨by show X.N[i]? = _; rw [hC.hN]; exact of_decide_eq_true h1, ?_⟩
  split at h2
  · rename_i e
    have e2 := kp (by decide) e
    exact ⟨.inl e2, .inr e2⟩
  · rename_i e
    have e2 := kp (by decide) e
    refine ⟨.inr e2, .inl ?_⟩
    show (scope.names.lookup x == some .cell) = true
    rw [e]
    rfl
  · cases h2
theorem blk_ok (hC : COk X N sc W) {scope : Scope} {own : List (Str × Nat)} (h : blkB N sc scope own = true) : BlkOk X.N X.env.scope scope own := by
  unfold blkB at h
  simp only [Bool.and_eq_true, Bool.or_eq_true, List.all_eq_true, decide_eq_true_eq] at h
  obtain ⟨⟨⟨⟨h1, h2⟩, h3⟩, h4⟩, h5⟩ := h
  rw [hC.hN, hC.hsc]
  refine ⟨h1, h2, h3, fun y hy e => ?_, fun y hy e => ?_⟩
  · rcases h4 y hy with (k | k) | k
    · exact absurd e k
    · exact .inl k
    · exact .inr k
  · rcases h5 y hy with (k | k) | k
    · rcases e with e | e
      · exact absurd e k.1
      · exact absurd e k.2
    · exact .inl k
    · exact .inr k
/-- o.m(..): what o's class gives is called -/
theorem meth_call {M : Model} {A : Around} {env : PySem.Env} {o : Expr} {x : Str} {apos pos : Pos} {args : List Expr} {R : Value → Shared → Prop} {E : Value → Shared → Prop} {s : Shared} (hb : attributeBase o x env (eval o env) = eval o env)
    (hf : methodCallForm (args.length + ([] : List Keyword).length) (backTo pos (starEach args env)) (backToKw pos (keywordEach [] env)) = true) (hl : (apos.endLine == pos.line) = true)
    (h : wpAny M A (eval o env) (fun ov s1 => wpAny M A (getMethod ov x (do return (← importBound o env).getD true)) (fun fx s2 => wpAny M A (callWith pos fx.1 fx.2 (backTo pos (starEach args env)) (backToKw pos (keywordEach [] env))) R E s2) E s1) E s) :
    wpAny M A (eval (.Call (.Attribute o x apos) args [] pos) env) R E s := by
  rw [arm_eval_Call, hb]
  refine wpAny_bind (wpAny_mono h (fun ov s1 h1 => ?_) fun _ _ e => e)
  refine wpAny_bind (wpAny_standAt ?_)
  have hp : methodCallPos true o env apos pos = pure pos := by unfold methodCallPos; simp [hl]
  unfold methodCall
  rw [hf]
  refine wpAny_bind (wpAny_holding (show wpAny M A (calleeOf true o env ov x) _ _ _ from wpAny_mono h1 (fun fx s2 h2 => ?_) fun _ _ e => e))
  exact wpAny_bind (wpAny_of_eq hp h2)
/-- the class is called -/
theorem run_mak {X : Cx} {c : Addr} {sp : Option Sp} {W : WX} {pins : List (Addr × Obj)} (tk : Takes X W) (hx : match sp with
    | some sp => ∃ (f : Addr) (fd : FuncData) (ps : List Str) (k : Nat), Mk X.K c f ∧ FnOk X.prog X.w X.K X.mg X.base (L2.CX X.prog X.w) k f fd ps sp ∧ Room (k + 1) X.A ∧ Binds X.K fd ps []
    | none => Mk0 X.K c) (σ : L2.St) (H : Hp) (s : Shared) (Q : VK) (us : List Value) (vs : List V) (I : Inv X pins σ H s) (r : Vals vs us)
    (h : ∀ x dx, H x = none → H dx = none → dx ≠ x → match (generalizing := false) sp with
      | some sp => sp (.ref x :: vs) (upd (upd H dx (.own x)) x (.ins c dx [])) (fun v H2 => v = .non ∧ Q (.ref x) H2) (WE W σ)
      | none => vs = [] ∧ Q (.ref x) (upd (upd H dx (.own x)) x (.ins c dx []))) :
    wpAny (model X.prog X.w) X.A (call (.ref c) us) (EP X pins σ Q) X.xe s := by
  have hq := h (s.heap.objs.size + 1) s.heap.objs.size (I.hok.fresh (Nat.le_succ _)) (I.hok.fresh (Nat.le_refl _)) (Nat.ne_of_lt (Nat.lt_succ_self _))
  have I2 := Inv.made (C := c) I
  cases sp with
  | some sp =>
    obtain ⟨f, fd, ps, k, M, F, hr, hb⟩ := hx
    have r2 : Vals (V.ref (s.heap.objs.size + 1) :: vs) (Value.ref (s.heap.objs.size + 1) :: us) := .cons rfl r
    have hl : (Value.ref (s.heap.objs.size + 1) :: us).length = ps.length := by
      rw [← r2.length]
      exact F.len _ _ _ _ hq
    have b := hb _ (Value.ref (s.heap.objs.size + 1) :: us) I2.kIn (by rw [List.append_nil]; exact hl)
    rw [List.append_nil] at b
    refine wpAny_call (make_map (f := f) I.kIn M.makes M.init (beq_iff_eq.mp M.fn) (codeAny_mono (F.run _ X.stack _ _ ⟨Value.ref (s.heap.objs.size + 1) :: us, []⟩ _ _ _ (WE W σ) (hr.make c us []) (I2.env0.make c us []) b r2 hq) fun r s' hq' => ?_))
    cases r with
    | error e => exact passAt tk σ pins _ _ e s' I2 hq'
    | ok fl =>
      cases fl with
      | ret u =>
        obtain ⟨v, H', I3, rv, ev, q3⟩ := I2.after hq'
        subst ev
        exact ⟨rv, ⟨V.ref (s.heap.objs.size + 1), H', I3, rfl, q3⟩⟩
      | next => exact False.elim hq'
      | brk => exact False.elim hq'
      | cont => exact False.elim hq'
  | none =>
    obtain ⟨rfl, q⟩ := hq
    cases r
    refine wpAny_call (make_map0 I.kIn hx.makes hx.init (fun self => PySem.W.Looks.of_pure (PySem.W.oi_bind _)) ?_)
    have t2 : PySem.W.Looks (model X.prog X.w) ((s.heap.push PySem.W.emptyDict).push (PySem.W.instObj c s.heap.objs.size)) (isInstance (.ref (s.heap.objs.size + 1)) (.type "object")) true :=
      (NwA.type_at (o := PySem.W.instObj c s.heap.objs.size) (by
        have := Heap.get?_push_size (s.heap.push PySem.W.emptyDict) (o := PySem.W.instObj c s.heap.objs.size) rfl
        rwa [Heap.size_push] at this) rfl).andThen (PySem.W.looks_mroIn I2.kIn hx.top)
    refine codeAny_call_builtin PySem.W.oi_plain PySem.W.entry_oi (@PySem.W.check_slot (model X.prog X.w) _ _ _ "object.__init__" "object" "__init__" (.ref (s.heap.objs.size + 1)) [] [] _ PySem.W.oi_kind PySem.W.oi_split t2 (NwA.oi_args_any (.ref (s.heap.objs.size + 1)) [] []) ?_)
    rw [PySem.W.oi_run]
    exact wpAny_pure (And.intro rfl ⟨V.ref (s.heap.objs.size + 1), _, I2, rfl, q⟩)
mutual
theorem sndE : ∀ (x : Ex) {X : Cx} {G : Gam} {N : List Str} {sc : Scope} {W : WX} (hG : GOk X G) (hC : COk X N sc W) {t : Bool} {e : Expr}, ck N x t sc e = true → Snd X G W x t e
  | .v i, X, G, N, sc, W, hG, hC, t, e, h => by
    obtain ⟨rfl, rfl, nd, hc, tk⟩ := hC
    unfold ck at h
    split at h
    · simp only [Bool.and_eq_true, decide_eq_true_eq, Bool.not_eq_true'] at h
      obtain ⟨⟨⟨h1, h2⟩, h3⟩, h4⟩ := h
      refine snd_plain hG (PE.imp (pe_var h1 (vis_of h2) h3 h4) fun σ H Q q => ?_) rfl rfl
      have q : vR i σ H Q := q
      unfold vR at q
      split at q
      · exact ⟨_, by assumption, q⟩
      · exact q.elim
    · cases h
  | .ki n, X, G, N, sc, W, hG, hC, t, e, h => by
    unfold ck at h
    split at h
    · have h := of_decide_eq_true h
      subst h
      exact snd_plain hG pe_int rfl rfl
    · cases h
  | .ks n, X, G, N, sc, W, hG, hC, t, e, h => by
    unfold ck at h
    split at h
    · have h := of_decide_eq_true h
      subst h
      exact snd_plain hG pe_str rfl rfl
    · cases h
  | .kb n, X, G, N, sc, W, hG, hC, t, e, h => by
    unfold ck at h
    split at h
    · have h := of_decide_eq_true h
      subst h
      exact snd_plain hG pe_bl rfl rfl
    · cases h
  | .kn, X, G, N, sc, W, hG, hC, t, e, h => by
    unfold ck at h
    split at h
    · exact snd_plain hG pe_non rfl rfl
    · cases h
  | .g y, X, G, N, sc, W, hG, hC, t, e, h => by
    obtain ⟨rfl, rfl, nd, hc, tk⟩ := hC
    unfold ck at h
    split at h
    · simp only [Bool.and_eq_true, decide_eq_true_eq, Bool.not_eq_true'] at h
      obtain ⟨⟨h1, h2⟩, h3⟩ := h
      subst h1
      refine snd_plain hG ⟨fun pins s σ H Q I q => ?_⟩ rfl rfl
      obtain ⟨v, ev, q⟩ := q
      obtain ⟨u, hu, r⟩ := hG.gl _ v ev
      exact (pe_glob (gl_of h2) hu r h3).run pins s σ H Q I q
    · cases h
  | .op o a b, X, G, N, sc, W, hG, hC, t, e, h => by
    unfold ck at h
    split at h
    · simp only [Bool.and_eq_true, decide_eq_true_eq] at h
      obtain ⟨⟨h1, h2⟩, h3⟩ := h
      subst h1
      refine snd_plain hG ?_ rfl rfl
      have ha := (sndE a hG hC h2).1 rfl
      have hb := (sndE b hG hC h3).1 rfl
      exact pe_op (opR_ok _) ha hb
    · cases h
  | .cmp o a b, X, G, N, sc, W, hG, hC, t, e, h => by
    unfold ck at h
    split at h
    · simp only [Bool.and_eq_true, decide_eq_true_eq, Bool.not_eq_true'] at h
      obtain ⟨⟨⟨h1, h2⟩, h3⟩, h4⟩ := h
      subst h1
      have ha := (sndE a hG hC h2).1 rfl
      have hb := (sndE b hG hC h3).1 rfl
      refine ⟨fun _ => ?_, fun _ => ⟨?_, fun _ _ _ z => nomatch z⟩⟩
      · show PE X _ (tOp (cmpR G.ca _) _ _)
        exact pe_cmpR (cmpR_ok hG.hu _) ha hb h4
      · show PT X _ (tTest (tOp (cmpR G.ca _) _ _))
        exact pt_cmpR (cmpR_ok hG.hu _) ha hb h4
    · cases h
  | .chain o1 o2 a b c, X, G, N, sc, W, hG, hC, t, e, h => by
    unfold ck at h
    split at h
    · simp only [Bool.and_eq_true, decide_eq_true_eq, Bool.not_eq_true'] at h
      obtain ⟨⟨⟨⟨⟨h1, h2⟩, h3⟩, h4⟩, h5⟩, h6⟩ := h
      subst h1
      subst h2
      have ha := (sndE a hG hC h3).1 rfl
      have hb := (sndE b hG hC h4).1 rfl
      have hc := (sndE c hG hC h5).1 rfl
      refine ⟨fun _ => ?_, fun _ => ⟨?_, fun _ _ _ z => nomatch z⟩⟩
      · show PE X _ (tChain (cmpR G.ca _) (cmpR G.ca _) _ _ _)
        exact pe_chain (cmpR_ok hG.hu _) (cmpR_ok hG.hu _) ha hb hc h6
      · show PT X _ (tTest (tChain (cmpR G.ca _) (cmpR G.ca _) _ _ _))
        exact pt_chain (cmpR_ok hG.hu _) (cmpR_ok hG.hu _) ha hb hc h6
    · cases h
  | .and a b, X, G, N, sc, W, hG, hC, t, e, h => by
    unfold ck at h
    split at h
    · simp only [Bool.and_eq_true] at h
      obtain ⟨h1, h2⟩ := h
      have ha := sndE a hG hC h1
      have hb := sndE b hG hC h2
      refine ⟨fun z => pe_and (ha.1 z) (pe_one (hb.1 z)), fun z => ?_⟩
      have w := pw_and (ha.2 z).1 (pw_and1 (pos := by assumption) (hb.2 z).1)
      exact ⟨w.pt, fun _ _ _ q => w⟩
    · simp only [Bool.and_eq_true] at h
      obtain ⟨h1, h2⟩ := h
      have ha := sndE a hG hC h1
      have hb := sndE b hG hC h2
      refine ⟨fun z => pe_and (ha.1 z) (hb.1 z), fun z => ?_⟩
      have w := pw_and (ha.2 z).1 ((hb.2 z).2 _ _ _ rfl)
      exact ⟨w.pt, fun _ _ _ q => w⟩
    · cases h
  | .or a b, X, G, N, sc, W, hG, hC, t, e, h => by
    unfold ck at h
    split at h
    · simp only [Bool.and_eq_true] at h
      obtain ⟨h1, h2⟩ := h
      have ha := sndE a hG hC h1
      have hb := sndE b hG hC h2
      refine ⟨fun z => pe_or (ha.1 z) (pe_one (hb.1 z)), fun z => ?_⟩
      have w := pw_or (ha.2 z).1 (pw_or1 (pos := by assumption) (hb.2 z).1)
      exact ⟨w.pt, fun _ _ _ q => w⟩
    · simp only [Bool.and_eq_true] at h
      obtain ⟨h1, h2⟩ := h
      have ha := sndE a hG hC h1
      have hb := sndE b hG hC h2
      refine ⟨fun z => pe_or (ha.1 z) (hb.1 z), fun z => ?_⟩
      have w := pw_or (ha.2 z).1 ((hb.2 z).2 _ _ _ rfl)
      exact ⟨w.pt, fun _ _ _ q => w⟩
    · cases h
  | .not a, X, G, N, sc, W, hG, hC, t, e, h => by
    unfold ck at h
    split at h
    · have ha := sndE a hG hC h
      exact ⟨fun z => pe_not (ha.1 z), fun z => ⟨pt_not (ha.2 z).1, fun _ _ _ q => nomatch q⟩⟩
    · cases h
  | .neg a, X, G, N, sc, W, hG, hC, t, e, h => by
    unfold ck at h
    split at h
    · have ha := (sndE a hG hC h).1 rfl
      refine snd_plain hG ?_ rfl rfl
      show PE X _ (tUn (rU fun i => .int (-i)) _)
      exact pe_un un_neg ha
    · cases h
  | .ife c a b, X, G, N, sc, W, hG, hC, t, e, h => by
    unfold ck at h
    split at h
    · simp only [Bool.and_eq_true, Bool.not_eq_true'] at h
      obtain ⟨⟨⟨h0, h1⟩, h2⟩, h3⟩ := h
      subst h0
      exact ⟨fun _ => pe_ifExp ((sndE c hG hC h1).2 rfl).1 ((sndE a hG hC h2).1 rfl) ((sndE b hG hC h3).1 rfl), fun z => nomatch z⟩
    · cases h
  | .call f es, X, G, N, sc, W, hG, hC, t, e, h => by
    unfold ck at h
    split at h
    · simp only [Bool.and_eq_true, decide_eq_true_eq, Bool.not_eq_true'] at h
      obtain ⟨⟨⟨h1, h2⟩, h3⟩, h4⟩ := h
      subst h1
      have pa := sndEs es hG hC h4
      have bp := back_plain h4
      refine snd_plain hG ⟨fun pins s σ H Q I q => ?_⟩ rfl rfl
      obtain ⟨sp, es', q⟩ := q
      obtain ⟨a, fd, ps, k, F, hr, hm, hk, hb⟩ := (hG.fn _ sp es').ex
      have hgl : Gl X _ := gl_of (by rw [hC.hsc]; exact h2)
      refine wpAny_Call_Name_kw (ld_glob I hgl hm ?_ h3)
      rename_i args pos
      cases args with
      | nil =>
        have e0 : wPs G es W = tNil := by
          cases es with
          | nil => rfl
          | cons _ _ => unfold cks at h4; cases h4
        rw [e0] at q
        exact PySem.W.callWith_K0 I.kIn hk (run_fnS (us := []) (vs := []) F hr hb (E := WE W) (passAt hC.tk σ) I .nil q)
      | cons a1 rest =>
        have hs : isStar a1 = false := by
          cases es with
          | nil => unfold cks at h4; cases h4
          | cons _ _ =>
            unfold cks at h4
            simp only [Bool.and_eq_true, Bool.not_eq_true'] at h4
            exact h4.1.2
        have hp : (backTo pos (starEach rest X.env)).any (·.1) = false := by
          have := bp pos X.env
          rw [star_of hs] at this
          exact this
        refine PySem.W.callWith_K (h₀ := X.base) I.ok.mod.kin hk (thn (pa.run pos pins s σ H _ I q) fun us s1 ⟨vs, H1, I1, r, q⟩ => ⟨I1.kIn, ?_⟩) (star_of hs _ _) hp
        exact run_fnS F hr hb (E := WE W) (passAt hC.tk σ) I1 r q
    · cases h
  | .bi f es, X, G, N, sc, W, hG, hC, t, e, h => by
    unfold ck at h
    split at h
    · simp only [Bool.and_eq_true, decide_eq_true_eq, Bool.not_eq_true'] at h
      obtain ⟨⟨⟨h1, h2⟩, h3⟩, h4⟩ := h
      subst h1
      have pa := sndEs es hG hC h4
      have bp := back_plain h4
      have hgl : Gl X _ := gl_of (by rw [hC.hsc]; exact h2)
      have hs : ∀ {a1 : Expr} {rest : List Expr}, cks N es sc (a1 :: rest) = true → isStar a1 = false := fun {a1 rest} h4 => by
        cases es with
        | nil => unfold cks at h4; cases h4
        | cons _ _ =>
          unfold cks at h4
          simp only [Bool.and_eq_true, Bool.not_eq_true'] at h4
          exact h4.1.2
      refine snd_plain hG ⟨fun pins s σ H Q I q => ?_⟩ rfl rfl
      have hv := Bi.boot f
      have hn := Bi.nmain f
      have hc := biR_ok (X := X) (ca := G.ca) hC.calm f
      refine wpAny_Call_Name_kw (ld_blt I hgl (hG.bi f) hv ?_ hn h3)
      have hp : ∀ pos, (backTo pos (starEach _ X.env)).any (·.1) = false := fun pos => by
        have := bp pos X.env
        rw [star_of (hs h4)] at this
        exact this
      have go : ∀ pos, wpAny (model X.prog X.w) X.A (spliced (backTo pos (starEach _ X.env))) (fun us s1 => wpAny (model X.prog X.w) X.A (call f.val us) (EP X pins σ Q) X.xe s1) X.xe s :=
        fun pos => thn (pa.run pos pins s σ H _ I q) fun us s1 ⟨vs, H1, I1, r1, q1⟩ => hc pins s1 σ H1 vs us Q I1 r1 q1
      rcases Bi.kind f with ⟨id, e⟩ | ⟨T, e⟩
      · rw [e] at go ⊢
        exact PyProof.Rows.callWith_builtin1 (go _) (star_of (hs h4) _ _) (hp _)
      · rw [e] at go ⊢
        exact PyProof.Rows.callWith_type1 (go _) (star_of (hs h4) _ _) (hp _)
    · cases h
  | .isi a c, X, G, N, sc, W, hG, hC, t, e, h => by
    unfold ck at h
    split at h
    · simp only [Bool.and_eq_true, decide_eq_true_eq, Bool.not_eq_true'] at h
      obtain ⟨⟨⟨⟨⟨⟨h1, h2⟩, h3⟩, h4⟩, h5⟩, h6⟩, h7⟩ := h
      subst h1
      subst h3
      have ha := (sndE a hG hC h6).1 rfl
      have hgl : Gl X _ := gl_of (by rw [hC.hsc]; exact h2)
      have hgl2 : Gl X _ := gl_of (by rw [hC.hsc]; exact h4)
      refine snd_plain hG ⟨fun pins s σ H Q I q => ?_⟩ rfl rfl
      refine wpAny_Call_Name_kw (ld_blt I hgl hG.isi (by decide +kernel : bootBuiltins "isinstance" = some (.builtin "isinstance")) ?_ (by decide) (by decide))
      refine PyProof.Rows.callWith_builtin1 ?_ (star_of h7 _ _) rfl
      rw [star_of h7]
      refine Calls.spliced_cons (thn (ha.run pins s σ H _ I q) fun u s1 ⟨x, H1, I1, r1, v, ev, q1⟩ => ?_)
      rw [← hG.K] at q1
      have pc : ∀ p, PE X (.Name _ p) (tC v) := fun p => pe_cls hG hgl2 h5 ev
      show wpAny _ _ (spliced ((false, eval (.Name _ _) X.env) :: [])) _ _ _
      refine Calls.spliced_cons (thn ((pc _).run pins s1 σ H1 (fun w H2 => w = v ∧ H2 = H1) I1 ⟨rfl, rfl⟩) fun u2 s2 ⟨w, H2, I2, r2, e1, e2⟩ => ?_)
      subst e1 e2
      exact Calls.spliced_nil (isiR_ok I2 r1 r2 q1)
    · cases h
  | .isiT a cs, X, G, N, sc, W, hG, hC, t, e, h => by
    unfold ck at h
    split at h
    · rename_i pos0 ea es1 k1 p1 p2
      simp only [Bool.and_eq_true, decide_eq_true_eq, Bool.not_eq_true'] at h
      obtain ⟨⟨⟨⟨⟨h1, h2⟩, h6⟩, h7⟩, h8⟩, h9⟩ := h
      subst h1
      have ha := (sndE a hG hC h6).1 rfl
      have hgl : Gl X _ := gl_of (by rw [hC.hsc]; exact h2)
      refine snd_plain hG ⟨fun pins s σ H Q I q => ?_⟩ rfl rfl
      refine wpAny_Call_Name_kw (ld_blt I hgl hG.isi (by decide +kernel : bootBuiltins "isinstance" = some (.builtin "isinstance")) ?_ (by decide) (by decide))
      refine PyProof.Rows.callWith_builtin1 ?_ (star_of h7 _ _) rfl
      rw [star_of h7]
      refine Calls.spliced_cons (thn (ha.run pins s σ H _ I q) fun u s1 ⟨x, H1, I1, r1, vs, ev, q1⟩ => ?_)
      rw [← hG.K] at q1
      obtain ⟨pa, hl⟩ := pa_cls hG hC.hsc h8 ev
      have hl : vs.length ≤ sizeLine := by
        rw [hl]
        exact Nat.le_trans (Nat.le_of_lt h9) (by decide +kernel : 20 ≤ sizeLine)
      have pt : ∀ x1 pos, PE X (.Tuple _ x1 pos) (tTup fun _ H Q => Q vs H) := fun x1 pos => pe_tup pa
      show wpAny _ _ (spliced ((false, eval (.Tuple es1 k1 p1) X.env) :: [])) _ _ _
      refine Calls.spliced_cons (thn ((pt _ _).run pins s1 σ H1 (fun w H2 => ∃ p, w = .ref p ∧ isiTR X.K x p vs H2 Q) I1 ⟨hl, fun p hp => ⟨p, rfl, q1 p hp⟩⟩) fun u2 s2 ⟨w, H2, I2, r2, p, e1, q2⟩ => ?_)
      subst e1
      cases r2
      exact Calls.spliced_nil (isiTR_ok I2 r1 q2)
    · cases h
  | .bm m o es, X, G, N, sc, W, hG, hC, t, e, h => by
    unfold ck at h
    split at h
    · simp only [Bool.and_eq_true, decide_eq_true_eq] at h
      obtain ⟨⟨⟨⟨⟨⟨h1, h2⟩, h3⟩, h4⟩, h5⟩, h6⟩, h7⟩ := h
      subst h1
      have ho := (sndE o hG hC h2).1 rfl
      have pa := sndEs es hG hC h6
      have bp := back_plain h6
      have ba := back_all h6
      refine snd_plain hG ⟨fun pins s σ H Q I q => ?_⟩ rfl rfl
      rename_i args pos
      cases args with
      | nil =>
        have e0 : wPs G es W = tNil := by
          cases es with
          | nil => rfl
          | cons _ _ => unfold cks at h6; cases h6
        refine wpAny_Call_method0_late (base_of h3 _ _ _) h4 (thn (ho.run pins s σ H _ I q) fun v s1 ⟨x, H1, I1, r1, ty, q1⟩ => ?_)
        rw [e0] at q1
        obtain ⟨T, id, k, run⟩ := bm0_ok (ca := G.ca) hG.hu m I1 ty r1 q1
        exact ⟨T, id, k.plain, k.slot, k.typ, k.is, k.nd, Calls.callWith_builtin rfl (PySem.evalArgs_none run)⟩
      | cons a1 rest =>
        have hs : isStar a1 = false := by
          cases es with
          | nil => unfold cks at h6; cases h6
          | cons _ _ =>
            unfold cks at h6
            simp only [Bool.and_eq_true, Bool.not_eq_true'] at h6
            exact h6.1.2
        have hfew : ((backTo pos (starEach (a1 :: rest) X.env)).all (fun x => !x.1) && (backToKw pos (keywordEach [] X.env)).all (fun x => x.1.isSome)
            && decide ((a1 :: rest).length + ([] : List Keyword).length + (if ([] : List Keyword).isEmpty then 0 else 1) < 30)) = true := by
          rw [ba pos X.env]
          show (true && true && decide ((a1 :: rest).length + 0 + 0 < 30)) = true
          rw [decide_eq_true (by omega)]
          rfl
        refine wpAny_Call_method_late (base_of h3 _ _ _) hfew h4 rfl (thn (ho.run pins s σ H _ I q) fun v s1 ⟨x, H1, I1, r1, ty, q1⟩ => ?_)
        have hA := pa.run pos pins s1 σ H1 _ I1 q1
        have hcl : m ≠ .clear := by simpa using h7
        have hm := bmR_ok (X := X) (ca := G.ca) hG.hu m hcl
        obtain ⟨k0, k3, k4, k1, k2⟩ := bmT_ok I1 ty hcl r1
        refine ⟨m.ty, m.id, k0, k3, k4, k1, k2, ?_⟩
        have hpl : (backTo pos (starEach rest X.env)).any (·.1) = false := by
          have := bp pos X.env
          rw [star_of hs] at this
          exact this
        rw [star_of hs] at hA ⊢
        refine Calls.callWith_builtin (by show (false || (backTo pos (starEach rest X.env)).any (·.1)) = false; rw [hpl] <;> rfl) (Calls.evalArgs_plain ?_)
        exact thn hA fun us s2 ⟨vs, H2, I2, r2, q2⟩ => hm pins s2 σ H2 x vs v us Q I2 r1 r2 q2
    · cases h
  | .ix a i, X, G, N, sc, W, hG, hC, t, e, h => by
    unfold ck at h
    split at h
    · simp only [Bool.and_eq_true] at h
      obtain ⟨⟨h1, h2⟩, h3⟩ := h
      refine snd_plain hG ?_ rfl rfl
      have := pe_ix (ixR_ok (X := X) (by have := hG.hu; omega)) ((sndE a hG hC h1).1 rfl) ((sndE i hG hC h2).1 rfl) (fun o i => subs_of h3 o i) (pos := by assumption)
      exact this
    · cases h
  | .sl a lo hi, X, G, N, sc, W, hG, hC, t, e, h => by
    unfold ck at h
    split at h
    · simp only [Bool.and_eq_true] at h
      obtain ⟨⟨h1, h2⟩, h3⟩ := h
      refine snd_plain hG ?_ rfl rfl
      rename_i p2 pos
      have := pe_slice (p2 := p2) (pos := pos) (slR_ok (X := X)) ((sndE a hG hC h1).1 rfl) (sndOp lo hG hC h2) (sndOp hi hG hC h3)
      exact this
    · cases h
  | .lst es, X, G, N, sc, W, hG, hC, t, e, h => by
    unfold ck at h
    split at h
    · exact snd_plain hG (pe_lst (sndEs es hG hC h)) rfl rfl
    · cases h
  | .tup es, X, G, N, sc, W, hG, hC, t, e, h => by
    unfold ck at h
    split at h
    · exact snd_plain hG (pe_tup (sndEs es hG hC h)) rfl rfl
    · cases h
  | .dict0, X, G, N, sc, W, hG, hC, t, e, h => by
    unfold ck at h
    split at h
    · exact snd_plain hG pe_dnewK rfl rfl
    · cases h
  | .lc t r c x own, X, G, N, sc, W, hG, hC, t0, e, h => by
    unfold ck at h
    split at h
    · simp only [Bool.and_eq_true] at h
      obtain ⟨⟨⟨⟨h1, h2⟩, h3⟩, h4⟩, h5⟩ := h
      have nd : X.N.Nodup := by rw [hC.hN]; exact hC.nd
      have kk := fun tg => sndSr r (tg := tg) hG hC h3
      refine snd_plain hG ?_ rfl rfl
      have := pe_lc hC.calm nd (kk _).1 (blk_ok hC h1) (fun s H C cl fp => tg_ok (X := X.blk s H _ (compEnvC _ cl C X.env) fp) hC.calm nd (sto_blk hC) h2) (fun s H C cl fp => sndI c hG.blk hC.blk h4) (fun s H C cl fp => (sndE x hG.blk hC.blk h5).1 rfl) (kk (.Constant .none 0 ⟨0, 0, 0, 0⟩)).2 (pos := by assumption)
      exact this
    · cases h
  | .fld o f, X, G, N, sc, W, hG, hC, t, e, h => by
    unfold ck at h
    split at h
    · simp only [Bool.and_eq_true, decide_eq_true_eq] at h
      obtain ⟨⟨h1, h2⟩, h3⟩ := h
      subst h1
      have ho := (sndE o hG hC h2).1 rfl
      refine snd_plain hG ?_ rfl rfl
      refine PE.imp (pe_fld ho (base_of h3 _ _ _) (pos := by assumption)) fun σ H Q q => ?_
      rw [hG.K]
      exact q
    · cases h
  | .meth m o es, X, G, N, sc, W, hG, hC, t, e, h => by
    unfold ck at h
    split at h
    · simp only [Bool.and_eq_true, decide_eq_true_eq] at h
      obtain ⟨⟨⟨⟨⟨h1, h2⟩, h3⟩, h4⟩, h5⟩, h6⟩ := h
      subst h1
      have ho := (sndE o hG hC h2).1 rfl
      have pa := sndEs es hG hC h4
      have bp := back_plain h4
      refine snd_plain hG ⟨fun pins s σ H Q I q => ?_⟩ rfl rfl
      rename_i eo x apos args pos
      have hfew : methodCallForm (args.length + ([] : List Keyword).length) (backTo pos (starEach args X.env)) (backToKw pos (keywordEach [] X.env)) = true := by
        unfold methodCallForm
        rw [back_all h4 pos X.env]
        show (true && true && decide (args.length + 0 + 0 < 30)) = true
        rw [decide_eq_true (by omega)]
        rfl
      refine meth_call (base_of h3 _ _ _) hfew h5 (thn (ho.run pins s σ H _ I q) fun u s1 ⟨y, H1, I1, r1, a, C, dx, fs, sp, ey, ea, l, em, q1⟩ => ?_)
      subst ey
      obtain rfl : u = Value.ref a := r1
      obtain ⟨c, g, fd, ps, k, hm, F, hr, hb⟩ := hG.mt C _ sp em
      refine getmeth_ok I1 ea c hm l ?_
      cases args with
      | nil =>
        have e0 : wPs G es W = tNil := by
          cases es with
          | nil => rfl
          | cons _ _ => unfold cks at h4; cases h4
        rw [e0] at q1
        exact PySem.W.callWith_K0 (first := [.ref a]) I1.kIn hm.kp (run_fnS (us := [.ref a]) (vs := [.ref a]) F hr hb (E := WE W) (passAt hC.tk σ) I1 (.cons rfl .nil) q1)
      | cons a1 rest =>
        have hs : isStar a1 = false := by
          cases es with
          | nil => unfold cks at h4; cases h4
          | cons _ _ =>
            unfold cks at h4
            simp only [Bool.and_eq_true, Bool.not_eq_true'] at h4
            exact h4.1.2
        have hp : (backTo pos (starEach rest X.env)).any (·.1) = false := by
          have := bp pos X.env
          rw [star_of hs] at this
          exact this
        refine PySem.W.callWith_K (h₀ := X.base) (first := [.ref a]) I1.ok.mod.kin hm.kp (thn (pa.run pos pins s1 σ H1 _ I1 q1) fun us s2 ⟨vs, H2, I2, r2, q2⟩ => ⟨I2.kIn, ?_⟩) (star_of hs _ _) hp
        exact run_fnS (us := .ref a :: us) (vs := .ref a :: vs) F hr hb (E := WE W) (passAt hC.tk σ) I2 (.cons rfl r2) q2
    · cases h
  | .make f es, X, G, N, sc, W, hG, hC, t, e, h => by
    unfold ck at h
    split at h
    · simp only [Bool.and_eq_true, decide_eq_true_eq, Bool.not_eq_true'] at h
      obtain ⟨⟨⟨h1, h2⟩, h3⟩, h4⟩ := h
      subst h1
      have pa := sndEs es hG hC h4
      have bp := back_plain h4
      refine snd_plain hG ⟨fun pins s σ H Q I q => ?_⟩ rfl rfl
      obtain ⟨c, sp, em, q⟩ := q
      obtain ⟨hm, hx⟩ := hG.mak _ c sp em
      have hgl : Gl X _ := gl_of (by rw [hC.hsc]; exact h2)
      refine wpAny_Call_Name_kw (ld_glob I hgl hm ?_ h3)
      have hkp : PySem.W.keepIn X.K (.ref c) = true := by
        cases sp with
        | none => exact hx.kp
        | some sp => obtain ⟨_, _, _, _, M, _⟩ := hx; exact M.kp
      have run := @run_mak X c sp W pins hC.tk hx
      rename_i args pos
      cases args with
      | nil =>
        have e0 : wPs G es W = tNil := by
          cases es with
          | nil => rfl
          | cons _ _ => unfold cks at h4; cases h4
        rw [e0] at q
        exact PySem.W.callWith_K0 I.kIn hkp (run σ H s Q [] [] I .nil q)
      | cons a1 rest =>
        have hs : isStar a1 = false := by
          cases es with
          | nil => unfold cks at h4; cases h4
          | cons _ _ =>
            unfold cks at h4
            simp only [Bool.and_eq_true, Bool.not_eq_true'] at h4
            exact h4.1.2
        have hp : (backTo pos (starEach rest X.env)).any (·.1) = false := by
          have := bp pos X.env
          rw [star_of hs] at this
          exact this
        refine PySem.W.callWith_K (h₀ := X.base) I.ok.mod.kin hkp (thn (pa.run pos pins s σ H _ I q) fun us s1 ⟨vs, H1, I1, r, q⟩ => ⟨I1.kIn, ?_⟩) (star_of hs _ _) hp
        exact run σ H1 s1 Q us vs I1 r q
    · cases h
  | .dict _, X, G, N, sc, W, hG, hC, t, e, h => by unfold ck at h; cases h
  | .fstr _, X, G, N, sc, W, hG, hC, t, e, h => by unfold ck at h; cases h
  | .skey _ _, X, G, N, sc, W, hG, hC, t, e, h => by unfold ck at h; cases h
  | .minlen _, X, G, N, sc, W, hG, hC, t, e, h => by unfold ck at h; cases h
  | .mindef _ _, X, G, N, sc, W, hG, hC, t, e, h => by unfold ck at h; cases h
  | .symd _ _, X, G, N, sc, W, hG, hC, t, e, h => by unfold ck at h; cases h
theorem sndEs : ∀ (x : Exs) {X : Cx} {G : Gam} {N : List Str} {sc : Scope} {W : WX} (hG : GOk X G) (hC : COk X N sc W) {es : List Expr}, cks N x sc es = true → PA X es (wPs G x W)
  | .nil, X, G, N, sc, W, hG, hC, es, h => by
    unfold cks at h
    cases es with
    | nil => exact pa_nil
    | cons _ _ => cases h
  | .cons x r, X, G, N, sc, W, hG, hC, es, h => by
    unfold cks at h
    cases es with
    | nil => cases h
    | cons e rest =>
      simp only [Bool.and_eq_true, Bool.not_eq_true'] at h
      obtain ⟨⟨h1, h2⟩, h3⟩ := h
      exact pa_cons ((sndE x hG hC h1).1 rfl) (sndEs r hG hC h3) (star_of h2 _ _)
theorem sndOp : ∀ (x : OEx) {X : Cx} {G : Gam} {N : List Str} {sc : Scope} {W : WX} (hG : GOk X G) (hC : COk X N sc W) {e : Option Expr}, cko N x sc e = true → PO X e (wPo G x W)
  | .none, X, G, N, sc, W, hG, hC, e, h => by
    unfold cko at h
    cases e with
    | none => exact po_none
    | some _ => cases h
  | .some x, X, G, N, sc, W, hG, hC, e, h => by
    unfold cko at h
    cases e with
    | none => cases h
    | some e => exact po_some ((sndE x hG hC h).1 rfl)
theorem sndI : ∀ (x : OEx) {X : Cx} {G : Gam} {N : List Str} {sc : Scope} {W : WX} (hG : GOk X G) (hC : COk X N sc W) {es : List Expr}, ckIf N x sc es = true → PTs X es (wPt G x W)
  | .none, X, G, N, sc, W, hG, hC, es, h => by
    unfold ckIf at h
    cases es with
    | nil => exact pts_nil
    | cons _ _ => cases h
  | .some x, X, G, N, sc, W, hG, hC, es, h => by
    unfold ckIf at h
    split at h
    · exact pts_one ((sndE x hG hC h).2 rfl).1
    · cases h
theorem sndSr : ∀ (x : Src) {X : Cx} {G : Gam} {N : List Str} {sc : Scope} {W : WX} (hG : GOk X G) (hC : COk X N sc W) {tg e : Expr}, ckSr N x sc e = true → PI X tg e (fun σ H R => wSrc G W x σ H fun items ok H1 => ∀ J, Known J items ok → R J H1) ∧ ∀ x, foldedSetIterable e X.env x = pure x
  | .seq x, X, G, N, sc, W, hG, hC, tg, e, h => by
    unfold ckSr at h
    simp only [Bool.and_eq_true] at h
    obtain ⟨h1, h2⟩ := h
    refine ⟨⟨fun pins s σ H R I q => ?_⟩, set_of h2 _⟩
    have pe := (sndE x hG hC h1).1 rfl
    refine thn (pe.run pins s σ H _ I q) fun v s1 ⟨y, H1, I1, r1, q1⟩ => ?_
    dsimp only at q1
    split at q1
    · obtain ⟨t, rfl⟩ := r1
      exact iv_str I1 (q1 _ known_str)
    · cases r1
      split at q1
      · rename_i xs e
        exact iv_list I1 (rd_lst e) (q1 _ known_list)
      · rename_i xs e
        exact iv_tup I1 (rd_tup e) (q1 _ known_tup)
      · exact q1.elim
    · exact q1.elim
  | .keys x, X, G, N, sc, W, hG, hC, tg, e, h => by
    unfold ckSr at h
    simp only [Bool.and_eq_true] at h
    obtain ⟨h1, h2⟩ := h
    refine ⟨⟨fun pins s σ H R I q => ?_⟩, set_of h2 _⟩
    have pe := (sndE x hG hC h1).1 rfl
    refine thn (pe.run pins s σ H _ I q) fun v s1 ⟨y, H1, I1, r1, a, o, kvs, ey, hd, q1⟩ => ?_
    subst ey
    obtain rfl : v = Value.ref a := r1
    obtain ⟨hs, hgd, hx, es, ep, vs, hdt, hsz, kv, hm⟩ := I1.frzK hd
    refine iter_keys hs hgd hx hdt (pi_one (tk := s1.toks) I1 _ (turn_keys _ hdt) ⟨_, Heap.get?_push_size _ rfl, rfl, ?_⟩ (q1 _ known_keys))
    rw [hsz] <;> rfl
  | .rng x, X, G, N, sc, W, hG, hC, tg, e, h => by
    unfold ckSr at h
    split at h
    · simp only [Bool.and_eq_true, decide_eq_true_eq, Bool.not_eq_true'] at h
      obtain ⟨⟨⟨h1, h2⟩, h3⟩, h4⟩ := h
      subst h1
      have hgl : Gl X "range" := gl_of (by rw [hC.hsc]; exact h2)
      have pe := (sndE x hG hC h3).1 rfl
      refine ⟨⟨fun pins s σ H R I q => ?_⟩, fun _ => rfl⟩
      have pa := pa_cons pe pa_nil (star_of h4 [] X.env)
      refine Call_ (ld_blt I hgl hG.rng boot_range (PyProof.Rows.callWith_type1 (thn (pa.run _ pins s σ H (fun vs H1 => match vs with
        | [y] => (match y with
            | .int n => (-(2 ^ 62) ≤ n ∧ n < 2 ^ 62) ∧ ∀ J, Known J ((List.range n.toNat).map fun k => V.int (k : Nat)) (fun _ => True) → R J H1
            | _ => False)
        | _ => False) I q) fun us s1 ⟨vs, H1, I1, r1, q1⟩ => ?_) (star_of h4 _ _) rfl))
      dsimp only at q1
      split at q1
      · split at q1
        · obtain ⟨⟨b1, b2⟩, q1⟩ := q1
          obtain ⟨u, rfl, t, rfl⟩ := vals1 r1
          refine call_range_1 (range_it I1 (by omega) (by omega) b1 b2 (q1 _ ?_))
          simp only [Int.sub_zero]
          exact known_rng
        · exact q1.elim
      · exact q1.elim
    · cases h
  | .rng2 _ _, X, G, N, sc, W, hG, hC, tg, e, h => by unfold ckSr at h; cases h
  | .rng3 _ _ _, X, G, N, sc, W, hG, hC, tg, e, h => by unfold ckSr at h; cases h
  | .rev _, X, G, N, sc, W, hG, hC, tg, e, h => by unfold ckSr at h; cases h
  | .enum _, X, G, N, sc, W, hG, hC, tg, e, h => by unfold ckSr at h; cases h
  | .enums _ _, X, G, N, sc, W, hG, hC, tg, e, h => by unfold ckSr at h; cases h
end
end
end Vc

set_option Elab.async false
set_option linter.all false
set_option maxRecDepth 100000
set_option maxHeartbeats 2000000
namespace Vc
open PySem PySem.Spec PyProof.Rows L2
/-! ### the check -/
/-- what may stand in a clause's suite: a name or a constant, kept or told -/
def easyB : Ex → Bool
  | .v _ => true
  | .ki _ => true
  | .ks _ => true
  | .kb _ => true
  | .kn => true
  | _ => false
def easyS : St → Bool
  | .set _ e => easyB e
  | .ret e => easyB e
  | .retn => true
  | .pass => true
  | .raise _ _ => true
  | _ => false
def easySs : Sts → Bool
  | .nil => true
  | .cons s r => easyS s && easySs r
def justLoc (sc : Scope) (n : Str) : Bool :=
  match sc.names.lookup n with
  | some .local => true
  | _ => false
def isCell (sc : Scope) (y : Str) : Bool :=
  match sc.names.lookup y with
  | some .cell => true
  | _ => false
mutual
def ckS (N : List Str) (sc : Scope) : St → Stmt → Bool
  | .set i x, s => (match s with
      | .Assign [.Name y _] e _ => locB N sc i y && ck N x false sc e && (noLc e || isCell sc y)
      | _ => false)
  | .unp is x, s => (match s with
      | .Assign [.Tuple ts _ _] e _ => ckTs N sc is ts && ck N x false sc e && noLc e && notTup e
      | _ => false)
  | .ex x, s => (match s with
      | .Expr e _ => ck N x false sc e && noLc e
      | _ => false)
  | .ifs c a b, s => (match s with
      | .If e t f _ => ck N c true sc e && ckSs N sc a t && ckSs N sc b f
      | _ => false)
  | .fors t r b, s => (match s with
      | .For tg it body [] _ => ckTg N sc t tg && ckSr N r sc it && ckSs N sc b body
      | _ => false)
  | .whl c b, s => (match s with
      | .While e body [] _ => ck N c true sc e && ckSs N sc b body
      | _ => false)
  | .ret x, s => (match s with
      | .Return (some e) _ => ck N x false sc e
      | _ => false)
  | .retn, s => (match s with
      | .Return none _ => true
      | _ => false)
  | .sfld o f x, s => (match s with
      | .Assign [.Attribute eo y _] e _ => decide (y = f) && ck N o false sc eo && ck N x false sc e && noLc e
      | _ => false)
  | .raise1 _ _, _ => false
  | .raise C m, s => (match s with
      | .Raise (some (.Call (.Name x _) [.Constant (.str _) _ _] [] _)) none _ => decide (x = C) && glB sc x && !(x == "__debug__")
      | _ => false)
  | .pass, s => (match s with
      | .Pass _ => true
      | _ => false)
  | .tr b C n h, s => (match s with
      | .Try body [.ExceptHandler (some (.Name x _)) m (s0 :: suite) _] [] [] _ =>
        ckSs N sc b body && decide (x = C) && glB sc x && !(x == "__debug__") && ckSs N sc h (s0 :: suite) && easySs h && (match n, m with
          | some i, some y => decide (N[i]? = some y) && justLoc sc y
          | none, none => true
          | _, _ => false)
      | _ => false)
  | .sub a i v, s => (match s with
      | .Assign [.Subscript ea ei _] e _ => ck N a false sc ea && ck N i false sc ei && ck N v false sc e && noLc e
      | _ => false)
  | .lock x, s => ckS N sc x s
  | .setlc i t r c x own, s => (match s with
      | .Assign [.Name y pp] (.ListComp elt [⟨tg, iter, ifs, 0⟩] scope pos) _ => decide (N[i]? = some y) && justLoc sc y && decide (sc.kind = .function) && decide (pp.line = pos.line) &&
        !(scope.names.any fun (n, k) => n == y && (k == .local || k == .cell)) && blkB N sc scope own && ckTg N scope t tg && ckSr N r sc iter && ckIf N c (relS scope sc) ifs && ck N x false (relS scope sc) elt
      | _ => false)
def ckSs (N : List Str) (sc : Scope) : Sts → List Stmt → Bool
  | .nil, ss => ss.isEmpty
  | .cons x r, ss => (match ss with
      | s :: rest => ckS N sc x s && ckSs N sc r rest
      | [] => false)
end
/-! ### it is right -/
structure XOk (X : Cx) (C : Addr) : Prop where
  ex : PySem.W.excIn X.K C [.type "ValueError", .type "Exception", .type "BaseException", .type "object"] "ValueError.__new__" = true
  kp : PySem.W.keepIn X.K (.ref C) = true
  sb : PySem.W.subIn X.K (.ref C) (.type "BaseException") = some true
  ty : PySem.W.typeIn X.K (.ref C) = some (.type "type")
structure SOk (X : Cx) (G : Gam) (N : List Str) (sc : Scope) (W : WX) : Prop where
  g : GOk X G
  c : COk X N sc W
  fn : ∀ x, X.fn x = true
  own : PassesOwn (model X.prog X.w) X.A X.env X.xe
  exc : ∀ C a f, G.exc C = some (a, f) → X.mg C = some (.ref a) ∧ XOk X a
  hs : X.stack = X.env :: X.outer
  hf : X.env.frame = some X.env.locals
  hex : X.ex = []
section
variable {X : Cx} {G : Gam} {N : List Str} {sc : Scope} {W : WX}
theorem PS.imp {e : Stmt} {t u : TS} (h : PS X e t) (i : ∀ D σ H, u D σ H → t D σ H) : PS X e u := ⟨fun pins s σ H D I q => h.run pins s σ H D I (i _ _ _ q)⟩
theorem swaps_cell {e : Expr} {env : PySem.Env} {y : Str} (hc : env.kindOf y = some .cell) (p : Pos) (l : Nat) : swapsWith e (some (.Name y p)) l env = pure false := by
  have e0 : (env.kindOf y == some .local) = false := by rw [hc]; rfl
  unfold swapsWith
  cases e <;> first | rfl | skip
  all_goals (
    show (pure (env.blockKind == .function && env.kindOf y == some .local && _ && _) : Sem Bool) = _
    rw [e0]
    simp)
theorem cell_of {sc : Scope} {y : Str} (h : isCell sc y = true) : sc.names.lookup y = some .cell := by
  unfold isCell at h
  split at h
  · assumption
  · cases h
theorem swaps_at {e : Expr} {X : Cx} {sc : Scope} {y : Str} (hs : X.env.scope = sc) (h : (noLc e || isCell sc y) = true) (p : Pos) (l : Nat) : swapsWith e (some (.Name y p)) l X.env = pure false := by
  rw [Bool.or_eq_true] at h
  rcases h with h | h
  · exact swaps_of h _ _ _
  · refine swaps_cell ?_ p l
    show X.env.scope.names.lookup y = some .cell
    rw [hs]
    exact cell_of h
theorem swSole_of {e t : Expr} (h : noLc e = true) (l : Nat) (env : PySem.Env) : swapsWithSole [t] e l env = pure false := swaps_of h (some t) l env
theorem stores_of {e : Expr} (h : notTup e = true) (ts : List Expr) (env : PySem.Env) : swappedStores ts e env = pure none := by
  unfold swappedStores
  split
  · rename_i h1
    split at h1
    · simp [notTup] at h
    · simp [notTup] at h
    · cases h1
  · rfl
/-- in a clause's suite -/
structure EzOk (X : Cx) (N : List Str) (sc : Scope) : Prop where
  hN : X.N = N
  hsc : X.env.scope = sc
  nd : N.Nodup
  fn : ∀ x, X.fn x = true
theorem easy_pe {Y : Cx} {x : Ex} {e : Expr} (hE : EzOk Y N sc) (z : easyB x = true) (h : ck N x false sc e = true) : PE Y e (wP G x W0).1 := by
  obtain ⟨rfl, rfl, nd, _⟩ := hE
  cases x <;> first | (simp [easyB] at z; done) | skip
  · unfold ck at h
    split at h
    · simp only [Bool.and_eq_true, decide_eq_true_eq, Bool.not_eq_true'] at h
      obtain ⟨⟨⟨h1, h2⟩, h3⟩, h4⟩ := h
      refine PE.imp (pe_var h1 (vis_of h2) h3 h4) fun σ H Q q => ?_
      have q : vR _ σ H Q := q
      unfold vR at q
      split at q
      · exact ⟨_, by assumption, q⟩
      · exact q.elim
    · cases h
  · unfold ck at h
    split at h
    · have h := of_decide_eq_true h
      subst h
      exact pe_int
    · cases h
  · unfold ck at h
    split at h
    · have h := of_decide_eq_true h
      subst h
      exact pe_str
    · cases h
  · unfold ck at h
    split at h
    · have h := of_decide_eq_true h
      subst h
      exact pe_bl
    · cases h
  · unfold ck at h
    split at h
    · exact pe_non
    · cases h
theorem easy_ps {Y : Cx} {x : St} {s : Stmt} (hE : EzOk Y N sc) (z : easyS x = true) (h : ckS N sc x s = true) : PS Y s (wS G W0 x) := by
  cases x <;> first | (simp [easyS] at z; done) | skip
  · unfold ckS at h
    split at h
    · simp only [Bool.and_eq_true] at h
      obtain ⟨⟨h1, h2⟩, h3⟩ := h
      have hl : ∀ {i : Nat} {y : Str}, locB N sc i y = true → Y.N[i]? = some y ∧ Loc Y.env.scope y := fun {i y} h1 => by
        unfold locB at h1
        rw [Bool.and_eq_true] at h1
        obtain ⟨h1, h2⟩ := h1
        refine ⟨by rw [hE.hN]; exact of_decide_eq_true h1, ?_⟩
        rw [hE.hsc]
        split at h2
        · exact .inl (by assumption)
        · exact .inr (by assumption)
        · cases h2
      exact ps_set (by rw [hE.hN]; exact hE.nd) (hl h1).1 (hl h1).2 (easy_pe hE z h2) (swaps_at hE.hsc h3 _ _) (.inl (hE.fn _))
    · cases h
  · unfold ckS at h
    split at h
    · exact ps_ret (easy_pe hE z h)
    · cases h
  · unfold ckS at h
    split at h
    · exact ps_retN
    · cases h
  · refine ⟨fun pins s σ H D I q => ?_⟩
    obtain ⟨_, _, z⟩ := q
    exact z.elim
  · unfold ckS at h
    split at h
    · exact ps_pass
    · cases h
theorem easy_pss {Y : Cx} : ∀ {x : Sts} {s : List Stmt} (hE : EzOk Y N sc) (z : easySs x = true) (h : ckSs N sc x s = true), PSs Y s (wSs G W0 x)
  | .nil, s, hE, z, h => by
    unfold ckSs at h
    cases s with
    | nil => exact pss_nil
    | cons _ _ => cases h
  | .cons x r, s, hE, z, h => by
    unfold ckSs at h
    simp only [easySs, Bool.and_eq_true] at z
    cases s with
    | nil => cases h
    | cons s rest =>
      simp only [Bool.and_eq_true] at h
      exact pss_cons (easy_ps hE z.1 h.1) (easy_pss hE z.2 h.2)
theorem SOk.tr (hS : SOk X G N sc W) {W' : WX} {pn : List (Addr × Obj)} {xe : Value → Shared → Prop} (tk : Takes (X.tr pn xe) W') (pw : PassesOwn (model X.prog X.w) X.A X.env xe) : SOk (X.tr pn xe) G N sc W' where
  g := ⟨hS.g.K, fun f sp e => ⟨(hS.g.fn f sp e).ex⟩, hS.g.gl, hS.g.bi, hS.g.isi, hS.g.rng, hS.g.cls, hS.g.hu, fun C m sp e => ⟨(hS.g.mt C m sp e).cls, (hS.g.mt C m sp e).ex⟩, fun x c sp e => ⟨(hS.g.mak x c sp e).at_, (hS.g.mak x c sp e).ex⟩⟩
  c := ⟨hS.c.hN, hS.c.hsc, hS.c.nd, hS.c.calm, tk⟩
  fn := hS.fn
  own := pw
  exc := fun C a f e => ⟨(hS.exc C a f e).1, ⟨(hS.exc C a f e).2.ex, (hS.exc C a f e).2.kp, (hS.exc C a f e).2.sb, (hS.exc C a f e).2.ty⟩⟩
  hs := hS.hs
  hf := hS.hf
  hex := hS.hex
theorem names_of {x : Str} {c : Addr} (hS : SOk X G N sc W) (h2 : glB sc x = true) (h3 : (x == ("__debug__" : Str)) = false) (e : G.cls x = some (.ref c)) : Names X x (.ref c) := by
  obtain ⟨hn, u, r, h⟩ := hS.g.cls x _ e
  cases r
  refine ⟨gl_of (by rw [hS.c.hsc]; exact h2), h3, ?_⟩
  rcases h with h | ⟨h, h'⟩
  · exact .inl h
  · exact .inr ⟨h, h', hn⟩
mutual
theorem sndSt : ∀ (x : St) {X : Cx} {G : Gam} {N : List Str} {sc : Scope} {W : WX} (hS : SOk X G N sc W) {s : Stmt}, ckS N sc x s = true → PS X s (wS G W x)
  | .set i e, X, G, N, sc, W, hS, s, h => by
    unfold ckS at h
    split at h
    · simp only [Bool.and_eq_true] at h
      obtain ⟨⟨h1, h2⟩, h3⟩ := h
      obtain ⟨k1, k2⟩ := loc_of hS.c h1
      exact ps_set (by rw [hS.c.hN]; exact hS.c.nd) k1 k2 ((sndE e hS.g hS.c h2).1 rfl) (swaps_at hS.c.hsc h3 _ _) (.inl (hS.fn _))
    · cases h
  | .unp is e, X, G, N, sc, W, hS, s, h => by
    unfold ckS at h
    split at h
    · simp only [Bool.and_eq_true] at h
      obtain ⟨⟨⟨h1, h2⟩, h3⟩, h4⟩ := h
      exact ps_asg ((sndE e hS.g hS.c h2).1 rfl) (by have nd : X.N.Nodup := (by rw [hS.c.hN]; exact hS.c.nd); exact tg_ok (t := .tp is) hS.c.calm nd (sto_of hS.c hS.fn) h1) (swSole_of h3 _ _) (stores_of h4 _ _) rfl
    · cases h
  | .ex e, X, G, N, sc, W, hS, s, h => by
    unfold ckS at h
    split at h
    · simp only [Bool.and_eq_true] at h
      exact ps_expr ((sndE e hS.g hS.c h.1).1 rfl) (swaps_of h.2 _ _ _)
    · cases h
  | .ifs c a b, X, G, N, sc, W, hS, s, h => by
    unfold ckS at h
    split at h
    · simp only [Bool.and_eq_true] at h
      exact ps_if ((sndE c hS.g hS.c h.1.1).2 rfl).1 (sndSts a hS h.1.2) (sndSts b hS h.2)
    · cases h
  | .fors t r b, X, G, N, sc, W, hS, s, h => by
    unfold ckS at h
    split at h
    · simp only [Bool.and_eq_true] at h
      obtain ⟨⟨h1, h2⟩, h3⟩ := h
      obtain ⟨k1, k2⟩ := sndSr r (tg := _) hS.g hS.c h2
      have nd : X.N.Nodup := (by rw [hS.c.hN]; exact hS.c.nd)
      have pt := tg_ok hS.c.calm nd (sto_of hS.c hS.fn) h1
      rw [hS.g.K] at pt
      exact ps_for hS.own hS.c.calm k1 pt (sndSts b hS h3) k2
    · cases h
  | .whl c b, X, G, N, sc, W, hS, s, h => by
    unfold ckS at h
    split at h
    · simp only [Bool.and_eq_true] at h
      exact ps_while hS.own ((sndE c hS.g hS.c h.1).2 rfl).1 (sndSts b hS h.2)
    · cases h
  | .ret e, X, G, N, sc, W, hS, s, h => by
    unfold ckS at h
    split at h
    · exact ps_ret ((sndE e hS.g hS.c h).1 rfl)
    · cases h
  | .retn, X, G, N, sc, W, hS, s, h => by
    unfold ckS at h
    split at h
    · exact ps_retN
    · cases h
  | .raise C m, X, G, N, sc, W, hS, s, h => by
    unfold ckS at h
    split at h
    · simp only [Bool.and_eq_true, decide_eq_true_eq, Bool.not_eq_true'] at h
      obtain ⟨⟨h1, h2⟩, h3⟩ := h
      subst h1
      have hgl : Gl X _ := gl_of (by rw [hS.c.hsc]; exact h2)
      refine ⟨fun pins s σ H D I q => ?_⟩
      obtain ⟨a, ea, q⟩ := q
      obtain ⟨hm, ox⟩ := hS.exc _ a none ea
      exact (ps_raise hS.c.calm hS.c.tk (pmk_own PySem.F.excBase_ValueError ox.ex hm ox.kp (raises_own ox.sb ox.ty) hgl h3)).run pins s σ H D I q
    · cases h
  | .pass, X, G, N, sc, W, hS, s, h => by
    unfold ckS at h
    split at h
    · exact ps_pass
    · cases h
  | .tr b C n h0, X, G, N, sc, W, hS, s, h => by
    unfold ckS at h
    split at h
    · simp only [Bool.and_eq_true, decide_eq_true_eq, Bool.not_eq_true'] at h
      obtain ⟨⟨⟨⟨⟨⟨h1, h2⟩, h3⟩, h4⟩, h5⟩, h6⟩, h7⟩ := h
      subst h2
      split at h7
      · simp only [Bool.and_eq_true, decide_eq_true_eq] at h7
        obtain ⟨k1, k2⟩ := h7
        refine ⟨fun pins s σ H D I q => ?_⟩
        obtain ⟨c, ec, q⟩ := q
        rw [← hS.g.K] at q
        have hln : ∀ {y : Str}, justLoc sc y = true → X.env.kindOf y = some .local := fun {y} k2 => by
          show X.env.scope.names.lookup y = some .local
          rw [hS.c.hsc]
          unfold justLoc at k2
          split at k2
          · assumption
          · cases k2
        exact (try_track (tb := fun W' => wSs G W' b) hS.hs hS.hf hS.hex (by rw [hS.c.hN]; exact hS.c.nd) (by rw [hS.c.hN]; exact k1) (hln k2) (names_of hS h3 h4 ec) hS.c.tk (fun W' pn xe tk pw => sndSts b (hS.tr tk pw) h1)
          (fun a pn => easy_pss ⟨hS.c.hN, hS.c.hsc, hS.c.nd, hS.fn⟩ h6 h5)).run pins s σ H D I q
      · refine ⟨fun pins s σ H D I q => ?_⟩
        obtain ⟨c, ec, q⟩ := q
        rw [← hS.g.K] at q
        exact (ps_try_only (tb := fun W' => wSs G W' b) hS.hs hS.hf (names_of hS h3 h4 ec) hS.c.tk (fun W' pn xe tk pw => sndSts b (hS.tr tk pw) h1)
          (fun a oe cls d pn _ _ => easy_pss ⟨hS.c.hN, hS.c.hsc, hS.c.nd, hS.fn⟩ h6 h5)).run pins s σ H D I q
      · cases h7
    · cases h
  | .sub a i v, X, G, N, sc, W, hS, s, h => by
    unfold ckS at h
    split at h
    · simp only [Bool.and_eq_true] at h
      obtain ⟨⟨⟨h1, h2⟩, h3⟩, h4⟩ := h
      have hu : X.A.units + 1 < cLine := by
        have := hS.g.hu
        omega
      exact ps_dput hu ((sndE a hS.g hS.c h1).1 rfl) ((sndE i hS.g hS.c h2).1 rfl) ((sndE v hS.g hS.c h3).1 rfl) (swaps_of h4 _ _ _)
    · cases h
  | .lock x, X, G, N, sc, W, hS, s, h => by
    unfold ckS at h
    refine ⟨fun pins s' σ H D I q => ?_⟩
    rcases q with q | q
    · exact (ps_lock (sndSt x hS h)).run pins s' σ H D I q
    · exact (sndSt x hS h).run pins s' σ H D I q
  | .sfld o f v, X, G, N, sc, W, hS, s, h => by
    unfold ckS at h
    split at h
    · simp only [Bool.and_eq_true, decide_eq_true_eq] at h
      obtain ⟨⟨⟨h1, h2⟩, h3⟩, h4⟩ := h
      subst h1
      show PS X _ (sFld G.K _ _ _)
      rw [← hS.g.K]
      exact ps_fld ((sndE o hS.g hS.c h2).1 rfl) ((sndE v hS.g hS.c h3).1 rfl) (swaps_of h4 _ _ _)
    · cases h
  | .raise1 _ _, X, G, N, sc, W, hS, s, h => by unfold ckS at h; cases h
  | .setlc i t r c x own, X, G, N, sc, W, hS, s, h => by
    unfold ckS at h
    split at h
    · simp only [Bool.and_eq_true, decide_eq_true_eq, Bool.not_eq_true'] at h
      obtain ⟨⟨⟨⟨⟨⟨⟨⟨⟨a1, a2⟩, a3⟩, a4⟩, a5⟩, h1⟩, h2⟩, h3⟩, h4⟩, h5⟩ := h
      have hC := hS.c
      have hG := hS.g
      have nd : X.N.Nodup := by rw [hC.hN]; exact hC.nd
      have kk := fun tg => sndSr r (tg := tg) hG hC h3
      have hln : ∀ {y : Str}, justLoc sc y = true → X.env.scope.names.lookup y = some .local := fun {y} k2 => by
        rw [hC.hsc]
        unfold justLoc at k2
        split at k2
        · assumption
        · cases k2
      have hyl := hln a2
      rename_i y pp elt tg iter ifs scope pos spos
      have := ps_setLc (spos := spos) (py := pp) (pos := pos) hC.calm nd (by rw [hC.hN]; exact a1) hyl (sw_true (by rw [hC.hsc]; exact a3) hyl (by simpa using a4) a5) (kk _).1 (blk_ok hC h1) (fun s H C cl fp => tg_ok (X := X.blk s H _ (compEnvC _ cl C X.env) fp) hC.calm nd (sto_blk hC) h2) (fun s H C cl fp => sndI c hG.blk hC.blk h4) (fun s H C cl fp => (sndE x hG.blk hC.blk h5).1 rfl) (kk (.Constant .none 0 ⟨0, 0, 0, 0⟩)).2
      exact this
    · cases h
theorem sndSts : ∀ (x : Sts) {X : Cx} {G : Gam} {N : List Str} {sc : Scope} {W : WX} (hS : SOk X G N sc W) {s : List Stmt}, ckSs N sc x s = true → PSs X s (wSs G W x)
  | .nil, X, G, N, sc, W, hS, s, h => by
    unfold ckSs at h
    cases s with
    | nil => exact pss_nil
    | cons _ _ => cases h
  | .cons x r, X, G, N, sc, W, hS, s, h => by
    unfold ckSs at h
    cases s with
    | nil => cases h
    | cons s rest =>
      simp only [Bool.and_eq_true] at h
      exact pss_cons (sndSt x hS h.1) (sndSts r hS h.2)
end

/-! ### a def by its tree -/
/-- what a module's surroundings give, apart from how deep one stands -/
structure Env1 (P : Program) (w : World) (K : PySem.W.Frag) (mg : Str → Option Value) (base : Heap) (k : Nat) (G : Gam) : Prop where
  hK : K = G.K
  fn : ∀ f sp, G.fn f = some sp → ∃ (a : Addr) (fd : FuncData) (ps : List Str), FnOk P w K mg base (L2.CX P w) k a fd ps sp ∧ mg f = some (.ref a) ∧ PySem.W.keepIn K (.ref a) = true ∧ L2.Binds K fd ps []
  gl : ∀ x v, G.gl x = some v → ∃ u, mg x = some u ∧ RelV v u
  bi : ∀ b : Bi, mg b.nm = none
  isi : mg "isinstance" = none
  rng : mg "range" = none
  cls : ∀ x v, G.cls x = some v → x ≠ "__name__" ∧ ∃ u, RelV v u ∧ (mg x = some u ∨ (mg x = none ∧ bootBuiltins x = some u))
  mt : ∀ C m sp, G.mt C m = some sp → Cls K C ∧ ∃ (g : Addr) (fd : FuncData) (ps : List Str), Meth K C m g ∧ FnOk P w K mg base (L2.CX P w) k g fd ps sp ∧ L2.Binds K fd ps []
  mak : ∀ x c sp, G.mak x = some (c, sp) → mg x = some (.ref c) ∧ match (generalizing := false) sp with
    | some sp => ∃ (f : Addr) (fd : FuncData) (ps : List Str) (j : Nat), j + 1 = k ∧ Mk K c f ∧ FnOk P w K mg base (L2.CX P w) j f fd ps sp ∧ L2.Binds K fd ps []
    | none => Mk0 K c
  exc : ∀ C a f, G.exc C = some (a, f) → mg C = some (.ref a) ∧ PySem.W.excIn K a [.type "ValueError", .type "Exception", .type "BaseException", .type "object"] "ValueError.__new__" = true ∧ PySem.W.keepIn K (.ref a) = true ∧
    PySem.W.subIn K (.ref a) (.type "BaseException") = some true ∧ PySem.W.typeIn K (.ref a) = some (.type "type")
theorem fn_tree {P : Program} {w : World} {K : PySem.W.Frag} {mg : Str → Option Value} {base : Heap} {k : Nat} {G : Gam} (E1 : Env1 P w K mg base k G)
    {x qual : Str} {st : Stmt} {f : Addr} {fd : FuncData} {N ps : List Str} {sp : Sp} {b : Sts} (F : Fun K x qual st f fd) (S : FnScope N ps (defScope st)) (hck : ckSs N (defScope st) b (defBody st) = true)
    (len : ∀ vs H Q E, sp vs H Q E → vs.length = ps.length) (kp : Keeps G N b sp) : FnOk P w K mg base (L2.CX P w) (k + 1) f fd ps sp := by
  refine F.okX S len fun cdv A outer s H vs Q E hr h => ⟨wSs G (fun cls d _ H => E cls d H) b, ?_, kp H vs Q E h⟩
  refine sndSts b (N := N) (sc := defScope st) ⟨⟨E1.hK, fun f sp e => ?_, E1.gl, E1.bi, E1.isi, E1.rng, E1.cls, hr.units, fun C m sp e => ?_, fun x c sp e => ?_⟩, ⟨rfl, rfl, S.nd, rfl, ?_⟩, fun _ => rfl, ?_, fun C a f e => ?_, rfl, rfl, rfl⟩ hck
  · obtain ⟨a, fd, ps, F2, h1, h2, h3⟩ := E1.fn f sp e
    exact ⟨a, fd, ps, k, F2, hr, h1, h2, h3⟩
  · obtain ⟨c, g, fd, ps, h1, h2, h3⟩ := E1.mt C m sp e
    exact ⟨c, g, fd, ps, k, h1, h2, hr, h3⟩
  · obtain ⟨h1, h2⟩ := E1.mak x c sp e
    refine ⟨h1, ?_⟩
    cases sp with
    | none => exact h2
    | some sp =>
      obtain ⟨f, fd, ps, j, rfl, M, F2, h3⟩ := h2
      exact ⟨f, fd, ps, j, M, F2, hr, h3⟩
  · exact takes_of rfl rfl rfl rfl
  · exact passes_of rfl
  · obtain ⟨h1, h2, h3, h4, h5⟩ := E1.exc C a f e
    exact ⟨h1, ⟨h2, h3, h4, h5⟩⟩
end
end Vc

set_option Elab.async false
set_option linter.all false
set_option maxRecDepth 100000
set_option maxHeartbeats 2000000
namespace Vc
open PySem PySem.Spec PyProof.Rows L2
/-! ### a law's defs as one family, by depth of call -/
structure Df where
  ps : List Pm
  own : Bool
  n : Nat
  b : Sts
structure Fam where
  fns : List (Str × Df)
  mts : List (Str × List (Str × Df))
  ini : List (Str × List Str)
  gl : List (Str × PV)
  isa : List (Str × List (Str × Bool))
  exc : List Str
  ms : List (Str × List Pm × Bool)
  fs : List Str
  tr : List Str
  fuel : Nat
/-- a thing is made: its fields as they are handed in -/
def iniR (C : Str) (fs : List Str) (xs : List PV) : Res := if xs.length = fs.length then .ok (.obj C (fs.zip xs)) [] else .bad
def Fam.mtd (F : Fam) (c m : Str) : Option Df := (F.mts.lookup c).bind fun l => l.lookup m
def Fam.gm (F : Fam) (r : Str → List PV → Res) (q : Str → Str → List PV → Res) : PGm where
  gl := fun x => F.gl.lookup x
  fn := fun x => (F.fns.lookup x).map fun D => ⟨D.ps, D.own, r x⟩
  ms := fun m => F.ms.lookup m
  mt := fun c m => (F.mtd c m).map fun _ => q c m
  mak := fun C => (F.ini.lookup C).map fun fs => iniR C fs
  isa := fun k c => (F.isa.lookup k).bind fun l => l.lookup c
  exc := fun C => if C ∈ F.exc then some none else none
  fuel := F.fuel
def Fam.lv (F : Fam) : Nat → (Str → List PV → Res) × (Str → Str → List PV → Res)
  | 0 => (fun _ _ => .bad, fun _ _ _ => .bad)
  | d + 1 => (fun x xs => match F.fns.lookup x with
      | some D => defP (F.gm (F.lv d).1 (F.lv d).2) D.ps D.n D.b xs
      | none => .bad, fun c m xs => match F.mtd c m with
      | some D => defP (F.gm (F.lv d).1 (F.lv d).2) D.ps D.n D.b xs
      | none => .bad)
def Fam.G (F : Fam) (d : Nat) : PGm := F.gm (F.lv d).1 (F.lv d).2
def Fam.sg (F : Fam) : Sg := ⟨F.fns.map fun p => (p.1, p.2.ps, p.2.own), F.ms, F.ini.map fun p => (p.1, p.2.map fun _ => Pm.sh), F.fs, F.tr⟩
/-- where things stand -/
structure Pl where
  K : PySem.W.Frag
  o : List (Str × Addr)
  x : List (Str × Addr)
  cls : List (Str × V)
def Pl.ca (p : Pl) : CA := ⟨fun c => p.o.lookup c, fun c => p.x.lookup c⟩
def iniS (ca : CA) (C : Str) (c : Addr) : List Str → Option Sp
  | [] => none
  | f :: fs => some (spI ca C c (iniR C (f :: fs)))
def Fam.gam (F : Fam) (p : Pl) (d : Nat) : Gam where
  K := p.K
  fn := fun x => (F.fns.lookup x).map fun D => spP p.ca D.ps D.own ((F.lv d).1 x)
  cls := fun x => p.cls.lookup x
  gl := fun x => (F.gl.lookup x).bind scalV
  exc := fun C => if C ∈ F.exc then (p.x.lookup C).map fun a => (a, none) else none
  ca := p.ca
  mt := fun C m => (p.o.find? fun q => q.2 == C).bind fun q => (F.mtd q.1 m).map fun D => spP p.ca D.ps D.own ((F.lv d).2 q.1 m)
  mak := fun C => (F.ini.lookup C).bind fun fs => (p.o.lookup C).map fun c => (c, iniS p.ca C c fs)
/-- what is seen of the places -/
structure Fix (F : Fam) (p : Pl) : Prop where
  gl : ∀ q ∈ F.gl, (scalV q.2).isSome = true
  inj : ∀ q ∈ p.o, p.o.find? (fun r => r.2 == q.2) = some q
  ms : ∀ q ∈ F.mts, ∀ r ∈ q.2, F.ms.lookup r.1 = some (r.2.ps, r.2.own)
  ini : ∀ q ∈ F.ini, (p.o.lookup q.1).isSome = true
  fld : ∀ q ∈ p.o, ∀ f ∈ F.fs, Cls p.K q.2 ∧ NoAttr p.K q.2 f
  exc : ∀ C ∈ F.exc, (p.x.lookup C).isSome = true
  isa : ∀ x c b, isP (F.G 0) x c = some b → ∃ u, p.cls.lookup c = some u ∧ ∀ v H Q, Rep p.ca H v x → Q (.bl b) H → isiR p.K v u H Q
  isT : ∀ x cs b, isPs (F.G 0) x cs = some b → ∃ us, cs.mapM (fun x => p.cls.lookup x) = some us ∧ ∀ v q H Q, Rep p.ca H v x → H q = some (.tup us) → Q (.bl b) H → isiTR p.K v q us H Q
  tr : ∀ C, C ∈ F.tr → ∃ c, p.cls.lookup C = some (.ref c) ∧ ∀ e b cls d S H, isP (F.G 0) e C = some b → ExRep p.ca S H cls d e → PySem.W.exmOne p.K cls (.ref c) = some b
section
variable {F : Fam} {p : Pl} {d : Nat}
theorem isP_lv (x : PV) (c : Str) : isP (F.G d) x c = isP (F.G 0) x c := by
  cases x <;> first | rfl | (rename_i e fs; cases fs <;> rfl)
theorem isPs_lv (x : PV) : ∀ cs : List Str, isPs (F.G d) x cs = isPs (F.G 0) x cs
  | [] => rfl
  | [c] => isP_lv x c
  | c :: c2 :: cs => by
    show ((isP (F.G d) x c).bind fun b => (isPs (F.G d) x (c2 :: cs)).map fun d => b || d) = _
    rw [isP_lv, isPs_lv x (c2 :: cs)]
    rfl
theorem lk_map {α β : Type} {g : α → β} {k : Str} : ∀ {l : List (Str × α)}, (l.map fun q => (q.1, g q.2)).lookup k = (l.lookup k).map g
  | [] => rfl
  | (x, a) :: l => by
    rw [List.map_cons, List.lookup_cons, List.lookup_cons]
    cases k == x with
    | true => rfl
    | false => exact lk_map
theorem gr_of (h : Fix F p) (d : Nat) : GR p.ca (F.G d) (F.gam p d) F.sg where
  hca := rfl
  gl := fun x z e => by
    obtain ⟨u, eu⟩ := Option.isSome_iff_exists.mp (h.gl (x, z) (PySem.mem_of_lookup e))
    refine ⟨u, eu, ?_⟩
    show (F.gl.lookup x).bind scalV = some u
    rw [show F.gl.lookup x = some z from e]
    exact eu
  fn := fun f P e => by
    obtain ⟨D, eD, rfl⟩ := Option.map_eq_some_iff.mp e
    refine ⟨?_, ?_⟩
    · show (F.fns.map fun p => (p.1, p.2.ps, p.2.own)).lookup f = _
      rw [lk_map (g := fun D : Df => (D.ps, D.own)), eD]
      rfl
    · show (F.fns.lookup f).map _ = _
      rw [eD]
      rfl
  ms := fun m => rfl
  mt := fun c C m R hC e => by
    obtain ⟨D, eD, rfl⟩ := Option.map_eq_some_iff.mp e
    have e2 := eD
    unfold Fam.mtd at eD
    obtain ⟨l, el, eD⟩ := Option.bind_eq_some_iff.mp eD
    refine ⟨(D.ps, D.own), h.ms (c, l) (PySem.mem_of_lookup el) (m, D) (PySem.mem_of_lookup eD), ?_⟩
    show (p.o.find? fun q => q.2 == C).bind _ = _
    rw [h.inj (c, C) (PySem.mem_of_lookup hC)]
    show (F.mtd c m).map _ = _
    rw [e2]
    rfl
  mak := fun C R e => by
    obtain ⟨fs, ef, rfl⟩ := Option.map_eq_some_iff.mp e
    obtain ⟨c, ec⟩ := Option.isSome_iff_exists.mp (h.ini (C, fs) (PySem.mem_of_lookup ef))
    refine ⟨fs.map fun _ => Pm.sh, c, ?_, ?_, ec, ?_, ?_⟩
    · show (F.ini.map fun p => (p.1, p.2.map fun _ => Pm.sh)).lookup C = _
      rw [lk_map (g := fun l : List Str => l.map fun _ => Pm.sh), ef]
      rfl
    · intro q hq
      obtain ⟨_, _, rfl⟩ := List.mem_map.mp hq
      rfl
    · intro xs z ms e
      unfold iniR at e
      split at e
      · cases e; exact ⟨_, rfl⟩
      · cases e
    · have em : (F.gam p d).mak C = some (c, iniS p.ca C c fs) := by
        show (F.ini.lookup C).bind _ = _
        rw [ef]
        show (p.o.lookup C).map _ = _
        rw [ec]
        rfl
      cases fs with
      | nil => exact .inr ⟨em, rfl, rfl⟩
      | cons f fs => exact .inl em
  fld := fun c C f hC hf => h.fld (c, C) (PySem.mem_of_lookup hC) f hf
  isa := fun x c b e => h.isa x c b (by rw [← isP_lv (d := d)]; exact e)
  isT := fun x cs b e => h.isT x cs b (by rw [← isPs_lv (d := d)]; exact e)
  exc := fun C f e => by
    replace e : (if C ∈ F.exc then some none else none) = some f := e
    split at e
    · rename_i hm
      cases e
      obtain ⟨a, ea⟩ := Option.isSome_iff_exists.mp (h.exc C hm)
      refine ⟨a, ?_, ea⟩
      show (if C ∈ F.exc then _ else _) = _
      rw [if_pos hm, ea]
      rfl
    · cases e
  tr := fun C hC => by
    obtain ⟨c, h1, h2⟩ := h.tr C hC
    exact ⟨c, h1, fun e b cls d' S H e1 x => h2 e b cls d' S H (by rw [← isP_lv (d := d)]; exact e1) x⟩
end
/-! ### a thing's __init__ that keeps what it is handed -/
def iniB : List Str → Nat → Sts
  | [], _ => .nil
  | f :: r, i => .cons (.sfld (.v 0) f (.v i)) (iniB r (i + 1))
theorem upd_id {H : Hp} {a : Addr} {o : HO} (h : H a = some o) : upd H a o = H := by
  funext b
  by_cases e : b = a
  · subst e; rw [upd_same, h]
  · rw [upd_ne e]
theorem upd_two {H : Hp} {a : Addr} {o u : HO} : upd (upd H a o) a u = upd H a u := by
  funext b
  by_cases e : b = a
  · subst e; rw [upd_same, upd_same]
  · rw [upd_ne e, upd_ne e, upd_ne e]
theorem putF_new {f : Str} {v : V} : ∀ {us : List (Str × V)}, f ∉ us.map (·.1) → putF f v us = us ++ [(f, v)]
  | [], _ => rfl
  | (g, w) :: us, h => by
    have h1 : g ≠ f := fun e => h (by rw [e]; exact List.mem_cons_self)
    have h2 : f ∉ us.map (·.1) := fun e => h (List.mem_cons_of_mem _ e)
    show (if g = f then _ else (g, w) :: putF f v us) = _
    rw [if_neg h1, putF_new h2]
    rfl
theorem ini_run {G : Gam} {W : WX} {D : Ends} {σ : L2.St} {x c dx : Addr} (h0 : σ[0]? = some (some (.ref x))) : ∀ (fs : List Str) (ws : List V) (i : Nat) (us : List (Str × V)) (H : Hp), ws.length = fs.length → (∀ j v, ws[j]? = some v → σ[i + j]? = some (some v)) →
    H x = some (.ins c dx us) → (∀ f ∈ fs, Cls G.K c ∧ NoAttr G.K c f) → us.length + fs.length < 1000 → fs.Nodup → (∀ f ∈ fs, f ∉ us.map (·.1)) → D.nx σ (upd H x (.ins c dx (us ++ fs.zip ws))) → wSs G W (iniB fs i) D σ H
  | [], ws, i, us, H, hl, hw, hx, hc, hz, hn, hd, q => by
    show D.nx σ H
    rw [List.zip_nil_left, List.append_nil, upd_id hx] at q
    exact q
  | f :: fs, [], i, us, H, hl, hw, hx, hc, hz, hn, hd, q => by cases hl
  | f :: fs, w :: ws, i, us, H, hl, hw, hx, hc, hz, hn, hd, q => by
    obtain ⟨k1, k2⟩ := hc f List.mem_cons_self
    have e1 : σ[i]? = some (some w) := hw 0 w rfl
    show sFld G.K (vR 0) (vR i) f { D with nx := fun σ' H' => wSs G W (iniB fs (i + 1)) D σ' H' } σ H
    unfold sFld vR
    rw [e1]
    dsimp only
    rw [h0]
    dsimp only
    have hd1 := hd f List.mem_cons_self
    refine ⟨x, c, dx, us, rfl, hx, k1, k2, by simp at hz; omega, ?_⟩
    rw [putF_new hd1]
    have hn' := List.nodup_cons.mp hn
    refine ini_run h0 fs ws (i + 1) (us ++ [(f, w)]) _ (by simpa using hl) (fun j v e => ?_) upd_same (fun g hg => hc g (List.mem_cons_of_mem _ hg)) (by simp at hz ⊢; omega) hn'.2 (fun g hg => ?_) ?_
    · have := hw (j + 1) v (by simpa using e)
      rw [show i + 1 + j = i + (j + 1) by omega]
      exact this
    · rw [List.map_append, List.mem_append]
      rintro (z | z)
      · exact hd g (List.mem_cons_of_mem _ hg) z
      · have : g = f := by simpa using z
        subst this
        exact hn'.1 hg
    · rw [upd_two, List.append_assoc]
      exact q
theorem repF_zip {ca : CA} {S : Hp} : ∀ {fs : List Str} {vs : List V} {xs : List PV}, RepL ca S vs xs → xs.length = fs.length → RepF ca S (fs.zip vs) (fs.zip xs)
  | [], vs, xs, h, hl => by
    cases xs with
    | nil => unfold RepL at h; subst h; unfold RepF; rfl
    | cons _ _ => cases hl
  | f :: fs, vs, [], h, hl => by cases hl
  | f :: fs, vs, x :: xs, h, hl => by
    unfold RepL at h
    obtain ⟨v, r, rfl, h1, h2⟩ := h
    show RepF ca S ((f, v) :: fs.zip r) ((f, x) :: fs.zip xs)
    unfold RepF
    exact ⟨v, _, rfl, h1, repF_zip h2 (by simpa using hl)⟩
theorem keeps_ini {G : Gam} {ca : CA} {C : Str} {c : Addr} {fs : List Str} {N : List Str} (hc : ∀ f ∈ fs, Cls G.K c ∧ NoAttr G.K c f) (hz : fs.length < 1000) (hn : fs.Nodup) : Keeps G N (iniB fs 1) (spI ca C c (iniR C fs)) := by
  rintro H vs Q E ⟨x, dx, vr, S, xs, rfl, hx, hS, sub, rl, hm⟩
  unfold iniR at hm
  by_cases hl : xs.length = fs.length
  · rw [if_pos hl] at hm
    obtain ⟨_, q⟩ := hm
    have lv := rl.length
    refine ini_run (x := x) (c := c) (dx := dx) ?_ fs vr 1 [] H (by omega) (fun j v e => ?_) hx hc (by simpa using hz) hn (by simp) ?_
    · unfold L2.start; simp
    · unfold L2.start
      have hj := (List.getElem?_eq_some_iff.mp e).1
      rw [List.getElem?_append_left (by simp; omega), List.getElem?_map]
      rw [show 1 + j = j + 1 by omega, List.getElem?_cons_succ, e]
      rfl
    · exact q _ (repF_zip rl hl)
  · rw [if_neg hl] at hm
    exact hm.elim
end Vc

set_option Elab.async false
set_option linter.all false
set_option maxRecDepth 100000
set_option maxHeartbeats 2000000
namespace Vc
open PySem PySem.Spec PyProof.Rows L2
/-! ### a law's row: all defs at all depths -/
/-- a constant of the module stands at its name -/
def GlAt (K : PySem.W.Frag) (x : Str) (v : V) : Prop := ∃ u, PySem.W.nsIn K mainGlobals x = some (some u) ∧ RelV v u
theorem gl_str {K : PySem.W.Frag} {x z : Str} {t : Tok} (a : PySem.W.nsIn K mainGlobals x = some (some (.str z t))) : GlAt K x (.str z) := ⟨_, a, t, rfl⟩
theorem gl_ref {K : PySem.W.Frag} {x : Str} {c : Addr} (a : PySem.W.nsIn K mainGlobals x = some (some (.ref c))) : GlAt K x (.ref c) := ⟨_, a, rfl⟩
theorem gl_int {K : PySem.W.Frag} {x : Str} {z : Int} {t : Tok} (a : PySem.W.nsIn K mainGlobals x = some (some (.int z t))) : GlAt K x (.int z) := ⟨_, a, t, rfl⟩
/-- an own exception class -/
def ExcAt (K : PySem.W.Frag) (x : Str) (C : Addr) : Prop := PySem.W.nsIn K mainGlobals x = some (some (.ref C)) ∧
  PySem.W.excIn K C [.type "ValueError", .type "Exception", .type "BaseException", .type "object"] "ValueError.__new__" = true ∧ PySem.W.keepIn K (.ref C) = true ∧
    PySem.W.subIn K (.ref C) (.type "BaseException") = some true ∧ PySem.W.typeIn K (.ref C) = some (.type "type")
/-- no built-in name is taken by the module -/
def freeB (K : PySem.W.Frag) : Prop := (∀ b : Bi, PySem.W.nsIn K mainGlobals b.nm = some none) ∧ PySem.W.nsIn K mainGlobals "isinstance" = some none ∧ PySem.W.nsIn K mainGlobals "range" = some none
/-- a class that isinstance asks for -/
def ClsAt (K : PySem.W.Frag) (x : Str) (v : V) : Prop := x ≠ "__name__" ∧ ∃ u, RelV v u ∧ (PySem.W.nsIn K mainGlobals x = some (some u) ∨ (PySem.W.nsIn K mainGlobals x = some none ∧ bootBuiltins x = some u))
theorem cls_own {K : PySem.W.Frag} {x : Str} {c : Addr} (h : x ≠ "__name__") (a : PySem.W.nsIn K mainGlobals x = some (some (.ref c))) : ClsAt K x (.ref c) := ⟨h, _, rfl, .inl a⟩
theorem cls_blt {K : PySem.W.Frag} {x : Str} {n : String} (h : x ≠ "__name__") (a : PySem.W.nsIn K mainGlobals x = some none) (b : bootBuiltins x = some (.type n)) : ClsAt K x (.ty n) := ⟨h, _, rfl, .inr ⟨a, b⟩⟩
/-- a def and its tree -/
structure DfOk (K : PySem.W.Frag) (sg : Sg) (x qual : Str) (f : Addr) (D : Df) : Prop where
  ex : ∃ (st : Stmt) (fd : FuncData) (N ps : List Str), Fun K x qual st f fd ∧ FnScope N ps (defScope st) ∧ ckSs N (defScope st) D.b (defBody st) = true ∧ L2.Binds K fd ps [] ∧ ps.length = D.ps.length ∧ N.length = D.n
  le : D.ps.length ≤ D.n
  mu : noMu D.ps = true
  ck : (ckTs' sg D.own D.b (startTags D.ps D.n)).isSome = true
/-- an __init__ and its tree -/
structure InOk (K : PySem.W.Frag) (fs : List Str) (C : Addr) : Prop where
  ex : ∃ (f : Addr) (x qual : Str) (st : Stmt) (fd : FuncData) (N ps : List Str), Mk K C f ∧ Fun K x qual st f fd ∧ FnScope N ps (defScope st) ∧ ckSs N (defScope st) (iniB fs 1) (defBody st) = true ∧ L2.Binds K fd ps [] ∧ ps.length = fs.length + 1
  few : fs.length < 1000
  nd : fs.Nodup
structure Row (F : Fam) (p : Pl) : Prop where
  fx : Fix F p
  lk : ∀ q ∈ p.o, p.o.lookup q.1 = some q.2
  fns : ∀ q ∈ F.fns, ∃ f, PySem.W.nsIn p.K mainGlobals q.1 = some (some (.ref f)) ∧ DfOk p.K F.sg q.1 q.1 f q.2
  mts : ∀ q ∈ F.mts, ∀ C, p.o.lookup q.1 = some C → Cls p.K C ∧ ∀ r ∈ q.2, ∃ g x qual, Meth p.K C r.1 g ∧ DfOk p.K F.sg x qual g r.2
  ini : ∀ q ∈ F.ini, ∀ C, p.o.lookup q.1 = some C → PySem.W.nsIn p.K mainGlobals q.1 = some (some (.ref C)) ∧ (∀ f ∈ q.2, f ∈ F.fs) ∧ match q.2 with
    | [] => Mk0 p.K C
    | f :: fs => InOk p.K (f :: fs) C
  free : freeB p.K
  gls : ∀ q ∈ F.gl, ∀ v, scalV q.2 = some v → GlAt p.K q.1 v
  cls : ∀ q ∈ p.cls, ClsAt p.K q.1 q.2
  exc : ∀ C ∈ F.exc, ∀ a, p.x.lookup C = some a → ExcAt p.K C a
section
variable {P : Program} {w : World} {mg : Str → Option Value} {base : Heap} {F : Fam} {p : Pl} {d : Nat}
theorem spP_len {ca : CA} {ps : List Pm} {own : Bool} {run : List PV → Res} {n : Nat} (e : n = ps.length) : ∀ (vs : List V) (H : Hp) (Q : VK) (E : XK), spP ca ps own run vs H Q E → vs.length = n := by
  rintro vs H Q E ⟨S, xs, _, ha, _⟩
  rw [e]
  exact (args_len ha).1
/-- what stands at depth d -/
structure Lvl (P : Program) (w : World) (mg : Str → Option Value) (base : Heap) (F : Fam) (p : Pl) (d : Nat) : Prop where
  fn : ∀ q ∈ F.fns, ∃ (f : Addr) (fd : FuncData) (ps : List Str), FnOk P w p.K mg base (L2.CX P w) (d + 2) f fd ps (spP p.ca q.2.ps q.2.own ((F.lv d).1 q.1)) ∧ mg q.1 = some (.ref f) ∧ PySem.W.keepIn p.K (.ref f) = true ∧ L2.Binds p.K fd ps []
  mt : ∀ q ∈ F.mts, ∀ C, p.o.lookup q.1 = some C → Cls p.K C ∧ ∀ r ∈ q.2, ∃ (g : Addr) (fd : FuncData) (ps : List Str), Meth p.K C r.1 g ∧ FnOk P w p.K mg base (L2.CX P w) (d + 2) g fd ps (spP p.ca r.2.ps r.2.own ((F.lv d).2 q.1 r.1)) ∧ L2.Binds p.K fd ps []
theorem fn_bad {K : PySem.W.Frag} {k : Nat} {sg : Sg} {x qual : Str} {f : Addr} {D : Df} {ca : CA} (h : DfOk K sg x qual f D) : ∃ (fd : FuncData) (ps : List Str), FnOk P w K mg base (L2.CX P w) (k + 1) f fd ps (spP ca D.ps D.own fun _ => .bad) ∧ PySem.W.keepIn K (.ref f) = true ∧ L2.Binds K fd ps [] := by
  obtain ⟨st, fd, N, ps, A, S, hc, hb, hl, hN⟩ := h.ex
  refine ⟨fd, ps, A.okX S (spP_len hl) fun cdv A' outer s H vs Q E hr hsp => ?_, A.kp, hb⟩
  obtain ⟨_, _, _, _, z⟩ := hsp
  exact z.elim
theorem env_lv (R : Row F p) (X : p.K.In base) (N : base.Ns mainGlobals mg) (L : Lvl P w mg base F p d) (hi : ∀ q ∈ F.ini, ∀ C, p.o.lookup q.1 = some C → ∀ sp, iniS p.ca q.1 C q.2 = some sp → ∃ (f : Addr) (fd : FuncData) (ps : List Str), Mk p.K C f ∧ FnOk P w p.K mg base (L2.CX P w) 1 f fd ps sp ∧ L2.Binds p.K fd ps []) :
    Env1 P w p.K mg base (d + 2) (F.gam p d) where
  hK := rfl
  fn := fun f sp e => by
    obtain ⟨D, eD, rfl⟩ := Option.map_eq_some_iff.mp e
    exact L.fn (f, D) (PySem.mem_of_lookup eD)
  gl := fun x v e => by
    obtain ⟨z, ez, e⟩ := Option.bind_eq_some_iff.mp e
    obtain ⟨u, h1, h2⟩ := R.gls (x, z) (PySem.mem_of_lookup ez) v e
    exact ⟨u, PySem.W.mg_of X N h1, h2⟩
  bi := fun b => PySem.W.mg_none_of X N (R.free.1 b)
  isi := PySem.W.mg_none_of X N R.free.2.1
  rng := PySem.W.mg_none_of X N R.free.2.2
  cls := fun x v e => by
    obtain ⟨h0, u, h1, h2⟩ := R.cls (x, v) (PySem.mem_of_lookup e)
    refine ⟨h0, u, h1, ?_⟩
    rcases h2 with h2 | ⟨h2, h3⟩
    · exact .inl (PySem.W.mg_of X N h2)
    · exact .inr ⟨PySem.W.mg_none_of X N h2, h3⟩
  mt := fun C m sp e => by
    obtain ⟨⟨c, C'⟩, ec, e⟩ := Option.bind_eq_some_iff.mp e
    obtain ⟨D, eD, rfl⟩ := Option.map_eq_some_iff.mp e
    have hC : C' = C := by simpa using List.find?_some ec
    subst hC
    unfold Fam.mtd at eD
    obtain ⟨l, el, eD⟩ := Option.bind_eq_some_iff.mp eD
    have hm := List.mem_of_find?_eq_some ec
    have lk : p.o.lookup c = some C' := R.lk _ hm
    obtain ⟨h1, h2⟩ := L.mt (c, l) (PySem.mem_of_lookup el) C' lk
    obtain ⟨g, fd, ps, h3, h4, h5⟩ := h2 (m, D) (PySem.mem_of_lookup eD)
    exact ⟨h1, g, fd, ps, h3, h4, h5⟩
  mak := fun x c sp e => by
    obtain ⟨fs, ef, e⟩ := Option.bind_eq_some_iff.mp e
    obtain ⟨C, eC, e⟩ := Option.map_eq_some_iff.mp e
    cases e
    obtain ⟨h1, h2, h3⟩ := R.ini (x, fs) (PySem.mem_of_lookup ef) c eC
    refine ⟨PySem.W.mg_of X N h1, ?_⟩
    have := hi (x, fs) (PySem.mem_of_lookup ef) c eC
    cases fs with
    | nil => exact h3
    | cons f fs =>
      obtain ⟨g, fd, ps, M, F1, hb⟩ := this _ rfl
      exact ⟨g, fd, ps, d + 1, rfl, M, F1.mono (by omega), hb⟩
  exc := fun C a f e => by
    replace e : (if C ∈ F.exc then (p.x.lookup C).map fun a => (a, (none : Option Str)) else none) = some (a, f) := e
    split at e
    · rename_i hm
      obtain ⟨b, eb, e⟩ := Option.map_eq_some_iff.mp e
      cases e
      obtain ⟨h1, h2⟩ := R.exc C hm a eb
      exact ⟨PySem.W.mg_of X N h1, h2⟩
    · cases e
theorem df_next {X : p.K.In base} {N : base.Ns mainGlobals mg} (R : Row F p) (E : Env1 P w p.K mg base (d + 2) (F.gam p d)) {x qual : Str} {f : Addr} {D : Df} (h : DfOk p.K F.sg x qual f D) :
    ∃ (fd : FuncData) (ps : List Str), FnOk P w p.K mg base (L2.CX P w) (d + 3) f fd ps (spP p.ca D.ps D.own (defP (F.G d) D.ps D.n D.b)) ∧ PySem.W.keepIn p.K (.ref f) = true ∧ L2.Binds p.K fd ps [] := by
  obtain ⟨st, fd, N, ps, A, S, hc, hb, hl, hN⟩ := h.ex
  exact ⟨fd, ps, fn_tree E A S hc (spP_len hl) (keeps_of (gr_of R.fx d) hN h.le h.mu h.ck), A.kp, hb⟩
theorem lv_fn {x : Str} {D : Df} (e : F.fns.lookup x = some D) : (F.lv (d + 1)).1 x = defP (F.G d) D.ps D.n D.b := by
  funext xs
  show (match F.fns.lookup x with
    | some D => _
    | none => _) = _
  rw [e]
  rfl
theorem lv_mt {c m : Str} {D : Df} (e : F.mtd c m = some D) : (F.lv (d + 1)).2 c m = defP (F.G d) D.ps D.n D.b := by
  funext xs
  show (match F.mtd c m with
    | some D => _
    | none => _) = _
  rw [e]
  rfl
/-- each def is told once -/
structure Once (F : Fam) : Prop where
  fns : ∀ q ∈ F.fns, F.fns.lookup q.1 = some q.2
  mts : ∀ q ∈ F.mts, ∀ r ∈ q.2, F.mtd q.1 r.1 = some r.2
theorem lvl_zero (R : Row F p) (X : p.K.In base) (N : base.Ns mainGlobals mg) : Lvl P w mg base F p 0 where
  fn := fun q hq => by
    obtain ⟨f, a, h⟩ := R.fns q hq
    obtain ⟨fd, ps, h1, h2, h3⟩ := fn_bad (P := P) (w := w) (mg := mg) (base := base) (k := 1) (ca := p.ca) h
    exact ⟨f, fd, ps, h1, PySem.W.mg_of X N a, h2, h3⟩
  mt := fun q hq C hC => by
    obtain ⟨h0, hm⟩ := R.mts q hq C hC
    refine ⟨h0, fun r hr => ?_⟩
    obtain ⟨g, x, qual, hM, h⟩ := hm r hr
    obtain ⟨fd, ps, h1, h2, h3⟩ := fn_bad (P := P) (w := w) (mg := mg) (base := base) (k := 1) (ca := p.ca) h
    exact ⟨g, fd, ps, hM, h1, h3⟩
theorem lvl_next (R : Row F p) (O : Once F) (X : p.K.In base) (N : base.Ns mainGlobals mg) (E : Env1 P w p.K mg base (d + 2) (F.gam p d)) : Lvl P w mg base F p (d + 1) where
  fn := fun q hq => by
    obtain ⟨f, a, h⟩ := R.fns q hq
    obtain ⟨fd, ps, h1, h2, h3⟩ := df_next (X := X) (N := N) R E h
    rw [lv_fn (O.fns q hq)]
    exact ⟨f, fd, ps, h1, PySem.W.mg_of X N a, h2, h3⟩
  mt := fun q hq C hC => by
    obtain ⟨h0, hm⟩ := R.mts q hq C hC
    refine ⟨h0, fun r hr => ?_⟩
    obtain ⟨g, x, qual, hM, h⟩ := hm r hr
    obtain ⟨fd, ps, h1, h2, h3⟩ := df_next (X := X) (N := N) R E h
    rw [lv_mt (O.mts q hq r hr)]
    exact ⟨g, fd, ps, hM, h1, h3⟩
/-- the surroundings without any def -/
def gam0 (p : Pl) : Gam := ⟨p.K, fun _ => none, fun _ => none, fun _ => none, fun _ => none, p.ca, fun _ _ => none, fun _ => none⟩
theorem env0_of (R : Row F p) (X : p.K.In base) (N : base.Ns mainGlobals mg) : Env1 P w p.K mg base 0 (gam0 p) where
  hK := rfl
  fn := fun f sp e => by cases e
  gl := fun x v e => by cases e
  bi := fun b => PySem.W.mg_none_of X N (R.free.1 b)
  isi := PySem.W.mg_none_of X N R.free.2.1
  rng := PySem.W.mg_none_of X N R.free.2.2
  cls := fun x v e => by cases e
  mt := fun C m sp e => by cases e
  mak := fun x c sp e => by cases e
  exc := fun C a f e => by cases e
theorem ini_all (R : Row F p) (X : p.K.In base) (N : base.Ns mainGlobals mg) : ∀ q ∈ F.ini, ∀ C, p.o.lookup q.1 = some C → ∀ sp, iniS p.ca q.1 C q.2 = some sp → ∃ (f : Addr) (fd : FuncData) (ps : List Str), Mk p.K C f ∧ FnOk P w p.K mg base (L2.CX P w) 1 f fd ps sp ∧ L2.Binds p.K fd ps [] := by
  rintro ⟨x, fs⟩ hq C hC sp e
  obtain ⟨_, hf, h⟩ := R.ini (x, fs) hq C hC
  cases fs with
  | nil => cases e
  | cons g fs =>
    cases e
    obtain ⟨f, y, qual, st, fd, Ns, ps, M, A, S, hc, hb, hl⟩ := h.ex
    refine ⟨f, fd, ps, M, fn_tree (env0_of R X N) A S hc ?_ (keeps_ini (fun k hk => ?_) h.few h.nd), hb⟩
    · rintro vs H Q E ⟨a, dx, vr, S', xs, rfl, _, _, _, rl, hm⟩
      unfold iniR at hm
      by_cases hz : xs.length = (g :: fs).length
      · have := rl.length
        rw [hl]
        show vr.length + 1 = _
        omega
      · rw [if_neg hz] at hm
        exact hm.elim
    · exact R.fx.fld (x, C) (PySem.mem_of_lookup hC) k (hf k hk)
theorem lvl_all (R : Row F p) (O : Once F) (X : p.K.In base) (N : base.Ns mainGlobals mg) : ∀ d, Lvl P w mg base F p d
  | 0 => lvl_zero R X N
  | d + 1 => lvl_next R O X N (env_lv R X N (lvl_all R O X N d) (ini_all R X N))
end
end Vc

set_option Elab.async false
set_option linter.all false
set_option maxRecDepth 100000
set_option maxHeartbeats 2000000
namespace Vc
open PySem PySem.Spec PyProof.Rows L2
/-! ### a law by values -/
/-- a law is handed the script: a list that stands in the heap, of ints of at most 2 ^ 20 bits -/
def Scr (H : Hp) (a : Addr) (ns : List Int) : Prop := rd H a = some (.lst (ns.map V.int)) ∧ ns.length ≤ 63 ∧ ∀ z ∈ ns, Builtin.Int.intBits z ≤ 1048576
def spLawOf : Sp := fun vs H Q _ => ∃ (a : Addr) (ns : List Int), vs = [.ref a] ∧ Scr H a ns ∧ ∀ H', Q (.bl true) H'
def noList (K : PySem.W.Frag) : Bool := K.all fun p => !(p.2.cls == .type "list")
theorem mem_lk {β : Type} : ∀ {l : List (Nat × β)} {a : Nat} {b : β}, l.lookup a = some b → (a, b) ∈ l
  | [], _, _, h => by cases h
  | (c, d) :: r, a, b, h => by
    rw [List.lookup_cons] at h
    cases e : a == c with
    | true =>
      rw [e] at h
      have e2 : d = b := Option.some.inj h
      have e3 : a = c := by simpa using e
      rw [e2, e3]
      exact List.mem_cons_self
    | false =>
      rw [e] at h
      exact List.mem_cons_of_mem _ (mem_lk h)
theorem scr_of {K : PySem.W.Frag} (n : noList K = true) {H : Hp} {a : Addr} {ns : List Int} (o : Only H) (s : SqL K H a (ns.map V.int)) (h1 : ns.length ≤ 63) (h2 : ∀ z ∈ ns, Builtin.Int.intBits z ≤ 1048576) : Scr H a ns := by
  refine ⟨?_, h1, h2⟩
  rcases s with (s | ⟨ob, s⟩) | ⟨ob, its, m, e, c, _⟩
  · exact rd_of s
  · exact rd_frz s
  · have := List.all_eq_true.mp n (a, ob) (mem_lk e)
    rw [c] at this
    simp at this
theorem law_fd {K : PySem.W.Frag} {st : Stmt} {f : Addr} {fd : FuncData} {x y : Str} (F : Fun K x x st f fd) (h : ∀ (kV doc pm : Value) (an : Option Addr) (cdv ct : Value) (v : Value), bindArgs (PySem.W.fnOf x x (defArgs st) (defBody st) (defScope st) .none kV doc pm an cdv ct) ⟨[v], []⟩ = pure [(y, v)]) :
    ∀ (s : Shared) (v : Value), BindsTo s fd ⟨[v], []⟩ [(y, v)] := by
  obtain ⟨oc, od, kV, doc, pm, an, cdv, ct, osl, rfl, lk, hcd⟩ := F.ex
  exact fun s v => .of_eq (h _ _ _ _ _ _ v)
theorem no_exc (P : Program) (w : World) (H : Hp) (s : Shared) (e : Value) (s' : Shared) : L2.CX P w [] H s (fun _ _ _ => False) e s' → False := fun h => by
  obtain ⟨_, _, _, _, _, _, _, _, _, _, _, _, z⟩ := h
  exact z
theorem repL_of_ints {ca : CA} {S : Hp} : ∀ ns : List Int, RepL ca S (ns.map V.int) (ns.map PV.int)
  | [] => by unfold RepL; rfl
  | n :: r => by
    show RepL ca S (V.int n :: r.map V.int) (PV.int n :: r.map PV.int)
    unfold RepL
    exact ⟨_, _, rfl, by unfold Rep; rfl, repL_of_ints r⟩
/-- what the law says at a script, by values -/
def LawSo (run : List PV → Res) : Prop := ∀ ns : List Int, ns.length ≤ 63 → (∀ z ∈ ns, Builtin.Int.intBits z ≤ 1048576) → run [.lst (ns.map PV.int)] = .ok (.bl true) []
theorem law_keeps {ca : CA} {run : List PV → Res} (h : LawSo run) {vs : List V} {H : Hp} {Q : VK} {E : XK} (k : spLawOf vs H Q E) : spP ca [.sh] false run vs H Q E := by
  obtain ⟨a, ns, rfl, ⟨e, h1, h2⟩, q⟩ := k
  refine ⟨H, [.lst (ns.map PV.int)], Sub.refl H, ?_, ?_⟩
  · unfold ArgsOk
    refine ⟨_, _, _, _, rfl, rfl, ?_, ?_⟩
    · unfold Rep
      exact ⟨a, _, rfl, e, repL_of_ints ns⟩
    · unfold ArgsOk
      exact ⟨rfl, rfl⟩
  · rw [h ns h1 h2]
    refine ⟨rfl, fun v S' H' fp _ _ _ _ r _ _ => ?_⟩
    obtain ⟨_, r⟩ := r
    unfold Rep at r
    subst r
    exact q H'
/-- a def stands at its name -/
def FunAt (K : PySem.W.Frag) (x : Str) (st : Stmt) : Prop := ∃ (f : Addr) (fd : FuncData), PySem.W.nsIn K mainGlobals x = some (some (.ref f)) ∧ Fun K x x st f fd
theorem fun_at {K : PySem.W.Frag} {x : Str} {st : Stmt} {f : Addr} {oc : Value} {od an : Option Addr} {osl : Array (Option Value)} {kV doc pm cdv ct : Value} (a : PySem.W.nsIn K mainGlobals x = some (some (.ref f)))
    (l : K.lookup f = some ⟨oc, od, .func (PySem.W.fnOf x x (defArgs st) (defBody st) (defScope st) .none kV doc pm an cdv ct), osl⟩)
    (c : PySem.W.codeIn K cdv x = true) (k : PySem.W.keepIn K (.ref f) = true) : FunAt K x st := ⟨f, _, a, fun_mk l c k⟩
section
variable {F : Fam} {p : Pl} {d n : Nat}
/-- THE LAW: its own def over the family at some depth -/
theorem law_mk {P : Program} {w : World} {h : Heap} {mg : Str → Option Value} {fa : Addr} {st : Stmt} {b : Sts} {Ns : List Str} (R : Row F p) (O : Once F) (X : p.K.In h) (G : h.Ns mainGlobals mg) (hfa : mg "law" = some (.ref fa)) (A : FunAt p.K "law" st) (S : FnScope Ns ["_law_script"] (defScope st))
    (hc : ckSs Ns (defScope st) b (defBody st) = true) (hb : ∀ (kV doc pm : Value) (an : Option Addr) (cdv ct : Value) (v : Value), bindArgs (PySem.W.fnOf "law" "law" (defArgs st) (defBody st) (defScope st) .none kV doc pm an cdv ct) ⟨[v], []⟩ = pure [(("_law_script" : Str), v)])
    (hN : Ns.length = n) (h1 : 1 ≤ n) (ck : (ckTs' F.sg false b (startTags [.sh] n)).isSome = true) (so : LawSo (defP (F.G d) [.sh] n b)) :
    ∃ fd : FuncData, (∀ (s : Shared) (v : Value), BindsTo s fd ⟨[v], []⟩ [("_law_script", v)]) ∧ ∀ base : Heap, p.K.In base → base.Ns mainGlobals mg → FnOk P w p.K mg base (L2.CX P w) (d + 3) fa fd ["_law_script"] spLawOf := by
  obtain ⟨f, fd, a, Fu⟩ := A
  have e := hfa.symm.trans (PySem.W.mg_of X G a)
  cases e
  refine ⟨fd, law_fd Fu hb, fun base KB NB => ?_⟩
  have E : Env1 P w p.K mg base (d + 2) (F.gam p d) := env_lv R KB NB (lvl_all R O KB NB d) (ini_all R KB NB)
  have := fn_tree E Fu S hc (spP_len (ps := [.sh]) rfl) (keeps_of (gr_of R.fx d) hN h1 rfl ck)
  exact this.imp fun vs H Q E k => law_keeps so k
end
end Vc

set_option Elab.async false
set_option linter.all false
set_option maxRecDepth 100000
set_option maxHeartbeats 1000000
namespace Vc
open PySem PySem.Spec PyProof.Rows L2
/-! ### isinstance by tables -/
def blK : List (Str × String) := [("NoneType", "NoneType"), ("bool", "bool"), ("int", "int"), ("str", "str"), ("list", "list"), ("tuple", "tuple"), ("dict", "dict")]
def kindN : PV → Option Str
  | .obj d _ => some d
  | .exc d [] => some d
  | .exc _ (_ :: _) => none
  | .non => some "NoneType"
  | .bl _ => some "bool"
  | .int _ => some "int"
  | .str _ => some "str"
  | .lst _ => some "list"
  | .tup _ => some "tuple"
  | .dic _ => some "dict"
/-- the type that a kind's things have -/
def kv (p : Pl) (k : Str) : Option Value :=
  match blK.lookup k with
  | some T => some (.type T)
  | none => match p.o.lookup k with
    | some C => some (.ref C)
    | none => (p.x.lookup k).map .ref
structure OwnC (K : PySem.W.Frag) (C : Addr) : Prop where
  cl : Cls K C
  ha : PySem.W.findIn K (.ref C) "__class__" = some (some (.builtin "object.__class__"))
  hn : PySem.W.specialIn K (.builtin "object.__class__") "__get__" = some (some (.builtin "getset_descriptor.__get__"))
  ht : PySem.W.takesIn K (.builtin "object.__class__") = some true
  hm : PySem.W.mroIn K C (.type "object") = some true
structure TyF (F : Fam) (p : Pl) : Prop where
  row : ∀ q ∈ F.isa, ∀ r ∈ q.2, ∃ u uv t, p.cls.lookup r.1 = some u ∧ ClsV u uv ∧ kv p q.1 = some t ∧ PySem.W.kitOne p.K t uv = some r.2
  nob : ∀ q ∈ p.o, blK.lookup q.1 = none
  nox : ∀ q ∈ p.x, blK.lookup q.1 = none ∧ p.o.lookup q.1 = none
  own : ∀ q ∈ p.o, OwnC p.K q.2
  exc : ∀ q ∈ p.x, ExcC p.K q.2
  trc : ∀ C ∈ F.tr, ∃ c, p.cls.lookup C = some (.ref c)
  exm : ∀ q ∈ F.isa, ∀ r ∈ q.2, r.1 ∈ F.tr → ∀ D, p.x.lookup q.1 = some D → ∀ c, p.cls.lookup r.1 = some (.ref c) → PySem.W.exmOne p.K (.ref D) (.ref c) = some r.2
section
variable {F : Fam} {p : Pl}
theorem isP_kind {x : PV} {c : Str} {b : Bool} (h : isP (F.G 0) x c = some b) : ∃ k l, kindN x = some k ∧ (k, l) ∈ F.isa ∧ (c, b) ∈ l := by
  have main : ∀ k : Str, (F.G 0).isa k c = some b → ∃ l, (k, l) ∈ F.isa ∧ (c, b) ∈ l := fun k h => by
    obtain ⟨l, el, h⟩ := Option.bind_eq_some_iff.mp h
    exact ⟨l, PySem.mem_of_lookup el, PySem.mem_of_lookup h⟩
  cases x
  case exc d fs =>
    cases fs with
    | nil => obtain ⟨l, a, b⟩ := main _ h; exact ⟨_, l, rfl, a, b⟩
    | cons _ _ => cases h
  all_goals (obtain ⟨l, a, b⟩ := main _ h; exact ⟨_, l, rfl, a, b⟩)
/-- what isinstance takes a value for -/
theorem kind_ty (T : TyF F p) {x : PV} {k : Str} {t : Value} {v : V} {H : Hp} (hk : kindN x = some k) (ht : kv p k = some t) (r : Rep p.ca H v x) : TyX p.K H v t ∨ ∃ a D, v = .ref a ∧ H a = some (excO a (.ref D) none) ∧ ExcC p.K D ∧ t = .ref D := by
  cases x
  case non => cases hk; cases ht; rw [rep_non r]; exact .inl (.base .non)
  case bl b => cases hk; cases ht; rw [rep_bl r]; exact .inl (.base (.bl b))
  case int b => cases hk; cases ht; rw [rep_int r]; exact .inl (.base (.int b))
  case str b => cases hk; cases ht; rw [rep_str r]; exact .inl (.base (.str b))
  case lst xs =>
    cases hk; cases ht
    obtain ⟨q, us, rfl, e, _⟩ := rep_lst r
    left
    unfold rd at e
    split at e
    · rename_i o u e2; cases e; exact .base (.frz e2)
    · exact .base (.lst e)
  case tup xs =>
    cases hk; cases ht
    obtain ⟨q, us, rfl, e, _⟩ := rep_tup r
    left
    unfold rd at e
    split at e
    · rename_i o u e2; cases e; exact .fTuple e2
    · exact .base (.tup e)
  case dic xs =>
    cases hk; cases ht
    obtain ⟨q, us, rfl, e, _⟩ := rep_dic r
    left
    unfold rd at e
    split at e
    · rename_i o u e2; cases e; exact .fDict e2
    · exact .base (.dK e)
  case obj d fs =>
    cases hk
    unfold Rep at r
    obtain ⟨q, C, dx, us, rfl, eC, e, _⟩ := r
    have m := PySem.mem_of_lookup (show p.o.lookup k = some C from eC)
    unfold kv at ht
    rw [T.nob _ m, show p.o.lookup k = some C from eC] at ht
    cases ht
    have O := T.own _ m
    exact .inl (.base (.ins e O.cl O.ha O.hn O.ht O.hm))
  case exc d fs =>
    cases fs with
    | cons _ _ => cases hk
    | nil =>
      cases hk
      unfold Rep at r
      obtain ⟨q, C, dd, us, rfl, eC, e, hd, hf⟩ := r
      unfold RepF at hf
      subst hf
      have m := PySem.mem_of_lookup (show p.x.lookup k = some C from eC)
      unfold kv at ht
      rw [(T.nox _ m).1, (T.nox _ m).2, show p.x.lookup k = some C from eC] at ht
      cases ht
      cases dd with
      | some z => exact (hd.2 rfl).elim
      | none => exact .inr ⟨q, C, rfl, e, T.exc _ m, rfl⟩
theorem isa_of (T : TyF F p) : ∀ x c b, isP (F.G 0) x c = some b → ∃ u, p.cls.lookup c = some u ∧ ∀ v H Q, Rep p.ca H v x → Q (.bl b) H → isiR p.K v u H Q := fun x c b h => by
  obtain ⟨k, l, hk, h1, h2⟩ := isP_kind h
  obtain ⟨u, uv, t, e1, e2, e3, e4⟩ := T.row (k, l) h1 (c, b) h2
  refine ⟨u, e1, fun v H Q r q => ?_⟩
  rcases kind_ty T hk e3 r with ty | ⟨a, D, rfl, ha, C, rfl⟩
  · exact .inl ⟨v, u, t, uv, b, rfl, e2, ty, e4, q⟩
  · exact .inr ⟨a, D, uv, b, rfl, ha, C, e2, e4, q⟩
/-- several classes -/
theorem isPs_all (T : TyF F p) {x : PV} : ∀ {cs : List Str} {b : Bool}, isPs (F.G 0) x cs = some b → ∃ us uvs k t, cs.mapM (fun x => p.cls.lookup x) = some us ∧ Paired ClsV us uvs ∧ kindN x = some k ∧ kv p k = some t ∧ PySem.W.kitAny p.K t uvs = some b
  | [], b, h => by cases h
  | [c], b, h => by
    obtain ⟨k, l, hk, m1, m2⟩ := isP_kind (show isP (F.G 0) x c = some b from h)
    obtain ⟨u, uv, t, e1, e2, e3, e4⟩ := T.row (k, l) m1 (c, b) m2
    refine ⟨[u], [uv], k, t, ?_, .cons e2 .nil, hk, e3, kitAny_cons e4 (fun z => ?_) fun z => z⟩
    · rw [List.mapM_cons, e1]; rfl
    · rw [show b = false from z]; rfl
  | c :: c2 :: cs, b, h => by
    replace h : ((isP (F.G 0) x c).bind fun b => (isPs (F.G 0) x (c2 :: cs)).map fun d => b || d) = some b := h
    obtain ⟨b1, h1, h⟩ := Option.bind_eq_some_iff.mp h
    obtain ⟨b2, h2, rfl⟩ := Option.map_eq_some_iff.mp h
    obtain ⟨k, l, hk, m1, m2⟩ := isP_kind h1
    obtain ⟨u, uv, t, e1, e2, e3, e4⟩ := T.row (k, l) m1 (c, b1) m2
    obtain ⟨us, uvs, k', t', a1, a2, a3, a4, a5⟩ := isPs_all T h2
    rw [hk] at a3
    cases a3
    have e3 : kv p k = some t := e3
    rw [e3] at a4
    cases a4
    refine ⟨u :: us, uv :: uvs, k, t, ?_, .cons e2 a2, hk, e3, ?_⟩
    · rw [List.mapM_cons, e1, a1]; rfl
    · exact kitAny_cons e4 (fun z => by rw [show b1 = false from z, Bool.false_or]; exact a5) fun z => by rw [show b1 = true from z]; rfl
theorem isT_of (T : TyF F p) : ∀ x cs b, isPs (F.G 0) x cs = some b → ∃ us, cs.mapM (fun x => p.cls.lookup x) = some us ∧ ∀ v q H Q, Rep p.ca H v x → H q = some (.tup us) → Q (.bl b) H → isiTR p.K v q us H Q := fun x cs b h => by
  obtain ⟨us, uvs, k, t, e1, e2, hk, e3, e4⟩ := isPs_all T h
  refine ⟨us, e1, fun v q H Q r ht hq => ?_⟩
  rcases kind_ty T hk e3 r with ty | ⟨a, D, rfl, ha, C, rfl⟩
  · exact .inl ⟨v, q, us, t, uvs, b, rfl, ht, e2, ty, e4, hq⟩
  · exact .inr ⟨a, D, uvs, b, rfl, ha, C, e2, ht, e4, hq⟩
theorem tr_of (T : TyF F p) : ∀ C, C ∈ F.tr → ∃ c, p.cls.lookup C = some (.ref c) ∧ ∀ e b cls d S H, isP (F.G 0) e C = some b → ExRep p.ca S H cls d e → PySem.W.exmOne p.K cls (.ref c) = some b := fun C hC => by
  obtain ⟨c, ec⟩ := T.trc C hC
  refine ⟨c, ec, fun e b cls d S H h x => ?_⟩
  obtain ⟨k, l, hk, m1, m2⟩ := isP_kind h
  cases e with
  | exc k0 fs =>
    cases fs with
    | cons _ _ => cases hk
    | nil =>
      cases hk
      obtain ⟨D, h1, rfl, _⟩ := x
      exact T.exm (k, l) m1 (C, b) m2 hC D h1 c ec
  | _ => exact (show False from x).elim
end
end Vc

set_option Elab.async false
set_option linter.all false
set_option maxRecDepth 100000
set_option maxHeartbeats 1000000
namespace Vc
open PySem PySem.Spec PyProof.Rows L2
/-! ### a law's row put together -/
theorem df_at {K : PySem.W.Frag} {sg : Sg} {x : Str} {st : Stmt} {D : Df} {N ps : List Str} (A : FunAt K x st) (S : FnScope N ps (defScope st)) (c : ckSs N (defScope st) D.b (defBody st) = true) (b : ∀ (f : Addr) (fd : FuncData), Fun K x x st f fd → L2.Binds K fd ps [])
    (hl : ps.length = D.ps.length) (hN : N.length = D.n) (le : D.ps.length ≤ D.n) (mu : noMu D.ps = true) (ck : (ckTs' sg D.own D.b (startTags D.ps D.n)).isSome = true) : ∃ f, PySem.W.nsIn K mainGlobals x = some (some (.ref f)) ∧ DfOk K sg x x f D := by
  obtain ⟨f, fd, a, F⟩ := A
  exact ⟨f, a, ⟨⟨st, fd, N, ps, F, S, c, b f fd F, hl, hN⟩, le, mu, ck⟩⟩
theorem free_mk {K : PySem.W.Frag} (z0 : PySem.W.nsIn K mainGlobals "len" = some none) (z1 : PySem.W.nsIn K mainGlobals "str" = some none) (z2 : PySem.W.nsIn K mainGlobals "int" = some none) (z3 : PySem.W.nsIn K mainGlobals "abs" = some none) (z4 : PySem.W.nsIn K mainGlobals "max" = some none)
    (z5 : PySem.W.nsIn K mainGlobals "min" = some none) (z6 : PySem.W.nsIn K mainGlobals "divmod" = some none) (z7 : PySem.W.nsIn K mainGlobals "any" = some none) (z8 : PySem.W.nsIn K mainGlobals "list" = some none) (z9 : PySem.W.nsIn K mainGlobals "dict" = some none)
    (z10 : PySem.W.nsIn K mainGlobals "sorted" = some none) (z11 : PySem.W.nsIn K mainGlobals "tuple" = some none) (z12 : PySem.W.nsIn K mainGlobals "isinstance" = some none) (z13 : PySem.W.nsIn K mainGlobals "range" = some none) : freeB K :=
  ⟨fun b => match b with
    | .len => z0 | .str => z1 | .int => z2 | .abs => z3 | .max => z4 | .min => z5 | .divmod => z6 | .any => z7 | .list => z8 | .dict => z9 | .sorted => z10 | .tuple => z11, z12, z13⟩
section
variable {F : Fam} {p : Pl}
theorem fix_mk (T : TyF F p) (gl : ∀ q ∈ F.gl, (scalV q.2).isSome = true) (inj : ∀ q ∈ p.o, p.o.find? (fun r => r.2 == q.2) = some q) (ms : ∀ q ∈ F.mts, ∀ r ∈ q.2, F.ms.lookup r.1 = some (r.2.ps, r.2.own)) (ini : ∀ q ∈ F.ini, (p.o.lookup q.1).isSome = true)
    (fld : ∀ q ∈ p.o, ∀ f ∈ F.fs, Cls p.K q.2 ∧ NoAttr p.K q.2 f) (exc : ∀ C ∈ F.exc, (p.x.lookup C).isSome = true) : Fix F p := ⟨gl, inj, ms, ini, fld, exc, isa_of T, isT_of T, tr_of T⟩
theorem fn_lv {x : Str} {D : Df} {d : Nat} (e : F.fns.lookup x = some D) : (F.G (d + 1)).fn x = some ⟨D.ps, D.own, defP (F.G d) D.ps D.n D.b⟩ := by
  show (F.fns.lookup x).map (fun D => (⟨D.ps, D.own, (F.lv (d + 1)).1 x⟩ : PFn)) = _
  rw [lv_fn e, e]
  rfl
theorem mt_lv {c m : Str} {D : Df} {d : Nat} (e : F.mtd c m = some D) : (F.G (d + 1)).mt c m = some (defP (F.G d) D.ps D.n D.b) := by
  show (F.mtd c m).map (fun _ => (F.lv (d + 1)).2 c m) = _
  rw [lv_mt e, e]
  rfl
end
/-! ### own classes -/
theorem own_mk {K : PySem.W.Frag} {C : Addr} (a : PySem.W.plainGet K C Str.empty = true) (b : PySem.W.hasDictIn K C = true) (c : PySem.W.plainOver K C = true) (d : PySem.W.findIn K (.ref C) "__setattr__" = some (some (.builtin "object.__setattr__")))
    (ha : PySem.W.findIn K (.ref C) "__class__" = some (some (.builtin "object.__class__"))) (hn : PySem.W.specialIn K (.builtin "object.__class__") "__get__" = some (some (.builtin "getset_descriptor.__get__")))
    (ht : PySem.W.takesIn K (.builtin "object.__class__") = some true) (hm : PySem.W.mroIn K C (.type "object") = some true) : OwnC K C := ⟨⟨a, b, c, d⟩, ha, hn, ht, hm⟩
def MethAt (K : PySem.W.Frag) (C : Addr) (m qual : Str) (st : Stmt) : Prop := ∃ (g : Addr) (fd : FuncData), Meth K C m g ∧ Fun K m qual st g fd
def InitAt (K : PySem.W.Frag) (C : Addr) (qual : Str) (st : Stmt) : Prop := ∃ (g : Addr) (fd : FuncData), Mk K C g ∧ Fun K "__init__" qual st g fd
theorem meth_at {K : PySem.W.Frag} {C : Addr} {m qual : Str} {st : Stmt} {f : Addr} {oc : Value} {od an : Option Addr} {osl : Array (Option Value)} {kV doc pm cdv ct : Value} (a : PySem.W.findIn K (.ref C) m = some (some (.ref f))) (b : PySem.W.isFn K (.ref f) = true)
    (l : K.lookup f = some ⟨oc, od, .func (PySem.W.fnOf m qual (defArgs st) (defBody st) (defScope st) .none kV doc pm an cdv ct), osl⟩)
    (c : PySem.W.codeIn K cdv qual = true) (k : PySem.W.keepIn K (.ref f) = true) : MethAt K C m qual st := ⟨f, _, ⟨a, b, k⟩, fun_mk l c k⟩
theorem init_at {K : PySem.W.Frag} {C : Addr} {qual : Str} {st : Stmt} {f : Addr} {oc : Value} {od an : Option Addr} {osl : Array (Option Value)} {kV doc pm cdv ct : Value} (z : PySem.W.makesIn K C = true) (a : PySem.W.findIn K (.ref C) "__init__" = some (some (.ref f))) (b : PySem.W.isFn K (.ref f) = true)
    (y : PySem.W.keepIn K (.ref C) = true)
    (l : K.lookup f = some ⟨oc, od, .func (PySem.W.fnOf "__init__" qual (defArgs st) (defBody st) (defScope st) .none kV doc pm an cdv ct), osl⟩)
    (c : PySem.W.codeIn K cdv qual = true) (k : PySem.W.keepIn K (.ref f) = true) : InitAt K C qual st := ⟨f, _, ⟨z, a, b, y⟩, fun_mk l c k⟩
theorem mt_at {K : PySem.W.Frag} {sg : Sg} {C : Addr} {m qual : Str} {st : Stmt} {D : Df} {N ps : List Str} (A : MethAt K C m qual st) (S : FnScope N ps (defScope st)) (c : ckSs N (defScope st) D.b (defBody st) = true) (b : ∀ (f : Addr) (fd : FuncData), Fun K m qual st f fd → L2.Binds K fd ps [])
    (hl : ps.length = D.ps.length) (hN : N.length = D.n) (le : D.ps.length ≤ D.n) (mu : noMu D.ps = true) (ck : (ckTs' sg D.own D.b (startTags D.ps D.n)).isSome = true) : ∃ g x qual, Meth K C m g ∧ DfOk K sg x qual g D := by
  obtain ⟨f, fd, a, F⟩ := A
  exact ⟨f, m, qual, a, ⟨⟨st, fd, N, ps, F, S, c, b f fd F, hl, hN⟩, le, mu, ck⟩⟩
theorem in_at {K : PySem.W.Frag} {C : Addr} {qual : Str} {st : Stmt} {fs : List Str} {N ps : List Str} (A : InitAt K C qual st) (S : FnScope N ps (defScope st)) (c : ckSs N (defScope st) (iniB fs 1) (defBody st) = true) (b : ∀ (f : Addr) (fd : FuncData), Fun K "__init__" qual st f fd → L2.Binds K fd ps [])
    (hl : ps.length = fs.length + 1) (few : fs.length < 1000) (nd : fs.Nodup) : InOk K fs C := by
  obtain ⟨f, fd, a, F⟩ := A
  exact ⟨⟨f, "__init__", qual, st, fd, N, ps, a, F, S, c, b f fd F, hl⟩, few, nd⟩
/-- a class told by isinstance -/
theorem kit_rr {K : PySem.W.Frag} {D C : Addr} {b : Bool} (hd : PySem.W.hasDictIn K C = true) (ht : PySem.W.typeIn K (.ref C) = some (.type "type")) (h : PySem.W.subIn K (.ref D) (.ref C) = some b) (n : b = false → D ≠ C) :
    PySem.W.kitOne K (.ref D) (.ref C) = some b := by
  have hc : (PySem.W.clsIn K C).isSome = true := by
    cases e : PySem.W.clsIn K C with
    | some _ => rfl
    | none =>
      unfold PySem.W.hasDictIn at hd
      rw [e] at hd
      exact nomatch hd
  unfold PySem.W.kitOne
  split
  · rename_i e
    cases b with
    | true => rfl
    | false => exact (n rfl (Value.ref.inj (eq_of_beq e))).elim
  · show (if ((PySem.W.clsIn K C).isSome && PySem.W.typeIn K (Value.ref C) == some (Value.type "type")) = true then PySem.W.subIn K (Value.ref D) (Value.ref C) else none) = _
    rw [hc, ht]
    exact (if_pos rfl).trans h
theorem kit_rt {K : PySem.W.Frag} {D : Addr} {T : String} {b : Bool} (m : PySem.W.kitMeta T = true) (h : PySem.W.subIn K (.ref D) (.type T) = some b) : PySem.W.kitOne K (.ref D) (.type T) = some b := by
  unfold PySem.W.kitOne
  split
  · rename_i e
    exact nomatch (eq_of_beq e)
  · show (if PySem.W.kitMeta T = true then _ else _) = _
    rw [if_pos m]
    exact h
end Vc

set_option Elab.async false
set_option linter.all false
set_option maxRecDepth 100000
set_option maxHeartbeats 1000000
namespace Vc
open PySem PySem.Spec PyProof.Rows L2
/-! ### stepping through a tree by values -/
theorem opt_some {α : Type} {x : α} {env : Env} : opt (some x) env = .ok x env := rfl
theorem opt_none {α : Type} {env : Env} : opt (none : Option α) env = .bad := rfl
theorem map_some' {α β : Type} {f : α → β} {x : α} : Option.map f (some x) = some (f x) := rfl
theorem bind_some' {α β : Type} {f : α → Option β} {x : α} : Option.bind (some x) f = f x := rfl
theorem noEx_ok {α : Type} {x : α} {env : Env} : noEx (.ok x env) = .ok x env := rfl
/- not by rfl alone: else simp leaves the step to the kernel, which counts to 2^64 -/
theorem op_addi {i j : Int} : opP .Add (.int i) (.int j) = some (.int (i + j)) := Eq.trans rfl rfl
theorem op_subi {i j : Int} : opP .Sub (.int i) (.int j) = some (.int (i - j)) := Eq.trans rfl rfl
theorem op_muli {i j : Int} : opP .Mult (.int i) (.int j) = grd (mulOk i j) (.int (i * j)) := Eq.trans rfl rfl
theorem op_divi {i j : Int} : opP .FloorDiv (.int i) (.int j) = grd (0 < j ∧ j < 1073741824) (.int (i / j)) := Eq.trans rfl rfl
theorem op_modi {i j : Int} : opP .Mod (.int i) (.int j) = grd (0 < j) (.int (i % j)) := Eq.trans rfl rfl
theorem op_powi {i j : Int} : opP .Pow (.int i) (.int j) = grd (0 ≤ j ∧ j ≤ 1000000 ∧ i.natAbs < 2 ^ 64) (.int (i ^ j.toNat)) := Eq.trans rfl rfl
theorem eqG_ii {i j : Int} : eqG (.int i) (.int j) = true := rfl
theorem c_eqi {i j : Int} : cmpP .Eq (.int i) (.int j) = some (decide (i = j)) := Eq.trans rfl rfl
theorem c_nei {i j : Int} : cmpP .NotEq (.int i) (.int j) = some (!decide (i = j)) := Eq.trans rfl rfl
theorem c_lti {i j : Int} : cmpP .Lt (.int i) (.int j) = some (decide (i < j)) := Eq.trans rfl rfl
theorem c_lei {i j : Int} : cmpP .LtE (.int i) (.int j) = some (decide (i ≤ j)) := Eq.trans rfl rfl
theorem c_gti {i j : Int} : cmpP .Gt (.int i) (.int j) = some (decide (j < i)) := Eq.trans rfl rfl
theorem c_gei {i j : Int} : cmpP .GtE (.int i) (.int j) = some (decide (j ≤ i)) := Eq.trans rfl rfl
def isNon : PV → Bool
  | .non => true
  | _ => false
theorem c_isn {x : PV} : cmpP .Is x .non = some (isNon x) := by cases x <;> rfl
theorem c_ntn {x : PV} : cmpP .IsNot x .non = some (!isNon x) := by cases x <;> rfl
theorem tru_bl {b : Bool} : truP (.bl b) = some b := rfl
theorem tru_int {i : Int} : truP (.int i) = some (i != 0) := Eq.trans rfl rfl
theorem tru_non : truP .non = some false := rfl
theorem bi_leni {xs : List PV} : biP .len [.lst xs] = some (.int xs.length) := rfl
theorem bi_lent {xs : List PV} : biP .len [.tup xs] = some (.int xs.length) := rfl
theorem bi_lend {xs : List (Key × PV)} : biP .len [.dic xs] = some (.int xs.length) := rfl
theorem bi_absi {i : Int} : biP .abs [.int i] = some (.int (if i < 0 then -i else i)) := Eq.trans rfl rfl
theorem bi_inti {i : Int} : biP .int [.int i] = some (.int i) := rfl
theorem bi_intb {b : Bool} : biP .int [.bl b] = some (.int (if b then 1 else 0)) := rfl
theorem sz0 {v : PV} {i : Decidable (([] : List PV).length ≤ sizeLine)} : @grd PV (([] : List PV).length ≤ sizeLine) i v = some v := grd_pos (Nat.zero_le _)
theorem szN {n : Nat} (h : n ≤ 9) : n ≤ sizeLine := by rw [sizeLine_eq]; omega
theorem ix_dic {kvs : List (Key × PV)} {s : Str} : ixP (.dic kvs) (.str s) = dget kvs (.inr s) := rfl
theorem c_ind {kvs : List (Key × PV)} {s : Str} : cmpP .In (.str s) (.dic kvs) = some (dget kvs (.inr s)).isSome := rfl
theorem c_nid {kvs : List (Key × PV)} {s : Str} : cmpP .NotIn (.str s) (.dic kvs) = some (!(dget kvs (.inr s)).isSome) := rfl
theorem key_s {s : Str} : keyP (.str s) = some (.inr s) := rfl
theorem key_i {i : Int} : keyP (.int i) = some (.inl i) := rfl
theorem bi_dict {kvs : List (Key × PV)} : biP .dict [.dic kvs] = some (.dic kvs) := rfl
theorem at0 {x y : PV} : ixP (.lst [x, y]) (.int 0) = some x := rfl
theorem at1 {x y : PV} : ixP (.lst [x, y]) (.int 1) = some y := rfl
theorem isNon_int {i : Int} : isNon (.int i) = false := rfl
theorem isNon_non : isNon .non = true := rfl
theorem some_some {α : Type} {x : α} : (some x).isSome = true := rfl
theorem none_some {α : Type} : (none : Option α).isSome = false := rfl
theorem isM_app : isMut .append = true := rfl
theorem isM_pop : isMut .pop = true := rfl
theorem isM_ext : isMut .extend = true := rfl
theorem isM_clr : isMut .clear = true := rfl
theorem isM_join : isMut .join = false := rfl
theorem isM_split : isMut .split = false := rfl
theorem isM_part : isMut .partition = false := rfl
theorem isM_zf : isMut .zfill = false := rfl
theorem isM_idx : isMut .index = false := rfl
theorem isM_get : isMut .get = false := rfl
theorem isM_cnt : isMut .count = false := rfl
theorem mK_app {xs : List PV} : mutK .append (.lst xs) = true := rfl
theorem mK_pop {xs : List PV} : mutK .pop (.lst xs) = true := rfl
theorem mK_ext {xs : List PV} : mutK .extend (.lst xs) = true := rfl
theorem mK_clr {xs : List PV} : mutK .clear (.lst xs) = true := rfl
theorem mK_clrd {xs : List (Key × PV)} : mutK .clear (.dic xs) = true := rfl
theorem bK_split {s : Str} : bmK .split (.str s) = true := rfl
theorem bK_part {s : Str} : bmK .partition (.str s) = true := rfl
theorem bK_join {s : Str} : bmK .join (.str s) = true := rfl
theorem bK_zf {s : Str} : bmK .zfill (.str s) = true := rfl
theorem bK_idx {s : Str} : bmK .index (.str s) = true := rfl
theorem bK_cnt {xs : List PV} : bmK .count (.lst xs) = true := rfl
theorem bK_get {xs : List (Key × PV)} : bmK .get (.dic xs) = true := rfl
theorem mut_app {xs : List PV} {y : PV} : mutP .append (.lst xs) [y] = grd (xs.length < sizeLine) (.non, .lst (xs ++ [y])) := rfl
theorem mut_pop {xs : List PV} {y : PV} : mutP .pop (.lst (xs ++ [y])) [] = some (y, .lst xs) := by
  show (((xs ++ [y])[(xs ++ [y]).length - 1]?).map fun z => (z, PV.lst (xs ++ [y]).dropLast)) = _
  rw [List.dropLast_concat, List.length_append, List.length_singleton, Nat.add_sub_cancel, List.getElem?_append_right (Nat.le_refl _), Nat.sub_self]
  rfl
theorem c_eqs {s t : Str} : cmpP .Eq (.str s) (.str t) = some (s == t) := Eq.trans rfl rfl
theorem c_nes {s t : Str} : cmpP .NotEq (.str s) (.str t) = some (!(s == t)) := Eq.trans rfl rfl
theorem tu1 {x : PV} : ixP (.tup [x]) (.int 0) = some x := rfl
theorem tu20 {x y : PV} : ixP (.tup [x, y]) (.int 0) = some x := rfl
theorem tu21 {x y : PV} : ixP (.tup [x, y]) (.int 1) = some y := rfl
theorem tu30 {x y z : PV} : ixP (.tup [x, y, z]) (.int 0) = some x := rfl
theorem tu31 {x y z : PV} : ixP (.tup [x, y, z]) (.int 1) = some y := rfl
theorem tu32 {x y z : PV} : ixP (.tup [x, y, z]) (.int 2) = some z := rfl
theorem ini0 {C : Str} : iniR C [] [] = .ok (.obj C []) [] := rfl
theorem ini2 {C f g : Str} {x y : PV} : iniR C [f, g] [x, y] = .ok (.obj C [(f, x), (g, y)]) [] := rfl
theorem try_ok {o : PV → Option Bool} {n : Option Nat} {h : Env → Rs Fl} {f : Fl} {env : Env} : tryP o n h (.ok f env) = .ok f env := rfl
theorem tp2 {x y : PV} {i j : Nat} {α : Type} {w : α} {d : Decidable ([x, y].length = [i, j].length)} : @grd α ([x, y].length = [i, j].length) d w = some w := grd_pos rfl
theorem tp3 {x y z : PV} {i j k : Nat} {α : Type} {w : α} {d : Decidable ([x, y, z].length = [i, j, k].length)} : @grd α ([x, y, z].length = [i, j, k].length) d w = some w := grd_pos rfl
theorem szN12 : (12 : Nat) ≤ sizeLine := by rw [sizeLine_eq]; omega
theorem sz1 {a v : PV} {i : Decidable ([a].length ≤ sizeLine)} : @grd PV ([a].length ≤ sizeLine) i v = some v := grd_pos (szN (by simp))
theorem sz2 {a b v : PV} {i : Decidable ([a, b].length ≤ sizeLine)} : @grd PV ([a, b].length ≤ sizeLine) i v = some v := grd_pos (szN (by simp))
theorem sz3 {a b c v : PV} {i : Decidable ([a, b, c].length ≤ sizeLine)} : @grd PV ([a, b, c].length ≤ sizeLine) i v = some v := grd_pos (szN (by simp))
theorem sz4 {a b c d v : PV} {i : Decidable ([a, b, c, d].length ≤ sizeLine)} : @grd PV ([a, b, c, d].length ≤ sizeLine) i v = some v := grd_pos (szN (by simp))
theorem sz5 {a b c d e v : PV} {i : Decidable ([a, b, c, d, e].length ≤ sizeLine)} : @grd PV ([a, b, c, d, e].length ≤ sizeLine) i v = some v := grd_pos (szN (by simp))
theorem run_set {G : PGm} {env : Env} {i : Nat} {e : Ex} : run G (.set i e) env = (ev G e env).bind fun x env => .ok .nx (env.set i (some x)) := rfl
theorem run_unp {G : PGm} {env : Env} {is : List Nat} {e : Ex} : run G (.unp is e) env = (ev G e env).bind fun x env => (opt (tgP (.tp is) x env) env).bind fun env' _ => .ok .nx env' := rfl
theorem run_ex {G : PGm} {env : Env} {e : Ex} : run G (.ex e) env = (ev G e env).bind fun _ env => .ok .nx env := rfl
theorem run_ifs {G : PGm} {env : Env} {c : Ex} {a b : Sts} : run G (.ifs c a b) env = (evT G c env).bind fun k env => if k = true then runs G a env else runs G b env := rfl
theorem run_fors {G : PGm} {env : Env} {t : Tg} {s : Src} {b : Sts} : run G (.fors t s b) env = (evSrc G s env).bind fun items env => forP (fun x env => (opt (tgP t x env) env).bind fun env1 _ => runs G b env1) items env := rfl
theorem run_whl {G : PGm} {env : Env} {c : Ex} {b : Sts} : run G (.whl c b) env = whlP (evT G c) (runs G b) G.fuel env := rfl
theorem run_ret {G : PGm} {env : Env} {e : Ex} : run G (.ret e) env = (ev G e env).bind fun x env => .ok (.ret x) env := rfl
theorem run_retn {G : PGm} {env : Env}  : run G (.retn ) env = .ok (.ret .non) env := rfl
theorem run_raise {G : PGm} {env : Env} {C m : Str} : run G (.raise C m) env = (match G.exc C with
      | some none => .ex (.exc C []) env
      | _ => .bad) := rfl
theorem run_pass {G : PGm} {env : Env}  : run G (.pass ) env = .ok .nx env := rfl
theorem run_tr {G : PGm} {env : Env} {b : Sts} {C : Str} {n : Option Nat} {h : Sts} : run G (.tr b C n h) env = tryP (fun e => isP G e C) n (runs G h) (runs G b env) := rfl
def dicP : PV → Option (List (Key × PV))
  | .dic kvs => some kvs
  | _ => none
theorem dicP_dic {kvs : List (Key × PV)} : dicP (.dic kvs) = some kvs := rfl
theorem run_sub {G : PGm} {env : Env} {a i v : Ex} : run G (.sub a i v) env = (opt (lvOf a) env).bind fun l env => (ev G v env).bind fun y env => (opt (getL env l) env).bind fun _ env => (ev G i env).bind fun k env => (opt (getL env l) env).bind fun x env =>
    (opt (dicP x) env).bind fun kvs env => (opt (keyP k) env).bind fun k env => (opt (grd (kvs.length < sizeLine) ()) env).bind fun _ env => (opt (setL env l (.dic (dput kvs k y))) env).bind fun env' _ => .ok .nx env' := by
  show (match lvOf a with
      | some l => _
      | none => _) = _
  cases lvOf a with
  | none => rfl
  | some l =>
    show Rs.bind _ _ = Rs.bind _ _
    congr 1
    funext y env
    congr 1
    funext _ env
    congr 1
    funext k env
    congr 1
    funext x env
    cases x with
    | dic kvs =>
      show (match keyP k with
        | some k => _
        | none => _) = _
      cases keyP k with
      | none => rfl
      | some k =>
        show (if kvs.length < sizeLine then _ else _) = (opt (grd (kvs.length < sizeLine) ()) env).bind _
        by_cases h : kvs.length < sizeLine
        · rw [if_pos h, grd_pos h]; rfl
        · rw [if_neg h, show grd (kvs.length < sizeLine) () = none from if_neg h]; rfl
    | _ => rfl
theorem run_lock {G : PGm} {env : Env} {s : St} : run G (.lock s) env = noEx (run G s env) := rfl
theorem run_setlc {G : PGm} {env : Env} {i : Nat} {t : Tg} {s : Src} {c : OEx} {e : Ex} {own : List (Str × Nat)} : run G (.setlc i t s c e own) env = (ev G (.lc t s c e own) env).bind fun x env => .ok .nx (env.set i (some x)) := rfl
theorem run_sfld {G : PGm} {env : Env} {o : Ex} {f : Str} {e : Ex} : run G (.sfld o f e) env = (match o with
      | .v i => (ev G e env).bind fun y env => match getS env i with
          | some (.obj c fs) => .ok .nx (env.set i (some (.obj c (fs ++ [(f, y)]))))
          | _ => .bad
      | _ => .bad) := rfl
theorem run_raise1 {G : PGm} {env : Env} {C : Str} {e : Ex} : run G (.raise1 C e) env = (ev G e env).bind fun x env => match G.exc C with
      | some (some f) => .ex (.exc C [(f, x)]) env
      | _ => .bad := rfl
theorem runs_nil {G : PGm} {env : Env} : runs G .nil env = .ok .nx env := rfl
theorem runs_cons {G : PGm} {env : Env} {s : St} {r : Sts} : runs G (.cons s r) env = (run G s env).bind fun f env => match f with
      | .nx => runs G r env
      | .ret y => .ok (.ret y) env := rfl
section
variable {α : Type} {x y : PV} {o o' : Option PV} {r env env' : Env} {n i : Nat} {c f : Str} {fs : List (Str × PV)} {p : List Str} {xs ms : List PV} {e : Ex} {es : Exs} {ps : List Pm} {is : List Nat}
theorem getS_z : getS (o :: r) 0 = o := rfl
theorem getS_s : getS (o :: r) (n + 1) = getS r n := rfl
theorem set_z : List.set (o :: r) 0 o' = o' :: r := rfl
theorem set_s : List.set (o :: r) (n + 1) o' = o :: List.set r n o' := rfl
theorem tg_nm : tgP (.nm i) x env = some (env.set i (some x)) := rfl
theorem tg_lst : tgP (.tp is) (.lst xs) env = grd (xs.length = is.length) (setAllP env is xs) := rfl
theorem tg_tup : tgP (.tp is) (.tup xs) env = grd (xs.length = is.length) (setAllP env is xs) := rfl
theorem sa_n : setAllP env [] [] = env := rfl
theorem sa_c : setAllP env (i :: is) (x :: xs) = setAllP (env.set i (some x)) is xs := rfl
theorem lv_v : lvOf (.v i) = some (i, []) := rfl
theorem lv_f : lvOf (.fld e f) = (lvOf e).map fun p => (p.1, p.2 ++ [f]) := rfl
theorem getL_p : getL env (i, p) = (getS env i).bind fun x => getP x p := rfl
theorem getP_n : getP x [] = some x := by cases x <;> rfl
theorem getP_c : getP (.obj c fs) (f :: p) = (fs.lookup f).bind fun y => getP y p := rfl
theorem setP_n : setP x [] y = some y := by cases x <;> rfl
theorem setL_p : setL env (i, p) y = (getS env i).bind fun x => (setP x p y).map fun z => env.set i (some z) := rfl
theorem call_ok : callP (.ok x ms) ps es env = (opt (wb ps es ms env) env).bind fun env' _ => .ok x env' := rfl
theorem call_ex : callP (.ex x ms) ps es env = (opt (wb ps es ms env) env).bind fun env' _ => .ex x env' := rfl
theorem wb_sh : wb (.sh :: ps) (.cons e es) ms env = wb ps es ms env := rfl
theorem wb_bw : wb (.bw :: ps) (.cons e es) ms env = wb ps es ms env := rfl
theorem wb_n : wb [] .nil [] env = some env := rfl
theorem b_1 : (false = true) = False := by simp
theorem b_1' : (true = false) = False := by simp
theorem b_1'' : (true = true) = True := by simp
theorem b_2 : (!true) = false := rfl
theorem b_3 : (!false) = true := rfl
theorem b_4 {a : Prop} [Decidable a] {x : α} : (if a then x else x) = x := by simp
theorem b_5 {h : Decidable True} : @decide True h = true := by simp
theorem b_6 {h : Decidable False} : @decide False h = false := by simp
theorem b_7 {a : Prop} : (a ∧ a) = a := by simp
theorem b_8 {a : Prop} : (a ∧ True) = a := by simp
theorem b_9 {a : Prop} : (True ∧ a) = a := by simp
theorem b_10 : (¬ False) = True := by simp
theorem b_11 : (¬ True) = False := by simp
end
/-! loops -/
theorem for_ix {turn : PV → Env → Rs Fl} (I : Nat → Env → Prop) : ∀ (items : List PV) (k : Nat) (env : Env), I k env → (∀ i x env, items[i]? = some x → I (k + i) env → ∃ env', turn x env = .ok .nx env' ∧ I (k + i + 1) env') →
    ∃ env', forP turn items env = .ok .nx env' ∧ I (k + items.length) env'
  | [], k, env, h0, h => ⟨env, rfl, h0⟩
  | x :: r, k, env, h0, h => by
    obtain ⟨e1, h1, h2⟩ := h 0 x env rfl h0
    obtain ⟨e2, h3, h4⟩ := for_ix I r (k + 1) e1 h2 (fun i y env hy hi => by
      have := h (i + 1) y env hy (by rw [show k + (i + 1) = k + 1 + i by omega]; exact hi)
      rw [show k + (i + 1) + 1 = k + 1 + i + 1 by omega] at this
      exact this)
    refine ⟨e2, ?_, ?_⟩
    · unfold forP; rw [h1]; exact h3
    · rw [List.length_cons, show k + (r.length + 1) = k + 1 + r.length by omega]; exact h4
/-- a loop that may tell an answer -/
theorem for_two {turn : PV → Env → Rs Fl} (I : Nat → Env → Prop) (R : Nat → PV → Env → Prop) : ∀ (items : List PV) (k : Nat) (env : Env), I k env →
    (∀ i x env, items[i]? = some x → I (k + i) env → (∃ env', turn x env = .ok .nx env' ∧ I (k + i + 1) env') ∨ ∃ r env', turn x env = .ok (.ret r) env' ∧ R (k + i) r env') →
    (∃ env', forP turn items env = .ok .nx env' ∧ I (k + items.length) env') ∨ ∃ i r env', i < items.length ∧ forP turn items env = .ok (.ret r) env' ∧ R (k + i) r env'
  | [], k, env, h0, h => .inl ⟨env, rfl, h0⟩
  | x :: r, k, env, h0, h => by
    rcases h 0 x env rfl h0 with ⟨e1, h1, h2⟩ | ⟨y, e1, h1, h2⟩
    · rcases for_two I R r (k + 1) e1 h2 (fun i y env hy hi => by
        have := h (i + 1) y env hy (by rw [show k + (i + 1) = k + 1 + i by omega]; exact hi)
        rw [show k + (i + 1) + 1 = k + 1 + i + 1 by omega, show k + (i + 1) = k + 1 + i by omega] at this
        exact this) with ⟨e2, h3, h4⟩ | ⟨i, y, e2, hi, h3, h4⟩
      · refine .inl ⟨e2, ?_, ?_⟩
        · unfold forP; rw [h1]; exact h3
        · rw [List.length_cons, show k + (r.length + 1) = k + 1 + r.length by omega]; exact h4
      · refine .inr ⟨i + 1, y, e2, by simp; omega, ?_, ?_⟩
        · unfold forP; rw [h1]; exact h3
        · rw [show k + (i + 1) = k + 1 + i by omega]; exact h4
    · refine .inr ⟨0, y, e1, by simp, ?_, h2⟩
      unfold forP; rw [h1]; rfl
theorem lc_ex {turn : PV → Env → Rs (Option PV)} {env : Env} (P : PV → PV → Prop) : ∀ (items acc : List PV), (∀ x ∈ items, ∃ y, turn x env = .ok (some y) env ∧ P x y) → acc.length + items.length ≤ sizeLine →
    ∃ ys, lcP turn items acc env = .ok (.lst (acc ++ ys)) env ∧ ys.length = items.length ∧ ∀ (i : Nat) x y, items[i]? = some x → ys[i]? = some y → P x y
  | [], acc, _, _ => ⟨[], by rw [List.append_nil]; rfl, rfl, fun i x y h => by cases h⟩
  | x :: r, acc, h, hz => by
    rw [List.length_cons] at hz
    obtain ⟨y, h1, h2⟩ := h x List.mem_cons_self
    obtain ⟨ys, h3, h4, h5⟩ := lc_ex P r (acc ++ [y]) (fun z hz => h z (List.mem_cons_of_mem _ hz)) (by rw [List.length_append, List.length_singleton]; omega)
    refine ⟨y :: ys, ?_, by rw [List.length_cons, List.length_cons, h4], ?_⟩
    · unfold lcP
      rw [h1]
      show (if acc.length < sizeLine then lcP turn r (acc ++ [y]) env else .bad) = _
      rw [if_pos (by omega), h3, List.append_assoc]
      rfl
    · intro i a b ha hb
      cases i with
      | zero => cases ha; cases hb; exact h2
      | succ i => exact h5 i a b ha hb
theorem lc_fm {turn : PV → Env → Rs (Option PV)} {env : Env} (f : PV → Option PV) : ∀ (items acc : List PV), (∀ x ∈ items, turn x env = .ok (f x) env) → acc.length + items.length ≤ sizeLine →
    lcP turn items acc env = .ok (.lst (acc ++ items.filterMap f)) env
  | [], acc, _, _ => by rw [List.filterMap_nil, List.append_nil]; rfl
  | x :: r, acc, h, hz => by
    rw [List.length_cons] at hz
    have h1 := h x List.mem_cons_self
    unfold lcP
    rw [h1]
    cases e : f x with
    | none =>
      show lcP turn r acc env = _
      rw [lc_fm f r acc (fun z hz => h z (List.mem_cons_of_mem _ hz)) (by omega), List.filterMap_cons_none e]
    | some y =>
      show (if acc.length < sizeLine then lcP turn r (acc ++ [y]) env else .bad) = _
      rw [if_pos (by omega), lc_fm f r (acc ++ [y]) (fun z hz => h z (List.mem_cons_of_mem _ hz)) (by rw [List.length_append, List.length_singleton]; omega), List.filterMap_cons_some e, List.append_assoc]
      rfl
def lcT (G : PGm) (t : Tg) (c : OEx) (e : Ex) (own : List Nat) (x : PV) (env : Env) : Rs (Option PV) := (opt (tgP t x env) env).bind fun env1 _ => (evC G c env1).bind fun k env2 =>
      if k = true then (ev G e env2).bind fun y env3 => .ok (some y) (wipeP env3 own) else .ok none (wipeP env2 own)
theorem lc_evs {G : PGm} {t : Tg} {s : Src} {c : OEx} {e : Ex} {own : List (Str × Nat)} {env env' env2 : Env} {items : List PV} (P : PV → PV → Prop) (hs : evSrc G s env = .ok items env2) (hw : wipeP env2 (own.map (·.2)) = env') (hl : items.length ≤ sizeLine)
    (h : ∀ x ∈ items, ∃ y, lcT G t c e (own.map (·.2)) x env' = .ok (some y) env' ∧ P x y) :
    ∃ ys, ev G (.lc t s c e own) env = .ok (.lst ys) env' ∧ ys.length = items.length ∧ ∀ (i : Nat) x y, items[i]? = some x → ys[i]? = some y → P x y := by
  obtain ⟨ys, h1, h2, h3⟩ := lc_ex (turn := lcT G t c e (own.map (·.2))) P items [] h (by simpa using hl)
  refine ⟨ys, ?_, h2, h3⟩
  rw [ev_lc, hs]
  show lcP (lcT G t c e (own.map (·.2))) items [] (wipeP env2 (own.map (·.2))) = _
  rw [hw, h1, List.nil_append]
theorem lc_some {G : PGm} {t : Tg} {s : Src} {c : OEx} {e : Ex} {own : List (Str × Nat)} {env env' env2 : Env} {items : List PV} (f : PV → Option PV) (hs : evSrc G s env = .ok items env2) (hw : wipeP env2 (own.map (·.2)) = env') (hl : items.length ≤ sizeLine)
    (h : ∀ x ∈ items, lcT G t c e (own.map (·.2)) x env' = .ok (f x) env') :
    ev G (.lc t s c e own) env = .ok (.lst (items.filterMap f)) env' := by
  rw [ev_lc, hs]
  show lcP (lcT G t c e (own.map (·.2))) items [] (wipeP env2 (own.map (·.2))) = _
  rw [hw, lc_fm (turn := lcT G t c e (own.map (·.2))) f items [] h (by simpa using hl), List.nil_append]
theorem rng_at {n i : Nat} {x : PV} (h : ((List.range n).map fun (k : Nat) => PV.int (k : Int))[i]? = some x) : i < n ∧ x = .int (i : Int) := by
  rw [List.getElem?_map] at h
  obtain ⟨j, h1, rfl⟩ := Option.map_eq_some_iff.mp h
  have := List.getElem?_range (n := n) (i := i)
  by_cases hi : i < n
  · rw [this hi] at h1
    cases h1
    exact ⟨hi, rfl⟩
  · rw [List.getElem?_eq_none (by simpa using hi)] at h1
    cases h1
theorem rng_mem {n : Nat} {x : PV} (h : x ∈ (List.range n).map fun (k : Nat) => PV.int (k : Int)) : ∃ i : Nat, i < n ∧ x = .int (i : Int) := by
  obtain ⟨j, h1, rfl⟩ := List.mem_map.mp h
  exact ⟨j, List.mem_range.mp h1, rfl⟩
end Vc

set_option Elab.async false
set_option linter.all false
set_option maxRecDepth 100000
set_option maxHeartbeats 1000000
namespace T
open PySem Vc
def l_cell_at_1 : Sts := .cons (.ret (.ix (.v 0) (.v 1))) .nil
def l_cell_at_2 : Sts := .cons (.ret (.ki 0)) .nil
def l_cell_at_0 : Sts := .cons (.ifs (.cmp .Lt (.v 1) (.bi .len (.cons (.v 0) .nil))) l_cell_at_1 .nil) l_cell_at_2
abbrev l_cell_at_N : List Str := ["_law_script", "_law_k"]
abbrev l_cell_at_P : List Str := ["_law_script", "_law_k"]

def l_whole_0 : Sts := .cons (.ret (.and (.isi (.v 0) "int") (.not (.isi (.v 0) "bool")))) .nil
abbrev l_whole_N : List Str := ["_law_found"]
abbrev l_whole_P : List Str := ["_law_found"]

def l_name_by_6 : Sts := .cons (.set 4 (.ki 12)) .nil
def l_name_by_5 : Sts := .cons (.set 3 (.op .Add (.ki 1) (.op .Mod (.v 1) (.ki 12)))) l_name_by_6
def l_name_by_8 : Sts := .cons (.ret (.bm .join (.ks "") (.cons (.lc (.nm 7) (.rng (.ki 12)) .none (.ix (.v 2) (.op .Add (.op .Mod (.op .Add (.v 7) (.v 1)) (.ki 12)) (.op .Mod (.op .FloorDiv (.v 0) (.ki 432)) (.ki 14)))) [("_law_j", 7)]) .nil))) .nil
def l_name_by_12 : Sts := .cons (.set 6 (.op .Add (.v 6) (.ix (.v 2) (.op .Mod (.v 8) (.ki 26))))) .nil
def l_name_by_11 : Sts := .cons (.set 8 (.op .Add (.op .Add (.op .FloorDiv (.v 0) (.op .Add (.v 7) (.ki 3))) (.op .Mult (.v 7) (.v 7))) (.op .Mult (.v 1) (.bi .int (.cons (.cmp .Eq (.v 7) (.v 4)) .nil))))) l_name_by_12
def l_name_by_13 : Sts := .cons (.ret (.v 6)) .nil
def l_name_by_10 : Sts := .cons (.fors (.nm 7) (.rng (.v 3)) l_name_by_11) l_name_by_13
def l_name_by_9 : Sts := .cons (.set 6 (.ks "")) l_name_by_10
def l_name_by_7 : Sts := .cons (.ifs (.cmp .Eq (.v 5) (.ki 1)) l_name_by_8 .nil) l_name_by_9
def l_name_by_4 : Sts := .cons (.ifs (.cmp .Eq (.v 5) (.ki 0)) l_name_by_5 .nil) l_name_by_7
def l_name_by_3 : Sts := .cons (.set 5 (.op .Mod (.op .FloorDiv (.v 0) (.ki 144)) (.ki 3))) l_name_by_4
def l_name_by_2 : Sts := .cons (.set 4 (.op .Mod (.op .FloorDiv (.v 0) (.ki 12)) (.v 3))) l_name_by_3
def l_name_by_1 : Sts := .cons (.set 3 (.op .Add (.ki 1) (.op .Mod (.v 0) (.ki 12)))) l_name_by_2
def l_name_by_0 : Sts := .cons (.set 2 (.ks "abcdefghijklmnopqrstuvwxyz")) l_name_by_1
abbrev l_name_by_N : List Str := ["_law_cell", "_law_k", "_law_letters", "_law_size", "_law_at", "_law_way", "_law_name", "_law_j", "_law_place"]
abbrev l_name_by_P : List Str := ["_law_cell", "_law_k"]
end T
namespace Vc
open PySem PySem.Spec PyProof.Rows L2
local macro_rules | `(tactic| simp_arith [$xs,*]) => `(tactic| simp (maxSteps := 400000) -implicitDefEqProofs only [↓reduceIte, Int.reduceLT, Int.reduceLE, Int.reduceEq, Int.reduceNe, reduceCtorEq,
  Rs.bind_ok, Rs.bind_ex, Rs.bind_bad, evT_v, ev_v, evT_ki, ev_ki, evT_ks, ev_ks, evT_kb, ev_kb, evT_kn, ev_kn, evT_g, ev_g, evT_op, ev_op, evT_cmp, ev_cmp, evT_chain, ev_chain, 
  evT_and, ev_and, evT_or, ev_or, evT_not, ev_not, evT_neg, ev_neg, evT_ife, ev_ife, evT_call, ev_call, evT_bi, ev_bi, evT_isi, ev_isi, evT_isiT, ev_isiT, evT_bm, ev_bm, evT_ix, 
  ev_ix, evT_sl, ev_sl, evT_lst, ev_lst, evT_tup, ev_tup, evT_dict0, ev_dict0, evT_lc, evT_fld, ev_fld, evT_meth, ev_meth, evT_make, ev_make, evs_nil, evs_cons, evo_none, evo_some, 
  evC_none, evC_some, evSrc_seq, evSrc_keys, evSrc_rng, opt_some, opt_none, map_some', bind_some', noEx_ok, op_addi, op_subi, op_muli, op_divi, op_modi, c_eqi, c_nei, c_lti, c_lei, 
  c_gti, c_gei, c_isn, c_ntn, tru_bl, tru_int, tru_non, bi_leni, bi_lent, bi_lend, bi_absi, bi_inti, bi_intb, sz0, ix_dic, c_ind, c_nid, key_s, key_i, bi_dict, isNon_int, isNon_non, 
  some_some, none_some, sz1, sz2, sz3, sz4, sz5, run_set, run_unp, run_ex, run_ifs, run_fors, run_whl, run_ret, run_retn, run_raise, run_pass, run_tr, dicP_dic, run_sub, run_lock, 
  run_setlc, run_sfld, run_raise1, runs_nil, runs_cons, getS_z, getS_s, set_z, set_s, tg_nm, tg_lst, tg_tup, sa_n, sa_c, lv_v, lv_f, getL_p, getP_n, getP_c, setP_n, setL_p, call_ok, 
  call_ex, wb_sh, wb_bw, wb_n, b_1, b_1', b_1'', b_2, b_3, b_4, b_5, b_6, b_7, b_8, b_9, b_10, b_11, isM_app, isM_pop, isM_ext, isM_clr, isM_join, isM_split, isM_part, isM_zf, isM_idx, isM_get, isM_cnt, mK_app, mK_pop, mK_ext, mK_clr, mK_clrd, bK_split, bK_part, bK_join, bK_zf, bK_idx, bK_cnt, bK_get, mut_app, mut_pop, c_eqs, c_nes, tu1, tu20, tu21, tu30, tu31, tu32, ini0, ini2, at0, at1, try_ok, tp2, tp3, $xs,*])
open T
theorem cell_val (G : PGm) (ns : List Int) : defP G [.sh, .sh] 2 l_cell_at_0 [.lst (ns.map PV.int), .int 0] = .ok (.int (ns.headD 0)) [] := by
  unfold defP l_cell_at_0 l_cell_at_1 l_cell_at_2
  have : startP 2 [PV.lst (ns.map PV.int), .int 0] = [some (.lst (ns.map PV.int)), some (.int 0)] := rfl
  rw [this]
  cases ns with
  | nil => simp_arith [List.map_nil, List.length_nil]; rfl
  | cons n r =>
    have h : (0 : Int) < ((PV.int n :: r.map PV.int).length : Nat) := by simp
    have e : atI (PV.int n :: r.map PV.int) 0 = some (.int n) := by
      unfold atI ixN
      rw [if_pos (Int.le_refl 0), if_pos (by simp only [List.length_cons, List.length_map]; omega)]
      rfl
    simp_arith [List.map_cons, h, ixP, e]
    rfl
/-! ### names by numbers -/
def ltr : Str := "abcdefghijklmnopqrstuvwxyz"
def lt1 (i : Int) : Str := ⟨#[97 + i.toNat]⟩
theorem ltr_at {i : Int} (h0 : 0 ≤ i) (h1 : i < 26) : ixP (.str ltr) (.int i) = some (.str (lt1 i)) := by
  have main : ∀ n : Nat, n < 26 → atI ltr.cps.toList (n : Int) = some (97 + n) := by decide +kernel
  obtain ⟨n, rfl⟩ := Int.eq_ofNat_of_zero_le h0
  have hn : n < 26 := by omega
  have hl : ltr.length ≤ sizeLine := by
    have : ltr.length = 26 := by decide +kernel
    rw [this, sizeLine_eq]
    decide
  have main2 := main n hn
  generalize ltr = z at hl main2
  show (grd (z.length ≤ sizeLine) ()).bind (fun _ => (atI z.cps.toList ((n : Nat) : Int)).map fun c => PV.str ⟨#[c]⟩) = _
  rw [grd_pos hl, main2]
  rfl
/-- a word of small letters -/
def Ltt (s : Str) : Prop := ∀ c ∈ s.cps.toList, 97 ≤ c ∧ c ≤ 122
/-- a name -/
def Nm (s : Str) : Prop := Ltt s ∧ 1 ≤ s.length ∧ s.length ≤ 12
theorem ltt_lt1 {i : Int} (h0 : 0 ≤ i) (h1 : i < 26) : Ltt (lt1 i) := fun c hc => by
  have : c = 97 + i.toNat := by simpa [lt1] using hc
  omega
theorem ltt_app {s t : Str} (h1 : Ltt s) (h2 : Ltt t) : Ltt (s ++ t) := fun c hc => by
  have : (s ++ t).cps.toList = s.cps.toList ++ t.cps.toList := Array.toList_append
  rw [this, List.mem_append] at hc
  rcases hc with h | h
  · exact h1 c h
  · exact h2 c h
theorem len_app' {s t : Str} : (s ++ t).length = s.length + t.length := Array.size_append
def placeV (cell k a j : Int) : Int := cell / (j + 3) + j * j + k * (if decide (j = a) = true then 1 else 0)
theorem name_turn (G : PGm) (cell k : Int) (x3 : PV) (a : Int) (x5 : PV) (s : Str) (j : Int) (o : Option PV) (h0 : 0 ≤ j) (h1 : j < 100) (hs : s.length < 1000) :
    runs G l_name_by_11 [some (.int cell), some (.int k), some (.str ltr), some x3, some (.int a), some x5, some (.str s), some (.int j), o] =
      .ok .nx [some (.int cell), some (.int k), some (.str ltr), some x3, some (.int a), some x5, some (.str (s ++ lt1 (placeV cell k a j % 26))), some (.int j), some (.int (placeV cell k a j))] := by
  unfold l_name_by_11 l_name_by_12
  have g1 : 0 < j + 3 ∧ j + 3 < 1073741824 := by omega
  have g2 : mulOk j j := by unfold mulOk; omega
  have hm1 : 0 ≤ placeV cell k a j % 26 := Int.emod_nonneg _ (by omega)
  have hm2 : placeV cell k a j % 26 < 26 := Int.emod_lt_of_pos _ (by omega)
  have hl := ltr_at hm1 hm2
  have e1 : (lt1 (placeV cell k a j % 26)).length = 1 := rfl
  have g4 : s.length + (lt1 (placeV cell k a j % 26)).length ≤ sizeLine := by
    rw [e1, sizeLine_eq]
    omega
  have hk : mulOk k (if decide (j = a) = true then 1 else 0) := by
    unfold mulOk
    right
    split <;> omega
  have g5 : opP .Add (.str s) (.str (lt1 (placeV cell k a j % 26))) = some (.str (s ++ lt1 (placeV cell k a j % 26))) := grd_pos g4
  have e9 : cell / (j + 3) + j * j + k * (if decide (j = a) = true then 1 else 0) = placeV cell k a j := rfl
  simp_arith [grd_pos g1, grd_pos g2, grd_pos hk, e9, grd_pos, hl, g5]
theorem strs_of : ∀ {ys : List PV} {P : Str → Prop}, (∀ y ∈ ys, ∃ s, y = .str s ∧ P s) → ∃ zs, strsOf ys = some zs ∧ zs.length = ys.length ∧ ∀ z ∈ zs, P z
  | [], _, _ => ⟨[], rfl, rfl, fun z h => by cases h⟩
  | y :: ys, P, h => by
    obtain ⟨s, rfl, hs⟩ := h y List.mem_cons_self
    obtain ⟨zs, h1, h2, h3⟩ := strs_of (fun z hz => h z (List.mem_cons_of_mem _ hz))
    refine ⟨s :: zs, by unfold strsOf; rw [h1]; rfl, by simp [h2], fun z hz => ?_⟩
    rcases List.mem_cons.mp hz with rfl | hz
    · exact hs
    · exact h3 z hz
theorem mem_at {α : Type} {l : List α} {x : α} (h : x ∈ l) : ∃ i : Nat, i < l.length ∧ l[i]? = some x := by
  obtain ⟨i, hi, e⟩ := List.mem_iff_getElem.mp h
  exact ⟨i, hi, by rw [List.getElem?_eq_getElem hi, e]⟩
/-- the texts put together by nothing -/
theorem join_is (s : Str) (zs : List Str) : Txt.join s zs = Str.join s zs := StrLaws.glued_eq_join s zs
theorem join_nil : ∀ (zs : List Str), (∀ z ∈ zs, Ltt z ∧ z.length = 1) → Ltt (Txt.join "" zs) ∧ (Txt.join "" zs).length = zs.length := by
  intro zs
  induction zs with
  | nil => exact fun _ => by rw [join_is]; exact ⟨(fun c h => by cases h), rfl⟩
  | cons z r ih =>
    intro h
    obtain ⟨h1, h2⟩ := h z List.mem_cons_self
    cases r with
    | nil => rw [join_is]; exact ⟨h1, h2⟩
    | cons y r =>
      obtain ⟨h3, h4⟩ := ih fun z hz => h z (List.mem_cons_of_mem _ hz)
      rw [join_is] at h3 h4 ⊢
      show Ltt (z ++ "" ++ Str.join "" (y :: r)) ∧ (z ++ "" ++ Str.join "" (y :: r)).length = _
      refine ⟨ltt_app (ltt_app h1 (fun c h => by cases h)) h3, ?_⟩
      rw [len_app', len_app', h4, h2]
      show 1 + 0 + (r.length + 1) = r.length + 1 + 1
      omega
theorem name_ok (G : PGm) (cell k : Int) (h0 : 0 ≤ k) (h1 : k < 1000) : ∃ s, defP G [.sh, .sh] 9 l_name_by_0 [.int cell, .int k] = .ok (.str s) [] ∧ Nm s := by
  unfold defP l_name_by_0 l_name_by_1 l_name_by_2 l_name_by_3 l_name_by_4 l_name_by_5 l_name_by_6
  have : startP 9 [PV.int cell, .int k] = [some (.int cell), some (.int k), none, none, none, none, none, none, none] := rfl
  rw [this]
  have tail : ∀ (n a w : Int), 1 ≤ n → n ≤ 12 → ¬ w = 1 → ∃ s env, runs G l_name_by_7 [some (.int cell), some (.int k), some (.str ltr), some (.int n), some (.int a), some (.int w), none, none, none] = .ok (.ret (.str s)) env ∧ Nm s := by
    intro n a w hn1 hn2 hw
    unfold l_name_by_7 l_name_by_8 l_name_by_9 l_name_by_10 l_name_by_13
    have gn : -(2 ^ 62) ≤ n ∧ n < 2 ^ 62 := by omega
    obtain ⟨env', e, s, p7, p8, rfl, hs1, hs2⟩ := for_ix (turn := fun x env => runs G l_name_by_11 (env.set 7 (some x))) (fun i env => ∃ s p7 p8, env = [some (.int cell), some (.int k), some (.str ltr), some (.int n), some (.int a), some (.int w), some (.str s), p7, p8] ∧ s.length = i ∧ Ltt s)
      ((List.range n.toNat).map fun (k : Nat) => PV.int (k : Int)) 0 [some (.int cell), some (.int k), some (.str ltr), some (.int n), some (.int a), some (.int w), some (.str ""), none, none] ⟨_, _, _, rfl, rfl, fun c hc => by cases hc⟩ (fun i x env hx hi => by
        obtain ⟨s, p7, p8, rfl, h3, h4⟩ := hi
        obtain ⟨hi, rfl⟩ := rng_at hx
        refine ⟨_, name_turn G cell k _ a _ s i p8 (by omega) (by omega) (by omega), _, _, _, rfl, ?_, ?_⟩
        · rw [len_app', h3]; rfl
        · exact ltt_app h4 (ltt_lt1 (Int.emod_nonneg _ (by omega)) (Int.emod_lt_of_pos _ (by omega))))
    refine ⟨s, [some (.int cell), some (.int k), some (.str ltr), some (.int n), some (.int a), some (.int w), some (.str s), p7, p8], ?_, hs2, ?_⟩
    · simp_arith [hw, grd_pos gn, e]
    · rw [List.length_map, List.length_range] at hs1
      omega
  have q1 := Int.emod_nonneg cell (show (12 : Int) ≠ 0 by omega)
  have q2 := Int.emod_lt_of_pos cell (show (0 : Int) < 12 by omega)
  have q3 := Int.emod_nonneg k (show (12 : Int) ≠ 0 by omega)
  have q4 := Int.emod_lt_of_pos k (show (0 : Int) < 12 by omega)
  have g0 : 0 < 1 + cell % 12 := by omega
  by_cases w0 : cell / 144 % 3 = 0
  · obtain ⟨s, env, e, hs⟩ := tail (1 + k % 12) 12 (cell / 144 % 3) (by omega) (by omega) (by omega)
    refine ⟨s, ?_, hs⟩
    rw [w0] at e
    have e : runs G l_name_by_7 [some (.int cell), some (.int k), some (.str "abcdefghijklmnopqrstuvwxyz"), some (.int (1 + k % 12)), some (.int 12), some (.int 0), none, none, none] = .ok (.ret (.str s)) env := e
    simp_arith [grd_pos, g0, w0, e]
    rfl
  · by_cases w1 : cell / 144 % 3 = 1
    · have wy : ∃ s env, runs G l_name_by_7 [some (.int cell), some (.int k), some (.str ltr), some (.int (1 + cell % 12)), some (.int (cell / 12 % (1 + cell % 12))), some (.int 1), none, none, none] = .ok (.ret (.str s)) env ∧ Nm s := by
        unfold l_name_by_7 l_name_by_8
        have gn : -(2 ^ 62) ≤ (12 : Int) ∧ (12 : Int) < 2 ^ 62 := by omega
        obtain ⟨ys, e, hy1, hy2⟩ := lc_evs (G := G) (t := .nm 7) (s := .rng (.ki 12)) (c := .none) (e := .ix (.v 2) (.op .Add (.op .Mod (.op .Add (.v 7) (.v 1)) (.ki 12)) (.op .Mod (.op .FloorDiv (.v 0) (.ki 432)) (.ki 14)))) (own := [("_law_j", 7)])
          (env := [some (.int cell), some (.int k), some (.str ltr), some (.int (1 + cell % 12)), some (.int (cell / 12 % (1 + cell % 12))), some (.int 1), none, none, none])
          (fun _ y => ∃ s, y = .str s ∧ Ltt s ∧ s.length = 1) (by simp_arith [grd_pos gn]; rfl) rfl (by rw [List.length_map, List.length_range]; exact szN12) (fun x hx => by
            obtain ⟨i, hi, rfl⟩ := rng_mem hx
            have m1 := Int.emod_nonneg ((i : Int) + k) (show (12 : Int) ≠ 0 by omega)
            have m2 := Int.emod_lt_of_pos ((i : Int) + k) (show (0 : Int) < 12 by omega)
            have m3 := Int.emod_nonneg (cell / 432) (show (14 : Int) ≠ 0 by omega)
            have m4 := Int.emod_lt_of_pos (cell / 432) (show (0 : Int) < 14 by omega)
            have hl := ltr_at (i := ((i : Int) + k) % 12 + cell / 432 % 14) (by omega) (by omega)
            refine ⟨.str (lt1 (((i : Int) + k) % 12 + cell / 432 % 14)), ?_, _, rfl, ltt_lt1 (by omega) (by omega), rfl⟩
            unfold lcT
            simp_arith [grd_pos, hl, List.map_cons, List.map_nil, wipeP])
        obtain ⟨zs, e1, e2, e3⟩ := strs_of (P := fun s => Ltt s ∧ s.length = 1) (ys := ys) fun y hy => by
          obtain ⟨i, hi, ei⟩ := mem_at hy
          rw [hy1] at hi
          exact hy2 i _ y (List.getElem?_eq_getElem hi) ei
        obtain ⟨f1, f2⟩ := join_nil zs e3
        have hn : ys.length = 12 := by rw [hy1, List.length_map, List.length_range]; rfl
        refine ⟨Txt.join "" zs, [some (.int cell), some (.int k), some (.str ltr), some (.int (1 + cell % 12)), some (.int (cell / 12 % (1 + cell % 12))), some (.int 1), none, none, none], ?_, f1, by omega, by omega⟩
        have hj : bmP .join (.str "") [.lst ys] = some (.str (Txt.join "" zs)) := by
          show (strsOf ys).bind _ = _
          rw [e1]
          refine grd_pos ?_
          have hsum : ∀ zs : List Str, (∀ z ∈ zs, Ltt z ∧ z.length = 1) → (zs.map fun x => x.length).sum = zs.length := by
            intro zs
            induction zs with
            | nil => exact fun _ => rfl
            | cons z r ih =>
              intro h
              rw [List.map_cons, List.sum_cons, ih fun z hz => h z (List.mem_cons_of_mem _ hz), (h z List.mem_cons_self).2, List.length_cons]
              omega
          rw [hsum zs e3, e2, hn]
          decide
        simp_arith [isMut, bmK, e, hj]
        rfl
      obtain ⟨s, env, e, hs⟩ := wy
      refine ⟨s, ?_, hs⟩
      have e : runs G l_name_by_7 [some (.int cell), some (.int k), some (.str "abcdefghijklmnopqrstuvwxyz"), some (.int (1 + cell % 12)), some (.int (cell / 12 % (1 + cell % 12))), some (.int 1), none, none, none] = .ok (.ret (.str s)) env := e
      simp_arith [grd_pos, g0, w0, w1, e]
      rfl
    · obtain ⟨s, env, e, hs⟩ := tail (1 + cell % 12) (cell / 12 % (1 + cell % 12)) (cell / 144 % 3) (by omega) (by omega) w1
      refine ⟨s, ?_, hs⟩
      have e : runs G l_name_by_7 [some (.int cell), some (.int k), some (.str "abcdefghijklmnopqrstuvwxyz"), some (.int (1 + cell % 12)), some (.int (cell / 12 % (1 + cell % 12))), some (.int (cell / 144 % 3)), none, none, none] = .ok (.ret (.str s)) env := e
      simp_arith [grd_pos, g0, w0, e]
      rfl
theorem whole_int (G : PGm) (h1 : G.isa "int" "int" = some true) (h2 : G.isa "int" "bool" = some false) (i : Int) : defP G [.sh] 1 l_whole_0 [.int i] = .ok (.bl true) [] := by
  unfold defP l_whole_0
  have : startP 1 [PV.int i] = [some (.int i)] := rfl
  rw [this]
  simp_arith [isP, h1, h2]
  rfl
end Vc

set_option Elab.async false
set_option linter.all false
set_option maxRecDepth 100000
set_option maxHeartbeats 1000000
namespace T
open PySem Vc
def told_by_3 : Sts := .cons (.ret .kn) .nil
def told_by_6 : Sts := .cons (.set 2 (.v 4)) .nil
def told_by_5 : Sts := .cons (.ifs (.or (.cmp .Is (.v 2) .kn) (.cmp .Gt (.v 4) (.v 2))) told_by_6 .nil) .nil
def told_by_4 : Sts := .cons (.set 4 (.op .Add (.ix (.v 1) (.v 3)) (.ix (.v 0) (.v 3)))) told_by_5
def told_by_2 : Sts := .cons (.ifs (.cmp .NotIn (.v 3) (.v 1)) told_by_3 .nil) told_by_4
def told_by_7 : Sts := .cons (.ret (.v 2)) .nil
def told_by_1 : Sts := .cons (.lock (.fors (.nm 3) (.keys (.v 0)) told_by_2)) told_by_7
def told_by_0 : Sts := .cons (.set 2 .kn) told_by_1
abbrev told_by_N : List Str := ["clause", "life", "latest", "kind", "day"]
abbrev told_by_P : List Str := ["clause", "life"]
def is_below_2 : Sts := .cons (.ret (.kb false)) .nil
def is_below_1 : Sts := .cons (.ifs (.or (.cmp .NotIn (.v 2) (.v 1)) (.cmp .Gt (.ix (.v 0) (.v 2)) (.ix (.v 1) (.v 2)))) is_below_2 .nil) .nil
def is_below_3 : Sts := .cons (.ret (.kb true)) .nil
def is_below_0 : Sts := .cons (.lock (.fors (.nm 2) (.keys (.v 0)) is_below_1)) is_below_3
abbrev is_below_N : List Str := ["one", "other", "kind"]
abbrev is_below_P : List Str := ["one", "other"]
def l_told_3 : Sts := .cons (.ret .kn) .nil
def l_told_4 : Sts := .cons (.ex (.bm .append (.v 2) (.cons (.op .Add (.ix (.v 1) (.v 3)) (.ix (.v 0) (.v 3))) .nil))) .nil
def l_told_2 : Sts := .cons (.ifs (.cmp .NotIn (.v 3) (.v 1)) l_told_3 .nil) l_told_4
def l_told_5 : Sts := .cons (.ret (.bi .max (.cons (.v 2) .nil))) .nil
def l_told_1 : Sts := .cons (.lock (.fors (.nm 3) (.keys (.v 0)) l_told_2)) l_told_5
def l_told_0 : Sts := .cons (.set 2 (.lst .nil)) l_told_1
abbrev l_told_N : List Str := ["_law_clause", "_law_life", "_law_days", "_law_kind"]
abbrev l_told_P : List Str := ["_law_clause", "_law_life"]
def l_below_2 : Sts := .cons (.ret (.kb false)) .nil
def l_below_1 : Sts := .cons (.ifs (.or (.cmp .NotIn (.v 2) (.v 1)) (.cmp .Gt (.ix (.v 0) (.v 2)) (.ix (.v 1) (.v 2)))) l_below_2 .nil) .nil
def l_below_3 : Sts := .cons (.ret (.kb true)) .nil
def l_below_0 : Sts := .cons (.lock (.fors (.nm 2) (.keys (.v 0)) l_below_1)) l_below_3
abbrev l_below_N : List Str := ["_law_one", "_law_other", "_law_kind"]
abbrev l_below_P : List Str := ["_law_one", "_law_other"]
end T
namespace Vc
open PySem PySem.Spec PyProof.Rows L2
local macro_rules | `(tactic| simp_arith [$xs,*]) => `(tactic| simp (maxSteps := 400000) -implicitDefEqProofs only [↓reduceIte, Int.reduceLT, Int.reduceLE, Int.reduceEq, Int.reduceNe, reduceCtorEq,
  Rs.bind_ok, Rs.bind_ex, Rs.bind_bad, evT_v, ev_v, evT_ki, ev_ki, evT_ks, ev_ks, evT_kb, ev_kb, evT_kn, ev_kn, evT_g, ev_g, evT_op, ev_op, evT_cmp, ev_cmp, evT_chain, ev_chain, 
  evT_and, ev_and, evT_or, ev_or, evT_not, ev_not, evT_neg, ev_neg, evT_ife, ev_ife, evT_call, ev_call, evT_bi, ev_bi, evT_isi, ev_isi, evT_isiT, ev_isiT, evT_bm, ev_bm, evT_ix, 
  ev_ix, evT_sl, ev_sl, evT_lst, ev_lst, evT_tup, ev_tup, evT_dict0, ev_dict0, evT_lc, evT_fld, ev_fld, evT_meth, ev_meth, evT_make, ev_make, evs_nil, evs_cons, evo_none, evo_some, 
  evC_none, evC_some, evSrc_seq, evSrc_keys, evSrc_rng, opt_some, opt_none, map_some', bind_some', noEx_ok, op_addi, op_subi, op_muli, op_divi, op_modi, c_eqi, c_nei, c_lti, c_lei, 
  c_gti, c_gei, c_isn, c_ntn, tru_bl, tru_int, tru_non, bi_leni, bi_lent, bi_lend, bi_absi, bi_inti, bi_intb, sz0, ix_dic, c_ind, c_nid, key_s, key_i, bi_dict, isNon_int, isNon_non, 
  some_some, none_some, sz1, sz2, sz3, sz4, sz5, run_set, run_unp, run_ex, run_ifs, run_fors, run_whl, run_ret, run_retn, run_raise, run_pass, run_tr, dicP_dic, run_sub, run_lock, 
  run_setlc, run_sfld, run_raise1, runs_nil, runs_cons, getS_z, getS_s, set_z, set_s, tg_nm, tg_lst, tg_tup, sa_n, sa_c, lv_v, lv_f, getL_p, getP_n, getP_c, setP_n, setL_p, call_ok, 
  call_ex, wb_sh, wb_bw, wb_n, b_1, b_1', b_1'', b_2, b_3, b_4, b_5, b_6, b_7, b_8, b_9, b_10, b_11, isM_app, isM_pop, isM_ext, isM_clr, isM_join, isM_split, isM_part, isM_zf, isM_idx, isM_get, isM_cnt, mK_app, mK_pop, mK_ext, mK_clr, mK_clrd, bK_split, bK_part, bK_join, bK_zf, bK_idx, bK_cnt, bK_get, mut_app, mut_pop, c_eqs, c_nes, tu1, tu20, tu21, tu30, tu31, tu32, ini0, ini2, at0, at1, try_ok, tp2, tp3, $xs,*])
open T
/-- clauses and lives: texts to ints -/
def encP (c : List (Str × Int)) : List (Key × PV) := c.map fun p => (.inr p.1, .int p.2)
def gtI (c : List (Str × Int)) (k : Str) : Option Int := (c.find? fun p => decide (p.1 = k)).map (·.2)
theorem dget_enc (c : List (Str × Int)) (k : Str) : dget (encP c) (.inr k) = (gtI c k).map PV.int := by
  induction c with
  | nil => rfl
  | cons p c ih =>
    unfold encP dget gtI at *
    rw [List.map_cons, List.find?_cons, List.find?_cons]
    by_cases h : p.1 = k
    · simp [h]
    · simp only [h, decide_false, Sum.inr.injEq]
      exact ih
/-- one at or below another, by the names ks -/
def belowK (c d : List (Str × Int)) : List Str → Bool
  | [] => true
  | k :: ks => match gtI d k, gtI c k with
    | some j, some i => if j < i then false else belowK c d ks
    | _, _ => false
theorem below_turn (G : PGm) (c d : List (Str × Int)) (k : Str) (i : Int) (h1 : gtI c k = some i) :
    runs G is_below_1 [some (.dic (encP c)), some (.dic (encP d)), some (.str k)] = (match gtI d k with
      | some j => if j < i then .ok (.ret (.bl false)) [some (.dic (encP c)), some (.dic (encP d)), some (.str k)] else .ok .nx [some (.dic (encP c)), some (.dic (encP d)), some (.str k)]
      | none => .ok (.ret (.bl false)) [some (.dic (encP c)), some (.dic (encP d)), some (.str k)]) := by
  unfold is_below_1 is_below_2
  cases h2 : gtI d k with
  | none => simp_arith [cmpP, inP, keyP, dget_enc, h2, truP, Option.isSome, Option.map]
  | some j =>
    by_cases h : j < i
    · simp_arith [cmpP, inP, keyP, dget_enc, h1, h2, truP, Option.isSome, Option.map, ixP, h, decide_true]
    · simp_arith [cmpP, inP, keyP, dget_enc, h1, h2, truP, Option.isSome, Option.map, ixP, h, decide_false]
theorem below_for (G : PGm) (c d : List (Str × Int)) : ∀ (ks : List Str) (o : Option PV), (∀ k ∈ ks, (gtI c k).isSome = true) → ∃ o', 
    forP (fun x env => runs G is_below_1 (env.set 2 (some x))) (ks.map PV.str) [some (.dic (encP c)), some (.dic (encP d)), o] =
      .ok (if belowK c d ks = true then .nx else .ret (.bl false)) [some (.dic (encP c)), some (.dic (encP d)), o']
  | [], o, _ => ⟨o, rfl⟩
  | k :: ks, o, h => by
    obtain ⟨i, h1⟩ := Option.isSome_iff_exists.mp (h k List.mem_cons_self)
    obtain ⟨o2, e⟩ := below_for G c d ks (some (.str k)) fun k' m => h k' (List.mem_cons_of_mem _ m)
    rw [List.map_cons]
    unfold forP belowK
    rw [h1]
    simp_arith [forP, below_turn G c d k i h1]
    cases h2 : gtI d k with
    | none => exact ⟨_, rfl⟩
    | some j =>
      by_cases hj : j < i
      · simp only [hj, if_true]; exact ⟨_, rfl⟩
      · simp only [hj, if_false]; exact ⟨_, e⟩
theorem enc_keys (c : List (Str × Int)) : ((encP c).map fun kv => kP kv.1) = (c.map (·.1)).map PV.str := by
  unfold encP
  rw [List.map_map, List.map_map]
  rfl
theorem gtI_mem {c : List (Str × Int)} {k : Str} (h : k ∈ c.map (·.1)) : (gtI c k).isSome = true := by
  obtain ⟨p, hp, rfl⟩ := List.mem_map.mp h
  unfold gtI
  rw [Option.isSome_map, List.find?_isSome]
  exact ⟨p, hp, by simp⟩
def belowV (c d : List (Str × Int)) : Bool := belowK c d (c.map (·.1))
theorem below_val (G : PGm) (c d : List (Str × Int)) : defP G [.sh, .sh] 3 is_below_0 [.dic (encP c), .dic (encP d)] = .ok (.bl (belowV c d)) [] := by
  obtain ⟨o, e⟩ := below_for G c d (c.map (·.1)) none fun k m => gtI_mem m
  unfold defP is_below_0 is_below_3
  have : startP 3 [PV.dic (encP c), .dic (encP d)] = [some (.dic (encP c)), some (.dic (encP d)), none] := rfl
  rw [this]
  unfold belowV
  simp_arith [enc_keys, e]
  cases belowK c d (c.map (·.1)) with
  | true => rfl
  | false => rfl
/-! ### told_by -/
def oV : Option Int → PV
  | none => .non
  | some i => .int i
def mxO (a : Option Int) (z : Int) : Int := match a with
  | none => z
  | some m => if m < z then z else m
def toldK (c d : List (Str × Int)) : List Str → Option Int → Option Int
  | [], acc => acc
  | k :: ks, acc => match gtI d k, gtI c k with
    | some j, some i => toldK c d ks (some (mxO acc (j + i)))
    | _, _ => none
theorem told_turn (G : PGm) (c d : List (Str × Int)) (k : Str) (i : Int) (a : Option Int) (o : Option PV) (h1 : gtI c k = some i) :
    runs G told_by_2 [some (.dic (encP c)), some (.dic (encP d)), some (oV a), some (.str k), o] = (match gtI d k with
      | some j => .ok .nx [some (.dic (encP c)), some (.dic (encP d)), some (oV (some (mxO a (j + i)))), some (.str k), some (.int (j + i))]
      | none => .ok (.ret .non) [some (.dic (encP c)), some (.dic (encP d)), some (oV a), some (.str k), o]) := by
  unfold told_by_2 told_by_3 told_by_4 told_by_5 told_by_6
  cases h2 : gtI d k with
  | none => simp_arith [cmpP, inP, keyP, dget_enc, h2, truP, Option.isSome, Option.map]
  | some j =>
    cases a with
    | none => simp_arith [cmpP, inP, keyP, dget_enc, h1, h2, truP, Option.isSome, Option.map, ixP, opP, addP, oV, mxO]
    | some m =>
      by_cases h : m < j + i
      · simp_arith [cmpP, inP, keyP, dget_enc, h1, h2, truP, Option.isSome, Option.map, ixP, opP, addP, oV, mxO, h, decide_true]
      · simp_arith [cmpP, inP, keyP, dget_enc, h1, h2, truP, Option.isSome, Option.map, ixP, opP, addP, oV, mxO, h, decide_false]
theorem told_for (G : PGm) (c d : List (Str × Int)) : ∀ (ks : List Str) (a : Option Int) (o3 o4 : Option PV), (∀ k ∈ ks, (gtI c k).isSome = true) →
    (∃ p3 p4, forP (fun x env => runs G told_by_2 (env.set 3 (some x))) (ks.map PV.str) [some (.dic (encP c)), some (.dic (encP d)), some (oV a), o3, o4] = .ok .nx [some (.dic (encP c)), some (.dic (encP d)), some (oV (toldK c d ks a)), p3, p4]) ∨
    (∃ env', forP (fun x env => runs G told_by_2 (env.set 3 (some x))) (ks.map PV.str) [some (.dic (encP c)), some (.dic (encP d)), some (oV a), o3, o4] = .ok (.ret .non) env' ∧ toldK c d ks a = none)
  | [], a, o3, o4, _ => .inl ⟨o3, o4, rfl⟩
  | k :: ks, a, o3, o4, h => by
    obtain ⟨i, h1⟩ := Option.isSome_iff_exists.mp (h k List.mem_cons_self)
    rw [List.map_cons]
    unfold toldK
    rw [h1]
    simp_arith [forP, told_turn G c d k i a o4 h1]
    cases h2 : gtI d k with
    | none => exact .inr ⟨_, rfl, rfl⟩
    | some j => exact told_for G c d ks (some (mxO a (j + i))) (some (.str k)) (some (.int (j + i))) fun k' m => h k' (List.mem_cons_of_mem _ m)
def toldV (c d : List (Str × Int)) : Option Int := toldK c d (c.map (·.1)) none
theorem told_val (G : PGm) (c d : List (Str × Int)) : defP G [.sh, .sh] 5 told_by_0 [.dic (encP c), .dic (encP d)] = .ok (oV (toldV c d)) [] := by
  have ho := told_for G c d (c.map (·.1)) none none none fun k m => gtI_mem m
  unfold defP told_by_0 told_by_1 told_by_7
  have : startP 5 [PV.dic (encP c), .dic (encP d)] = [some (.dic (encP c)), some (.dic (encP d)), none, none, none] := rfl
  rw [this]
  unfold toldV
  rcases ho with ⟨p3, p4, e⟩ | ⟨env', e, e2⟩
  · have e : forP (fun x env => runs G told_by_2 (env.set 3 (some x))) ((c.map (·.1)).map PV.str) [some (.dic (encP c)), some (.dic (encP d)), some .non, none, none] = _ := e
    simp_arith [enc_keys, e]
    rfl
  · have e : forP (fun x env => runs G told_by_2 (env.set 3 (some x))) ((c.map (·.1)).map PV.str) [some (.dic (encP c)), some (.dic (encP d)), some .non, none, none] = _ := e
    simp_arith [enc_keys, e]
    rw [e2]
    rfl
theorem lbelow_val (G : PGm) (c d : List (Str × Int)) : defP G [.sh, .sh] 3 l_below_0 [.dic (encP c), .dic (encP d)] = .ok (.bl (belowV c d)) [] := below_val G c d
/-- the sums, if each name is in the life -/
def sumsK (c d : List (Str × Int)) : List Str → Option (List Int)
  | [] => some []
  | k :: ks => match gtI d k, gtI c k with
    | some j, some i => (sumsK c d ks).map ((j + i) :: ·)
    | _, _ => none
theorem toldK_sums (c d : List (Str × Int)) : ∀ (ks : List Str) (m : Int), toldK c d ks (some m) = (sumsK c d ks).map (maxI m)
  | [], m => rfl
  | k :: ks, m => by
    unfold toldK sumsK
    cases gtI d k with
    | none => rfl
    | some j =>
      cases gtI c k with
      | none => rfl
      | some i =>
        show toldK c d ks (some (mxO (some m) (j + i))) = ((sumsK c d ks).map ((j + i) :: ·)).map (maxI m)
        rw [toldK_sums c d ks]
        cases sumsK c d ks <;> rfl
theorem ltold_turn (G : PGm) (c d : List (Str × Int)) (k : Str) (i : Int) (acc : List Int) (h1 : gtI c k = some i) (hz : acc.length < sizeLine) :
    runs G l_told_2 [some (.dic (encP c)), some (.dic (encP d)), some (.lst (acc.map PV.int)), some (.str k)] = (match gtI d k with
      | some j => .ok .nx [some (.dic (encP c)), some (.dic (encP d)), some (.lst ((acc ++ [j + i]).map PV.int)), some (.str k)]
      | none => .ok (.ret .non) [some (.dic (encP c)), some (.dic (encP d)), some (.lst (acc.map PV.int)), some (.str k)]) := by
  unfold l_told_2 l_told_3 l_told_4
  cases h2 : gtI d k with
  | none => simp_arith [cmpP, inP, keyP, dget_enc, h2, truP, Option.isSome, Option.map]
  | some j =>
    have hl : (acc.map PV.int).length < sizeLine := by simpa using hz
    simp_arith [cmpP, inP, keyP, dget_enc, h1, h2, truP, Option.isSome, Option.map, ixP, opP, addP, isMut, lvOf, getL, getP, mutK, mutP, grd_pos hl, setL, setP, List.map_append, List.map_cons, List.map_nil]
theorem ltold_for (G : PGm) (c d : List (Str × Int)) : ∀ (ks : List Str) (acc : List Int) (o : Option PV), (∀ k ∈ ks, (gtI c k).isSome = true) → acc.length + ks.length < sizeLine →
    (∃ p zs, sumsK c d ks = some zs ∧ forP (fun x env => runs G l_told_2 (env.set 3 (some x))) (ks.map PV.str) [some (.dic (encP c)), some (.dic (encP d)), some (.lst (acc.map PV.int)), o] = .ok .nx [some (.dic (encP c)), some (.dic (encP d)), some (.lst ((acc ++ zs).map PV.int)), p]) ∨
    (∃ env', forP (fun x env => runs G l_told_2 (env.set 3 (some x))) (ks.map PV.str) [some (.dic (encP c)), some (.dic (encP d)), some (.lst (acc.map PV.int)), o] = .ok (.ret .non) env' ∧ sumsK c d ks = none)
  | [], acc, o, _, _ => .inl ⟨o, [], rfl, by rw [List.append_nil]; rfl⟩
  | k :: ks, acc, o, h, hz => by
    obtain ⟨i, h1⟩ := Option.isSome_iff_exists.mp (h k List.mem_cons_self)
    rw [List.length_cons] at hz
    rw [List.map_cons]
    unfold sumsK
    rw [h1]
    simp_arith [forP, ltold_turn G c d k i acc h1 (by omega)]
    cases h2 : gtI d k with
    | none => exact .inr ⟨_, rfl, rfl⟩
    | some j =>
      rcases ltold_for G c d ks (acc ++ [j + i]) (some (.str k)) (fun k' m => h k' (List.mem_cons_of_mem _ m)) (by simp; omega) with ⟨p, zs, e1, e2⟩ | ⟨env', e1, e2⟩
      · refine .inl ⟨p, (j + i) :: zs, by rw [e1]; rfl, ?_⟩
        rw [List.append_assoc] at e2
        exact e2
      · exact .inr ⟨env', e1, by rw [e2]; rfl⟩
theorem ltold_val (G : PGm) (c d : List (Str × Int)) (hc : c ≠ []) (hz : c.length < sizeLine) : defP G [.sh, .sh] 4 l_told_0 [.dic (encP c), .dic (encP d)] = .ok (oV (toldV c d)) [] := by
  have ho := ltold_for G c d (c.map (·.1)) [] none (fun k m => gtI_mem m) (by simpa using hz)
  unfold defP l_told_0 l_told_1 l_told_5
  have : startP 4 [PV.dic (encP c), .dic (encP d)] = [some (.dic (encP c)), some (.dic (encP d)), none, none] := rfl
  rw [this]
  have hg : ([] : List PV).length ≤ sizeLine := Nat.zero_le _
  unfold toldV
  cases c with
  | nil => exact (hc rfl).elim
  | cons q c' =>
    rcases ho with ⟨p, zs, e1, e⟩ | ⟨env', e, e2⟩
    · have e : forP (fun x env => runs G l_told_2 (env.set 3 (some x))) (((q :: c').map (·.1)).map PV.str) [some (.dic (encP (q :: c'))), some (.dic (encP d)), some (.lst []), none] = .ok .nx [some (.dic (encP (q :: c'))), some (.dic (encP d)), some (.lst (zs.map PV.int)), p] := e
      have hk : (q :: c').map (·.1) = q.1 :: c'.map (·.1) := rfl
      have ek : toldK (q :: c') d ((q :: c').map (·.1)) none = match zs with
        | [] => none
        | z :: r => some (maxI z r) := by
        rw [hk] at e1 ⊢
        unfold sumsK at e1
        unfold toldK
        cases h2 : gtI d q.1 with
        | none => rw [h2] at e1; cases e1
        | some j =>
          cases h1 : gtI (q :: c') q.1 with
          | none => rw [h2, h1] at e1; cases e1
          | some i =>
            rw [h2, h1] at e1
            obtain ⟨ws, ew, e1⟩ := Option.map_eq_some_iff.mp e1
            subst e1
            show toldK (q :: c') d (c'.map (·.1)) (some (j + i)) = some (maxI (j + i) ws)
            rw [toldK_sums, ew]
            rfl
      have hne : zs ≠ [] := fun z => by
        subst z
        rw [hk] at e1
        unfold sumsK at e1
        split at e1
        · obtain ⟨_, _, e1⟩ := Option.map_eq_some_iff.mp e1; cases e1
        · cases e1
      rw [ek]
      cases zs with
      | nil => exact (hne rfl).elim
      | cons z r =>
        have hm : biP .max [.lst ((z :: r).map PV.int)] = some (.int (maxI z r)) := by
          have hi : ∀ l : List Int, (intsOf (l.map PV.int)) = some l := fun l => by
            induction l with
            | nil => rfl
            | cons a l ih => show (intsOf (l.map PV.int)).map (a :: ·) = _; rw [ih]; rfl
          show grd ((intsOf (PV.int z :: r.map PV.int)).isSome = true) (maxB ltB (.int z) (r.map PV.int)) = _
          rw [grd_pos (by have := hi (z :: r); rw [List.map_cons] at this; rw [this]; rfl), maxB_ints]
        simp_arith [enc_keys, grd_pos hg, e, hm]
        rfl
    · have e : forP (fun x env => runs G l_told_2 (env.set 3 (some x))) (((q :: c').map (·.1)).map PV.str) [some (.dic (encP (q :: c'))), some (.dic (encP d)), some (.lst []), none] = .ok (.ret .non) env' := e
      have ek : toldK (q :: c') d ((q :: c').map (·.1)) none = none := by
        rw [show (q :: c').map (·.1) = q.1 :: c'.map (·.1) from rfl] at e2 ⊢
        unfold sumsK at e2
        unfold toldK
        cases h2 : gtI d q.1 with
        | none => rfl
        | some j =>
          cases h1 : gtI (q :: c') q.1 with
          | none => rfl
          | some i =>
            rw [h2, h1] at e2
            show toldK (q :: c') d (c'.map (·.1)) (some (j + i)) = none
            rw [toldK_sums]
            cases h3 : sumsK (q :: c') d (c'.map (·.1)) with
            | none => rfl
            | some w => rw [h3] at e2; cases e2
      rw [ek]
      simp_arith [enc_keys, grd_pos hg, e]
      rfl
end Vc

set_option Elab.async false
set_option linter.all false
set_option maxRecDepth 100000
set_option maxHeartbeats 1000000
namespace T
open PySem Vc
def l_life_by_5 : Sts := .cons (.sub (.v 2) (.call "_law_name_by" (.cons (.v 1) (.cons (.v 3) .nil))) (.ix (.v 5) (.op .Mod (.v 4) (.ki 3)))) .nil
def l_life_by_4 : Sts := .cons (.set 5 (.lst (.cons (.op .Mod (.op .FloorDiv (.v 4) (.ki 4)) (.ki 50)) (.cons (.op .Mod (.op .FloorDiv (.v 4) (.ki 4)) (.ki 2000)) (.cons (.op .Mod (.op .Mult (.v 4) (.ki 982451653)) (.op .Pow (.ki 10) (.ki 42))) .nil))))) l_life_by_5
def l_life_by_3 : Sts := .cons (.ifs (.cmp .Gt (.op .Mod (.v 4) (.ki 4)) (.ki 0)) l_life_by_4 .nil) .nil
def l_life_by_2 : Sts := .cons (.set 4 (.op .Add (.op .FloorDiv (.v 0) (.op .Add (.v 3) (.ki 1))) (.op .Mult (.op .Mult (.v 3) (.v 3)) (.ki 7)))) l_life_by_3
def l_life_by_6 : Sts := .cons (.ret (.v 2)) .nil
def l_life_by_1 : Sts := .cons (.fors (.nm 3) (.rng (.ki 6)) l_life_by_2) l_life_by_6
def l_life_by_0 : Sts := .cons (.set 2 .dict0) l_life_by_1
abbrev l_life_by_N : List Str := ["_law_cell", "_law_names_by", "_law_life", "_law_k", "_law_number", "_law_days"]
abbrev l_life_by_P : List Str := ["_law_cell", "_law_names_by"]
end T
namespace Vc
open PySem PySem.Spec PyProof.Rows L2
local macro_rules | `(tactic| simp_arith [$xs,*]) => `(tactic| simp (maxSteps := 400000) -implicitDefEqProofs only [↓reduceIte, Int.reduceLT, Int.reduceLE, Int.reduceEq, Int.reduceNe, reduceCtorEq,
  Rs.bind_ok, Rs.bind_ex, Rs.bind_bad, evT_v, ev_v, evT_ki, ev_ki, evT_ks, ev_ks, evT_kb, ev_kb, evT_kn, ev_kn, evT_g, ev_g, evT_op, ev_op, evT_cmp, ev_cmp, evT_chain, ev_chain, 
  evT_and, ev_and, evT_or, ev_or, evT_not, ev_not, evT_neg, ev_neg, evT_ife, ev_ife, evT_call, ev_call, evT_bi, ev_bi, evT_isi, ev_isi, evT_isiT, ev_isiT, evT_bm, ev_bm, evT_ix, 
  ev_ix, evT_sl, ev_sl, evT_lst, ev_lst, evT_tup, ev_tup, evT_dict0, ev_dict0, evT_lc, evT_fld, ev_fld, evT_meth, ev_meth, evT_make, ev_make, evs_nil, evs_cons, evo_none, evo_some, 
  evC_none, evC_some, evSrc_seq, evSrc_keys, evSrc_rng, opt_some, opt_none, map_some', bind_some', noEx_ok, op_addi, op_subi, op_muli, op_divi, op_modi, c_eqi, c_nei, c_lti, c_lei, 
  c_gti, c_gei, c_isn, c_ntn, tru_bl, tru_int, tru_non, bi_leni, bi_lent, bi_lend, bi_absi, bi_inti, bi_intb, sz0, ix_dic, c_ind, c_nid, key_s, key_i, bi_dict, isNon_int, isNon_non, 
  some_some, none_some, sz1, sz2, sz3, sz4, sz5, run_set, run_unp, run_ex, run_ifs, run_fors, run_whl, run_ret, run_retn, run_raise, run_pass, run_tr, dicP_dic, run_sub, run_lock, 
  run_setlc, run_sfld, run_raise1, runs_nil, runs_cons, getS_z, getS_s, set_z, set_s, tg_nm, tg_lst, tg_tup, sa_n, sa_c, lv_v, lv_f, getL_p, getP_n, getP_c, setP_n, setL_p, call_ok, 
  call_ex, wb_sh, wb_bw, wb_n, b_1, b_1', b_1'', b_2, b_3, b_4, b_5, b_6, b_7, b_8, b_9, b_10, b_11, isM_app, isM_pop, isM_ext, isM_clr, isM_join, isM_split, isM_part, isM_zf, isM_idx, isM_get, isM_cnt, mK_app, mK_pop, mK_ext, mK_clr, mK_clrd, bK_split, bK_part, bK_join, bK_zf, bK_idx, bK_cnt, bK_get, mut_app, mut_pop, c_eqs, c_nes, tu1, tu20, tu21, tu30, tu31, tu32, ini0, ini2, at0, at1, try_ok, tp2, tp3, $xs,*])
open T
/-! ### dicts of ints -/
def Cl (c : List (Str × Int)) : Prop := (c.map (·.1)).Nodup
theorem dput_enc (c : List (Str × Int)) (s : Str) (v : Int) (h : Cl c) : ∃ c', dput (encP c) (.inr s) (.int v) = encP c' ∧ c'.length ≤ c.length + 1 ∧ c' ≠ [] ∧ Cl c' := by
  by_cases hm : s ∈ c.map (·.1)
  · refine ⟨c.map fun p => if p.1 = s then (p.1, v) else p, ?_, by rw [List.length_map]; omega, fun e => ?_, ?_⟩
    · unfold dput
      rw [if_pos ?_]
      · unfold encP
        rw [List.map_map, List.map_map]
        refine List.map_congr_left fun p _ => ?_
        by_cases e : p.1 = s
        · simp [e]
        · simp [e]
      · unfold encP
        rw [List.any_map, List.any_eq_true]
        obtain ⟨p, hp, rfl⟩ := List.mem_map.mp hm
        exact ⟨p, hp, by simp⟩
    · rw [List.map_eq_nil_iff] at e
      subst e
      cases hm
    · unfold Cl
      rw [List.map_map]
      have : ((fun x : Str × Int => x.1) ∘ fun p => if p.1 = s then (p.1, v) else p) = (·.1) := by
        funext p
        by_cases e : p.1 = s <;> simp [e]
      rw [this]
      exact h
  · refine ⟨c ++ [(s, v)], ?_, by simp, by simp, ?_⟩
    · unfold dput
      rw [if_neg ?_]
      · unfold encP; simp
      · unfold encP
        rw [List.any_map, List.any_eq_true]
        rintro ⟨p, hp, e⟩
        have e : p.1 = s := by simpa using e
        exact hm (List.mem_map.mpr ⟨p, hp, e⟩)
    · unfold Cl
      rw [List.map_append, List.nodup_append]
      refine ⟨h, by simp, fun a ha b hb e => ?_⟩
      have : b = s := by simpa using hb
      subst this
      subst e
      exact hm ha
theorem gtI_self {c : List (Str × Int)} (h : Cl c) {p : Str × Int} (hp : p ∈ c) : gtI c p.1 = some p.2 := by
  induction c with
  | nil => cases hp
  | cons q c ih =>
    unfold gtI
    rw [List.find?_cons]
    have hn := List.nodup_cons.mp (show (q.1 :: c.map (·.1)).Nodup from h)
    rcases List.mem_cons.mp hp with rfl | hp
    · simp
    · have : q.1 ≠ p.1 := fun e => hn.1 (List.mem_map.mpr ⟨p, hp, e.symm⟩)
      simp only [this, decide_false]
      exact ih hn.2 hp
theorem eqD_self {c : List (Str × Int)} (h : Cl c) : ∀ d : List (Str × Int), (∀ p ∈ d, p ∈ c) → eqD (encP d) (encP c) = true
  | [], _ => by unfold encP eqD; rfl
  | p :: d, hd => by
    have e := gtI_self h (hd p List.mem_cons_self)
    show eqD ((.inr p.1, .int p.2) :: encP d) (encP c) = true
    unfold eqD
    rw [dget_enc, e]
    show (eqP (.int p.2) (.int p.2) && eqD (encP d) (encP c)) = true
    rw [eqD_self h d fun q hq => hd q (List.mem_cons_of_mem _ hq)]
    simp [eqP]
theorem eqP_enc {c : List (Str × Int)} (h : Cl c) : eqP (.dic (encP c)) (.dic (encP c)) = true := by
  show ((encP c).length == (encP c).length && eqD (encP c) (encP c)) = true
  rw [eqD_self h c fun p hp => hp]
  simp
theorem dicD_enc (c : List (Str × Int)) : dicD (.dic (encP c)) = true := by
  show (encP c).all _ = true
  rw [List.all_eq_true]
  intro kv hk
  unfold encP at hk
  obtain ⟨p, _, rfl⟩ := List.mem_map.mp hk
  rfl
theorem ne_enc2 {c d : List (Str × Int)} (hc : Cl c) (hd : Cl d) : cmpP .NotEq (.lst [.dic (encP c), .dic (encP d)]) (.lst [.dic (encP c), .dic (encP d)]) = some false := by
  have g : eqG (.lst [.dic (encP c), .dic (encP d)]) (.lst [.dic (encP c), .dic (encP d)]) = true := by
    unfold eqG
    have : dicL (.lst [.dic (encP c), .dic (encP d)]) = true := by
      show ([PV.dic (encP c), .dic (encP d)]).all dicD = true
      rw [List.all_cons, List.all_cons, dicD_enc, dicD_enc]; rfl
    rw [this]; simp
  show grd _ _ = _
  rw [grd_pos g]
  have : eqP (.lst [.dic (encP c), .dic (encP d)]) (.lst [.dic (encP c), .dic (encP d)]) = true := by
    show (eqP (.dic (encP c)) (.dic (encP c)) && (eqP (.dic (encP d)) (.dic (encP d)) && true)) = true
    rw [eqP_enc hc, eqP_enc hd]; rfl
  rw [this]; rfl
theorem eq_enc2 {c d : List (Str × Int)} (hc : Cl c) (hd : Cl d) : cmpP .Eq (.lst [.dic (encP c), .dic (encP d)]) (.lst [.dic (encP c), .dic (encP d)]) = some true := by
  have h := ne_enc2 hc hd
  show grd _ _ = _
  replace h : grd _ _ = _ := h
  unfold grd at h ⊢
  split at h
  · rename_i g
    rw [if_pos g]
    cases h2 : eqP (.lst [.dic (encP c), .dic (encP d)]) (.lst [.dic (encP c), .dic (encP d)]) with
    | true => rfl
    | false => rw [h2] at h; cases h
  · cases h
theorem ints_ix {l : List Int} {m : Int} (h0 : 0 ≤ m) (h1 : m < l.length) : ∃ v, v ∈ l ∧ ixP (.lst (l.map PV.int)) (.int m) = some (.int v) := by
  obtain ⟨n, rfl⟩ := Int.eq_ofNat_of_zero_le h0
  have hn : n < l.length := by omega
  refine ⟨l[n], List.getElem_mem hn, ?_⟩
  show atI (l.map PV.int) _ = _
  unfold atI ixN
  rw [if_pos (by omega), if_pos (by rw [List.length_map]; omega)]
  show (l.map PV.int)[(n : Int).toNat]? = _
  rw [Int.toNat_natCast, List.getElem?_map, List.getElem?_eq_getElem hn]
  rfl
theorem p42 : ∃ T : Int, 0 < T ∧ opP .Pow (.int 10) (.int 42) = some (.int T) := ⟨10 ^ (42 : Int).toNat, Int.pow_pos (by omega), grd_pos (by omega)⟩
theorem mul98 (n : Int) : mulOk n 982451653 := by unfold mulOk; right; omega
/-- what the names' def tells -/
def NameSo (G : PGm) : Prop := ∃ run, G.fn "_law_name_by" = some ⟨[.sh, .sh], false, run⟩ ∧ ∀ cell k : Int, 0 ≤ k → k < 1000 → ∃ s, run [.int cell, .int k] = .ok (.str s) [] ∧ Nm s
theorem lt_line {n : Nat} (h : n < 100) : n < sizeLine := by rw [sizeLine_eq]; omega
theorem enc_len (c : List (Str × Int)) : (encP c).length = c.length := List.length_map _
theorem life_turn {G : PGm} (N : NameSo G) (cell nb : Int) (c : List (Str × Int)) (hc : Cl c) (hl : c.length < 90) (k : Nat) (hk : k < 6) (o4 o5 : Option PV) : ∃ c' p4 p5, 
    runs G l_life_by_2 [some (.int cell), some (.int nb), some (.dic (encP c)), some (.int (k : Int)), o4, o5] = .ok .nx [some (.int cell), some (.int nb), some (.dic (encP c')), some (.int (k : Int)), p4, p5] ∧ Cl c' ∧ c'.length ≤ c.length + 1 := by
  obtain ⟨run, n1, n2⟩ := N
  obtain ⟨T, p42_pos, p42⟩ := p42
  unfold l_life_by_2 l_life_by_3 l_life_by_4 l_life_by_5
  have g1 : 0 < (k : Int) + 1 ∧ (k : Int) + 1 < 1073741824 := by omega
  have g2 : mulOk (k : Int) (k : Int) := by unfold mulOk; omega
  have g3 : mulOk ((k : Int) * (k : Int)) 7 := by unfold mulOk; right; omega
  obtain ⟨n, hn⟩ : ∃ n, n = cell / ((k : Int) + 1) + (k : Int) * (k : Int) * 7 := ⟨_, rfl⟩
  by_cases h : 0 < n % 4
  · obtain ⟨s, e1, e2⟩ := n2 nb k (by omega) (by omega)
    obtain ⟨v, _, e3⟩ := ints_ix (l := [n / 4 % 50, n / 4 % 2000, n * 982451653 % T]) (m := n % 3) (Int.emod_nonneg _ (by omega)) (Int.emod_lt_of_pos _ (by show (0 : Int) < 3; omega))
    rw [List.map_cons, List.map_cons, List.map_cons, List.map_nil] at e3
    obtain ⟨c', e4, h1, h2, h3⟩ := dput_enc c s v hc
    have hz : (encP c).length < sizeLine := by rw [enc_len]; exact lt_line (by omega)
    refine ⟨c', some (.int n), some (.lst [.int (n / 4 % 50), .int (n / 4 % 2000), .int (n * 982451653 % T)]), ?_, h3, h1⟩
    simp_arith [grd_pos, grd_pos g1, grd_pos g2, grd_pos g3, ← hn, h, p42, grd_pos p42_pos, grd_pos (mul98 _), n1, e1, e3, lvOf, getL, getP, setL, setP, keyP, grd_pos hz, e4]
  · refine ⟨c, some (.int n), o5, ?_, hc, by omega⟩
    simp_arith [grd_pos, grd_pos g1, grd_pos g2, grd_pos g3, ← hn, h]
theorem life_ok {G : PGm} (N : NameSo G) (cell nb : Int) : ∃ c, defP G [.sh, .sh] 6 l_life_by_0 [.int cell, .int nb] = .ok (.dic (encP c)) [] ∧ Cl c ∧ c.length ≤ 6 := by
  unfold defP l_life_by_0 l_life_by_1 l_life_by_6
  have : startP 6 [PV.int cell, .int nb] = [some (.int cell), some (.int nb), none, none, none, none] := rfl
  rw [this]
  obtain ⟨env', e, c, p3, p4, p5, rfl, hc, hl⟩ := for_ix (turn := fun x env => runs G l_life_by_2 (env.set 3 (some x))) (fun i env => ∃ c p3 p4 p5, env = [some (.int cell), some (.int nb), some (.dic (encP c)), p3, p4, p5] ∧ Cl c ∧ c.length ≤ i)
    ((List.range (Int.toNat 6)).map fun (k : Nat) => PV.int (k : Int)) 0 [some (.int cell), some (.int nb), some (.dic []), none, none, none] ⟨[], _, _, _, rfl, List.nodup_nil, by simp⟩ (fun i x env hx hi => by
      obtain ⟨c, p3, p4, p5, rfl, hc, hl⟩ := hi
      obtain ⟨hi, rfl⟩ := rng_at hx
      replace hi : i < 6 := hi
      obtain ⟨c', q4, q5, e, h1, h2⟩ := life_turn N cell nb c hc (by omega) i hi p4 p5
      exact ⟨_, e, c', _, _, _, rfl, h1, by omega⟩)
  refine ⟨c, ?_, hc, by simpa using hl⟩
  have gn : -(2 ^ 62) ≤ (6 : Int) ∧ (6 : Int) < 2 ^ 62 := by omega
  simp_arith [grd_pos gn, e]
  rfl
theorem cut_ints (ns : List Int) (lo hi : Option Int) : ∃ ms : List Int, cutP (ns.map PV.int) lo hi = ms.map PV.int ∧ ms.length ≤ ns.length := by
  refine ⟨(ns.drop (HT.sIx (ns.map PV.int).length 0 lo)).take (HT.sIx (ns.map PV.int).length (ns.map PV.int).length hi - HT.sIx (ns.map PV.int).length 0 lo), ?_, ?_⟩
  · unfold cutP
    rw [List.map_take, List.map_drop]
  · rw [List.length_take, List.length_drop]; omega
theorem op_addl {xs ys : List PV} (h : xs.length + ys.length ≤ sizeLine) : opP .Add (.lst xs) (.lst ys) = some (.lst (xs ++ ys)) := grd_pos h
theorem at_nat {xs : List PV} {i : Nat} (h : i < xs.length) : ixP (.lst xs) (.int (i : Int)) = some xs[i] := by
  show atI xs _ = _
  unfold atI ixN
  rw [if_pos (by omega), if_pos (by omega)]
  show xs[(i : Int).toNat]? = _
  rw [Int.toNat_natCast, List.getElem?_eq_getElem h]
theorem at_prev {xs : List PV} {i : Nat} (h : i < xs.length) : ∃ y, y ∈ xs ∧ ixP (.lst xs) (.int ((i : Int) - 1)) = some y := by
  cases i with
  | zero =>
    refine ⟨xs[xs.length - 1], List.getElem_mem _, ?_⟩
    show atI xs _ = _
    unfold atI ixN
    rw [if_neg (by omega), if_pos (by omega)]
    show xs[((0 : Nat) - 1 + xs.length : Int).toNat]? = _
    rw [show ((0 : Nat) - 1 + xs.length : Int).toNat = xs.length - 1 by omega, List.getElem?_eq_getElem (by omega)]
  | succ i =>
    refine ⟨xs[i], List.getElem_mem _, ?_⟩
    rw [show ((i + 1 : Nat) : Int) - 1 = (i : Int) by omega]
    exact at_nat (by omega)
theorem ne_oV (a : Option Int) : cmpP .NotEq (oV a) (oV a) = some false := by
  cases a with
  | none => rfl
  | some i => exact Eq.trans c_nei (by simp)
/-- sorted names: one of them at each place -/
theorem srt_at {c : List (Str × Int)} (hn : c ≠ []) (hl : c.length < 60) (i : Int) : ∃ zs : List PV, ∃ s, biP .sorted [.dic (encP c)] = some (.lst zs) ∧ ixP (.lst zs) (.int (i % (c.length : Int))) = some (.str s) ∧ s ∈ c.map (·.1) := by
  have hk : (encP c).map (fun kv => kP kv.1) = (c.map (·.1)).map PV.str := enc_keys c
  have hs : strsOf ((c.map (·.1)).map PV.str) = some (c.map (·.1)) := by
    generalize c.map (·.1) = l
    induction l with
    | nil => rfl
    | cons a l ih => show (strsOf (l.map PV.str)).map _ = _; rw [ih]; rfl
  have h1 : biP .sorted [.dic (encP c)] = some (.lst ((sortG ltS (c.map (·.1))).map PV.str)) := by
    show grd _ _ = _
    rw [hk, grd_pos ?_, sortB_map PV.str (lt := ltS) (fun _ _ => rfl)]
    unfold srtOkD
    rw [hs]
    simp
    omega
  have hp := sortG_perm (lt := ltS) (c.map (·.1))
  have hlen : (sortG ltS (c.map (·.1))).length = c.length := by rw [hp.length_eq, List.length_map]
  have hpos : 0 < c.length := List.length_pos_iff.mpr hn
  have m1 := Int.emod_nonneg i (show (c.length : Int) ≠ 0 by omega)
  have m2 := Int.emod_lt_of_pos i (show (0 : Int) < c.length by omega)
  obtain ⟨n, en⟩ := Int.eq_ofNat_of_zero_le m1
  rw [en]
  have hn2 : n < (sortG ltS (c.map (·.1))).length := by omega
  refine ⟨_, (sortG ltS (c.map (·.1)))[n], h1, ?_, hp.mem_iff.mp (List.getElem_mem hn2)⟩
  rw [at_nat (by rw [List.length_map]; exact hn2), List.getElem_map]
def CellSo (G : PGm) : Prop := ∃ run, G.fn "_law_cell_at" = some ⟨[.sh, .sh], false, run⟩ ∧ ∀ ns : List Int, run [.lst (ns.map PV.int), .int 0] = .ok (.int (ns.headD 0)) []
def WholeSo (G : PGm) : Prop := ∃ run, G.fn "_law_whole" = some ⟨[.sh], false, run⟩ ∧ ∀ i : Int, run [.int i] = .ok (.bl true) []
theorem isNon_oV (a : Option Int) : isNon (oV a) = a.isNone := by cases a <;> rfl
/-! ### data equal themselves -/
theorem str_self (s : Str) : (s == s) = true := by simp
mutual
theorem eqP_self : ∀ (x : PV) (n : Nat), datN x n = true → eqP x x = true
  | .non, _, _ => rfl
  | .bl b, _, _ => by cases b <;> rfl
  | .int i, _, _ => by show (i == i) = true; simp
  | .str s, _, _ => str_self s
  | .lst xs, n, h => by
    cases n with
    | zero => cases h
    | succ n => exact eqL_self xs n h
  | .tup xs, n, h => by
    cases n with
    | zero => cases h
    | succ n => exact eqL_self xs n h
  | .dic _, _, h => by unfold datN at h; cases h
  | .obj _ _, _, h => by unfold datN at h; cases h
  | .exc _ _, _, h => by unfold datN at h; cases h
theorem eqL_self : ∀ (xs : List PV) (n : Nat), datNL xs n = true → eqL xs xs = true
  | [], _, _ => rfl
  | x :: xs, n, h => by
    replace h : (datN x n && datNL xs n) = true := h
    rw [Bool.and_eq_true] at h
    show (eqP x x && eqL xs xs) = true
    rw [eqP_self x n h.1, eqL_self xs n h.2]
    rfl
end
theorem datNL_app {xs ys : List PV} {n : Nat} (h1 : datNL xs n = true) (h2 : datNL ys n = true) : datNL (xs ++ ys) n = true := by
  induction xs with
  | nil => exact h2
  | cons x xs ih =>
    replace h1 : (datN x n && datNL xs n) = true := h1
    rw [Bool.and_eq_true] at h1
    show (datN x n && datNL (xs ++ ys) n) = true
    rw [h1.1, ih h1.2]
    rfl
theorem eq_self' {x : PV} (h : dat x = true) : cmpP .Eq x x = some true := by
  show grd _ _ = _
  rw [grd_pos (by unfold eqG; rw [h]; rfl), eqP_self x 60 h]
theorem ne_self' {x : PV} (h : dat x = true) : cmpP .NotEq x x = some false := by
  show grd _ _ = _
  rw [grd_pos (by unfold eqG; rw [h]; rfl), eqP_self x 60 h]
  rfl
theorem ne_enc {c : List (Str × Int)} (h : Cl c) : cmpP .NotEq (.dic (encP c)) (.dic (encP c)) = some false := by
  show grd _ _ = _
  rw [grd_pos (by unfold eqG; rw [dicD_enc]; simp), eqP_enc h]
  rfl
end Vc

set_option Elab.async false
set_option linter.all false
set_option maxRecDepth 100000
set_option maxHeartbeats 1000000
namespace T
open PySem Vc
def Term_due_0 : Sts := .cons (.ret .kn) .nil
abbrev Term_due_N : List Str := ["self", "life"]
abbrev Term_due_P : List Str := ["self", "life"]
def Term_leaves_0 : Sts := .cons (.ret (.lst .nil)) .nil
abbrev Term_leaves_N : List Str := ["self"]
abbrev Term_leaves_P : List Str := ["self"]
def After_due_1 : Sts := .cons (.ret .kn) .nil
def After_due_2 : Sts := .cons (.ret (.op .Add (.ix (.v 1) (.fld (.v 0) "kind")) (.fld (.v 0) "days"))) .nil
def After_due_0 : Sts := .cons (.ifs (.cmp .NotIn (.fld (.v 0) "kind") (.v 1)) After_due_1 .nil) After_due_2
abbrev After_due_N : List Str := ["self", "life"]
abbrev After_due_P : List Str := ["self", "life"]
def After_leaves_0 : Sts := .cons (.ret (.lst (.cons (.tup (.cons (.fld (.v 0) "kind") (.cons (.fld (.v 0) "days") .nil))) .nil))) .nil
abbrev After_leaves_N : List Str := ["self"]
abbrev After_leaves_P : List Str := ["self"]
def Later_due_3 : Sts := .cons (.ret .kn) .nil
def Later_due_4 : Sts := .cons (.ret (.bi .max (.cons (.v 2) (.cons (.v 3) .nil)))) .nil
def Later_due_2 : Sts := .cons (.ifs (.or (.cmp .Is (.v 2) .kn) (.cmp .Is (.v 3) .kn)) Later_due_3 .nil) Later_due_4
def Later_due_1 : Sts := .cons (.set 3 (.meth "due" (.fld (.v 0) "other") (.cons (.v 1) .nil))) Later_due_2
def Later_due_0 : Sts := .cons (.set 2 (.meth "due" (.fld (.v 0) "one") (.cons (.v 1) .nil))) Later_due_1
abbrev Later_due_N : List Str := ["self", "life", "left", "right"]
abbrev Later_due_P : List Str := ["self", "life"]
def Later_leaves_0 : Sts := .cons (.ret (.op .Add (.meth "leaves" (.fld (.v 0) "one") .nil) (.meth "leaves" (.fld (.v 0) "other") .nil))) .nil
abbrev Later_leaves_N : List Str := ["self"]
abbrev Later_leaves_P : List Str := ["self"]
def Earlier_due_3 : Sts := .cons (.ret (.v 3)) .nil
def Earlier_due_5 : Sts := .cons (.ret (.v 2)) .nil
def Earlier_due_6 : Sts := .cons (.ret (.bi .min (.cons (.v 2) (.cons (.v 3) .nil)))) .nil
def Earlier_due_4 : Sts := .cons (.ifs (.cmp .Is (.v 3) .kn) Earlier_due_5 .nil) Earlier_due_6
def Earlier_due_2 : Sts := .cons (.ifs (.cmp .Is (.v 2) .kn) Earlier_due_3 .nil) Earlier_due_4
def Earlier_due_1 : Sts := .cons (.set 3 (.meth "due" (.fld (.v 0) "other") (.cons (.v 1) .nil))) Earlier_due_2
def Earlier_due_0 : Sts := .cons (.set 2 (.meth "due" (.fld (.v 0) "one") (.cons (.v 1) .nil))) Earlier_due_1
abbrev Earlier_due_N : List Str := ["self", "life", "left", "right"]
abbrev Earlier_due_P : List Str := ["self", "life"]
def Earlier_leaves_0 : Sts := .cons (.ret (.op .Add (.meth "leaves" (.fld (.v 0) "one") .nil) (.meth "leaves" (.fld (.v 0) "other") .nil))) .nil
abbrev Earlier_leaves_N : List Str := ["self"]
abbrev Earlier_leaves_P : List Str := ["self"]
def never_0 : Sts := .cons (.ret (.make "Term" .nil)) .nil
abbrev never_N : List Str := []
abbrev never_P : List Str := []
def after_0 : Sts := .cons (.ret (.make "After" (.cons (.v 0) (.cons (.v 1) .nil)))) .nil
abbrev after_N : List Str := ["kind", "days"]
abbrev after_P : List Str := ["kind", "days"]
def later_0 : Sts := .cons (.ret (.make "Later" (.cons (.v 0) (.cons (.v 1) .nil)))) .nil
abbrev later_N : List Str := ["one", "other"]
abbrev later_P : List Str := ["one", "other"]
def earlier_0 : Sts := .cons (.ret (.make "Earlier" (.cons (.v 0) (.cons (.v 1) .nil)))) .nil
abbrev earlier_N : List Str := ["one", "other"]
abbrev earlier_P : List Str := ["one", "other"]
def l_length_by_2 : Sts := .cons (.ret (.op .Mod (.op .Mult (.op .FloorDiv (.v 0) (.ki 4)) (.ki 982451653)) (.op .Pow (.ki 10) (.ki 40)))) .nil
def l_length_by_3 : Sts := .cons (.ret (.op .Mult (.op .Mod (.op .FloorDiv (.v 0) (.ki 4)) (.ix (.lst (.cons (.ki 40) (.cons (.ki 12) (.cons (.ki 9) .nil)))) (.v 1))) (.ix (.lst (.cons (.ki 1) (.cons (.ki 30) (.cons (.ki 360) .nil)))) (.v 1)))) .nil
def l_length_by_1 : Sts := .cons (.ifs (.cmp .Eq (.v 1) (.ki 3)) l_length_by_2 .nil) l_length_by_3
def l_length_by_0 : Sts := .cons (.set 1 (.op .Mod (.v 0) (.ki 4))) l_length_by_1
abbrev l_length_by_N : List Str := ["_law_cell", "_law_way"]
abbrev l_length_by_P : List Str := ["_law_cell"]
def l_tree_by_5 : Sts := .cons (.ex (.bm .append (.v 3) (.cons (.tup (.cons (.ix (.lst (.cons (.ks "later") (.cons (.ks "earlier") .nil))) (.op .Mod (.v 5) (.ki 5))) (.cons (.bm .pop (.v 3) .nil) (.cons (.v 6) .nil)))) .nil))) .nil
def l_tree_by_4 : Sts := .cons (.set 6 (.bm .pop (.v 3) .nil)) l_tree_by_5
def l_tree_by_9 : Sts := .cons (.ex (.bm .append (.v 3) (.cons (.tup (.cons (.ks "never") .nil)) .nil))) .nil
def l_tree_by_11 : Sts := .cons (.ex (.bm .append (.v 3) (.cons (.tup (.cons (.ks "after") (.cons (.ix (.lst (.cons (.v 7) (.cons (.ks "put") .nil))) (.bi .int (.cons (.cmp .Eq (.op .Mod (.op .FloorDiv (.v 5) (.ki 5)) (.ki 9)) (.ki 4)) .nil))) (.cons (.call "_law_length_by" (.cons (.op .FloorDiv (.v 5) (.ki 30)) .nil)) .nil)))) .nil))) .nil
def l_tree_by_10 : Sts := .cons (.set 7 (.call "_law_name_by" (.cons (.v 1) (.cons (.op .Mod (.op .FloorDiv (.v 5) (.ki 5)) (.ki 6)) .nil)))) l_tree_by_11
def l_tree_by_8 : Sts := .cons (.ifs (.cmp .Eq (.op .Mod (.op .FloorDiv (.v 5) (.ki 5)) (.ki 11)) (.ki 7)) l_tree_by_9 l_tree_by_10) .nil
def l_tree_by_7 : Sts := .cons (.set 4 (.op .Add (.v 4) (.ki 1))) l_tree_by_8
def l_tree_by_6 : Sts := .cons (.ifs (.cmp .Lt (.v 4) (.v 2)) l_tree_by_7 .nil) .nil
def l_tree_by_3 : Sts := .cons (.ifs (.and (.cmp .Lt (.op .Mod (.v 5) (.ki 5)) (.ki 2)) (.cmp .Gt (.bi .len (.cons (.v 3) .nil)) (.ki 1))) l_tree_by_4 l_tree_by_6) .nil
def l_tree_by_13 : Sts := .cons (.ret (.tup (.cons (.ks "never") .nil))) .nil
def l_tree_by_16 : Sts := .cons (.ex (.bm .append (.v 3) (.cons (.tup (.cons (.ix (.lst (.cons (.ks "later") (.cons (.ks "earlier") .nil))) (.op .Mod (.bi .len (.cons (.v 3) .nil)) (.ki 2))) (.cons (.bm .pop (.v 3) .nil) (.cons (.v 6) .nil)))) .nil))) .nil
def l_tree_by_15 : Sts := .cons (.set 6 (.bm .pop (.v 3) .nil)) l_tree_by_16
def l_tree_by_17 : Sts := .cons (.ret (.ix (.v 3) (.ki 0))) .nil
def l_tree_by_14 : Sts := .cons (.whl (.cmp .Gt (.bi .len (.cons (.v 3) .nil)) (.ki 1)) l_tree_by_15) l_tree_by_17
def l_tree_by_12 : Sts := .cons (.ifs (.cmp .Eq (.v 3) (.lst .nil)) l_tree_by_13 .nil) l_tree_by_14
def l_tree_by_2 : Sts := .cons (.fors (.nm 5) (.seq (.v 0)) l_tree_by_3) l_tree_by_12
def l_tree_by_1 : Sts := .cons (.set 4 (.ki 0)) l_tree_by_2
def l_tree_by_0 : Sts := .cons (.set 3 (.lst .nil)) l_tree_by_1
abbrev l_tree_by_N : List Str := ["_law_cells", "_law_names_by", "_law_most", "_law_some", "_law_many_here", "_law_cell", "_law_other", "_law_kind"]
abbrev l_tree_by_P : List Str := ["_law_cells", "_law_names_by", "_law_most"]
def l_made_1 : Sts := .cons (.ret (.call "never" .nil)) .nil
def l_made_3 : Sts := .cons (.ret (.call "after" (.cons (.ix (.v 0) (.ki 1)) (.cons (.ix (.v 0) (.ki 2)) .nil)))) .nil
def l_made_5 : Sts := .cons (.ret (.call "later" (.cons (.call "_law_made" (.cons (.ix (.v 0) (.ki 1)) .nil)) (.cons (.call "_law_made" (.cons (.ix (.v 0) (.ki 2)) .nil)) .nil)))) .nil
def l_made_6 : Sts := .cons (.ret (.call "earlier" (.cons (.call "_law_made" (.cons (.ix (.v 0) (.ki 1)) .nil)) (.cons (.call "_law_made" (.cons (.ix (.v 0) (.ki 2)) .nil)) .nil)))) .nil
def l_made_4 : Sts := .cons (.ifs (.cmp .Eq (.ix (.v 0) (.ki 0)) (.ks "later")) l_made_5 .nil) l_made_6
def l_made_2 : Sts := .cons (.ifs (.cmp .Eq (.ix (.v 0) (.ki 0)) (.ks "after")) l_made_3 .nil) l_made_4
def l_made_0 : Sts := .cons (.ifs (.cmp .Eq (.ix (.v 0) (.ki 0)) (.ks "never")) l_made_1 .nil) l_made_2
abbrev l_made_N : List Str := ["_law_tree"]
abbrev l_made_P : List Str := ["_law_tree"]
def l_due_1 : Sts := .cons (.ret .kn) .nil
def l_due_3 : Sts := .cons (.ret (.ife (.cmp .In (.ix (.v 0) (.ki 1)) (.v 1)) (.op .Add (.ix (.v 1) (.ix (.v 0) (.ki 1))) (.ix (.v 0) (.ki 2))) .kn)) .nil
def l_due_8 : Sts := .cons (.ret .kn) .nil
def l_due_9 : Sts := .cons (.ret (.ife (.cmp .Is (.v 2) .kn) (.v 3) (.v 2))) .nil
def l_due_7 : Sts := .cons (.ifs (.cmp .Eq (.ix (.v 0) (.ki 0)) (.ks "later")) l_due_8 .nil) l_due_9
def l_due_11 : Sts := .cons (.ret (.ife (.cmp .Lt (.v 2) (.v 3)) (.v 3) (.v 2))) .nil
def l_due_12 : Sts := .cons (.ret (.ife (.cmp .Lt (.v 2) (.v 3)) (.v 2) (.v 3))) .nil
def l_due_10 : Sts := .cons (.ifs (.cmp .Eq (.ix (.v 0) (.ki 0)) (.ks "later")) l_due_11 .nil) l_due_12
def l_due_6 : Sts := .cons (.ifs (.or (.cmp .Is (.v 2) .kn) (.cmp .Is (.v 3) .kn)) l_due_7 .nil) l_due_10
def l_due_5 : Sts := .cons (.set 3 (.call "_law_due" (.cons (.ix (.v 0) (.ki 2)) (.cons (.v 1) .nil)))) l_due_6
def l_due_4 : Sts := .cons (.set 2 (.call "_law_due" (.cons (.ix (.v 0) (.ki 1)) (.cons (.v 1) .nil)))) l_due_5
def l_due_2 : Sts := .cons (.ifs (.cmp .Eq (.ix (.v 0) (.ki 0)) (.ks "after")) l_due_3 .nil) l_due_4
def l_due_0 : Sts := .cons (.ifs (.cmp .Eq (.ix (.v 0) (.ki 0)) (.ks "never")) l_due_1 .nil) l_due_2
abbrev l_due_N : List Str := ["_law_tree", "_law_life", "_law_left", "_law_right"]
abbrev l_due_P : List Str := ["_law_tree", "_law_life"]
def l_many_1 : Sts := .cons (.ret (.ki 1)) .nil
def l_many_3 : Sts := .cons (.ret (.ki 3)) .nil
def l_many_4 : Sts := .cons (.ret (.op .Add (.op .Add (.ki 1) (.call "_law_many" (.cons (.ix (.v 0) (.ki 1)) .nil))) (.call "_law_many" (.cons (.ix (.v 0) (.ki 2)) .nil)))) .nil
def l_many_2 : Sts := .cons (.ifs (.cmp .Eq (.ix (.v 0) (.ki 0)) (.ks "after")) l_many_3 .nil) l_many_4
def l_many_0 : Sts := .cons (.ifs (.cmp .Eq (.ix (.v 0) (.ki 0)) (.ks "never")) l_many_1 .nil) l_many_2
abbrev l_many_N : List Str := ["_law_tree"]
abbrev l_many_P : List Str := ["_law_tree"]
def l_leaves_1 : Sts := .cons (.ret (.lst .nil)) .nil
def l_leaves_3 : Sts := .cons (.ret (.lst (.cons (.sl (.v 0) (.some (.ki 1)) .none) .nil))) .nil
def l_leaves_4 : Sts := .cons (.ret (.op .Add (.call "_law_leaves" (.cons (.ix (.v 0) (.ki 1)) .nil)) (.call "_law_leaves" (.cons (.ix (.v 0) (.ki 2)) .nil)))) .nil
def l_leaves_2 : Sts := .cons (.ifs (.cmp .Eq (.ix (.v 0) (.ki 0)) (.ks "after")) l_leaves_3 .nil) l_leaves_4
def l_leaves_0 : Sts := .cons (.ifs (.cmp .Eq (.ix (.v 0) (.ki 0)) (.ks "never")) l_leaves_1 .nil) l_leaves_2
abbrev l_leaves_N : List Str := ["_law_tree"]
abbrev l_leaves_P : List Str := ["_law_tree"]
end T
namespace Vc
open PySem PySem.Spec PyProof.Rows L2
local macro_rules | `(tactic| simp_arith [$xs,*]) => `(tactic| simp (maxSteps := 400000) -implicitDefEqProofs only [↓reduceIte, Int.reduceLT, Int.reduceLE, Int.reduceEq, Int.reduceNe, reduceCtorEq,
  Rs.bind_ok, Rs.bind_ex, Rs.bind_bad, evT_v, ev_v, evT_ki, ev_ki, evT_ks, ev_ks, evT_kb, ev_kb, evT_kn, ev_kn, evT_g, ev_g, evT_op, ev_op, evT_cmp, ev_cmp, evT_chain, ev_chain, 
  evT_and, ev_and, evT_or, ev_or, evT_not, ev_not, evT_neg, ev_neg, evT_ife, ev_ife, evT_call, ev_call, evT_bi, ev_bi, evT_isi, ev_isi, evT_isiT, ev_isiT, evT_bm, ev_bm, evT_ix, 
  ev_ix, evT_sl, ev_sl, evT_lst, ev_lst, evT_tup, ev_tup, evT_dict0, ev_dict0, evT_lc, evT_fld, ev_fld, evT_meth, ev_meth, evT_make, ev_make, evs_nil, evs_cons, evo_none, evo_some, 
  evC_none, evC_some, evSrc_seq, evSrc_keys, evSrc_rng, opt_some, opt_none, map_some', bind_some', noEx_ok, op_addi, op_subi, op_muli, op_divi, op_modi, c_eqi, c_nei, c_lti, c_lei, 
  c_gti, c_gei, c_isn, c_ntn, tru_bl, tru_int, tru_non, bi_leni, bi_lent, bi_lend, bi_absi, bi_inti, bi_intb, sz0, ix_dic, c_ind, c_nid, key_s, key_i, bi_dict, isNon_int, isNon_non, 
  some_some, none_some, sz1, sz2, sz3, sz4, sz5, run_set, run_unp, run_ex, run_ifs, run_fors, run_whl, run_ret, run_retn, run_raise, run_pass, run_tr, dicP_dic, run_sub, run_lock, 
  run_setlc, run_sfld, run_raise1, runs_nil, runs_cons, getS_z, getS_s, set_z, set_s, tg_nm, tg_lst, tg_tup, sa_n, sa_c, lv_v, lv_f, getL_p, getP_n, getP_c, setP_n, setL_p, call_ok, 
  call_ex, wb_sh, wb_bw, wb_n, b_1, b_1', b_1'', b_2, b_3, b_4, b_5, b_6, b_7, b_8, b_9, b_10, b_11, isM_app, isM_pop, isM_ext, isM_clr, isM_join, isM_split, isM_part, isM_zf, isM_idx, isM_get, isM_cnt, mK_app, mK_pop, mK_ext, mK_clr, mK_clrd, bK_split, bK_part, bK_join, bK_zf, bK_idx, bK_cnt, bK_get, mut_app, mut_pop, c_eqs, c_nes, tu1, tu20, tu21, tu30, tu31, tu32, ini0, ini2, at0, at1, try_ok, tp2, tp3, $xs,*])
open T
/-! ### terms -/
inductive Tm where
  | nev
  | aft (k : Str) (n : Int)
  | lat (a b : Tm)
  | ear (a b : Tm)
def hgt : Tm → Nat
  | .nev => 1
  | .aft _ _ => 1
  | .lat a b => max (hgt a) (hgt b) + 1
  | .ear a b => max (hgt a) (hgt b) + 1
def lvs : Tm → Nat
  | .nev => 1
  | .aft _ _ => 1
  | .lat a b => lvs a + lvs b
  | .ear a b => lvs a + lvs b
theorem lvs_pos : ∀ t, 1 ≤ lvs t
  | .nev => Nat.le_refl _
  | .aft _ _ => Nat.le_refl _
  | .lat a b => by have := lvs_pos a; show 1 ≤ lvs a + lvs b; omega
  | .ear a b => by have := lvs_pos a; show 1 ≤ lvs a + lvs b; omega
theorem hgt_lvs : ∀ t, hgt t ≤ lvs t
  | .nev => Nat.le_refl _
  | .aft _ _ => Nat.le_refl _
  | .lat a b => by have := hgt_lvs a; have := hgt_lvs b; have := lvs_pos a; have := lvs_pos b; show max (hgt a) (hgt b) + 1 ≤ lvs a + lvs b; omega
  | .ear a b => by have := hgt_lvs a; have := hgt_lvs b; have := lvs_pos a; have := lvs_pos b; show max (hgt a) (hgt b) + 1 ≤ lvs a + lvs b; omega
theorem hgt_pos (t : Tm) : 1 ≤ hgt t := by cases t <;> (unfold hgt; omega)
/-- the law's tuples -/
def treeP : Tm → PV
  | .nev => .tup [.str "never"]
  | .aft k n => .tup [.str "after", .str k, .int n]
  | .lat a b => .tup [.str "later", treeP a, treeP b]
  | .ear a b => .tup [.str "earlier", treeP a, treeP b]
/-- the program's things -/
def clsN : Tm → Str
  | .nev => "Term"
  | .aft _ _ => "After"
  | .lat _ _ => "Later"
  | .ear _ _ => "Earlier"
def fldN : Tm → List (Str × PV)
  | .nev => []
  | .aft k n => [("kind", .str k), ("days", .int n)]
  | .lat a b => [("one", .obj (clsN a) (fldN a)), ("other", .obj (clsN b) (fldN b))]
  | .ear a b => [("one", .obj (clsN a) (fldN a)), ("other", .obj (clsN b) (fldN b))]
def objP (t : Tm) : PV := .obj (clsN t) (fldN t)
theorem obj_nev : objP .nev = .obj "Term" [] := rfl
theorem obj_aft {k : Str} {n : Int} : objP (.aft k n) = .obj "After" [("kind", .str k), ("days", .int n)] := rfl
theorem obj_lat {a b : Tm} : objP (.lat a b) = .obj "Later" [("one", .obj (clsN a) (fldN a)), ("other", .obj (clsN b) (fldN b))] := rfl
theorem obj_ear {a b : Tm} : objP (.ear a b) = .obj "Earlier" [("one", .obj (clsN a) (fldN a)), ("other", .obj (clsN b) (fldN b))] := rfl
def maxO : Option Int → Option Int → Option Int
  | some i, some j => some (if i < j then j else i)
  | _, _ => none
def minO : Option Int → Option Int → Option Int
  | some i, some j => some (if i < j then i else j)
  | some i, none => some i
  | none, o => o
def dueV : Tm → List (Str × Int) → Option Int
  | .nev, _ => none
  | .aft k n, l => (gtI l k).map (· + n)
  | .lat a b, l => maxO (dueV a l) (dueV b l)
  | .ear a b, l => minO (dueV a l) (dueV b l)
def lvP : Tm → List PV
  | .nev => []
  | .aft k n => [.tup [.str k, .int n]]
  | .lat a b => lvP a ++ lvP b
  | .ear a b => lvP a ++ lvP b
theorem lvP_len : ∀ t, (lvP t).length ≤ lvs t
  | .nev => Nat.zero_le _
  | .aft _ _ => Nat.le_refl _
  | .lat a b => by have := lvP_len a; have := lvP_len b; show (lvP a ++ lvP b).length ≤ lvs a + lvs b; rw [List.length_append]; omega
  | .ear a b => by have := lvP_len a; have := lvP_len b; show (lvP a ++ lvP b).length ≤ lvs a + lvs b; rw [List.length_append]; omega
def manyV : Tm → Int
  | .nev => 1
  | .aft _ _ => 3
  | .lat a b => 1 + manyV a + manyV b
  | .ear a b => 1 + manyV a + manyV b
/-- names that stand for days, lengths of up to 40 figures -/
def OkT : Tm → Prop
  | .nev => True
  | .aft k n => (Nm k) ∧ 0 ≤ n ∧ n < 10 ^ 40
  | .lat a b => OkT a ∧ OkT b
  | .ear a b => OkT a ∧ OkT b
theorem s_nn : (("never" : Str) == "never") = true := rfl
theorem s_an : (("after" : Str) == "never") = false := rfl
theorem s_aa : (("after" : Str) == "after") = true := rfl
theorem s_ln : (("later" : Str) == "never") = false := rfl
theorem s_la : (("later" : Str) == "after") = false := rfl
theorem s_ll : (("later" : Str) == "later") = true := rfl
theorem s_en : (("earlier" : Str) == "never") = false := rfl
theorem s_ea : (("earlier" : Str) == "after") = false := rfl
theorem s_el : (("earlier" : Str) == "later") = false := rfl
theorem lk_kind {x y : PV} : List.lookup ("kind" : Str) [("kind", x), ("days", y)] = some x := rfl
theorem lk_days {x y : PV} : List.lookup ("days" : Str) [("kind", x), ("days", y)] = some y := rfl
theorem lk_one {x y : PV} : List.lookup ("one" : Str) [("one", x), ("other", y)] = some x := rfl
theorem lk_other {x y : PV} : List.lookup ("other" : Str) [("one", x), ("other", y)] = some y := rfl
theorem lk_due : ∀ t, (List.lookup ("due" : Str) (fldN t)).isSome = false
  | .nev => rfl
  | .aft _ _ => rfl
  | .lat _ _ => rfl
  | .ear _ _ => rfl
theorem lk_leaves : ∀ t, (List.lookup ("leaves" : Str) (fldN t)).isSome = false
  | .nev => rfl
  | .aft _ _ => rfl
  | .lat _ _ => rfl
  | .ear _ _ => rfl
/-- a def of the family and what is known of it -/
def FnIs (G : PGm) (f : Str) (ps : List Pm) (own : Bool) (P : (List PV → Res) → Prop) : Prop := ∃ run, G.fn f = some ⟨ps, own, run⟩ ∧ P run
structure MkSo (G : PGm) : Prop where
  nev : FnIs G "never" [] false fun r => r [] = .ok (objP .nev) []
  aft : FnIs G "after" [.sh, .sh] false fun r => ∀ k n, r [.str k, .int n] = .ok (objP (.aft k n)) []
  lat : FnIs G "later" [.sh, .sh] false fun r => ∀ a b, r [objP a, objP b] = .ok (objP (.lat a b)) []
  ear : FnIs G "earlier" [.sh, .sh] false fun r => ∀ a b, r [objP a, objP b] = .ok (objP (.ear a b)) []
theorem never_val {G : PGm} (h : G.mak "Term" = some (iniR "Term" [])) : defP G [] 0 never_0 [] = .ok (objP .nev) [] := by
  unfold defP never_0
  simp_arith [startP, h]
  rfl
theorem after_val {G : PGm} (h : G.mak "After" = some (iniR "After" ["kind", "days"])) (k : Str) (n : Int) : defP G [.sh, .sh] 2 after_0 [.str k, .int n] = .ok (objP (.aft k n)) [] := by
  unfold defP after_0
  have : startP 2 [PV.str k, .int n] = [some (.str k), some (.int n)] := rfl
  rw [this]
  simp_arith [h]
  rfl
theorem later_val {G : PGm} (h : G.mak "Later" = some (iniR "Later" ["one", "other"])) (a b : Tm) : defP G [.sh, .sh] 2 later_0 [objP a, objP b] = .ok (objP (.lat a b)) [] := by
  unfold defP later_0
  have : startP 2 [objP a, objP b] = [some (objP a), some (objP b)] := rfl
  rw [this]
  simp_arith [h]
  rfl
theorem earlier_val {G : PGm} (h : G.mak "Earlier" = some (iniR "Earlier" ["one", "other"])) (a b : Tm) : defP G [.sh, .sh] 2 earlier_0 [objP a, objP b] = .ok (objP (.ear a b)) [] := by
  unfold defP earlier_0
  have : startP 2 [objP a, objP b] = [some (objP a), some (objP b)] := rfl
  rw [this]
  simp_arith [h]
  rfl
/-! made of a tree -/
def MadeSo (G : PGm) (h : Nat) : Prop := FnIs G "_law_made" [.sh] false fun r => ∀ t, hgt t ≤ h → r [treeP t] = .ok (objP t) []
theorem made_val {G : PGm} {h : Nat} (M : MkSo G) (I : MadeSo G h) : ∀ t, hgt t ≤ h + 1 → defP G [.sh] 1 l_made_0 [treeP t] = .ok (objP t) [] := by
  obtain ⟨r, f, g⟩ := I
  intro t ht
  unfold defP l_made_0 l_made_1 l_made_2 l_made_3 l_made_4 l_made_5 l_made_6
  have : startP 1 [treeP t] = [some (treeP t)] := rfl
  rw [this]
  cases t with
  | nev =>
    obtain ⟨r1, f1, g1⟩ := M.nev
    simp_arith [treeP, s_nn, f1, g1]
    rfl
  | aft k n =>
    obtain ⟨r1, f1, g1⟩ := M.aft
    simp_arith [treeP, s_an, s_aa, f1, g1]
    rfl
  | lat a b =>
    obtain ⟨r1, f1, g1⟩ := M.lat
    have hh : max (hgt a) (hgt b) + 1 ≤ h + 1 := ht
    have ga := g a (by omega)
    have gb := g b (by omega)
    simp_arith [treeP, s_ln, s_la, s_ll, f, ga, gb, f1, g1]
    rfl
  | ear a b =>
    obtain ⟨r1, f1, g1⟩ := M.ear
    have hh : max (hgt a) (hgt b) + 1 ≤ h + 1 := ht
    have ga := g a (by omega)
    have gb := g b (by omega)
    simp_arith [treeP, s_en, s_ea, s_el, f, ga, gb, f1, g1]
    rfl
/-! due, by the law -/
def LDueSo (G : PGm) (h : Nat) : Prop := FnIs G "_law_due" [.sh, .sh] false fun r => ∀ t l, hgt t ≤ h → r [treeP t, .dic (encP l)] = .ok (oV (dueV t l)) []
theorem ldue_val {G : PGm} {h : Nat} (I : LDueSo G h) : ∀ t l, hgt t ≤ h + 1 → defP G [.sh, .sh] 4 l_due_0 [treeP t, .dic (encP l)] = .ok (oV (dueV t l)) [] := by
  obtain ⟨r, f, g⟩ := I
  intro t l ht
  unfold defP l_due_0 l_due_1 l_due_2 l_due_3 l_due_4 l_due_5 l_due_6 l_due_7 l_due_8 l_due_9 l_due_10 l_due_11 l_due_12
  have : startP 4 [treeP t, .dic (encP l)] = [some (treeP t), some (.dic (encP l)), none, none] := rfl
  rw [this]
  cases t with
  | nev =>
    simp_arith [treeP, s_nn]
    rfl
  | aft k n =>
    have e := dget_enc l k
    cases h : gtI l k with
    | none =>
      rw [h] at e
      simp_arith [treeP, s_an, s_aa, e, Option.map_none]
      simp only [dueV, h]
      rfl
    | some j =>
      rw [h] at e
      simp_arith [treeP, s_an, s_aa, e, Option.map_some]
      simp only [dueV, h]
      rfl
  | lat a b =>
    have hh : max (hgt a) (hgt b) + 1 ≤ h + 1 := ht
    have ga := g a l (by omega)
    have gb := g b l (by omega)
    have e : dueV (.lat a b) l = maxO (dueV a l) (dueV b l) := rfl
    rw [e]
    generalize dueV a l = x at ga
    generalize dueV b l = y at gb
    cases x with
    | none => simp_arith [treeP, s_ln, s_la, s_ll, f, ga, gb, oV]; rfl
    | some i =>
      cases y with
      | none => simp_arith [treeP, s_ln, s_la, s_ll, f, ga, gb, oV]; rfl
      | some j =>
        by_cases hij : i < j
        · simp_arith [treeP, s_ln, s_la, s_ll, f, ga, gb, oV, hij]
          simp only [maxO, if_pos hij]; rfl
        · simp_arith [treeP, s_ln, s_la, s_ll, f, ga, gb, oV, hij]
          simp only [maxO, if_neg hij]; rfl
  | ear a b =>
    have hh : max (hgt a) (hgt b) + 1 ≤ h + 1 := ht
    have ga := g a l (by omega)
    have gb := g b l (by omega)
    have e : dueV (.ear a b) l = minO (dueV a l) (dueV b l) := rfl
    rw [e]
    generalize dueV a l = x at ga
    generalize dueV b l = y at gb
    cases x with
    | none => 
      cases y with
      | none => simp_arith [treeP, s_en, s_ea, s_el, f, ga, gb, oV]; rfl
      | some j => simp_arith [treeP, s_en, s_ea, s_el, f, ga, gb, oV]; rfl
    | some i =>
      cases y with
      | none => simp_arith [treeP, s_en, s_ea, s_el, f, ga, gb, oV]; rfl
      | some j =>
        by_cases hij : i < j
        · simp_arith [treeP, s_en, s_ea, s_el, f, ga, gb, oV, hij]
          simp only [minO, if_pos hij]; rfl
        · simp_arith [treeP, s_en, s_ea, s_el, f, ga, gb, oV, hij]
          simp only [minO, if_neg hij]; rfl
/-! due, by the program's things -/
def DueSo (G : PGm) (h : Nat) : Prop := G.ms "due" = some ([.sh, .sh], false) ∧ ∀ t, hgt t ≤ h → ∃ R, G.mt (clsN t) "due" = some R ∧ ∀ l, R [objP t, .dic (encP l)] = .ok (oV (dueV t l)) []
theorem due_nev (G : PGm) (l : List (Str × Int)) : defP G [.sh, .sh] 2 Term_due_0 [objP .nev, .dic (encP l)] = .ok (oV (dueV .nev l)) [] := by
  unfold defP Term_due_0
  have : startP 2 [objP .nev, .dic (encP l)] = [some (objP .nev), some (.dic (encP l))] := rfl
  rw [this]
  simp_arith []
  rfl
theorem due_aft (G : PGm) (k : Str) (n : Int) (l : List (Str × Int)) : defP G [.sh, .sh] 2 After_due_0 [objP (.aft k n), .dic (encP l)] = .ok (oV (dueV (.aft k n) l)) [] := by
  unfold defP After_due_0 After_due_1 After_due_2
  have : startP 2 [objP (.aft k n), .dic (encP l)] = [some (objP (.aft k n)), some (.dic (encP l))] := rfl
  rw [this]
  have e := dget_enc l k
  cases h : gtI l k with
  | none =>
    rw [h] at e
    simp_arith [obj_aft, lk_kind, lk_days, e, Option.map_none]
    simp only [dueV, h]
    rfl
  | some j =>
    rw [h] at e
    simp_arith [obj_aft, lk_kind, lk_days, e, Option.map_some]
    simp only [dueV, h]
    rfl
theorem bi_maxi {i j : Int} : biP .max [.int i, .int j] = some (.int (if i < j then j else i)) := rfl
theorem bi_mini {i j : Int} : biP .min [.int i, .int j] = some (.int (if j < i then j else i)) := rfl
theorem due_lat {G : PGm} {h : Nat} (I : DueSo G h) (a b : Tm) (ht : hgt (.lat a b) ≤ h + 1) (l : List (Str × Int)) : defP G [.sh, .sh] 4 Later_due_0 [objP (.lat a b), .dic (encP l)] = .ok (oV (dueV (.lat a b) l)) [] := by
  obtain ⟨hm, g⟩ := I
  have hh : max (hgt a) (hgt b) + 1 ≤ h + 1 := ht
  obtain ⟨R1, f1, g1⟩ := g a (by omega)
  obtain ⟨R2, f2, g2⟩ := g b (by omega)
  have g1 := g1 l
  have g2 := g2 l
  unfold defP Later_due_0 Later_due_1 Later_due_2 Later_due_3 Later_due_4
  have : startP 4 [objP (.lat a b), .dic (encP l)] = [some (objP (.lat a b)), some (.dic (encP l)), none, none] := rfl
  rw [this]
  have e : dueV (.lat a b) l = maxO (dueV a l) (dueV b l) := rfl
  rw [e]
  unfold objP at g1 g2
  generalize dueV a l = x at g1
  generalize dueV b l = y at g2
  cases x with
  | none => simp_arith [obj_lat, obj_ear, lk_one, lk_other, hm, lk_due a, lk_due b, f1, g1, f2, g2, oV]; rfl
  | some i =>
    cases y with
    | none => simp_arith [obj_lat, obj_ear, lk_one, lk_other, hm, lk_due a, lk_due b, f1, g1, f2, g2, oV]; rfl
    | some j => simp_arith [obj_lat, obj_ear, lk_one, lk_other, hm, lk_due a, lk_due b, f1, g1, f2, g2, oV, bi_maxi]; rfl
theorem due_ear {G : PGm} {h : Nat} (I : DueSo G h) (a b : Tm) (ht : hgt (.ear a b) ≤ h + 1) (l : List (Str × Int)) : defP G [.sh, .sh] 4 Earlier_due_0 [objP (.ear a b), .dic (encP l)] = .ok (oV (dueV (.ear a b) l)) [] := by
  obtain ⟨hm, g⟩ := I
  have hh : max (hgt a) (hgt b) + 1 ≤ h + 1 := ht
  obtain ⟨R1, f1, g1⟩ := g a (by omega)
  obtain ⟨R2, f2, g2⟩ := g b (by omega)
  have g1 := g1 l
  have g2 := g2 l
  unfold defP Earlier_due_0 Earlier_due_1 Earlier_due_2 Earlier_due_3 Earlier_due_4 Earlier_due_5 Earlier_due_6
  have : startP 4 [objP (.ear a b), .dic (encP l)] = [some (objP (.ear a b)), some (.dic (encP l)), none, none] := rfl
  rw [this]
  have e : dueV (.ear a b) l = minO (dueV a l) (dueV b l) := rfl
  rw [e]
  unfold objP at g1 g2
  generalize dueV a l = x at g1
  generalize dueV b l = y at g2
  cases x with
  | none =>
    cases y with
    | none => simp_arith [obj_lat, obj_ear, lk_one, lk_other, hm, lk_due a, lk_due b, f1, g1, f2, g2, oV]; rfl
    | some j => simp_arith [obj_lat, obj_ear, lk_one, lk_other, hm, lk_due a, lk_due b, f1, g1, f2, g2, oV]; rfl
  | some i =>
    cases y with
    | none => simp_arith [obj_lat, obj_ear, lk_one, lk_other, hm, lk_due a, lk_due b, f1, g1, f2, g2, oV]; rfl
    | some j =>
      simp_arith [obj_lat, obj_ear, lk_one, lk_other, hm, lk_due a, lk_due b, f1, g1, f2, g2, oV, bi_mini]
      have : (if j < i then j else i) = if i < j then i else j := by split <;> split <;> omega
      rw [this]
      rfl
/-! leaves -/
def LeavesSo (G : PGm) (h : Nat) : Prop := G.ms "leaves" = some ([.sh], true) ∧ ∀ t, hgt t ≤ h → lvs t ≤ 100 → ∃ R, G.mt (clsN t) "leaves" = some R ∧ R [objP t] = .ok (.lst (lvP t)) []
theorem leaves_nev (G : PGm) : defP G [.sh] 1 Term_leaves_0 [objP .nev] = .ok (.lst (lvP .nev)) [] := by
  unfold defP Term_leaves_0
  have : startP 1 [objP .nev] = [some (objP .nev)] := rfl
  rw [this]
  simp_arith []
  rfl
theorem leaves_aft (G : PGm) (k : Str) (n : Int) : defP G [.sh] 1 After_leaves_0 [objP (.aft k n)] = .ok (.lst (lvP (.aft k n))) [] := by
  unfold defP After_leaves_0
  have : startP 1 [objP (.aft k n)] = [some (objP (.aft k n))] := rfl
  rw [this]
  simp_arith [obj_aft, lk_kind, lk_days]
  rfl
theorem leaves_lat {G : PGm} {h : Nat} (I : LeavesSo G h) (a b : Tm) (ht : hgt (.lat a b) ≤ h + 1) (hl : lvs (.lat a b) ≤ 100) : defP G [.sh] 1 Later_leaves_0 [objP (.lat a b)] = .ok (.lst (lvP (.lat a b))) [] := by
  obtain ⟨hm, g⟩ := I
  have hh : max (hgt a) (hgt b) + 1 ≤ h + 1 := ht
  have hv : lvs a + lvs b ≤ 100 := hl
  obtain ⟨R1, f1, g1⟩ := g a (by omega) (by omega)
  obtain ⟨R2, f2, g2⟩ := g b (by omega) (by omega)
  have la := lvP_len a
  have lb := lvP_len b
  have hz : (lvP a).length + (lvP b).length ≤ sizeLine := by rw [sizeLine_eq]; omega
  unfold defP Later_leaves_0
  have : startP 1 [objP (.lat a b)] = [some (objP (.lat a b))] := rfl
  rw [this]
  unfold objP at g1 g2
  simp_arith [obj_lat, obj_ear, lk_one, lk_other, hm, lk_leaves a, lk_leaves b, f1, g1, f2, g2, op_addl hz]
  rfl
theorem leaves_ear {G : PGm} {h : Nat} (I : LeavesSo G h) (a b : Tm) (ht : hgt (.ear a b) ≤ h + 1) (hl : lvs (.ear a b) ≤ 100) : defP G [.sh] 1 Earlier_leaves_0 [objP (.ear a b)] = .ok (.lst (lvP (.ear a b))) [] := by
  obtain ⟨hm, g⟩ := I
  have hh : max (hgt a) (hgt b) + 1 ≤ h + 1 := ht
  have hv : lvs a + lvs b ≤ 100 := hl
  obtain ⟨R1, f1, g1⟩ := g a (by omega) (by omega)
  obtain ⟨R2, f2, g2⟩ := g b (by omega) (by omega)
  have la := lvP_len a
  have lb := lvP_len b
  have hz : (lvP a).length + (lvP b).length ≤ sizeLine := by rw [sizeLine_eq]; omega
  unfold defP Earlier_leaves_0
  have : startP 1 [objP (.ear a b)] = [some (objP (.ear a b))] := rfl
  rw [this]
  unfold objP at g1 g2
  simp_arith [obj_lat, obj_ear, lk_one, lk_other, hm, lk_leaves a, lk_leaves b, f1, g1, f2, g2, op_addl hz]
  rfl
def LLeavesSo (G : PGm) (h : Nat) : Prop := FnIs G "_law_leaves" [.sh] true fun r => ∀ t, hgt t ≤ h → lvs t ≤ 100 → r [treeP t] = .ok (.lst (lvP t)) []
theorem cut_aft {a b c : PV} : slP (.tup [a, b, c]) (some 1) none = some (.tup [b, c]) := rfl
theorem lleaves_val {G : PGm} {h : Nat} (I : LLeavesSo G h) : ∀ t, hgt t ≤ h + 1 → lvs t ≤ 100 → defP G [.sh] 1 l_leaves_0 [treeP t] = .ok (.lst (lvP t)) [] := by
  obtain ⟨r, f, g⟩ := I
  intro t ht hl
  unfold defP l_leaves_0 l_leaves_1 l_leaves_2 l_leaves_3 l_leaves_4
  have : startP 1 [treeP t] = [some (treeP t)] := rfl
  rw [this]
  cases t with
  | nev => simp_arith [treeP, s_nn]; rfl
  | aft k n => simp_arith [treeP, s_an, s_aa, cut_aft]; rfl
  | lat a b =>
    have hh : max (hgt a) (hgt b) + 1 ≤ h + 1 := ht
    have hv : lvs a + lvs b ≤ 100 := hl
    have ga := g a (by omega) (by omega)
    have gb := g b (by omega) (by omega)
    have la := lvP_len a
    have lb := lvP_len b
    have hz : (lvP a).length + (lvP b).length ≤ sizeLine := by rw [sizeLine_eq]; omega
    simp_arith [treeP, s_ln, s_la, s_ll, f, ga, gb, op_addl hz]
    rfl
  | ear a b =>
    have hh : max (hgt a) (hgt b) + 1 ≤ h + 1 := ht
    have hv : lvs a + lvs b ≤ 100 := hl
    have ga := g a (by omega) (by omega)
    have gb := g b (by omega) (by omega)
    have la := lvP_len a
    have lb := lvP_len b
    have hz : (lvP a).length + (lvP b).length ≤ sizeLine := by rw [sizeLine_eq]; omega
    simp_arith [treeP, s_en, s_ea, s_el, f, ga, gb, op_addl hz]
    rfl
def ManySo (G : PGm) (h : Nat) : Prop := FnIs G "_law_many" [.sh] false fun r => ∀ t, hgt t ≤ h → r [treeP t] = .ok (.int (manyV t)) []
theorem many_val {G : PGm} {h : Nat} (I : ManySo G h) : ∀ t, hgt t ≤ h + 1 → defP G [.sh] 1 l_many_0 [treeP t] = .ok (.int (manyV t)) [] := by
  obtain ⟨r, f, g⟩ := I
  intro t ht
  unfold defP l_many_0 l_many_1 l_many_2 l_many_3 l_many_4
  have : startP 1 [treeP t] = [some (treeP t)] := rfl
  rw [this]
  cases t with
  | nev => simp_arith [treeP, s_nn]; rfl
  | aft k n => simp_arith [treeP, s_an, s_aa]; rfl
  | lat a b =>
    have hh : max (hgt a) (hgt b) + 1 ≤ h + 1 := ht
    have ga := g a (by omega)
    have gb := g b (by omega)
    simp_arith [treeP, s_ln, s_la, s_ll, f, ga, gb]
    rfl
  | ear a b =>
    have hh : max (hgt a) (hgt b) + 1 ≤ h + 1 := ht
    have ga := g a (by omega)
    have gb := g b (by omega)
    simp_arith [treeP, s_en, s_ea, s_el, f, ga, gb]
    rfl
/-! lengths -/
def LenSo (G : PGm) : Prop := FnIs G "_law_length_by" [.sh] false fun r => ∀ c : Int, ∃ n, r [.int c] = .ok (.int n) [] ∧ 0 ≤ n ∧ n < 10 ^ 40
theorem p40 : ∃ T : Int, T = 10 ^ 40 ∧ opP .Pow (.int 10) (.int 40) = some (.int T) := ⟨10 ^ (40 : Int).toNat, rfl, grd_pos (by omega)⟩
theorem length_ok (G : PGm) (c : Int) : ∃ n, defP G [.sh] 2 l_length_by_0 [.int c] = .ok (.int n) [] ∧ 0 ≤ n ∧ n < 10 ^ 40 := by
  obtain ⟨T, hT, p40⟩ := p40
  have tp : 0 < T := by rw [hT]; decide +kernel
  have tb : 14400 < T := by rw [hT]; decide +kernel
  unfold defP l_length_by_0 l_length_by_1 l_length_by_2 l_length_by_3
  have : startP 2 [PV.int c] = [some (.int c), none] := rfl
  rw [this, ← hT]
  have m1 := Int.emod_nonneg c (show (4 : Int) ≠ 0 by omega)
  have m2 := Int.emod_lt_of_pos c (show (0 : Int) < 4 by omega)
  by_cases h : c % 4 = 3
  · refine ⟨c / 4 * 982451653 % T, ?_, Int.emod_nonneg _ (by omega), Int.emod_lt_of_pos _ tp⟩
    simp_arith [grd_pos, h, grd_pos (mul98 _), p40, grd_pos tp]
    rfl
  · obtain ⟨a, ha, ea⟩ := ints_ix (l := [40, 12, 9]) (m := c % 4) m1 (by show c % 4 < 3; omega)
    obtain ⟨b, hb, eb⟩ := ints_ix (l := [1, 30, 360]) (m := c % 4) m1 (by show c % 4 < 3; omega)
    simp only [List.map_cons, List.map_nil] at ea eb
    have ha2 : 0 < a ∧ a ≤ 40 := by
      simp only [List.mem_cons, List.not_mem_nil, or_false] at ha
      omega
    have hb2 : 0 < b ∧ b ≤ 360 := by
      simp only [List.mem_cons, List.not_mem_nil, or_false] at hb
      omega
    have n1 := Int.emod_nonneg (c / 4) (show a ≠ 0 by omega)
    have n2 := Int.emod_lt_of_pos (c / 4) ha2.1
    have g1 : mulOk (c / 4 % a) b := by unfold mulOk; right; omega
    have n3 : 0 ≤ c / 4 % a * b := Int.mul_nonneg n1 (by omega)
    have n4 : c / 4 % a * b ≤ 40 * 360 := Int.mul_le_mul (by omega) hb2.2 (by omega) (by omega)
    refine ⟨c / 4 % a * b, ?_, n3, by omega⟩
    simp_arith [grd_pos, h, ea, eb, grd_pos ha2.1, grd_pos g1]
    rfl
/-! trees by numbers -/
theorem dat_tree : ∀ (t : Tm) (n : Nat), hgt t < n → datN (treeP t) n = true
  | .nev, n, h => by
    obtain ⟨m, rfl⟩ : ∃ m, n = m + 1 := ⟨n - 1, by unfold hgt at h; omega⟩
    rfl
  | .aft k i, n, h => by
    obtain ⟨m, rfl⟩ : ∃ m, n = m + 1 := ⟨n - 1, by unfold hgt at h; omega⟩
    rfl
  | .lat a b, n, h => by
    replace h : max (hgt a) (hgt b) + 1 < n := h
    obtain ⟨m, rfl⟩ : ∃ m, n = m + 1 := ⟨n - 1, by omega⟩
    show (datN (.str "later") m && (datN (treeP a) m && (datN (treeP b) m && true))) = true
    rw [dat_tree a m (by omega), dat_tree b m (by omega)]
    simp [datN]
  | .ear a b, n, h => by
    replace h : max (hgt a) (hgt b) + 1 < n := h
    obtain ⟨m, rfl⟩ : ∃ m, n = m + 1 := ⟨n - 1, by omega⟩
    show (datN (.str "earlier") m && (datN (treeP a) m && (datN (treeP b) m && true))) = true
    rw [dat_tree a m (by omega), dat_tree b m (by omega)]
    simp [datN]
def lsum (ts : List Tm) : Nat := (ts.map lvs).sum
theorem lsum_app (a b : List Tm) : lsum (a ++ b) = lsum a + lsum b := by unfold lsum; rw [List.map_append, List.sum_append]
theorem lsum_one (t : Tm) : lsum [t] = lvs t := by simp [lsum]
theorem lsum_mem {ts : List Tm} {t : Tm} (h : t ∈ ts) : lvs t ≤ lsum ts := by
  induction ts with
  | nil => cases h
  | cons a r ih =>
    unfold lsum at *
    rw [List.map_cons, List.sum_cons]
    rcases List.mem_cons.mp h with rfl | h
    · omega
    · have := ih h; omega
theorem lsum_len (ts : List Tm) : ts.length ≤ lsum ts := by
  induction ts with
  | nil => exact Nat.zero_le _
  | cons a r ih =>
    unfold lsum at *
    rw [List.map_cons, List.sum_cons, List.length_cons]
    have := lvs_pos a
    omega
theorem snoc2 {α : Type} {l : List α} (h : 1 < l.length) : ∃ r a b, l = r ++ [a, b] := by
  obtain ⟨x, r1, e⟩ := List.exists_cons_of_length_pos (l := l.reverse) (by rw [List.length_reverse]; omega)
  obtain ⟨y, r2, e2⟩ := List.exists_cons_of_length_pos (l := r1) (by
    have : l.reverse.length = r1.length + 1 := by rw [e, List.length_cons]
    rw [List.length_reverse] at this; omega)
  refine ⟨r2.reverse, y, x, ?_⟩
  have := congrArg List.reverse e
  rw [List.reverse_reverse, e2] at this
  rw [this]
  simp
theorem nm_put : Nm "put" := ⟨by intro c hc; have : c ∈ [112, 117, 116] := hc; simp at this; omega, by decide, by decide⟩
/-- one of both: later (0) or earlier (1) -/
def both (w : Int) (a b : Tm) : Tm := if w = 0 then .lat a b else .ear a b
theorem both_lvs (w : Int) (a b : Tm) : lvs (both w a b) = lvs a + lvs b := by unfold both; split <;> rfl
theorem both_ok {w : Int} {a b : Tm} (h1 : OkT a) (h2 : OkT b) : OkT (both w a b) := by unfold both; split <;> exact ⟨h1, h2⟩
theorem app2 {xs : List PV} {a b : PV} : xs ++ [a, b] = (xs ++ [a]) ++ [b] := by simp
theorem word2 {w : Int} (h0 : 0 ≤ w) (h1 : w < 2) : ixP (.lst [.str "later", .str "earlier"]) (.int w) = some (.str (if w = 0 then "later" else "earlier")) := by
  rcases (by omega : w = 0 ∨ w = 1) with rfl | rfl <;> rfl
theorem both_tree (w : Int) (a b : Tm) : PV.tup [.str (if w = 0 then "later" else "earlier"), treeP a, treeP b] = treeP (both w a b) := by
  unfold both
  split <;> rfl
/-- the turn that puts the last two together -/
theorem join_two {G : PGm} {c0 c1 c2 c4 c5 o7 : Option PV} (e : Ex) (w : Int) (h0 : 0 ≤ w) (h1 : w < 2) (ts : List Tm) (a b : Tm) (hz : ts.length < 1000) (o6 : Option PV)
    (he : ∀ env, env = [c0, c1, c2, some (.lst (ts.map treeP ++ [treeP a])), c4, c5, some (treeP b), o7] → ev G e env = .ok (.int w) env) :
    runs G (.cons (.set 6 (.bm .pop (.v 3) .nil)) (.cons (.ex (.bm .append (.v 3) (.cons (.tup (.cons (.ix (.lst (.cons (.ks "later") (.cons (.ks "earlier") .nil))) e) (.cons (.bm .pop (.v 3) .nil) (.cons (.v 6) .nil)))) .nil))) .nil))
      [c0, c1, c2, some (.lst ((ts ++ [a, b]).map treeP)), c4, c5, o6, o7] = .ok .nx [c0, c1, c2, some (.lst ((ts ++ [both w a b]).map treeP)), c4, c5, some (treeP b), o7] := by
  have he := he _ rfl
  have e1 : (ts ++ [a, b]).map treeP = (ts.map treeP ++ [treeP a]) ++ [treeP b] := by simp
  have e2 : (ts ++ [both w a b]).map treeP = ts.map treeP ++ [treeP (both w a b)] := by simp
  rw [e1, e2]
  have hl : (ts.map treeP).length < sizeLine := by rw [List.length_map, sizeLine_eq]; omega
  simp_arith [he, word2 h0 h1, both_tree, grd_pos hl]
def TreeI (cells : List Int) (nb : Int) (most : Nat) (env : Env) : Prop := ∃ (ts : List Tm) (o5 o6 o7 : Option PV), env = [some (.lst (cells.map PV.int)), some (.int nb), some (.int (most : Int)), some (.lst (ts.map treeP)), some (.int (lsum ts : Int)), o5, o6, o7] ∧ lsum ts ≤ most ∧ ∀ t ∈ ts, OkT t
theorem okT_app {ts : List Tm} {u : Tm} (h : ∀ t ∈ ts, OkT t) (hu : OkT u) : ∀ t ∈ ts ++ [u], OkT t := fun t ht => by
  rcases List.mem_append.mp ht with h1 | h1
  · exact h t h1
  · rw [List.mem_singleton.mp h1]; exact hu
theorem tree_turn {G : PGm} (N : NameSo G) (L : LenSo G) (cells : List Int) (nb : Int) (most : Nat) (hm : most ≤ 50) (cell : Int) (env : Env) (h : TreeI cells nb most env) :
    ∃ env', runs G l_tree_by_3 (env.set 5 (some (.int cell))) = .ok .nx env' ∧ TreeI cells nb most env' := by
  obtain ⟨ts, o5, o6, o7, rfl, hs, ho⟩ := h
  have m1 := Int.emod_nonneg cell (show (5 : Int) ≠ 0 by omega)
  have m3 := Int.emod_nonneg (cell / 5) (show (6 : Int) ≠ 0 by omega)
  have m4 := Int.emod_lt_of_pos (cell / 5) (show (0 : Int) < 6 by omega)
  have hlen : (ts.map treeP).length = ts.length := List.length_map _
  have hll := lsum_len ts
  have hmost : (lsum ts : Int) < most ↔ lsum ts < most := by omega
  by_cases h1 : cell % 5 < 2 ∧ 1 < ts.length
  · obtain ⟨r, a, b, rfl⟩ := snoc2 h1.2
    have hr : r.length + 2 ≤ 50 := by
      have := lsum_len (r ++ [a, b])
      rw [List.length_append] at this
      simp only [List.length_cons, List.length_nil] at this
      omega
    have hj := join_two (G := G) (c0 := some (.lst (cells.map PV.int))) (c1 := some (.int nb)) (c2 := some (.int (most : Int))) (c4 := some (.int (lsum (r ++ [a, b]) : Int))) (c5 := some (.int cell)) (o7 := o7) (.op .Mod (.v 5) (.ki 5)) (cell % 5) m1 h1.1 r a b (by omega) o6
      (fun env e => by subst e; simp_arith [grd_pos])
    refine ⟨_, ?_, r ++ [both (cell % 5) a b], some (.int cell), some (treeP b), o7, rfl, ?_, ?_⟩
    · unfold l_tree_by_3
      have hlt : (1 : Int) < (((r ++ [a, b]).map treeP).length : Nat) := by rw [hlen]; have := h1.2; omega
      have e : lsum (r ++ [both (cell % 5) a b]) = lsum (r ++ [a, b]) := by
        rw [lsum_app, lsum_app, lsum_one, both_lvs]
        simp [lsum]
      rw [e]
      have hj : runs G l_tree_by_4 _ = _ := hj
      simp_arith [grd_pos, h1.1, hlt, hj]
    · rw [lsum_app, lsum_one, both_lvs]
      rw [lsum_app] at hs
      simp [lsum] at hs ⊢
      omega
    · have ha := ho a (by simp)
      have hb := ho b (by simp)
      exact okT_app (fun t ht => ho t (by simp [ht])) (both_ok ha hb)
  · have hno : (if cell % 5 < 2 then decide ((1 : Int) < ((ts.map treeP).length : Nat)) else false) = false := by
      split
      · rename_i h2
        have : ¬ 1 < ts.length := fun h3 => h1 ⟨h2, h3⟩
        rw [hlen]
        simp only [decide_eq_false_iff_not]
        omega
      · rfl
    by_cases h2 : lsum ts < most
    · have hl : (ts.map treeP).length < sizeLine := by rw [hlen, sizeLine_eq]; omega
      have hfin : ∀ u : Tm, lvs u = 1 → OkT u → lsum (ts ++ [u]) ≤ most ∧ (lsum (ts ++ [u]) : Int) = (lsum ts : Int) + 1 ∧ ∀ t ∈ ts ++ [u], OkT t := fun u hu hk => by
        rw [lsum_app, lsum_one, hu]
        exact ⟨by omega, by omega, okT_app ho hk⟩
      have hlt : (lsum ts : Int) < most := by omega
      by_cases h3 : cell / 5 % 11 = 7
      · obtain ⟨f1, f2, f3⟩ := hfin .nev rfl trivial
        refine ⟨_, ?_, ts ++ [.nev], some (.int cell), o6, o7, rfl, f1, f3⟩
        unfold l_tree_by_3 l_tree_by_4 l_tree_by_5 l_tree_by_6 l_tree_by_7 l_tree_by_8 l_tree_by_9 l_tree_by_10 l_tree_by_11
        rw [f2, List.map_append]
        by_cases h4 : cell % 5 < 2
        · rw [if_pos h4] at hno
          have hno : ¬ ((1 : Int) < ((ts.map treeP).length : Nat)) := of_decide_eq_false hno
          simp_arith [grd_pos, h4, hno, hlt, h3, grd_pos hl]
          rfl
        · simp_arith [grd_pos, h4, hlt, h3, grd_pos hl]
          rfl
      · obtain ⟨rn, n1, n2⟩ := N
        obtain ⟨rl, l1, l2⟩ := L
        obtain ⟨s, e1, e2⟩ := n2 nb (cell / 5 % 6) m3 (by omega)
        obtain ⟨n, e3, e4, e5⟩ := l2 (cell / 30)
        obtain ⟨u, hu1, hu2⟩ : ∃ u : Str, ixP (.lst [.str s, .str "put"]) (.int (if decide (cell / 5 % 9 = 4) = true then 1 else 0)) = some (.str u) ∧ Nm u := by
          by_cases h5 : cell / 5 % 9 = 4
          · refine ⟨"put", ?_, nm_put⟩; simp only [h5, decide_true, if_true]; rfl
          · refine ⟨s, ?_, e2⟩; simp only [h5, decide_false, if_false, Bool.false_eq_true]; rfl
        obtain ⟨f1, f2, f3⟩ := hfin (.aft u n) rfl ⟨hu2, e4, e5⟩
        refine ⟨_, ?_, ts ++ [.aft u n], some (.int cell), o6, some (.str s), rfl, f1, f3⟩
        unfold l_tree_by_3 l_tree_by_4 l_tree_by_5 l_tree_by_6 l_tree_by_7 l_tree_by_8 l_tree_by_9 l_tree_by_10 l_tree_by_11
        rw [f2, List.map_append]
        by_cases h4 : cell % 5 < 2
        · rw [if_pos h4] at hno
          have hno : ¬ ((1 : Int) < ((ts.map treeP).length : Nat)) := of_decide_eq_false hno
          simp_arith [grd_pos, h4, hno, hlt, h3, n1, e1, l1, e3, hu1, grd_pos hl]
          rfl
        · simp_arith [grd_pos, h4, hlt, h3, n1, e1, l1, e3, hu1, grd_pos hl]
          rfl
    · refine ⟨_, ?_, ts, some (.int cell), o6, o7, rfl, hs, ho⟩
      have hlt : ¬ (lsum ts : Int) < most := by omega
      unfold l_tree_by_3 l_tree_by_4 l_tree_by_5 l_tree_by_6
      by_cases h4 : cell % 5 < 2
      · rw [if_pos h4] at hno
        have hno : ¬ ((1 : Int) < ((ts.map treeP).length : Nat)) := of_decide_eq_false hno
        simp_arith [grd_pos, h4, hno, hlt]
      · simp_arith [grd_pos, h4, hlt]
theorem whl_tree {G : PGm} {c0 c1 c2 c4 c5 o7 : Option PV} : ∀ (n : Nat) (ts : List Tm) (o6 : Option PV), 1 ≤ ts.length → ts.length ≤ n → ts.length < 100 → (∀ t ∈ ts, OkT t) → ∃ (t : Tm) (p6 : Option PV),
    whlP (evT G (.cmp .Gt (.bi .len (.cons (.v 3) .nil)) (.ki 1))) (runs G l_tree_by_15) n [c0, c1, c2, some (.lst (ts.map treeP)), c4, c5, o6, o7] = .ok .nx [c0, c1, c2, some (.lst [treeP t]), c4, c5, p6, o7] ∧ lvs t = lsum ts ∧ OkT t
  | 0, ts, o6, h1, h2, h3, ho => by omega
  | n + 1, ts, o6, h1, h2, h3, ho => by
    have hlen : (ts.map treeP).length = ts.length := List.length_map _
    by_cases h : 1 < ts.length
    · obtain ⟨r, a, b, rfl⟩ := snoc2 h
      have hr : (r ++ [a, b]).length = r.length + 2 := by simp
      have ha := ho a (by simp)
      have hb := ho b (by simp)
      have m1 := Int.emod_nonneg ((r.length : Int) + 1) (show (2 : Int) ≠ 0 by omega)
      have m2 := Int.emod_lt_of_pos ((r.length : Int) + 1) (show (0 : Int) < 2 by omega)
      have hj := join_two (G := G) (c0 := c0) (c1 := c1) (c2 := c2) (c4 := c4) (c5 := c5) (o7 := o7) (.op .Mod (.bi .len (.cons (.v 3) .nil)) (.ki 2)) (((r.length : Int) + 1) % 2) m1 m2 r a b (by omega) o6
        (fun env e => by
          subst e
          have : (((r.map treeP ++ [treeP a]).length : Nat) : Int) = (r.length : Int) + 1 := by simp
          simp_arith [this, grd_pos])
      obtain ⟨t, p6, e, h4, h5⟩ := whl_tree (G := G) (c0 := c0) (c1 := c1) (c2 := c2) (c4 := c4) (c5 := c5) (o7 := o7) n (r ++ [both (((r.length : Int) + 1) % 2) a b]) (some (treeP b)) (by simp) (by simp; omega) (by simp; omega)
        (okT_app (fun t ht => ho t (by simp [ht])) (both_ok ha hb))
      refine ⟨t, p6, ?_, ?_, h5⟩
      · unfold whlP
        have hlt : (1 : Int) < (((r ++ [a, b]).map treeP).length : Nat) := by rw [hlen]; omega
        have hj : runs G l_tree_by_15 _ = _ := hj
        simp_arith [hlt, hj]
        exact e
      · rw [h4, lsum_app, lsum_app, lsum_one, both_lvs]
        simp [lsum]
    · obtain ⟨t, rfl⟩ := List.length_eq_one_iff.mp (show ts.length = 1 by omega)
      refine ⟨t, o6, ?_, (lsum_one t).symm, ho t (by simp)⟩
      unfold whlP
      have hlt : ¬ (1 : Int) < ((([t] : List Tm).map treeP).length : Nat) := by simp
      simp_arith [hlt]
      rfl
theorem eq_trees {ts : List Tm} (h : lsum ts ≤ 50) : cmpP .Eq (.lst (ts.map treeP)) (.lst []) = some ts.isEmpty := by
  have hd : datNL (ts.map treeP) 59 = true := by
    have : ∀ us : List Tm, (∀ t ∈ us, t ∈ ts) → datNL (us.map treeP) 59 = true := by
      intro us
      induction us with
      | nil => exact fun _ => rfl
      | cons a r ih =>
        intro hu
        show (datN (treeP a) 59 && datNL (r.map treeP) 59) = true
        have := lsum_mem (hu a List.mem_cons_self)
        have := hgt_lvs a
        rw [dat_tree a 59 (by omega), ih fun t ht => hu t (List.mem_cons_of_mem _ ht)]
        rfl
    exact this ts fun t ht => ht
  show grd _ _ = _
  rw [grd_pos]
  · cases ts <;> rfl
  · have : dat (.lst (ts.map treeP)) = true := hd
    unfold eqG
    rw [this]
    rfl
theorem tree_ok {G : PGm} (N : NameSo G) (L : LenSo G) (hf : 60 ≤ G.fuel) (cells : List Int) (nb : Int) (most : Nat) (hm : most ≤ 50) (h1 : 1 ≤ most) : ∃ t, defP G [.sh, .sh, .sh] 8 l_tree_by_0 [.lst (cells.map PV.int), .int nb, .int (most : Int)] = .ok (treeP t) [] ∧ lvs t ≤ most ∧ OkT t := by
  unfold defP l_tree_by_0 l_tree_by_1 l_tree_by_2 l_tree_by_12 l_tree_by_13 l_tree_by_14 l_tree_by_17
  have : startP 8 [PV.lst (cells.map PV.int), .int nb, .int (most : Int)] = [some (.lst (cells.map PV.int)), some (.int nb), some (.int (most : Int)), none, none, none, none, none] := rfl
  rw [this]
  obtain ⟨env', e, ts, o5, o6, o7, rfl, hs, ho⟩ := for_ix (turn := fun x env => runs G l_tree_by_3 (env.set 5 (some x))) (fun _ env => TreeI cells nb most env) (cells.map PV.int) 0 [some (.lst (cells.map PV.int)), some (.int nb), some (.int (most : Int)), some (.lst []), some (.int 0), none, none, none]
    ⟨[], none, none, none, rfl, Nat.zero_le _, fun t h => by cases h⟩ (fun i x env hx hi => by
      have hm := List.mem_of_getElem? hx
      obtain ⟨c, _, rfl⟩ := List.mem_map.mp hm
      exact tree_turn N L cells nb most ‹_› c env hi)
  have he := eq_trees (ts := ts) (by omega)
  cases ts with
  | nil =>
    refine ⟨.nev, ?_, h1, trivial⟩
    simp_arith [e, he, List.isEmpty_nil]
    rfl
  | cons a r =>
    have hl := lsum_len (a :: r)
    obtain ⟨t, p6, ew, h4, h5⟩ := whl_tree (G := G) (c0 := some (.lst (cells.map PV.int))) (c1 := some (.int nb)) (c2 := some (.int (most : Int))) (c4 := some (.int (lsum (a :: r) : Int))) (c5 := o5) (o7 := o7) G.fuel (a :: r) o6 (by simp) (by omega) (by omega) ho
    refine ⟨t, ?_, by omega, h5⟩
    have at00 : ixP (.lst [treeP t]) (.int 0) = some (treeP t) := rfl
    simp_arith [e, he, List.isEmpty_cons, ew, at00]
    rfl
theorem dat_lvP : ∀ (t : Tm) (n : Nat), datNL (lvP t) (n + 1) = true
  | .nev, n => rfl
  | .aft k i, n => by
    show (datN (.tup [.str k, .int i]) (n + 1) && true) = true
    rfl
  | .lat a b, n => by
    show datNL (lvP a ++ lvP b) (n + 1) = true
    exact datNL_app (dat_lvP a n) (dat_lvP b n)
  | .ear a b, n => by
    show datNL (lvP a ++ lvP b) (n + 1) = true
    exact datNL_app (dat_lvP a n) (dat_lvP b n)
end Vc

set_option Elab.async false
set_option linter.all false
set_option maxRecDepth 100000
set_option maxHeartbeats 2000000
namespace Vc
open PySem PySem.Spec PyProof.Rows L2 TL PySem.NumText
/-! ### the mathematics of days and lengths -/
abbrev figS : Str := "0123456789"
def digB (c : Nat) : Bool := decide (48 ≤ c ∧ c ≤ 57)
abbrev dval := digitsVal
def numB (cs : List Nat) : Bool := decide (1 ≤ cs.length ∧ cs.length ≤ 40) && !(decide (cs.head? = some 48) && decide (cs ≠ [48])) && cs.all digB
def twoB (cs : List Nat) (most : Nat) : Option Nat := if cs.length = 2 ∧ cs.all digB = true ∧ 1 ≤ dval cs ∧ dval cs ≤ most then some (dval cs) else none
def dayR (cs : List Nat) : Option Nat :=
  match spl [45] 0 [] cs with
  | [a, b, c] => if numB a = true then (match twoB b 12, twoB c 30 with
      | some m, some d => some (360 * dval a + 30 * (m - 1) + (d - 1))
      | _, _ => none) else none
  | _ => none
theorem fig_mem (c : Nat) : c ∈ figS.cps.toList ↔ digB c = true := by
  have e : figS.cps.toList = [48, 49, 50, 51, 52, 53, 54, 55, 56, 57] := by decide +kernel
  rw [e]
  unfold digB
  simp only [List.mem_cons, List.not_mem_nil, or_false, decide_eq_true_eq]
  omega
theorem s1_eq {c d : Nat} : ((⟨#[c]⟩ : Str) = ⟨#[d]⟩) ↔ c = d := by
  constructor
  · intro h
    have := congrArg (fun z : Str => z.cps.toList) h
    simpa using this
  · rintro rfl
    rfl
theorem s0 : ("0" : Str) = ⟨#[48]⟩ := by decide +kernel
theorem all_dig {cs : List Nat} (h : cs.all digB = true) : AllDigits cs := fun c hc => by
  have := List.all_eq_true.mp h c hc
  exact of_decide_eq_true this
theorem int_of_digits {z : Str} (h : (tl z).all digB = true) (h1 : 1 ≤ (tl z).length) (h2 : (tl z).length ≤ 640) : PySem.intText? z = some (dval (tl z) : Nat) ∧ z.length ≤ 640 := by
  have hl : z.length = (tl z).length := len_tl z
  exact ⟨intText_digits (all_dig h) (fun e => by rw [show tl z = [] from e] at h1; simp at h1) (by omega), by omega⟩
theorem twoB_pos {cs : List Nat} {m n : Nat} (h : twoB cs m = some n) : 1 ≤ n ∧ n ≤ m ∧ n = dval cs := by
  unfold twoB at h
  split at h
  · rename_i k
    cases h
    exact ⟨k.2.2.1, k.2.2.2, rfl⟩
  · cases h
theorem numB_dig {cs : List Nat} (h : numB cs = true) : cs.all digB = true ∧ 1 ≤ cs.length ∧ cs.length ≤ 40 := by
  unfold numB at h
  simp only [Bool.and_eq_true, decide_eq_true_eq] at h
  exact ⟨h.2, h.1.1⟩
def twoF (n : Nat) : List Nat := [48 + n / 10, 48 + n % 10]
def num (n : Nat) : Str := toString ((n : Nat) : Int)
def dayS (n : Nat) : Str := num (n / 360) ++ "-" ++ ⟨(twoF (n % 360 / 30 + 1)).toArray⟩ ++ "-" ++ ⟨(twoF (n % 30 + 1)).toArray⟩
theorem zf : ∀ n < 100, Txt.zfill (num n) 2 = ⟨(twoF n).toArray⟩ := by decide +kernel
theorem num_len {n k : Nat} (hk : 0 < k) (h : n < 10 ^ k) : (num n).length ≤ k := by
  have := numL_len hk h
  rw [← tl_num] at this
  rw [len_tl]
  exact this
theorem log_small {n : Nat} (h : n < 10 ^ 60) : (n : Int).natAbs.log2 < 1920 := by
  rw [Int.natAbs_natCast]
  have h2 : n < 2 ^ 200 := Nat.lt_trans h (by decide +kernel)
  by_cases h0 : n = 0
  · rw [h0, Nat.log2_zero]
    exact Nat.zero_lt_succ _
  · exact Nat.lt_trans ((Nat.log2_lt h0).mpr h2) (by decide)
def lenRd (cs : List Nat) : Option Nat :=
  if numB cs.dropLast = true then (match cs.getLast? with
    | some 121 => some (360 * dval cs.dropLast)
    | some 109 => some (30 * dval cs.dropLast)
    | some 100 => some (dval cs.dropLast)
    | _ => none) else none
theorem cut_last (z : Str) : tl (cutS z none (some (-1))) = (tl z).dropLast := by
  have hl : z.length = (tl z).length := len_tl z
  show ((tl z).drop (HT.sIx z.length 0 none)).take (HT.sIx z.length z.length (some (-1)) - HT.sIx z.length 0 none) = _
  rw [HT.sIx_none, List.drop_zero, List.dropLast_eq_take]
  congr 1
  unfold HT.sIx
  simp only
  rw [hl]
  split <;> omega
theorem at_last {cs : List Nat} {c : Nat} (h : cs.getLast? = some c) : atI cs (-1) = some c := by
  obtain ⟨r, rfl⟩ := List.getLast?_eq_some_iff.mp h
  have := atI_last (α := Nat) r c
  exact this
theorem sDash : ("-" : Str) = ⟨#[45]⟩ := by decide +kernel
theorem sY : ("y" : Str) = ⟨#[121]⟩ := by decide +kernel
theorem sM : ("m" : Str) = ⟨#[109]⟩ := by decide +kernel
theorem sD : ("d" : Str) = ⟨#[100]⟩ := by decide +kernel
def lenS (n : Nat) : Str := if n % 360 = 0 then num (n / 360) ++ "y" else if n % 30 = 0 then num (n / 30) ++ "m" else num n ++ "d"
theorem numL_head : ∀ n : Nat, (numL n).head? = some 48 → numL n = [48] := by
  intro n
  induction n using Nat.strongRecOn with
  | _ n ih =>
    intro h
    by_cases hn : n < 10
    · rw [numL_lt hn] at h ⊢
      simpa using h
    · exfalso
      rw [numL_step (by omega)] at h
      have h2 : (numL (n / 10)).head? = some 48 := by
        cases e : numL (n / 10) with
        | nil => exact absurd e (numL_ne _)
        | cons a r =>
          rw [e] at h
          simpa using h
      have h3 := ih (n / 10) (by omega) h2
      have h4 : n / 10 = 0 := by
        have := congrArg dval h3
        rw [show dval (numL (n / 10)) = n / 10 from numL_val _] at this
        simpa [dval, digitsVal] using this
      omega
theorem numB_numL {n : Nat} (h : n < 10 ^ 40) : numB (numL n) = true := by
  have h1 : (numL n).length ≤ 40 := numL_len (by decide) h
  have h2 : 1 ≤ (numL n).length := List.length_pos_iff.mpr (numL_ne n)
  unfold numB
  rw [decide_eq_true (show 1 ≤ (numL n).length ∧ (numL n).length ≤ 40 from ⟨h2, h1⟩)]
  have h3 : (decide ((numL n).head? = some 48) && decide (numL n ≠ [48])) = false := by
    rw [← Bool.decide_and]
    exact decide_eq_false fun k => k.2 (numL_head n k.1)
  rw [h3]
  show (true && (numL n).all digB) = true
  rw [Bool.true_and, List.all_eq_true]
  intro c hc
  exact decide_eq_true (numL_digits n c hc)
theorem dval_two {m : Nat} (h : m < 100) : dval (twoF m) = m := by
  unfold twoF dval digitsVal
  simp only [List.foldl_cons, List.foldl_nil]
  first | omega | skip
theorem twoB_two {m k : Nat} (h : m < 100) (h1 : 1 ≤ m) (h2 : m ≤ k) : twoB (twoF m) k = some m := by
  have e := dval_two h
  have h3 : (twoF m).all digB = true := by
    unfold twoF digB
    simp only [List.all_cons, List.all_nil, Bool.and_true, Bool.and_eq_true, decide_eq_true_eq]
    omega
  unfold twoB
  rw [e, if_pos ⟨rfl, h3, h1, h2⟩]
theorem two_free (m : Nat) : 45 ∉ twoF m := by
  unfold twoF
  simp only [List.mem_cons, List.not_mem_nil, or_false]
  omega
theorem tl_dayS (n : Nat) : tl (dayS n) = joinL [45] [numL (n / 360), twoF (n % 360 / 30 + 1), twoF (n % 30 + 1)] := by
  unfold dayS
  rw [tl_append, tl_append, tl_append, tl_append, sDash]
  show tl (num (n / 360)) ++ [45] ++ twoF _ ++ [45] ++ twoF _ = numL (n / 360) ++ ([45] ++ (twoF _ ++ ([45] ++ twoF _)))
  rw [show tl (num (n / 360)) = numL (n / 360) from tl_num _]
  simp only [List.append_assoc]
theorem dayR_dayS {n : Nat} (h : n / 360 < 10 ^ 40) : dayR (tl (dayS n)) = some n := by
  unfold dayR
  rw [tl_dayS, spl_join (by simp) (by
    intro p hp
    simp only [List.mem_cons, List.not_mem_nil, or_false] at hp
    rcases hp with rfl | rfl | rfl
    · exact numL_free (by decide)
    · exact two_free _
    · exact two_free _)]
  simp only
  rw [if_pos (numB_numL h), twoB_two (by omega) (by omega) (by omega), twoB_two (by omega) (by omega) (by omega)]
  simp only
  rw [show dval (numL (n / 360)) = n / 360 from numL_val _]
  exact congrArg some (by omega : 360 * (n / 360) + 30 * (n % 360 / 30 + 1 - 1) + (n % 30 + 1 - 1) = n)
theorem lenRd_of {n u : Nat} (h : n < 10 ^ 40) : lenRd (numL n ++ [u]) = (match some u with
    | some 121 => some (360 * n)
    | some 109 => some (30 * n)
    | some 100 => some n
    | _ => none) := by
  have e : dval (numL n) = n := numL_val n
  unfold lenRd
  rw [List.dropLast_concat, List.getLast?_concat, if_pos (numB_numL h), e]
theorem tl_num' (n : Nat) : tl (num n) = numL n := tl_num n
theorem lenRd_lenS {n : Nat} (h : n < 10 ^ 40) : lenRd (tl (lenS n)) = some n := by
  unfold lenS
  split
  · rw [tl_append, sY, tl_num']
    show lenRd (numL (n / 360) ++ [121]) = some n
    rw [lenRd_of (by omega)]
    show some (360 * (n / 360)) = some n
    exact congrArg some (by omega : 360 * (n / 360) = n)
  · split
    · rw [tl_append, sM, tl_num']
      show lenRd (numL (n / 30) ++ [109]) = some n
      rw [lenRd_of (by omega)]
      show some (30 * (n / 30)) = some n
      exact congrArg some (by omega : 30 * (n / 30) = n)
    · rw [tl_append, sD, tl_num']
      show lenRd (numL n ++ [100]) = some n
      rw [lenRd_of h]
      rfl
theorem lenS_len {n : Nat} (h : n < 10 ^ 60) : (lenS n).length ≤ 61 := by
  have l1 : (num (n / 360)).length ≤ 60 := num_len (by decide) (by omega)
  have l2 : (num (n / 30)).length ≤ 60 := num_len (by decide) (by omega)
  have l3 : (num n).length ≤ 60 := num_len (by decide) h
  have dy : ("y" : Str).length = 1 := by decide +kernel
  have dm : ("m" : Str).length = 1 := by decide +kernel
  have dd : ("d" : Str).length = 1 := by decide +kernel
  unfold lenS
  split
  · rw [len_app']; omega
  · split
    · rw [len_app']; omega
    · rw [len_app']; omega
end Vc

set_option Elab.async false
set_option linter.all false
set_option maxRecDepth 100000
set_option maxHeartbeats 1000000
namespace T
open PySem Vc
def is_number_1 : Sts := .cons (.ret (.kb false)) .nil
def is_number_4 : Sts := .cons (.ret (.kb false)) .nil
def is_number_3 : Sts := .cons (.ifs (.cmp .NotIn (.v 1) (.g "FIGURES")) is_number_4 .nil) .nil
def is_number_5 : Sts := .cons (.ret (.kb true)) .nil
def is_number_2 : Sts := .cons (.fors (.nm 1) (.seq (.v 0)) is_number_3) is_number_5
def is_number_0 : Sts := .cons (.ifs (.or (.not (.chain .LtE .LtE (.ki 1) (.bi .len (.cons (.v 0) .nil)) (.ki 40))) (.and (.cmp .Eq (.ix (.v 0) (.ki 0)) (.ks "0")) (.cmp .NotEq (.v 0) (.ks "0")))) is_number_1 .nil) is_number_2
abbrev is_number_N : List Str := ["text", "sign"]
abbrev is_number_P : List Str := ["text"]
def length_read_1 : Sts := .cons (.raise "NoLength" "no length") .nil
def length_read_4 : Sts := .cons (.ret (.op .Mult (.g "YEAR") (.v 1))) .nil
def length_read_6 : Sts := .cons (.ret (.op .Mult (.g "MONTH") (.v 1))) .nil
def length_read_8 : Sts := .cons (.ret (.v 1)) .nil
def length_read_9 : Sts := .cons (.raise "NoLength" "no length") .nil
def length_read_7 : Sts := .cons (.ifs (.cmp .Eq (.ix (.v 0) (.neg (.ki 1))) (.ks "d")) length_read_8 .nil) length_read_9
def length_read_5 : Sts := .cons (.ifs (.cmp .Eq (.ix (.v 0) (.neg (.ki 1))) (.ks "m")) length_read_6 .nil) length_read_7
def length_read_3 : Sts := .cons (.ifs (.cmp .Eq (.ix (.v 0) (.neg (.ki 1))) (.ks "y")) length_read_4 .nil) length_read_5
def length_read_2 : Sts := .cons (.set 1 (.bi .int (.cons (.sl (.v 0) .none (.some (.neg (.ki 1)))) .nil))) length_read_3
def length_read_0 : Sts := .cons (.ifs (.or (.cmp .Eq (.v 0) (.ks "")) (.not (.call "is_number" (.cons (.sl (.v 0) .none (.some (.neg (.ki 1)))) .nil)))) length_read_1 .nil) length_read_2
abbrev length_read_N : List Str := ["text", "number"]
abbrev length_read_P : List Str := ["text"]
def length_shown_1 : Sts := .cons (.ret (.op .Add (.bi .str (.cons (.op .FloorDiv (.v 0) (.g "YEAR")) .nil)) (.ks "y"))) .nil
def length_shown_3 : Sts := .cons (.ret (.op .Add (.bi .str (.cons (.op .FloorDiv (.v 0) (.g "MONTH")) .nil)) (.ks "m"))) .nil
def length_shown_4 : Sts := .cons (.ret (.op .Add (.bi .str (.cons (.v 0) .nil)) (.ks "d"))) .nil
def length_shown_2 : Sts := .cons (.ifs (.cmp .Eq (.op .Mult (.op .FloorDiv (.v 0) (.g "MONTH")) (.g "MONTH")) (.v 0)) length_shown_3 .nil) length_shown_4
def length_shown_0 : Sts := .cons (.ifs (.cmp .Eq (.op .Mult (.op .FloorDiv (.v 0) (.g "YEAR")) (.g "YEAR")) (.v 0)) length_shown_1 .nil) length_shown_2
abbrev length_shown_N : List Str := ["days"]
abbrev length_shown_P : List Str := ["days"]
def is_name_1 : Sts := .cons (.ret (.kb false)) .nil
def is_name_4 : Sts := .cons (.ret (.kb false)) .nil
def is_name_3 : Sts := .cons (.ifs (.cmp .NotIn (.v 1) (.g "LETTERS")) is_name_4 .nil) .nil
def is_name_5 : Sts := .cons (.ret (.kb true)) .nil
def is_name_2 : Sts := .cons (.fors (.nm 1) (.seq (.v 0)) is_name_3) is_name_5
def is_name_0 : Sts := .cons (.ifs (.not (.chain .LtE .LtE (.ki 1) (.bi .len (.cons (.v 0) .nil)) (.ki 12))) is_name_1 .nil) is_name_2
abbrev is_name_N : List Str := ["text", "sign"]
abbrev is_name_P : List Str := ["text"]
def l_length_1 : Sts := .cons (.ret (.op .Add (.bi .str (.cons (.op .FloorDiv (.v 0) (.ki 30)) .nil)) (.ks "m"))) .nil
def l_length_3 : Sts := .cons (.ret (.op .Add (.bi .str (.cons (.v 0) .nil)) (.ks "d"))) .nil
def l_length_5 : Sts := .cons (.ret (.op .Add (.bi .str (.cons (.op .FloorDiv (.v 0) (.ki 360)) .nil)) (.ks "y"))) .nil
def l_length_7 : Sts := .cons (.ret (.op .Add (.bi .str (.cons (.op .FloorDiv (.v 0) (.ki 30)) .nil)) (.ks "m"))) .nil
def l_length_8 : Sts := .cons (.ret (.op .Add (.bi .str (.cons (.v 0) .nil)) (.ks "d"))) .nil
def l_length_6 : Sts := .cons (.ifs (.cmp .Eq (.op .Mod (.v 0) (.ki 30)) (.ki 0)) l_length_7 .nil) l_length_8
def l_length_4 : Sts := .cons (.ifs (.cmp .Eq (.op .Mod (.v 0) (.ki 360)) (.ki 0)) l_length_5 .nil) l_length_6
def l_length_2 : Sts := .cons (.ifs (.cmp .Eq (.op .Mod (.v 1) (.ki 3)) (.ki 1)) l_length_3 .nil) l_length_4
def l_length_0 : Sts := .cons (.ifs (.and (.cmp .Eq (.op .Mod (.v 1) (.ki 3)) (.ki 0)) (.cmp .Eq (.op .Mod (.v 0) (.ki 30)) (.ki 0))) l_length_1 .nil) l_length_2
abbrev l_length_N : List Str := ["_law_days", "_law_cell"]
abbrev l_length_P : List Str := ["_law_days", "_law_cell"]
end T
namespace Vc
open PySem PySem.Spec PyProof.Rows L2 TL PySem.NumText
local macro_rules | `(tactic| simp_arith [$xs,*]) => `(tactic| simp (maxSteps := 400000) -implicitDefEqProofs only [↓reduceIte, Int.reduceLT, Int.reduceLE, Int.reduceEq, Int.reduceNe, reduceCtorEq,
  Rs.bind_ok, Rs.bind_ex, Rs.bind_bad, evT_v, ev_v, evT_ki, ev_ki, evT_ks, ev_ks, evT_kb, ev_kb, evT_kn, ev_kn, evT_g, ev_g, evT_op, ev_op, evT_cmp, ev_cmp, evT_chain, ev_chain, 
  evT_and, ev_and, evT_or, ev_or, evT_not, ev_not, evT_neg, ev_neg, evT_ife, ev_ife, evT_call, ev_call, evT_bi, ev_bi, evT_isi, ev_isi, evT_isiT, ev_isiT, evT_bm, ev_bm, evT_ix, 
  ev_ix, evT_sl, ev_sl, evT_lst, ev_lst, evT_tup, ev_tup, evT_dict0, ev_dict0, evT_lc, evT_fld, ev_fld, evT_meth, ev_meth, evT_make, ev_make, evs_nil, evs_cons, evo_none, evo_some, 
  evC_none, evC_some, evSrc_seq, evSrc_keys, evSrc_rng, opt_some, opt_none, map_some', bind_some', noEx_ok, op_addi, op_subi, op_muli, op_divi, op_modi, c_eqi, c_nei, c_lti, c_lei, 
  c_gti, c_gei, c_isn, c_ntn, tru_bl, tru_int, tru_non, bi_leni, bi_lent, bi_lend, bi_absi, bi_inti, bi_intb, sz0, ix_dic, c_ind, c_nid, key_s, key_i, bi_dict, isNon_int, isNon_non, 
  some_some, none_some, sz1, sz2, sz3, sz4, sz5, run_set, run_unp, run_ex, run_ifs, run_fors, run_whl, run_ret, run_retn, run_raise, run_pass, run_tr, dicP_dic, run_sub, run_lock, 
  run_setlc, run_sfld, run_raise1, runs_nil, runs_cons, getS_z, getS_s, set_z, set_s, tg_nm, tg_lst, tg_tup, sa_n, sa_c, lv_v, lv_f, getL_p, getP_n, getP_c, setP_n, setL_p, call_ok, 
  call_ex, wb_sh, wb_bw, wb_n, b_1, b_1', b_1'', b_2, b_3, b_4, b_5, b_6, b_7, b_8, b_9, b_10, b_11, isM_app, isM_pop, isM_ext, isM_clr, isM_join, isM_split, isM_part, isM_zf, isM_idx, isM_get, isM_cnt, mK_app, mK_pop, mK_ext, mK_clr, mK_clrd, bK_split, bK_part, bK_join, bK_zf, bK_idx, bK_cnt, bK_get, mut_app, mut_pop, c_eqs, c_nes, tu1, tu20, tu21, tu30, tu31, tu32, ini0, ini2, at0, at1, try_ok, tp2, tp3, $xs,*])
open T
/-! ### texts of lengths and names by values -/
theorem bi_lens {z : Str} (h : z.length ≤ sizeLine) : biP .len [.str z] = some (.int z.length) := by
  show ((grd (z.length ≤ sizeLine) z.length).map fun (n : Nat) => PV.int (n : Int)) = _
  rw [grd_pos h]
  rfl
theorem ix_s {z : Str} {i : Int} {c : Nat} (h : z.length ≤ sizeLine) (e : atI (tl z) i = some c) : ixP (.str z) (.int i) = some (.str ⟨#[c]⟩) := by
  show (grd (z.length ≤ sizeLine) ()).bind (fun _ => (atI z.cps.toList i).map fun c => PV.str ⟨#[c]⟩) = _
  rw [grd_pos h, show z.cps.toList = tl z from rfl, e]
  rfl
theorem in_s {c : Nat} {z : Str} : cmpP .NotIn (.str ⟨#[c]⟩) (.str z) = some (!decide (c ∈ z.cps.toList)) := rfl
theorem str_ext' {s t : Str} (h : tl s = tl t) : s = t := by
  cases s; cases t
  exact congrArg _ (Array.toList_inj.mp h)
theorem str_eqB {s t : Str} : (s == t) = decide (tl s = tl t) := by
  by_cases h : tl s = tl t
  · have : s = t := str_ext' h
    rw [decide_eq_true h, this]
    exact str_self t
  · rw [decide_eq_false h]
    exact beq_eq_false_iff_ne.mpr fun e => h (by rw [e])
/-- a loop over the signs of a text that ends at the first one that is not in -/
theorem for_signs {turn : PV → Env → Rs Fl} {z : Str} (p : Nat → Bool) (ht : ∀ (c : Nat) (o : Option PV), turn (.str ⟨#[c]⟩) [some (.str z), o] = if p c = true then .ok .nx [some (.str z), some (.str ⟨#[c]⟩)] else .ok (.ret (.bl false)) [some (.str z), some (.str ⟨#[c]⟩)]) :
    ∀ (cs : List Nat) (o : Option PV), ∃ o', forP turn (cs.map fun c => PV.str ⟨#[c]⟩) [some (.str z), o] = if cs.all p = true then .ok .nx [some (.str z), o'] else .ok (.ret (.bl false)) [some (.str z), o']
  | [], o => ⟨o, rfl⟩
  | c :: cs, o => by
    rw [List.map_cons]
    unfold forP
    rw [ht, List.all_cons]
    by_cases h : p c = true
    · rw [if_pos h, h, Bool.true_and]
      exact for_signs p ht cs _
    · rw [if_neg h, Bool.not_eq_true] at *
      rw [h, Bool.false_and]
      exact ⟨_, rfl⟩
theorem num_val {G : PGm} (hF : G.gl "FIGURES" = some (.str figS)) {z : Str} (hz : z.length ≤ sizeLine) : defP G [.sh] 2 is_number_0 [.str z] = .ok (.bl (numB (tl z))) [] := by
  have hl : z.length = (tl z).length := len_tl z
  have rest : ¬ (1 ≤ (tl z).length ∧ (tl z).length ≤ 40) ∨ ((tl z).head? = some 48 ∧ tl z ≠ [48]) → numB (tl z) = false := by
    rintro (h | ⟨h1, h2⟩)
    · unfold numB
      rw [decide_eq_false h]
      rfl
    · unfold numB
      rw [decide_eq_true h1, decide_eq_true h2]
      simp
  have loop : (1 ≤ (tl z).length ∧ (tl z).length ≤ 40) → ¬ ((tl z).head? = some 48 ∧ tl z ≠ [48]) → ∃ env, runs G is_number_2 [some (.str z), none] = .ok (.ret (.bl (numB (tl z)))) env := by
    intro h1 h2
    have e0 : numB (tl z) = (tl z).all digB := by
      unfold numB
      rw [decide_eq_true h1]
      have : (decide ((tl z).head? = some 48) && decide (tl z ≠ [48])) = false := by
        rw [← Bool.decide_and]
        exact decide_eq_false h2
      rw [this]
      simp
    obtain ⟨o', e⟩ := for_signs (turn := fun x env => runs G is_number_3 (env.set 1 (some x))) (z := z) digB (fun c o => by
      unfold is_number_3 is_number_4
      have hm : decide (c ∈ figS.cps.toList) = digB c := by
        rw [Bool.eq_iff_iff, decide_eq_true_iff]
        exact fig_mem c
      by_cases hc : digB c = true
      · rw [hc] at hm
        simp_arith [hF, in_s, hm, hc]
      · rw [Bool.not_eq_true] at hc
        rw [hc] at hm
        simp_arith [hF, in_s, hm, hc]) (tl z) none
    unfold is_number_2 is_number_5
    have e : forP (fun x env => runs G is_number_3 (env.set 1 (some x))) (z.cps.toList.map fun c => PV.str ⟨#[c]⟩) [some (.str z), none] = _ := e
    rw [e0]
    by_cases ha : (tl z).all digB = true
    · rw [if_pos ha] at e
      refine ⟨[some (.str z), o'], ?_⟩
      rw [ha]
      simp_arith [e]
    · rw [if_neg ha] at e
      rw [Bool.not_eq_true] at ha
      refine ⟨[some (.str z), o'], ?_⟩
      rw [ha]
      simp_arith [e]
  unfold defP is_number_0 is_number_1
  have : startP 2 [PV.str z] = [some (.str z), none] := rfl
  rw [this]
  by_cases h1 : 1 ≤ (tl z).length ∧ (tl z).length ≤ 40
  · obtain ⟨c, r, e⟩ : ∃ c r, tl z = c :: r := by
      cases h : tl z with
      | nil => rw [h] at h1; simp at h1
      | cons c r => exact ⟨c, r, rfl⟩
    have hh : (tl z).head? = some c := by rw [e]; rfl
    have hi : ixP (.str z) (.int 0) = some (.str ⟨#[c]⟩) := ix_s hz (atI_nat (j := 0) (by rw [e]; rfl))
    have g1 : (1 : Int) ≤ (z.length : Nat) := by omega
    have g2 : ((z.length : Nat) : Int) ≤ 40 := by omega
    have q1 : ((⟨#[c]⟩ : Str) == "0") = decide (c = 48) := by
      rw [str_eqB, s0]
      simp [tl]
    have q2 : (z == "0") = decide (tl z = [48]) := by
      rw [str_eqB, s0]
    by_cases hc : c = 48
    · by_cases h2 : tl z = [48]
      · obtain ⟨env, e2⟩ := loop h1 fun h => h.2 h2
        rw [decide_eq_true hc] at q1
        rw [decide_eq_true h2] at q2
        simp_arith [bi_lens hz, g1, g2, hi, q1, q2, e2]
        rfl
      · rw [decide_eq_true hc] at q1
        rw [decide_eq_false h2] at q2
        rw [rest (.inr ⟨by rw [hh, hc], h2⟩)]
        simp_arith [bi_lens hz, g1, g2, hi, q1, q2]
        rfl
    · obtain ⟨env, e2⟩ := loop h1 fun h => hc (by rw [hh] at h; exact Option.some.inj h.1)
      rw [decide_eq_false hc] at q1
      simp_arith [bi_lens hz, g1, g2, hi, q1, e2]
      rfl
  · rw [rest (.inl h1)]
    by_cases g1 : (1 : Int) ≤ (z.length : Nat)
    · have g2 : ¬ ((z.length : Nat) : Int) ≤ 40 := by omega
      simp_arith [bi_lens hz, g1, g2]
      rfl
    · simp_arith [bi_lens hz, g1]
      rfl
abbrev letS : Str := "abcdefghijklmnopqrstuvwxyz"
def letB (c : Nat) : Bool := decide (97 ≤ c ∧ c ≤ 122)
theorem let_mem (c : Nat) : c ∈ letS.cps.toList ↔ letB c = true := by
  have e : letS.cps.toList = [97, 98, 99, 100, 101, 102, 103, 104, 105, 106, 107, 108, 109, 110, 111, 112, 113, 114, 115, 116, 117, 118, 119, 120, 121, 122] := by decide +kernel
  rw [e]
  unfold letB
  simp only [List.mem_cons, List.not_mem_nil, or_false, decide_eq_true_eq]
  omega
def nameB (cs : List Nat) : Bool := decide (1 ≤ cs.length ∧ cs.length ≤ 12) && cs.all letB
theorem nameB_nm {s : Str} (h : Nm s) : nameB (tl s) = true := by
  have hl : s.length = (tl s).length := len_tl s
  unfold nameB
  rw [decide_eq_true (by have := h.2; omega), Bool.true_and, List.all_eq_true]
  intro c hc
  exact decide_eq_true (h.1 c hc)
theorem isname_val {G : PGm} (hF : G.gl "LETTERS" = some (.str letS)) {z : Str} (hz : z.length ≤ sizeLine) : defP G [.sh] 2 is_name_0 [.str z] = .ok (.bl (nameB (tl z))) [] := by
  have hl : z.length = (tl z).length := len_tl z
  obtain ⟨o', e⟩ := for_signs (turn := fun x env => runs G is_name_3 (env.set 1 (some x))) (z := z) letB (fun c o => by
    unfold is_name_3 is_name_4
    have hm : decide (c ∈ letS.cps.toList) = letB c := by
      rw [Bool.eq_iff_iff, decide_eq_true_iff]
      exact let_mem c
    by_cases hc : letB c = true
    · rw [hc] at hm
      simp_arith [hF, in_s, hm, hc]
    · rw [Bool.not_eq_true] at hc
      rw [hc] at hm
      simp_arith [hF, in_s, hm, hc]) (tl z) none
  have e : forP (fun x env => runs G is_name_3 (env.set 1 (some x))) (z.cps.toList.map fun c => PV.str ⟨#[c]⟩) [some (.str z), none] = _ := e
  unfold defP is_name_0 is_name_1 is_name_2 is_name_5
  have : startP 2 [PV.str z] = [some (.str z), none] := rfl
  rw [this]
  unfold nameB
  by_cases g1 : (1 : Int) ≤ (z.length : Nat)
  · by_cases g2 : ((z.length : Nat) : Int) ≤ 12
    · rw [decide_eq_true (by omega), Bool.true_and]
      by_cases ha : (tl z).all letB = true
      · rw [if_pos ha] at e
        rw [ha]
        simp_arith [bi_lens hz, g1, g2, e]
        rfl
      · rw [if_neg ha] at e
        rw [Bool.not_eq_true] at ha
        rw [ha]
        simp_arith [bi_lens hz, g1, g2, e]
        rfl
    · rw [decide_eq_false (by omega), Bool.false_and]
      simp_arith [bi_lens hz, g1, g2]
      rfl
  · rw [decide_eq_false (by omega), Bool.false_and]
    simp_arith [bi_lens hz, g1]
    rfl
/-! lengths read and shown -/
def NumSo (G : PGm) : Prop := FnIs G "is_number" [.sh] false fun r => ∀ z : Str, z.length ≤ sizeLine → r [.str z] = .ok (.bl (numB (tl z))) []
theorem lread_val {G : PGm} (N : NumSo G) (hY : G.gl "YEAR" = some (.int 360)) (hM : G.gl "MONTH" = some (.int 30)) {z : Str} {n : Nat} (hz : z.length ≤ 600) (h : lenRd (tl z) = some n) : defP G [.sh] 2 length_read_0 [.str z] = .ok (.int (n : Int)) [] := by
  obtain ⟨r, f, g⟩ := N
  have hl : z.length = (tl z).length := len_tl z
  have hz2 : z.length ≤ sizeLine := by rw [sizeLine_eq]; omega
  obtain ⟨w, hw⟩ : ∃ w : Str, w = cutS z none (some (-1)) := ⟨_, rfl⟩
  have tw : tl w = (tl z).dropLast := by rw [hw]; exact cut_last z
  have lw : w.length = (tl w).length := len_tl w
  have lw2 : w.length ≤ sizeLine := by rw [lw, tw, List.length_dropLast, sizeLine_eq]; omega
  have sl : slP (.str z) none (some (-1)) = some (.str w) := by
    show grd _ _ = _
    rw [grd_pos hz2, hw]
  have g := g w lw2
  unfold lenRd at h
  split at h
  · rename_i hn
    rw [tw, hn] at g
    obtain ⟨d1, d2, d3⟩ := numB_dig hn
    have hw2 := int_of_digits (z := w) (by rw [tw]; exact d1) (by rw [tw]; exact d2) (by rw [tw]; omega)
    have bi : biP .int [.str w] = some (.int (dval (tl w) : Nat)) := by
      show (match PySem.intText? w with
        | some n => grd (w.length ≤ 640) (PV.int n)
        | none => none) = _
      rw [hw2.1]
      exact grd_pos hw2.2
    have q0 : (z == "") = false := by
      rw [str_eqB]
      refine decide_eq_false fun e => ?_
      rw [show tl z = [] from e] at d2
      simp at d2
    have m1 : ∀ a : Int, mulOk 360 a := fun a => by unfold mulOk; left; omega
    have m2 : ∀ a : Int, mulOk 30 a := fun a => by unfold mulOk; left; omega
    rw [tw] at bi
    unfold defP length_read_0 length_read_2 length_read_3 length_read_4 length_read_5 length_read_6 length_read_7 length_read_8
    have : startP 2 [PV.str z] = [some (.str z), none] := rfl
    rw [this]
    split at h
    · rename_i hlast
      cases h
      have hi : ixP (.str z) (.int (-1)) = some (.str ⟨#[121]⟩) := ix_s hz2 (at_last hlast)
      have q1 : ((⟨#[121]⟩ : Str) == "y") = true := by rw [str_eqB, sY]; rfl
      simp_arith [q0, sl, f, g, bi, hi, q1, hY, grd_pos (m1 _)]
      rfl
    · rename_i hlast
      cases h
      have hi : ixP (.str z) (.int (-1)) = some (.str ⟨#[109]⟩) := ix_s hz2 (at_last hlast)
      have q1 : ((⟨#[109]⟩ : Str) == "y") = false := by rw [str_eqB, sY]; rfl
      have q2 : ((⟨#[109]⟩ : Str) == "m") = true := by rw [str_eqB, sM]; rfl
      simp_arith [q0, sl, f, g, bi, hi, q1, q2, hM, grd_pos (m2 _)]
      rfl
    · rename_i hlast
      cases h
      have hi : ixP (.str z) (.int (-1)) = some (.str ⟨#[100]⟩) := ix_s hz2 (at_last hlast)
      have q1 : ((⟨#[100]⟩ : Str) == "y") = false := by rw [str_eqB, sY]; rfl
      have q2 : ((⟨#[100]⟩ : Str) == "m") = false := by rw [str_eqB, sM]; rfl
      have q3 : ((⟨#[100]⟩ : Str) == "d") = true := by rw [str_eqB, sD]; rfl
      simp_arith [q0, sl, f, g, bi, hi, q1, q2, q3]
      rfl
    · cases h
  · cases h
theorem bi_str {n : Nat} (h : n < 10 ^ 60) : biP .str [.int (n : Int)] = some (.str (num n)) := by
  show grd _ _ = _
  rw [grd_pos (log_small h)]
  rfl
theorem add_s {a b : Str} (h : a.length + b.length ≤ sizeLine) : opP .Add (.str a) (.str b) = some (.str (a ++ b)) := grd_pos h
theorem sz_s {a b : Str} (h1 : a.length ≤ 100000) (h2 : b.length ≤ 100000) : a.length + b.length ≤ sizeLine := by rw [sizeLine_eq]; omega
theorem lshown_val {G : PGm} (hY : G.gl "YEAR" = some (.int 360)) (hM : G.gl "MONTH" = some (.int 30)) {n : Nat} (hn : n < 10 ^ 60) : defP G [.sh] 1 length_shown_0 [.int (n : Int)] = .ok (.str (lenS n)) [] := by
  have l1 : (num (n / 360)).length ≤ 60 := num_len (by decide) (by omega)
  have l2 : (num (n / 30)).length ≤ 60 := num_len (by decide) (by omega)
  have l3 : (num n).length ≤ 60 := num_len (by decide) hn
  have dy : ("y" : Str).length = 1 := by decide +kernel
  have dm : ("m" : Str).length = 1 := by decide +kernel
  have dd : ("d" : Str).length = 1 := by decide +kernel
  have b1 := bi_str (n := n / 360) (by omega)
  have b2 := bi_str (n := n / 30) (by omega)
  have b3 := bi_str hn
  rw [show ((n / 360 : Nat) : Int) = (n : Int) / 360 by omega] at b1
  rw [show ((n / 30 : Nat) : Int) = (n : Int) / 30 by omega] at b2
  have a1 := add_s (a := num (n / 360)) (b := "y") (sz_s (by omega) (by omega))
  have a2 := add_s (a := num (n / 30)) (b := "m") (sz_s (by omega) (by omega))
  have a3 := add_s (a := num n) (b := "d") (sz_s (by omega) (by omega))
  have m1 : ∀ a : Int, mulOk a 360 := fun a => by unfold mulOk; right; omega
  have m2 : ∀ a : Int, mulOk a 30 := fun a => by unfold mulOk; right; omega
  unfold defP length_shown_0 length_shown_1 length_shown_2 length_shown_3 length_shown_4 lenS
  have : startP 1 [PV.int (n : Int)] = [some (.int (n : Int))] := rfl
  rw [this]
  by_cases h1 : n % 360 = 0
  · have e : (n : Int) / 360 * 360 = n := by omega
    rw [if_pos h1]
    simp_arith [hY, grd_pos, grd_pos (m1 _), e, b1, a1]
    rfl
  · have e : ¬ (n : Int) / 360 * 360 = n := by omega
    rw [if_neg h1]
    by_cases h2 : n % 30 = 0
    · have e2 : (n : Int) / 30 * 30 = n := by omega
      rw [if_pos h2]
      simp_arith [hY, hM, grd_pos, grd_pos (m1 _), grd_pos (m2 _), e, e2, b2, a2]
      rfl
    · have e2 : ¬ (n : Int) / 30 * 30 = n := by omega
      rw [if_neg h2]
      simp_arith [hY, hM, grd_pos, grd_pos (m1 _), grd_pos (m2 _), e, e2, b3, a3]
      rfl
/-- the law's own text of a length, by its cell -/
def lenT (n : Nat) (c : Int) : Str :=
  if c % 3 = 0 ∧ n % 30 = 0 then num (n / 30) ++ "m" else if c % 3 = 1 then num n ++ "d" else lenS n
theorem llen_val (G : PGm) {n : Nat} (hn : n < 10 ^ 60) (c : Int) : defP G [.sh, .sh] 2 l_length_0 [.int (n : Int), .int c] = .ok (.str (lenT n c)) [] := by
  have l1 : (num (n / 360)).length ≤ 60 := num_len (by decide) (by omega)
  have l2 : (num (n / 30)).length ≤ 60 := num_len (by decide) (by omega)
  have l3 : (num n).length ≤ 60 := num_len (by decide) hn
  have dy : ("y" : Str).length = 1 := by decide +kernel
  have dm : ("m" : Str).length = 1 := by decide +kernel
  have dd : ("d" : Str).length = 1 := by decide +kernel
  have b1 := bi_str (n := n / 360) (by omega)
  have b2 := bi_str (n := n / 30) (by omega)
  have b3 := bi_str hn
  rw [show ((n / 360 : Nat) : Int) = (n : Int) / 360 by omega] at b1
  rw [show ((n / 30 : Nat) : Int) = (n : Int) / 30 by omega] at b2
  have a1 := add_s (a := num (n / 360)) (b := "y") (sz_s (by omega) (by omega))
  have a2 := add_s (a := num (n / 30)) (b := "m") (sz_s (by omega) (by omega))
  have a3 := add_s (a := num n) (b := "d") (sz_s (by omega) (by omega))
  unfold defP l_length_0 l_length_1 l_length_2 l_length_3 l_length_4 l_length_5 l_length_6 l_length_7 l_length_8 lenT lenS
  have : startP 2 [PV.int (n : Int), .int c] = [some (.int (n : Int)), some (.int c)] := rfl
  rw [this]
  have e30 : ((n : Int) % 30 = 0) ↔ n % 30 = 0 := by omega
  have e360 : ((n : Int) % 360 = 0) ↔ n % 360 = 0 := by omega
  by_cases h0 : c % 3 = 0
  · by_cases h30 : n % 30 = 0
    · have k30 := e30.mpr h30
      rw [if_pos ⟨h0, h30⟩]
      simp_arith [grd_pos, h0, k30, b2, a2]
      rfl
    · have k30 : ¬ (n : Int) % 30 = 0 := fun h => h30 (e30.mp h)
      have k360 : ¬ (n : Int) % 360 = 0 := by omega
      have h360 : ¬ n % 360 = 0 := by omega
      rw [if_neg (fun h => h30 h.2), if_neg (by omega), if_neg h360, if_neg h30]
      simp_arith [grd_pos, h0, k30, k360, b3, a3]
      rfl
  · rw [if_neg (fun h => h0 h.1)]
    by_cases h1 : c % 3 = 1
    · rw [if_pos h1]
      simp_arith [grd_pos, h0, h1, b3, a3]
      rfl
    · rw [if_neg h1]
      by_cases h360 : n % 360 = 0
      · have k360 := e360.mpr h360
        rw [if_pos h360]
        simp_arith [grd_pos, h0, h1, k360, b1, a1]
        rfl
      · have k360 : ¬ (n : Int) % 360 = 0 := fun h => h360 (e360.mp h)
        rw [if_neg h360]
        by_cases h30 : n % 30 = 0
        · have k30 := e30.mpr h30
          rw [if_pos h30]
          simp_arith [grd_pos, h0, h1, k360, k30, b2, a2]
          rfl
        · have k30 : ¬ (n : Int) % 30 = 0 := fun h => h30 (e30.mp h)
          rw [if_neg h30]
          simp_arith [grd_pos, h0, h1, k360, k30, b3, a3]
          rfl
theorem lenT_minus (n : Nat) : lenT n (-1) = lenS n := by
  unfold lenT
  rw [if_neg (by omega), if_neg (by omega)]
theorem lenT_read {n : Nat} (h : n < 10 ^ 40) (c : Int) : lenRd (tl (lenT n c)) = some n := by
  unfold lenT
  split
  · rename_i h2
    rw [tl_append, sM, tl_num']
    show lenRd (numL (n / 30) ++ [109]) = some n
    rw [lenRd_of (by omega)]
    show some (30 * (n / 30)) = some n
    exact congrArg some (by omega : 30 * (n / 30) = n)
  · split
    · rw [tl_append, sD, tl_num']
      show lenRd (numL n ++ [100]) = some n
      rw [lenRd_of h]
      rfl
    · exact lenRd_lenS h
theorem num_no32 (n : Nat) : 32 ∉ tl (num n) := by
  rw [tl_num']
  exact numL_free (by decide)
theorem lenT_no32 (n : Nat) (c : Int) : 32 ∉ tl (lenT n c) := by
  have key : ∀ (m : Nat) (u : Str) (d : Nat), u = ⟨#[d]⟩ → d ≠ 32 → 32 ∉ tl (num m ++ u) := fun m u d hu hd => by
    subst hu
    rw [tl_append, List.mem_append]
    rintro (h | h)
    · exact num_no32 m h
    · have : (32 : Nat) = d := by simpa [tl] using h
      omega
  unfold lenT lenS
  split
  · exact key _ _ _ sM (by decide)
  · split
    · exact key _ _ _ sD (by decide)
    · split
      · exact key _ _ _ sY (by decide)
      · split
        · exact key _ _ _ sM (by decide)
        · exact key _ _ _ sD (by decide)
theorem lenT_len {n : Nat} (h : n < 10 ^ 60) (c : Int) : (lenT n c).length ≤ 61 := by
  have l2 : (num (n / 30)).length ≤ 60 := num_len (by decide) (by omega)
  have l3 : (num n).length ≤ 60 := num_len (by decide) h
  have dm : ("m" : Str).length = 1 := by decide +kernel
  have dd : ("d" : Str).length = 1 := by decide +kernel
  unfold lenT
  split
  · rw [len_app']; omega
  · split
    · rw [len_app']; omega
    · exact lenS_len h
end Vc

set_option Elab.async false
set_option linter.all false
set_option maxRecDepth 100000
set_option maxHeartbeats 1000000
namespace T
open PySem Vc
def Term_shown_0 : Sts := .cons (.ret (.ks "never")) .nil
abbrev Term_shown_N : List Str := ["self"]
abbrev Term_shown_P : List Str := ["self"]
def After_shown_0 : Sts := .cons (.ret (.op .Add (.op .Add (.op .Add (.ks "after ") (.fld (.v 0) "kind")) (.ks " ")) (.call "length_shown" (.cons (.fld (.v 0) "days") .nil)))) .nil
abbrev After_shown_N : List Str := ["self"]
abbrev After_shown_P : List Str := ["self"]
def Later_shown_0 : Sts := .cons (.ret (.op .Add (.op .Add (.op .Add (.ks "later ") (.meth "shown" (.fld (.v 0) "one") .nil)) (.ks " ")) (.meth "shown" (.fld (.v 0) "other") .nil))) .nil
abbrev Later_shown_N : List Str := ["self"]
abbrev Later_shown_P : List Str := ["self"]
def Earlier_shown_0 : Sts := .cons (.ret (.op .Add (.op .Add (.op .Add (.ks "earlier ") (.meth "shown" (.fld (.v 0) "one") .nil)) (.ks " ")) (.meth "shown" (.fld (.v 0) "other") .nil))) .nil
abbrev Earlier_shown_N : List Str := ["self"]
abbrev Earlier_shown_P : List Str := ["self"]
def length_in_1 : Sts := .cons (.set 1 (.call "length_read" (.cons (.v 0) .nil))) .nil
def length_in_2 : Sts := .cons (.raise "NoTerm" "no length") .nil
def length_in_3 : Sts := .cons (.ret (.v 1)) .nil
def length_in_0 : Sts := .cons (.tr length_in_1 "NoLength" none length_in_2) length_in_3
abbrev length_in_N : List Str := ["text", "days"]
abbrev length_in_P : List Str := ["text"]
def read_from_1 : Sts := .cons (.raise "NoTerm" "words are lacking") .nil
def read_from_3 : Sts := .cons (.ret (.tup (.cons (.make "Term" .nil) (.cons (.op .Add (.v 1) (.ki 1)) .nil)))) .nil
def read_from_5 : Sts := .cons (.ret (.tup (.cons (.make "After" (.cons (.ix (.v 0) (.op .Add (.v 1) (.ki 1))) (.cons (.call "length_in" (.cons (.ix (.v 0) (.op .Add (.v 1) (.ki 2))) .nil)) .nil))) (.cons (.op .Add (.v 1) (.ki 3)) .nil)))) .nil
def read_from_7 : Sts := .cons (.raise "NoTerm" "no term") .nil
def read_from_11 : Sts := .cons (.ret (.tup (.cons (.make "Later" (.cons (.v 2) (.cons (.v 4) .nil))) (.cons (.v 5) .nil)))) .nil
def read_from_12 : Sts := .cons (.ret (.tup (.cons (.make "Earlier" (.cons (.v 2) (.cons (.v 4) .nil))) (.cons (.v 5) .nil)))) .nil
def read_from_10 : Sts := .cons (.ifs (.cmp .Eq (.ix (.v 0) (.v 1)) (.ks "later")) read_from_11 .nil) read_from_12
def read_from_9 : Sts := .cons (.unp [4, 5] (.call "read_from" (.cons (.v 0) (.cons (.v 3) .nil)))) read_from_10
def read_from_8 : Sts := .cons (.unp [2, 3] (.call "read_from" (.cons (.v 0) (.cons (.op .Add (.v 1) (.ki 1)) .nil)))) read_from_9
def read_from_6 : Sts := .cons (.ifs (.and (.cmp .NotEq (.ix (.v 0) (.v 1)) (.ks "later")) (.cmp .NotEq (.ix (.v 0) (.v 1)) (.ks "earlier"))) read_from_7 .nil) read_from_8
def read_from_4 : Sts := .cons (.ifs (.and (.cmp .Eq (.ix (.v 0) (.v 1)) (.ks "after")) (.and (.cmp .Lt (.op .Add (.v 1) (.ki 2)) (.bi .len (.cons (.v 0) .nil))) (.call "is_name" (.cons (.ix (.v 0) (.op .Add (.v 1) (.ki 1))) .nil)))) read_from_5 .nil) read_from_6
def read_from_2 : Sts := .cons (.ifs (.cmp .Eq (.ix (.v 0) (.v 1)) (.ks "never")) read_from_3 .nil) read_from_4
def read_from_0 : Sts := .cons (.ifs (.cmp .GtE (.v 1) (.bi .len (.cons (.v 0) .nil))) read_from_1 .nil) read_from_2
abbrev read_from_N : List Str := ["words", "at", "one", "middle", "other", "end"]
abbrev read_from_P : List Str := ["words", "at"]
def term_read_2 : Sts := .cons (.raise "NoTerm" "too many words") .nil
def term_read_5 : Sts := .cons (.raise "NoTerm" "too many words") .nil
def term_read_6 : Sts := .cons (.ret (.v 2)) .nil
def term_read_4 : Sts := .cons (.ifs (.cmp .Lt (.v 3) (.bi .len (.cons (.v 1) .nil))) term_read_5 .nil) term_read_6
def term_read_3 : Sts := .cons (.unp [2, 3] (.call "read_from" (.cons (.v 1) (.cons (.ki 0) .nil)))) term_read_4
def term_read_1 : Sts := .cons (.ifs (.cmp .Gt (.bi .len (.cons (.v 1) .nil)) (.g "MOST")) term_read_2 .nil) term_read_3
def term_read_0 : Sts := .cons (.set 1 (.bm .split (.v 0) (.cons (.ks " ") .nil))) term_read_1
abbrev term_read_N : List Str := ["text", "words", "term", "end"]
abbrev term_read_P : List Str := ["text"]
def l_words_1 : Sts := .cons (.ret (.ks "never")) .nil
def l_words_3 : Sts := .cons (.ret (.op .Add (.op .Add (.op .Add (.ks "after ") (.ix (.v 0) (.ki 1))) (.ks " ")) (.call "_law_length" (.cons (.ix (.v 0) (.ki 2)) (.cons (.v 1) .nil))))) .nil
def l_words_4 : Sts := .cons (.ret (.op .Add (.op .Add (.op .Add (.op .Add (.ix (.v 0) (.ki 0)) (.ks " ")) (.call "_law_words" (.cons (.ix (.v 0) (.ki 1)) (.cons (.op .FloorDiv (.v 1) (.ki 2)) .nil)))) (.ks " ")) (.call "_law_words" (.cons (.ix (.v 0) (.ki 2)) (.cons (.op .FloorDiv (.v 1) (.ki 3)) .nil))))) .nil
def l_words_2 : Sts := .cons (.ifs (.cmp .Eq (.ix (.v 0) (.ki 0)) (.ks "after")) l_words_3 .nil) l_words_4
def l_words_0 : Sts := .cons (.ifs (.cmp .Eq (.ix (.v 0) (.ki 0)) (.ks "never")) l_words_1 .nil) l_words_2
abbrev l_words_N : List Str := ["_law_tree", "_law_cell"]
abbrev l_words_P : List Str := ["_law_tree", "_law_cell"]
end T
namespace Vc
open PySem PySem.Spec PyProof.Rows L2 TL PySem.NumText
local macro_rules | `(tactic| simp_arith [$xs,*]) => `(tactic| simp (maxSteps := 400000) -implicitDefEqProofs only [↓reduceIte, Int.reduceLT, Int.reduceLE, Int.reduceEq, Int.reduceNe, reduceCtorEq,
  Rs.bind_ok, Rs.bind_ex, Rs.bind_bad, evT_v, ev_v, evT_ki, ev_ki, evT_ks, ev_ks, evT_kb, ev_kb, evT_kn, ev_kn, evT_g, ev_g, evT_op, ev_op, evT_cmp, ev_cmp, evT_chain, ev_chain, 
  evT_and, ev_and, evT_or, ev_or, evT_not, ev_not, evT_neg, ev_neg, evT_ife, ev_ife, evT_call, ev_call, evT_bi, ev_bi, evT_isi, ev_isi, evT_isiT, ev_isiT, evT_bm, ev_bm, evT_ix, 
  ev_ix, evT_sl, ev_sl, evT_lst, ev_lst, evT_tup, ev_tup, evT_dict0, ev_dict0, evT_lc, evT_fld, ev_fld, evT_meth, ev_meth, evT_make, ev_make, evs_nil, evs_cons, evo_none, evo_some, 
  evC_none, evC_some, evSrc_seq, evSrc_keys, evSrc_rng, opt_some, opt_none, map_some', bind_some', noEx_ok, op_addi, op_subi, op_muli, op_divi, op_modi, c_eqi, c_nei, c_lti, c_lei, 
  c_gti, c_gei, c_isn, c_ntn, tru_bl, tru_int, tru_non, bi_leni, bi_lent, bi_lend, bi_absi, bi_inti, bi_intb, sz0, ix_dic, c_ind, c_nid, key_s, key_i, bi_dict, isNon_int, isNon_non, 
  some_some, none_some, sz1, sz2, sz3, sz4, sz5, run_set, run_unp, run_ex, run_ifs, run_fors, run_whl, run_ret, run_retn, run_raise, run_pass, run_tr, dicP_dic, run_sub, run_lock, 
  run_setlc, run_sfld, run_raise1, runs_nil, runs_cons, getS_z, getS_s, set_z, set_s, tg_nm, tg_lst, tg_tup, sa_n, sa_c, lv_v, lv_f, getL_p, getP_n, getP_c, setP_n, setL_p, call_ok, 
  call_ex, wb_sh, wb_bw, wb_n, b_1, b_1', b_1'', b_2, b_3, b_4, b_5, b_6, b_7, b_8, b_9, b_10, b_11, isM_app, isM_pop, isM_ext, isM_clr, isM_join, isM_split, isM_part, isM_zf, isM_idx, isM_get, isM_cnt, mK_app, mK_pop, mK_ext, mK_clr, mK_clrd, bK_split, bK_part, bK_join, bK_zf, bK_idx, bK_cnt, bK_get, mut_app, mut_pop, c_eqs, c_nes, tu1, tu20, tu21, tu30, tu31, tu32, ini0, ini2, at0, at1, try_ok, tp2, tp3, $xs,*])
open T
/-! ### terms as words -/
theorem str_lit {s t : Str} (h : tl s = tl t) : s = t := str_ext' h
def wordsV : Tm → Int → Str
  | .nev, _ => "never"
  | .aft k n, c => "after " ++ k ++ " " ++ lenT n.toNat c
  | .lat a b, c => "later" ++ " " ++ wordsV a (c / 2) ++ " " ++ wordsV b (c / 3)
  | .ear a b, c => "earlier" ++ " " ++ wordsV a (c / 2) ++ " " ++ wordsV b (c / 3)
def textV : Tm → Str
  | .nev => "never"
  | .aft k n => "after " ++ k ++ " " ++ lenS n.toNat
  | .lat a b => "later " ++ textV a ++ " " ++ textV b
  | .ear a b => "earlier " ++ textV a ++ " " ++ textV b
def wl : Tm → Int → List Str
  | .nev, _ => ["never"]
  | .aft k n, c => ["after", k, lenT n.toNat c]
  | .lat a b, c => "later" :: (wl a (c / 2) ++ wl b (c / 3))
  | .ear a b, c => "earlier" :: (wl a (c / 2) ++ wl b (c / 3))
theorem later_sp : ("later" : Str) ++ " " = "later " := by decide +kernel
theorem earlier_sp : ("earlier" : Str) ++ " " = "earlier " := by decide +kernel
theorem words_text : ∀ t, wordsV t (-1) = textV t
  | .nev => rfl
  | .aft k n => by show _ ++ lenT n.toNat (-1) = _ ++ lenS n.toNat; rw [lenT_minus]
  | .lat a b => by
    show ("later" : Str) ++ " " ++ wordsV a (-1 / 2) ++ " " ++ wordsV b (-1 / 3) = "later " ++ textV a ++ " " ++ textV b
    rw [show (-1 : Int) / 2 = -1 by decide, show (-1 : Int) / 3 = -1 by decide, words_text a, words_text b, later_sp]
  | .ear a b => by
    show ("earlier" : Str) ++ " " ++ wordsV a (-1 / 2) ++ " " ++ wordsV b (-1 / 3) = "earlier " ++ textV a ++ " " ++ textV b
    rw [show (-1 : Int) / 2 = -1 by decide, show (-1 : Int) / 3 = -1 by decide, words_text a, words_text b, earlier_sp]
theorem toNat_lt {n : Int} (h1 : n < 10 ^ 40) : n.toNat < 10 ^ 40 := by omega
theorem words_len : ∀ (t : Tm) (c : Int), OkT t → (wordsV t c).length + 10 ≤ 90 * lvs t
  | .nev, c, _ => by show 5 + 10 ≤ 90; omega
  | .aft k n, c, h => by
    obtain ⟨h1, h2, h3⟩ := h
    have := lenT_len (n := n.toNat) (by have := toNat_lt h3; omega) c
    have := h1.2.2
    show (("after " : Str) ++ k ++ " " ++ lenT n.toNat c).length + 10 ≤ 90
    rw [len_app', len_app', len_app', show ("after " : Str).length = 6 from rfl, show (" " : Str).length = 1 from rfl]
    omega
  | .lat a b, c, h => by
    have := words_len a (c / 2) h.1
    have := words_len b (c / 3) h.2
    show (("later" : Str) ++ " " ++ wordsV a (c / 2) ++ " " ++ wordsV b (c / 3)).length + 10 ≤ 90 * (lvs a + lvs b)
    rw [len_app', len_app', len_app', len_app', show ("later" : Str).length = 5 from rfl, show (" " : Str).length = 1 from rfl]
    omega
  | .ear a b, c, h => by
    have := words_len a (c / 2) h.1
    have := words_len b (c / 3) h.2
    show (("earlier" : Str) ++ " " ++ wordsV a (c / 2) ++ " " ++ wordsV b (c / 3)).length + 10 ≤ 90 * (lvs a + lvs b)
    rw [len_app', len_app', len_app', len_app', show ("earlier" : Str).length = 7 from rfl, show (" " : Str).length = 1 from rfl]
    omega
theorem wl_len : ∀ (t : Tm) (c : Int), (wl t c).length + 1 ≤ 4 * lvs t
  | .nev, c => by show 1 + 1 ≤ 4; omega
  | .aft k n, c => by show 3 + 1 ≤ 4; omega
  | .lat a b, c => by
    have := wl_len a (c / 2)
    have := wl_len b (c / 3)
    show (wl a (c / 2) ++ wl b (c / 3)).length + 1 + 1 ≤ 4 * (lvs a + lvs b)
    rw [List.length_append]; omega
  | .ear a b, c => by
    have := wl_len a (c / 2)
    have := wl_len b (c / 3)
    show (wl a (c / 2) ++ wl b (c / 3)).length + 1 + 1 ≤ 4 * (lvs a + lvs b)
    rw [List.length_append]; omega
theorem wl_ne (t : Tm) (c : Int) : wl t c ≠ [] := by cases t <;> (unfold wl; simp)
theorem joinL_app {S : List Nat} : ∀ {a b : List (List Nat)}, a ≠ [] → b ≠ [] → joinL S (a ++ b) = joinL S a ++ (S ++ joinL S b)
  | [], b, h, _ => (h rfl).elim
  | [x], b, _, h => by
    cases b with
    | nil => exact (h rfl).elim
    | cons y r => rfl
  | x :: y :: r, b, _, h => by
    show x ++ (S ++ joinL S ((y :: r) ++ b)) = (x ++ (S ++ joinL S (y :: r))) ++ (S ++ joinL S b)
    rw [joinL_app (by simp) h]
    simp only [List.append_assoc]
theorem joinL_cons {S : List Nat} {x : List Nat} {b : List (List Nat)} (h : b ≠ []) : joinL S (x :: b) = x ++ (S ++ joinL S b) := by
  cases b with
  | nil => exact (h rfl).elim
  | cons y r => rfl
theorem tl_sp : tl (" " : Str) = [32] := by decide +kernel
theorem words_join : ∀ (t : Tm) (c : Int), tl (wordsV t c) = joinL [32] ((wl t c).map tl)
  | .nev, c => rfl
  | .aft k n, c => by
    show tl (("after " : Str) ++ k ++ " " ++ lenT n.toNat c) = tl "after" ++ ([32] ++ (tl k ++ ([32] ++ tl (lenT n.toNat c))))
    rw [tl_append, tl_append, tl_append, show tl ("after " : Str) = tl "after" ++ [32] by decide +kernel, tl_sp]
    simp only [List.append_assoc]
  | .lat a b, c => by
    show tl (("later" : Str) ++ " " ++ wordsV a (c / 2) ++ " " ++ wordsV b (c / 3)) = joinL [32] (tl "later" :: (wl a (c / 2) ++ wl b (c / 3)).map tl)
    rw [tl_append, tl_append, tl_append, tl_append, tl_sp, words_join a, words_join b, List.map_append, joinL_cons (by simp [wl_ne]), joinL_app (by simp [wl_ne]) (by simp [wl_ne])]
    simp only [List.append_assoc]
  | .ear a b, c => by
    show tl (("earlier" : Str) ++ " " ++ wordsV a (c / 2) ++ " " ++ wordsV b (c / 3)) = joinL [32] (tl "earlier" :: (wl a (c / 2) ++ wl b (c / 3)).map tl)
    rw [tl_append, tl_append, tl_append, tl_append, tl_sp, words_join a, words_join b, List.map_append, joinL_cons (by simp [wl_ne]), joinL_app (by simp [wl_ne]) (by simp [wl_ne])]
    simp only [List.append_assoc]
theorem nm_no32 {k : Str} (h : Nm k) : 32 ∉ tl k := fun hm => by
  have := h.1 32 hm
  omega
theorem wl_no32 : ∀ (t : Tm) (c : Int), OkT t → ∀ s ∈ wl t c, 32 ∉ tl s
  | .nev, c, _, s, hs => by
    have : s = "never" := by simpa [wl] using hs
    subst this
    decide +kernel
  | .aft k n, c, h, s, hs => by
    have : s = "after" ∨ s = k ∨ s = lenT n.toNat c := by simpa [wl] using hs
    rcases this with rfl | rfl | rfl
    · decide +kernel
    · exact nm_no32 h.1
    · exact lenT_no32 _ _
  | .lat a b, c, h, s, hs => by
    have : s = "later" ∨ s ∈ wl a (c / 2) ∨ s ∈ wl b (c / 3) := by simpa [wl] using hs
    rcases this with rfl | h1 | h1
    · decide +kernel
    · exact wl_no32 a _ h.1 s h1
    · exact wl_no32 b _ h.2 s h1
  | .ear a b, c, h, s, hs => by
    have : s = "earlier" ∨ s ∈ wl a (c / 2) ∨ s ∈ wl b (c / 3) := by simpa [wl] using hs
    rcases this with rfl | h1 | h1
    · decide +kernel
    · exact wl_no32 a _ h.1 s h1
    · exact wl_no32 b _ h.2 s h1
theorem map_tl_inj : ∀ {a b : List Str}, a.map tl = b.map tl → a = b
  | [], [], _ => rfl
  | [], _ :: _, h => by cases h
  | _ :: _, [], h => by cases h
  | x :: a, y :: b, h => by
    rw [List.map_cons, List.map_cons, List.cons.injEq] at h
    rw [str_ext' h.1, map_tl_inj h.2]
theorem words_split {t : Tm} {c : Int} (h : OkT t) : Txt.split (wordsV t c) " " = wl t c := by
  have e1 : (" " : Str) = ⟨#[32]⟩ := by decide +kernel
  apply map_tl_inj
  have := split_spl (wordsV t c) " " (by rw [tl_sp]; simp) (by rw [e1]; exact kind_ok (by simp))
  rw [this, tl_sp, words_join]
  exact spl_join (by simp [wl_ne]) (fun p hp => by
    obtain ⟨s, hs, rfl⟩ := List.mem_map.mp hp
    exact wl_no32 t c h s hs)
theorem bm_split {t : Tm} {c : Int} (h : OkT t) (hl : lvs t ≤ 50) : bmP .split (.str (wordsV t c)) [.str " "] = some (.lst ((wl t c).map PV.str)) := by
  have := words_len t c h
  show grd _ _ = _
  rw [grd_pos ⟨rfl, by rw [sizeLine_eq]; omega⟩, words_split h]
/-! shown -/
def LShownSo (G : PGm) : Prop := FnIs G "length_shown" [.sh] false fun r => ∀ n : Nat, n < 10 ^ 60 → r [.int (n : Int)] = .ok (.str (lenS n)) []
def ShownSo (G : PGm) (h : Nat) : Prop := G.ms "shown" = some ([.sh], false) ∧ ∀ t, hgt t ≤ h → OkT t → lvs t ≤ 50 → ∃ R, G.mt (clsN t) "shown" = some R ∧ R [objP t] = .ok (.str (textV t)) []
theorem lk_shown : ∀ t, (List.lookup ("shown" : Str) (fldN t)).isSome = false
  | .nev => rfl
  | .aft _ _ => rfl
  | .lat _ _ => rfl
  | .ear _ _ => rfl
theorem text_len (t : Tm) (h : OkT t) : (textV t).length + 10 ≤ 90 * lvs t := by rw [← words_text]; exact words_len t _ h
theorem shown_nev (G : PGm) : defP G [.sh] 1 Term_shown_0 [objP .nev] = .ok (.str (textV .nev)) [] := by
  unfold defP Term_shown_0
  have : startP 1 [objP .nev] = [some (objP .nev)] := rfl
  rw [this]
  simp_arith []
  rfl
theorem shown_aft {G : PGm} (L : LShownSo G) (k : Str) (n : Int) (h : OkT (.aft k n)) : defP G [.sh] 1 After_shown_0 [objP (.aft k n)] = .ok (.str (textV (.aft k n))) [] := by
  obtain ⟨r, f, g⟩ := L
  have hl := text_len _ h
  obtain ⟨h1, h2, h3⟩ := h
  obtain ⟨m, rfl⟩ := Int.eq_ofNat_of_zero_le h2
  have h3 : m < 10 ^ 40 := by omega
  have g := g m (by omega)
  have hs := lenS_len (n := m) (by omega)
  have hk := h1.2.2
  unfold defP After_shown_0
  have : startP 1 [objP (.aft k m)] = [some (objP (.aft k m))] := rfl
  rw [this]
  have a1 := add_s (a := "after ") (b := k) (sz_s (by show 6 ≤ _; omega) (by omega))
  have e1 : (("after " : Str) ++ k).length = 6 + k.length := len_app'
  have a2 := add_s (a := "after " ++ k) (b := " ") (sz_s (by omega) (by show 1 ≤ _; omega))
  have e2 : (("after " : Str) ++ k ++ " ").length = ("after " ++ k : Str).length + 1 := len_app'
  have a3 := add_s (a := "after " ++ k ++ " ") (b := lenS m) (sz_s (by omega) (by omega))
  simp_arith [obj_aft, lk_kind, lk_days, f, g, a1, a2, a3]
  rfl
theorem shown_two {G : PGm} {h : Nat} (I : ShownSo G h) (a b : Tm) (w : Str) (hw : w.length ≤ 10) (ha : hgt a ≤ h) (hb : hgt b ≤ h) (oa : OkT a) (ob : OkT b) (hl : lvs a + lvs b ≤ 50) (C : Str) :
    defP G [.sh] 1 (.cons (.ret (.op .Add (.op .Add (.op .Add (.ks w) (.meth "shown" (.fld (.v 0) "one") .nil)) (.ks " ")) (.meth "shown" (.fld (.v 0) "other") .nil))) .nil) [.obj C [("one", .obj (clsN a) (fldN a)), ("other", .obj (clsN b) (fldN b))]] =
      .ok (.str (w ++ textV a ++ " " ++ textV b)) [] := by
  obtain ⟨hm, g⟩ := I
  obtain ⟨R1, f1, g1⟩ := g a ha oa (by omega)
  obtain ⟨R2, f2, g2⟩ := g b hb ob (by omega)
  have la := text_len a oa
  have lb := text_len b ob
  unfold objP at g1 g2
  unfold defP
  have : ∀ x : PV, startP 1 [x] = [some x] := fun _ => rfl
  rw [this]
  have a1 := add_s (a := w) (b := textV a) (sz_s (by omega) (by omega))
  have e1 : (w ++ textV a).length = w.length + (textV a).length := len_app'
  have a2 := add_s (a := w ++ textV a) (b := " ") (sz_s (by omega) (by show 1 ≤ _; omega))
  have e2 : (w ++ textV a ++ " ").length = (w ++ textV a).length + 1 := len_app'
  have a3 := add_s (a := w ++ textV a ++ " ") (b := textV b) (sz_s (by omega) (by omega))
  simp_arith [lk_one, lk_other, hm, lk_shown a, lk_shown b, f1, g1, f2, g2, a1, a2, a3]
  rfl
theorem shown_lat {G : PGm} {h : Nat} (I : ShownSo G h) (a b : Tm) (ht : hgt (.lat a b) ≤ h + 1) (o : OkT (.lat a b)) (hl : lvs (.lat a b) ≤ 50) : defP G [.sh] 1 Later_shown_0 [objP (.lat a b)] = .ok (.str (textV (.lat a b))) [] := by
  have hh : max (hgt a) (hgt b) + 1 ≤ h + 1 := ht
  exact shown_two I a b "later " (by decide) (by omega) (by omega) o.1 o.2 hl _
theorem shown_ear {G : PGm} {h : Nat} (I : ShownSo G h) (a b : Tm) (ht : hgt (.ear a b) ≤ h + 1) (o : OkT (.ear a b)) (hl : lvs (.ear a b) ≤ 50) : defP G [.sh] 1 Earlier_shown_0 [objP (.ear a b)] = .ok (.str (textV (.ear a b))) [] := by
  have hh : max (hgt a) (hgt b) + 1 ≤ h + 1 := ht
  exact shown_two I a b "earlier " (by decide) (by omega) (by omega) o.1 o.2 hl _
/-! the law's words -/
def LLenSo (G : PGm) : Prop := FnIs G "_law_length" [.sh, .sh] false fun r => ∀ (n : Nat) (c : Int), n < 10 ^ 60 → r [.int (n : Int), .int c] = .ok (.str (lenT n c)) []
def WordsSo (G : PGm) (h : Nat) : Prop := FnIs G "_law_words" [.sh, .sh] false fun r => ∀ t c, hgt t ≤ h → OkT t → lvs t ≤ 50 → r [treeP t, .int c] = .ok (.str (wordsV t c)) []
theorem words_val {G : PGm} {h : Nat} (L : LLenSo G) (I : WordsSo G h) : ∀ t c, hgt t ≤ h + 1 → OkT t → lvs t ≤ 50 → defP G [.sh, .sh] 2 l_words_0 [treeP t, .int c] = .ok (.str (wordsV t c)) [] := by
  obtain ⟨r, f, g⟩ := I
  obtain ⟨r2, f2, g2⟩ := L
  intro t c ht o hl
  unfold defP l_words_0 l_words_1 l_words_2 l_words_3 l_words_4
  have : startP 2 [treeP t, .int c] = [some (treeP t), some (.int c)] := rfl
  rw [this]
  have two : ∀ (a b : Tm) (w : Str), w.length ≤ 10 → OkT a → OkT b → lvs a + lvs b ≤ 50 → opP .Add (.str w) (.str " ") = some (.str (w ++ " ")) ∧ opP .Add (.str (w ++ " ")) (.str (wordsV a (c / 2))) = some (.str (w ++ " " ++ wordsV a (c / 2))) ∧
      opP .Add (.str (w ++ " " ++ wordsV a (c / 2))) (.str " ") = some (.str (w ++ " " ++ wordsV a (c / 2) ++ " ")) ∧ opP .Add (.str (w ++ " " ++ wordsV a (c / 2) ++ " ")) (.str (wordsV b (c / 3))) = some (.str (w ++ " " ++ wordsV a (c / 2) ++ " " ++ wordsV b (c / 3))) := by
    intro a b w hw oa ob hl
    have la := words_len a (c / 2) oa
    have lb := words_len b (c / 3) ob
    have e0 : (w ++ " ").length = w.length + 1 := len_app'
    have e1 : (w ++ " " ++ wordsV a (c / 2)).length = (w ++ " ").length + (wordsV a (c / 2)).length := len_app'
    have e2 : (w ++ " " ++ wordsV a (c / 2) ++ " ").length = (w ++ " " ++ wordsV a (c / 2)).length + 1 := len_app'
    exact ⟨add_s (sz_s (by omega) (by show 1 ≤ _; omega)), add_s (sz_s (by omega) (by omega)), add_s (sz_s (by omega) (by show 1 ≤ _; omega)), add_s (sz_s (by omega) (by omega))⟩
  cases t with
  | nev => simp_arith [treeP, s_nn]; rfl
  | aft k n =>
    obtain ⟨h1, h2, h3⟩ := o
    obtain ⟨m, rfl⟩ := Int.eq_ofNat_of_zero_le h2
    have h3 : m < 10 ^ 40 := by omega
    have g2 := g2 m c (by omega)
    have hs := lenT_len (n := m) (by omega) c
    have hk := h1.2.2
    have a1 := add_s (a := "after ") (b := k) (sz_s (by show 6 ≤ _; omega) (by omega))
    have e1 : (("after " : Str) ++ k).length = 6 + k.length := len_app'
    have a2 := add_s (a := "after " ++ k) (b := " ") (sz_s (by omega) (by show 1 ≤ _; omega))
    have e2 : (("after " : Str) ++ k ++ " ").length = ("after " ++ k : Str).length + 1 := len_app'
    have a3 := add_s (a := "after " ++ k ++ " ") (b := lenT m c) (sz_s (by omega) (by omega))
    simp_arith [treeP, s_an, s_aa, f2, g2, a1, a2, a3]
    rfl
  | lat a b =>
    have hh : max (hgt a) (hgt b) + 1 ≤ h + 1 := ht
    have hv : lvs a + lvs b ≤ 50 := hl
    have ga := g a (c / 2) (by omega) o.1 (by omega)
    have gb := g b (c / 3) (by omega) o.2 (by omega)
    obtain ⟨a0, a1, a2, a3⟩ := two a b "later" (by decide) o.1 o.2 hv
    simp_arith [treeP, s_ln, s_la, s_ll, f, grd_pos, ga, gb, a0, a1, a2, a3]
    rfl
  | ear a b =>
    have hh : max (hgt a) (hgt b) + 1 ≤ h + 1 := ht
    have hv : lvs a + lvs b ≤ 50 := hl
    have ga := g a (c / 2) (by omega) o.1 (by omega)
    have gb := g b (c / 3) (by omega) o.2 (by omega)
    obtain ⟨a0, a1, a2, a3⟩ := two a b "earlier" (by decide) o.1 o.2 hv
    simp_arith [treeP, s_en, s_ea, s_el, f, grd_pos, ga, gb, a0, a1, a2, a3]
    rfl
/-! reading -/
def LReadSo (G : PGm) : Prop := FnIs G "length_read" [.sh] false fun r => ∀ (z : Str) (n : Nat), z.length ≤ 600 → lenRd (tl z) = some n → r [.str z] = .ok (.int (n : Int)) []
def LInSo (G : PGm) : Prop := FnIs G "length_in" [.sh] false fun r => ∀ (z : Str) (n : Nat), z.length ≤ 600 → lenRd (tl z) = some n → r [.str z] = .ok (.int (n : Int)) []
theorem lin_val {G : PGm} (L : LReadSo G) (z : Str) (n : Nat) (hz : z.length ≤ 600) (h : lenRd (tl z) = some n) : defP G [.sh] 2 length_in_0 [.str z] = .ok (.int (n : Int)) [] := by
  obtain ⟨r, f, g⟩ := L
  have g := g z n hz h
  unfold defP length_in_0 length_in_1 length_in_2 length_in_3
  have : startP 2 [PV.str z] = [some (.str z), none] := rfl
  rw [this]
  simp_arith [f, g]
  rfl
def IsNameSo (G : PGm) : Prop := FnIs G "is_name" [.sh] false fun r => ∀ z : Str, z.length ≤ sizeLine → r [.str z] = .ok (.bl (nameB (tl z))) []
structure MakSo (G : PGm) : Prop where
  t : G.mak "Term" = some (iniR "Term" [])
  a : G.mak "After" = some (iniR "After" ["kind", "days"])
  l : G.mak "Later" = some (iniR "Later" ["one", "other"])
  e : G.mak "Earlier" = some (iniR "Earlier" ["one", "other"])
def ReadSo (G : PGm) (h : Nat) : Prop := FnIs G "read_from" [.sh, .sh] false fun r => ∀ (t : Tm) (c : Int) (pre post : List Str), hgt t ≤ h → OkT t →
  r [.lst ((pre ++ wl t c ++ post).map PV.str), .int (pre.length : Nat)] = .ok (.tup [objP t, .int ((pre.length : Int) + (wl t c).length)]) []
theorem ix_k {l : List Str} {i : Nat} {x : Str} (h : l[i]? = some x) : ixP (.lst (l.map PV.str)) (.int (i : Int)) = some (.str x) := by
  show atI _ _ = _
  have hi := (List.getElem?_eq_some_iff.mp h).1
  unfold atI ixN
  rw [if_pos (by omega), if_pos (by rw [List.length_map]; omega)]
  show (l.map PV.str)[(i : Int).toNat]? = _
  rw [Int.toNat_natCast, List.getElem?_map, h]
  rfl
theorem s_lan : (("later" : Str) == "earlier") = false := rfl
theorem s_ee : (("earlier" : Str) == "earlier") = true := rfl
theorem read_val {G : PGm} {h : Nat} (L : LInSo G) (N : IsNameSo G) (M : MakSo G) (I : ReadSo G h) (t : Tm) (c : Int) (pre post : List Str) (ht : hgt t ≤ h + 1) (o : OkT t) :
    defP G [.sh, .sh] 6 read_from_0 [.lst ((pre ++ wl t c ++ post).map PV.str), .int (pre.length : Nat)] = .ok (.tup [objP t, .int ((pre.length : Int) + (wl t c).length)]) [] := by
  obtain ⟨r, f, g⟩ := I
  have hlt : ¬ (((((pre ++ wl t c ++ post).map PV.str).length : Nat) : Int) ≤ (pre.length : Int)) := by
    have := List.length_pos_iff.mpr (wl_ne t c)
    rw [List.length_map, List.length_append, List.length_append]
    omega
  have start : ∀ (w : List PV) (i : Int), startP 6 [PV.lst w, .int i] = [some (.lst w), some (.int i), none, none, none, none] := fun _ _ => rfl
  cases t with
  | nev =>
    have i0 := ix_k (l := pre ++ wl .nev c ++ post) (i := pre.length) (x := "never") (by simp [wl])
    rw [show ((pre.length : Int) + (wl .nev c).length) = (pre.length : Int) + 1 from rfl]
    generalize (pre ++ wl .nev c ++ post).map PV.str = w at hlt i0
    unfold defP read_from_0 read_from_2 read_from_3
    rw [start]
    simp_arith [hlt, i0, s_nn, M.t]
    rfl
  | aft k n =>
    obtain ⟨h1, h2, h3⟩ := o
    obtain ⟨m, rfl⟩ := Int.eq_ofNat_of_zero_le h2
    have h3 : m < 10 ^ 40 := by omega
    have hs := lenT_len (n := m) (by omega) c
    obtain ⟨r1, f1, g1⟩ := L
    have g1 := g1 (lenT m c) m (by omega) (lenT_read h3 c)
    obtain ⟨r2, f2, g2⟩ := N
    have hk := h1.2.2
    have g2 := g2 k (by rw [sizeLine_eq]; omega)
    rw [nameB_nm h1] at g2
    have i0 := ix_k (l := pre ++ wl (.aft k m) c ++ post) (i := pre.length) (x := "after") (by simp [wl])
    have i1 := ix_k (l := pre ++ wl (.aft k m) c ++ post) (i := pre.length + 1) (x := k) (by simp [wl, List.getElem?_append])
    have i2 := ix_k (l := pre ++ wl (.aft k m) c ++ post) (i := pre.length + 2) (x := lenT m c) (by simp [wl, List.getElem?_append])
    rw [show ((pre.length + 1 : Nat) : Int) = (pre.length : Int) + 1 by omega] at i1
    rw [show ((pre.length + 2 : Nat) : Int) = (pre.length : Int) + 2 by omega] at i2
    have hl2 : (pre.length : Int) + 2 < ((((pre ++ wl (.aft k m) c ++ post).map PV.str).length : Nat) : Int) := by
      rw [List.length_map, List.length_append, List.length_append, show (wl (.aft k m) c).length = 3 from rfl]
      omega
    rw [show ((pre.length : Int) + (wl (.aft k m) c).length) = (pre.length : Int) + 3 from rfl]
    generalize (pre ++ wl (.aft k m) c ++ post).map PV.str = w at hlt i0 i1 i2 hl2
    unfold defP read_from_0 read_from_2 read_from_4 read_from_5
    rw [start]
    simp_arith [hlt, i0, s_an, s_aa, hl2, i1, f2, g2, i2, f1, g1, M.a]
    rfl
  | lat a b =>
    have hh : max (hgt a) (hgt b) + 1 ≤ h + 1 := ht
    have i0 := ix_k (l := pre ++ wl (.lat a b) c ++ post) (i := pre.length) (x := "later") (by simp [wl])
    have ga := g a (c / 2) (pre ++ [("later" : Str)]) (wl b (c / 3) ++ post) (by omega) o.1
    have gb := g b (c / 3) (pre ++ [("later" : Str)] ++ wl a (c / 2)) post (by omega) o.2
    have e1 : pre ++ [("later" : Str)] ++ wl a (c / 2) ++ (wl b (c / 3) ++ post) = pre ++ wl (.lat a b) c ++ post := by simp [wl]
    have e2 : pre ++ [("later" : Str)] ++ wl a (c / 2) ++ wl b (c / 3) ++ post = pre ++ wl (.lat a b) c ++ post := by simp [wl]
    rw [e1, show (((pre ++ [("later" : Str)]).length : Nat) : Int) = (pre.length : Int) + 1 by simp] at ga
    rw [e2, show (((pre ++ [("later" : Str)] ++ wl a (c / 2)).length : Nat) : Int) = (pre.length : Int) + 1 + (wl a (c / 2)).length by simp; omega] at gb
    have e3 : (pre.length : Int) + (wl (.lat a b) c).length = (pre.length : Int) + 1 + (wl a (c / 2)).length + (wl b (c / 3)).length := by
      show (pre.length : Int) + ((wl a (c / 2) ++ wl b (c / 3)).length + 1 : Nat) = _
      rw [List.length_append]; omega
    rw [e3]
    generalize (pre ++ wl (.lat a b) c ++ post).map PV.str = w at hlt i0 ga gb
    unfold defP read_from_0 read_from_2 read_from_4 read_from_6 read_from_8 read_from_9 read_from_10 read_from_11
    rw [start]
    simp_arith [hlt, i0, s_ln, s_la, s_ll, f, ga, gb, M.l]
    rfl
  | ear a b =>
    have hh : max (hgt a) (hgt b) + 1 ≤ h + 1 := ht
    have i0 := ix_k (l := pre ++ wl (.ear a b) c ++ post) (i := pre.length) (x := "earlier") (by simp [wl])
    have ga := g a (c / 2) (pre ++ [("earlier" : Str)]) (wl b (c / 3) ++ post) (by omega) o.1
    have gb := g b (c / 3) (pre ++ [("earlier" : Str)] ++ wl a (c / 2)) post (by omega) o.2
    have e1 : pre ++ [("earlier" : Str)] ++ wl a (c / 2) ++ (wl b (c / 3) ++ post) = pre ++ wl (.ear a b) c ++ post := by simp [wl]
    have e2 : pre ++ [("earlier" : Str)] ++ wl a (c / 2) ++ wl b (c / 3) ++ post = pre ++ wl (.ear a b) c ++ post := by simp [wl]
    rw [e1, show (((pre ++ [("earlier" : Str)]).length : Nat) : Int) = (pre.length : Int) + 1 by simp] at ga
    rw [e2, show (((pre ++ [("earlier" : Str)] ++ wl a (c / 2)).length : Nat) : Int) = (pre.length : Int) + 1 + (wl a (c / 2)).length by simp; omega] at gb
    have e3 : (pre.length : Int) + (wl (.ear a b) c).length = (pre.length : Int) + 1 + (wl a (c / 2)).length + (wl b (c / 3)).length := by
      show (pre.length : Int) + ((wl a (c / 2) ++ wl b (c / 3)).length + 1 : Nat) = _
      rw [List.length_append]; omega
    rw [e3]
    generalize (pre ++ wl (.ear a b) c ++ post).map PV.str = w at hlt i0 ga gb
    unfold defP read_from_0 read_from_2 read_from_4 read_from_6 read_from_8 read_from_9 read_from_10 read_from_12
    rw [start]
    simp_arith [hlt, i0, s_en, s_ea, s_el, s_ee, f, ga, gb, M.e]
    rfl
def TReadSo (G : PGm) : Prop := FnIs G "term_read" [.sh] false fun r => ∀ t c, OkT t → lvs t ≤ 15 → r [.str (wordsV t c)] = .ok (objP t) []
theorem tread_val {G : PGm} {h : Nat} (hM : G.gl "MOST" = some (.int 61)) (I : ReadSo G h) (t : Tm) (c : Int) (o : OkT t) (hl : lvs t ≤ 15) (hh : 15 ≤ h) : defP G [.sh] 4 term_read_0 [.str (wordsV t c)] = .ok (objP t) [] := by
  obtain ⟨r, f, g⟩ := I
  have hv := hgt_lvs t
  have g := g t c [] [] (by omega) o
  have hw := wl_len t c
  have hs := bm_split (c := c) o (by omega)
  rw [List.nil_append, List.append_nil] at g
  have g : r [.lst ((wl t c).map PV.str), .int 0] = .ok (.tup [objP t, .int (((wl t c).length : Nat) : Int)]) [] := by
    rw [show ((([] : List Str).length : Nat) : Int) = 0 from rfl, Int.zero_add] at g
    exact g
  have l1 : ¬ (61 : Int) < ((((wl t c).map PV.str).length : Nat) : Int) := by rw [List.length_map]; omega
  have l2 : ¬ (((wl t c).length : Nat) : Int) < ((((wl t c).map PV.str).length : Nat) : Int) := by rw [List.length_map]; omega
  unfold defP term_read_0 term_read_1 term_read_3 term_read_4 term_read_6
  have : startP 4 [PV.str (wordsV t c)] = [some (.str (wordsV t c)), none, none, none] := rfl
  rw [this]
  simp_arith [hs, hM, l1, f, g, l2]
  rfl
end Vc

set_option Elab.async false
set_option linter.all false
set_option maxRecDepth 100000
set_option maxHeartbeats 1000000
namespace T
open PySem Vc
def law_6 : Sts := .cons (.ret (.kb false)) .nil
def law_8 : Sts := .cons (.ret (.and (.cmp .Eq (.meth "shown" (.v 6) .nil) (.v 3)) (.and (.cmp .Eq (.meth "leaves" (.v 6) .nil) (.meth "leaves" (.v 4) .nil)) (.cmp .Eq (.meth "leaves" (.v 4) .nil) (.meth "leaves" (.call "_law_made" (.cons (.v 2) .nil)) .nil))))) .nil
def law_7 : Sts := .cons (.set 6 (.call "term_read" (.cons (.v 5) .nil))) law_8
def law_5 : Sts := .cons (.ifs (.or (.not (.isi (.v 5) "str")) (.or (.cmp .NotEq (.v 5) (.v 3)) (.cmp .NotEq (.meth "shown" (.call "_law_made" (.cons (.v 2) .nil)) .nil) (.v 3)))) law_6 .nil) law_7
def law_4 : Sts := .cons (.set 5 (.meth "shown" (.v 4) .nil)) law_5
def law_3 : Sts := .cons (.set 4 (.call "term_read" (.cons (.call "_law_words" (.cons (.v 2) (.cons (.op .Add (.bi .abs (.cons (.v 1) .nil)) (.bi .len (.cons (.v 0) .nil))) .nil))) .nil))) law_4
def law_2 : Sts := .cons (.set 3 (.call "_law_words" (.cons (.v 2) (.cons (.op .Sub (.ki 0) (.ki 1)) .nil)))) law_3
def law_1 : Sts := .cons (.set 2 (.call "_law_tree_by" (.cons (.sl (.v 0) (.some (.ki 1)) (.some (.ki 41))) (.cons (.v 1) (.cons (.ki 15) .nil))))) law_2
def law_0 : Sts := .cons (.set 1 (.call "_law_cell_at" (.cons (.v 0) (.cons (.ki 0) .nil)))) law_1
abbrev law_N : List Str := ["_law_script", "_law_names_by", "_law_tree", "_law_due", "_law_term", "_law_found", "_law_again"]
abbrev law_P : List Str := ["_law_script"]
end T
namespace Vc
open PySem PySem.Spec PyProof.Rows L2 TL PySem.NumText
local macro_rules | `(tactic| simp_arith [$xs,*]) => `(tactic| simp (maxSteps := 400000) -implicitDefEqProofs only [↓reduceIte, Int.reduceLT, Int.reduceLE, Int.reduceEq, Int.reduceNe, reduceCtorEq,
  Rs.bind_ok, Rs.bind_ex, Rs.bind_bad, evT_v, ev_v, evT_ki, ev_ki, evT_ks, ev_ks, evT_kb, ev_kb, evT_kn, ev_kn, evT_g, ev_g, evT_op, ev_op, evT_cmp, ev_cmp, evT_chain, ev_chain, 
  evT_and, ev_and, evT_or, ev_or, evT_not, ev_not, evT_neg, ev_neg, evT_ife, ev_ife, evT_call, ev_call, evT_bi, ev_bi, evT_isi, ev_isi, evT_isiT, ev_isiT, evT_bm, ev_bm, evT_ix, 
  ev_ix, evT_sl, ev_sl, evT_lst, ev_lst, evT_tup, ev_tup, evT_dict0, ev_dict0, evT_lc, evT_fld, ev_fld, evT_meth, ev_meth, evT_make, ev_make, evs_nil, evs_cons, evo_none, evo_some, 
  evC_none, evC_some, evSrc_seq, evSrc_keys, evSrc_rng, opt_some, opt_none, map_some', bind_some', noEx_ok, op_addi, op_subi, op_muli, op_divi, op_modi, c_eqi, c_nei, c_lti, c_lei, 
  c_gti, c_gei, c_isn, c_ntn, tru_bl, tru_int, tru_non, bi_leni, bi_lent, bi_lend, bi_absi, bi_inti, bi_intb, sz0, ix_dic, c_ind, c_nid, key_s, key_i, bi_dict, isNon_int, isNon_non, 
  some_some, none_some, sz1, sz2, sz3, sz4, sz5, run_set, run_unp, run_ex, run_ifs, run_fors, run_whl, run_ret, run_retn, run_raise, run_pass, run_tr, dicP_dic, run_sub, run_lock, 
  run_setlc, run_sfld, run_raise1, runs_nil, runs_cons, getS_z, getS_s, set_z, set_s, tg_nm, tg_lst, tg_tup, sa_n, sa_c, lv_v, lv_f, getL_p, getP_n, getP_c, setP_n, setL_p, call_ok, 
  call_ex, wb_sh, wb_bw, wb_n, b_1, b_1', b_1'', b_2, b_3, b_4, b_5, b_6, b_7, b_8, b_9, b_10, b_11, isM_app, isM_pop, isM_ext, isM_clr, isM_join, isM_split, isM_part, isM_zf, isM_idx, isM_get, isM_cnt, mK_app, mK_pop, mK_ext, mK_clr, mK_clrd, bK_split, bK_part, bK_join, bK_zf, bK_idx, bK_cnt, bK_get, mut_app, mut_pop, c_eqs, c_nes, tu1, tu20, tu21, tu30, tu31, tu32, ini0, ini2, at0, at1, try_ok, tp2, tp3, $xs,*])
open T
structure K06 (G : PGm) : Prop where
  cell : CellSo G
  tree : FnIs G "_law_tree_by" [.sh, .sh, .sh] false fun r => ∀ (cells : List Int) (nb : Int), ∃ t, r [.lst (cells.map PV.int), .int nb, .int 15] = .ok (treeP t) [] ∧ lvs t ≤ 15 ∧ OkT t
  made : MadeSo G 20
  words : WordsSo G 20
  tread : TReadSo G
  shown : ShownSo G 20
  leaves : LeavesSo G 20
  isaS : G.isa "str" "str" = some true
theorem isP_str {G : PGm} {c : Str} {z : Str} : isP G (.str z) c = G.isa "str" c := rfl
theorem law_so {G : PGm} (h : K06 G) : LawSo (defP G [.sh] 7 law_0) := by
  intro ns hn _
  obtain ⟨ms, em, hm⟩ := cut_ints ns (some 1) (some 41)
  obtain ⟨r1, f1, g1⟩ := h.cell
  have g1 := g1 ns
  obtain ⟨r2, f2, g2⟩ := h.tree
  obtain ⟨t, e2, hl, ho⟩ := g2 ms (ns.headD 0)
  have hh := hgt_lvs t
  obtain ⟨r3, f3, g3⟩ := h.made
  have g3 := g3 t (by omega)
  obtain ⟨r4, f4, g4⟩ := h.words
  have w1 := g4 t (-1) (by omega) ho (by omega)
  rw [words_text] at w1
  obtain ⟨r5, f5, g5⟩ := h.tread
  have q1 := g5 t (-1) ho (by omega)
  rw [words_text] at q1
  obtain ⟨sm, sg⟩ := h.shown
  obtain ⟨R6, f6, g6⟩ := sg t (by omega) ho (by omega)
  obtain ⟨lm, lg⟩ := h.leaves
  obtain ⟨R7, f7, g7⟩ := lg t (by omega) (by omega)
  have hs : slP (.lst (ns.map PV.int)) (some 1) (some 41) = some (.lst (ms.map PV.int)) := by
    show some (PV.lst (cutP _ _ _)) = _
    rw [em]
  have hd : dat (.lst (lvP t)) = true := dat_lvP t 58
  have n2 := eq_self' hd
  obtain ⟨cc, hcc⟩ : ∃ cc : Int, cc = (if ns.headD 0 < 0 then -ns.headD 0 else ns.headD 0) + (((ns.map PV.int).length : Nat) : Int) := ⟨_, rfl⟩
  have w2 := g4 t cc (by omega) ho (by omega)
  have q2 := g5 t cc ho (by omega)
  unfold objP at g3 q1 q2 g6 g7
  have i1 := h.isaS
  have m1 : (0 : Int) - 1 = -1 := rfl
  unfold defP law_0 law_1 law_2 law_3 law_4 law_5 law_6 law_7 law_8
  have : startP 7 [PV.lst (ns.map PV.int)] = [some (.lst (ns.map PV.int)), none, none, none, none, none, none] := rfl
  rw [this]
  have ss := str_self (textV t)
  simp_arith [f1, g1, hs, f2, e2, m1, f4, w1, ← hcc, w2, f5, q2, sm, lk_shown t, f6, g6, isP_str, i1, ss, f3, g3, q1, lm, lk_leaves t, f7, g7, n2]
  rfl
end Vc

/-! ### the row -/
namespace R
open PySem PySem.Spec PyProof.Rows L2 Vc T
def topS (i : Nat) : Stmt := PySem.Challenge.pw_disposehall_k06_terms_as_words.main.body.getD i (.Pass ⟨0, 0, 0, 0⟩)
def F : Fam where
  fns := [("is_number", ⟨[.sh], false, 2, is_number_0⟩), ("length_read", ⟨[.sh], false, 2, length_read_0⟩), ("length_shown", ⟨[.sh], false, 1, length_shown_0⟩), ("is_name", ⟨[.sh], false, 2, is_name_0⟩), ("never", ⟨[], false, 0, never_0⟩), ("after", ⟨[.sh, .sh], false, 2, after_0⟩), ("later", ⟨[.sh, .sh], false, 2, later_0⟩), ("earlier", ⟨[.sh, .sh], false, 2, earlier_0⟩), ("length_in", ⟨[.sh], false, 2, length_in_0⟩), ("read_from", ⟨[.sh, .sh], false, 6, read_from_0⟩), ("term_read", ⟨[.sh], false, 4, term_read_0⟩), ("_law_cell_at", ⟨[.sh, .sh], false, 2, l_cell_at_0⟩), ("_law_name_by", ⟨[.sh, .sh], false, 9, l_name_by_0⟩), ("_law_length_by", ⟨[.sh], false, 2, l_length_by_0⟩), ("_law_tree_by", ⟨[.sh, .sh, .sh], false, 8, l_tree_by_0⟩), ("_law_made", ⟨[.sh], false, 1, l_made_0⟩), ("_law_length", ⟨[.sh, .sh], false, 2, l_length_0⟩), ("_law_words", ⟨[.sh, .sh], false, 2, l_words_0⟩)]
  mts := [("Term", [("shown", ⟨[.sh], false, 1, Term_shown_0⟩), ("leaves", ⟨[.sh], true, 1, Term_leaves_0⟩)]), ("After", [("shown", ⟨[.sh], false, 1, After_shown_0⟩), ("leaves", ⟨[.sh], true, 1, After_leaves_0⟩)]), ("Later", [("shown", ⟨[.sh], false, 1, Later_shown_0⟩), ("leaves", ⟨[.sh], true, 1, Later_leaves_0⟩)]), ("Earlier", [("shown", ⟨[.sh], false, 1, Earlier_shown_0⟩), ("leaves", ⟨[.sh], true, 1, Earlier_leaves_0⟩)])]
  ini := [("Term", []), ("After", ["kind", "days"]), ("Later", ["one", "other"]), ("Earlier", ["one", "other"])]
  gl := [("FIGURES", .str "0123456789"), ("LETTERS", .str "abcdefghijklmnopqrstuvwxyz"), ("YEAR", .int 360), ("MONTH", .int 30), ("MOST", .int 61)]
  isa := [("str", [("str", true)])]
  exc := []
  ms := [("shown", [.sh], false), ("leaves", [.sh], true)]
  fs := ["days", "kind", "one", "other"]
  tr := ["NoLength"]
  fuel := 100
def pl (K : PySem.W.Frag) (c0 : Addr) (c1 : Addr) (c2 : Addr) (c3 : Addr) (c4 : Addr) : Pl := ⟨K, [("Term", c0), ("After", c1), ("Later", c2), ("Earlier", c3)], [], [("str", .ty "str"), ("NoLength", .ref c4)]⟩
abbrev is_number_N : List Str := ["text", "sign"]
abbrev is_number_P : List Str := ["text"]
theorem sc_is_number : FnScope R.is_number_N R.is_number_P (defScope (topS 10)) := ⟨rfl, rfl, rfl, by decide +kernel, rfl, by decide +kernel, by decide +kernel⟩
theorem ck_is_number : ckSs R.is_number_N (defScope (topS 10)) is_number_0 (defBody (topS 10)) = true := by decide +kernel
theorem bd_is_number {K : PySem.W.Frag} (f : Addr) (fd : FuncData) (F : Fun K "is_number" "is_number" (topS 10) f fd) : L2.Binds K fd R.is_number_P [] := F.binds fun _ _ _ _ _ _ us hl => match us, hl with | [_], _ => rfl
theorem tk_is_number : (ckTs' F.sg false is_number_0 (startTags [.sh] 2)).isSome = true := by decide +kernel
abbrev length_read_N : List Str := ["text", "number"]
abbrev length_read_P : List Str := ["text"]
theorem sc_length_read : FnScope R.length_read_N R.length_read_P (defScope (topS 11)) := ⟨rfl, rfl, rfl, by decide +kernel, rfl, by decide +kernel, by decide +kernel⟩
theorem ck_length_read : ckSs R.length_read_N (defScope (topS 11)) length_read_0 (defBody (topS 11)) = true := by decide +kernel
theorem bd_length_read {K : PySem.W.Frag} (f : Addr) (fd : FuncData) (F : Fun K "length_read" "length_read" (topS 11) f fd) : L2.Binds K fd R.length_read_P [] := F.binds fun _ _ _ _ _ _ us hl => match us, hl with | [_], _ => rfl
theorem tk_length_read : (ckTs' F.sg false length_read_0 (startTags [.sh] 2)).isSome = true := by decide +kernel
abbrev length_shown_N : List Str := ["days"]
abbrev length_shown_P : List Str := ["days"]
theorem sc_length_shown : FnScope R.length_shown_N R.length_shown_P (defScope (topS 12)) := ⟨rfl, rfl, rfl, by decide +kernel, rfl, by decide +kernel, by decide +kernel⟩
theorem ck_length_shown : ckSs R.length_shown_N (defScope (topS 12)) length_shown_0 (defBody (topS 12)) = true := by decide +kernel
theorem bd_length_shown {K : PySem.W.Frag} (f : Addr) (fd : FuncData) (F : Fun K "length_shown" "length_shown" (topS 12) f fd) : L2.Binds K fd R.length_shown_P [] := F.binds fun _ _ _ _ _ _ us hl => match us, hl with | [_], _ => rfl
theorem tk_length_shown : (ckTs' F.sg false length_shown_0 (startTags [.sh] 1)).isSome = true := by decide +kernel
abbrev is_name_N : List Str := ["text", "sign"]
abbrev is_name_P : List Str := ["text"]
theorem sc_is_name : FnScope R.is_name_N R.is_name_P (defScope (topS 13)) := ⟨rfl, rfl, rfl, by decide +kernel, rfl, by decide +kernel, by decide +kernel⟩
theorem ck_is_name : ckSs R.is_name_N (defScope (topS 13)) is_name_0 (defBody (topS 13)) = true := by decide +kernel
theorem bd_is_name {K : PySem.W.Frag} (f : Addr) (fd : FuncData) (F : Fun K "is_name" "is_name" (topS 13) f fd) : L2.Binds K fd R.is_name_P [] := F.binds fun _ _ _ _ _ _ us hl => match us, hl with | [_], _ => rfl
theorem tk_is_name : (ckTs' F.sg false is_name_0 (startTags [.sh] 2)).isSome = true := by decide +kernel
abbrev never_N : List Str := []
abbrev never_P : List Str := []
theorem sc_never : FnScope R.never_N R.never_P (defScope (topS 20)) := ⟨rfl, rfl, rfl, by decide +kernel, rfl, by decide +kernel, by decide +kernel⟩
theorem ck_never : ckSs R.never_N (defScope (topS 20)) never_0 (defBody (topS 20)) = true := by decide +kernel
theorem bd_never {K : PySem.W.Frag} (f : Addr) (fd : FuncData) (F : Fun K "never" "never" (topS 20) f fd) : L2.Binds K fd R.never_P [] := F.binds fun _ _ _ _ _ _ us hl => match us, hl with | [], _ => rfl
theorem tk_never : (ckTs' F.sg false never_0 (startTags [] 0)).isSome = true := by decide +kernel
abbrev after_N : List Str := ["kind", "days"]
abbrev after_P : List Str := ["kind", "days"]
theorem sc_after : FnScope R.after_N R.after_P (defScope (topS 21)) := ⟨rfl, rfl, rfl, by decide +kernel, rfl, by decide +kernel, by decide +kernel⟩
theorem ck_after : ckSs R.after_N (defScope (topS 21)) after_0 (defBody (topS 21)) = true := by decide +kernel
theorem bd_after {K : PySem.W.Frag} (f : Addr) (fd : FuncData) (F : Fun K "after" "after" (topS 21) f fd) : L2.Binds K fd R.after_P [] := F.binds fun _ _ _ _ _ _ us hl => match us, hl with | [_, _], _ => rfl
theorem tk_after : (ckTs' F.sg false after_0 (startTags [.sh, .sh] 2)).isSome = true := by decide +kernel
abbrev later_N : List Str := ["one", "other"]
abbrev later_P : List Str := ["one", "other"]
theorem sc_later : FnScope R.later_N R.later_P (defScope (topS 22)) := ⟨rfl, rfl, rfl, by decide +kernel, rfl, by decide +kernel, by decide +kernel⟩
theorem ck_later : ckSs R.later_N (defScope (topS 22)) later_0 (defBody (topS 22)) = true := by decide +kernel
theorem bd_later {K : PySem.W.Frag} (f : Addr) (fd : FuncData) (F : Fun K "later" "later" (topS 22) f fd) : L2.Binds K fd R.later_P [] := F.binds fun _ _ _ _ _ _ us hl => match us, hl with | [_, _], _ => rfl
theorem tk_later : (ckTs' F.sg false later_0 (startTags [.sh, .sh] 2)).isSome = true := by decide +kernel
abbrev earlier_N : List Str := ["one", "other"]
abbrev earlier_P : List Str := ["one", "other"]
theorem sc_earlier : FnScope R.earlier_N R.earlier_P (defScope (topS 23)) := ⟨rfl, rfl, rfl, by decide +kernel, rfl, by decide +kernel, by decide +kernel⟩
theorem ck_earlier : ckSs R.earlier_N (defScope (topS 23)) earlier_0 (defBody (topS 23)) = true := by decide +kernel
theorem bd_earlier {K : PySem.W.Frag} (f : Addr) (fd : FuncData) (F : Fun K "earlier" "earlier" (topS 23) f fd) : L2.Binds K fd R.earlier_P [] := F.binds fun _ _ _ _ _ _ us hl => match us, hl with | [_, _], _ => rfl
theorem tk_earlier : (ckTs' F.sg false earlier_0 (startTags [.sh, .sh] 2)).isSome = true := by decide +kernel
abbrev length_in_N : List Str := ["text", "days"]
abbrev length_in_P : List Str := ["text"]
theorem sc_length_in : FnScope R.length_in_N R.length_in_P (defScope (topS 24)) := ⟨rfl, rfl, rfl, by decide +kernel, rfl, by decide +kernel, by decide +kernel⟩
theorem ck_length_in : ckSs R.length_in_N (defScope (topS 24)) length_in_0 (defBody (topS 24)) = true := by decide +kernel
theorem bd_length_in {K : PySem.W.Frag} (f : Addr) (fd : FuncData) (F : Fun K "length_in" "length_in" (topS 24) f fd) : L2.Binds K fd R.length_in_P [] := F.binds fun _ _ _ _ _ _ us hl => match us, hl with | [_], _ => rfl
theorem tk_length_in : (ckTs' F.sg false length_in_0 (startTags [.sh] 2)).isSome = true := by decide +kernel
abbrev read_from_N : List Str := ["words", "at", "one", "middle", "other", "end"]
abbrev read_from_P : List Str := ["words", "at"]
theorem sc_read_from : FnScope R.read_from_N R.read_from_P (defScope (topS 25)) := ⟨rfl, rfl, rfl, by decide +kernel, rfl, by decide +kernel, by decide +kernel⟩
theorem ck_read_from : ckSs R.read_from_N (defScope (topS 25)) read_from_0 (defBody (topS 25)) = true := by decide +kernel
theorem bd_read_from {K : PySem.W.Frag} (f : Addr) (fd : FuncData) (F : Fun K "read_from" "read_from" (topS 25) f fd) : L2.Binds K fd R.read_from_P [] := F.binds fun _ _ _ _ _ _ us hl => match us, hl with | [_, _], _ => rfl
theorem tk_read_from : (ckTs' F.sg false read_from_0 (startTags [.sh, .sh] 6)).isSome = true := by decide +kernel
abbrev term_read_N : List Str := ["text", "words", "term", "end"]
abbrev term_read_P : List Str := ["text"]
theorem sc_term_read : FnScope R.term_read_N R.term_read_P (defScope (topS 26)) := ⟨rfl, rfl, rfl, by decide +kernel, rfl, by decide +kernel, by decide +kernel⟩
theorem ck_term_read : ckSs R.term_read_N (defScope (topS 26)) term_read_0 (defBody (topS 26)) = true := by decide +kernel
theorem bd_term_read {K : PySem.W.Frag} (f : Addr) (fd : FuncData) (F : Fun K "term_read" "term_read" (topS 26) f fd) : L2.Binds K fd R.term_read_P [] := F.binds fun _ _ _ _ _ _ us hl => match us, hl with | [_], _ => rfl
theorem tk_term_read : (ckTs' F.sg false term_read_0 (startTags [.sh] 4)).isSome = true := by decide +kernel
abbrev l_cell_at_N : List Str := ["_law_script", "_law_k"]
abbrev l_cell_at_P : List Str := ["_law_script", "_law_k"]
theorem sc_l_cell_at : FnScope R.l_cell_at_N R.l_cell_at_P (defScope (topS 28)) := ⟨rfl, rfl, rfl, by decide +kernel, rfl, by decide +kernel, by decide +kernel⟩
theorem ck_l_cell_at : ckSs R.l_cell_at_N (defScope (topS 28)) l_cell_at_0 (defBody (topS 28)) = true := by decide +kernel
theorem bd_l_cell_at {K : PySem.W.Frag} (f : Addr) (fd : FuncData) (F : Fun K "_law_cell_at" "_law_cell_at" (topS 28) f fd) : L2.Binds K fd R.l_cell_at_P [] := F.binds fun _ _ _ _ _ _ us hl => match us, hl with | [_, _], _ => rfl
theorem tk_l_cell_at : (ckTs' F.sg false l_cell_at_0 (startTags [.sh, .sh] 2)).isSome = true := by decide +kernel
abbrev l_name_by_N : List Str := ["_law_cell", "_law_k", "_law_letters", "_law_size", "_law_at", "_law_way", "_law_name", "_law_j", "_law_place"]
abbrev l_name_by_P : List Str := ["_law_cell", "_law_k"]
theorem sc_l_name_by : FnScope R.l_name_by_N R.l_name_by_P (defScope (topS 29)) := ⟨rfl, rfl, rfl, by decide +kernel, rfl, by decide +kernel, by decide +kernel⟩
theorem ck_l_name_by : ckSs R.l_name_by_N (defScope (topS 29)) l_name_by_0 (defBody (topS 29)) = true := by decide +kernel
theorem bd_l_name_by {K : PySem.W.Frag} (f : Addr) (fd : FuncData) (F : Fun K "_law_name_by" "_law_name_by" (topS 29) f fd) : L2.Binds K fd R.l_name_by_P [] := F.binds fun _ _ _ _ _ _ us hl => match us, hl with | [_, _], _ => rfl
theorem tk_l_name_by : (ckTs' F.sg false l_name_by_0 (startTags [.sh, .sh] 9)).isSome = true := by decide +kernel
abbrev l_length_by_N : List Str := ["_law_cell", "_law_way"]
abbrev l_length_by_P : List Str := ["_law_cell"]
theorem sc_l_length_by : FnScope R.l_length_by_N R.l_length_by_P (defScope (topS 30)) := ⟨rfl, rfl, rfl, by decide +kernel, rfl, by decide +kernel, by decide +kernel⟩
theorem ck_l_length_by : ckSs R.l_length_by_N (defScope (topS 30)) l_length_by_0 (defBody (topS 30)) = true := by decide +kernel
theorem bd_l_length_by {K : PySem.W.Frag} (f : Addr) (fd : FuncData) (F : Fun K "_law_length_by" "_law_length_by" (topS 30) f fd) : L2.Binds K fd R.l_length_by_P [] := F.binds fun _ _ _ _ _ _ us hl => match us, hl with | [_], _ => rfl
theorem tk_l_length_by : (ckTs' F.sg false l_length_by_0 (startTags [.sh] 2)).isSome = true := by decide +kernel
abbrev l_tree_by_N : List Str := ["_law_cells", "_law_names_by", "_law_most", "_law_some", "_law_many", "_law_cell", "_law_other", "_law_kind"]
abbrev l_tree_by_P : List Str := ["_law_cells", "_law_names_by", "_law_most"]
theorem sc_l_tree_by : FnScope R.l_tree_by_N R.l_tree_by_P (defScope (topS 31)) := ⟨rfl, rfl, rfl, by decide +kernel, rfl, by decide +kernel, by decide +kernel⟩
theorem ck_l_tree_by : ckSs R.l_tree_by_N (defScope (topS 31)) l_tree_by_0 (defBody (topS 31)) = true := by decide +kernel
theorem bd_l_tree_by {K : PySem.W.Frag} (f : Addr) (fd : FuncData) (F : Fun K "_law_tree_by" "_law_tree_by" (topS 31) f fd) : L2.Binds K fd R.l_tree_by_P [] := F.binds fun _ _ _ _ _ _ us hl => match us, hl with | [_, _, _], _ => rfl
theorem tk_l_tree_by : (ckTs' F.sg false l_tree_by_0 (startTags [.sh, .sh, .sh] 8)).isSome = true := by decide +kernel
abbrev l_made_N : List Str := ["_law_tree"]
abbrev l_made_P : List Str := ["_law_tree"]
theorem sc_l_made : FnScope R.l_made_N R.l_made_P (defScope (topS 32)) := ⟨rfl, rfl, rfl, by decide +kernel, rfl, by decide +kernel, by decide +kernel⟩
theorem ck_l_made : ckSs R.l_made_N (defScope (topS 32)) l_made_0 (defBody (topS 32)) = true := by decide +kernel
theorem bd_l_made {K : PySem.W.Frag} (f : Addr) (fd : FuncData) (F : Fun K "_law_made" "_law_made" (topS 32) f fd) : L2.Binds K fd R.l_made_P [] := F.binds fun _ _ _ _ _ _ us hl => match us, hl with | [_], _ => rfl
theorem tk_l_made : (ckTs' F.sg false l_made_0 (startTags [.sh] 1)).isSome = true := by decide +kernel
abbrev l_length_N : List Str := ["_law_days", "_law_cell"]
abbrev l_length_P : List Str := ["_law_days", "_law_cell"]
theorem sc_l_length : FnScope R.l_length_N R.l_length_P (defScope (topS 33)) := ⟨rfl, rfl, rfl, by decide +kernel, rfl, by decide +kernel, by decide +kernel⟩
theorem ck_l_length : ckSs R.l_length_N (defScope (topS 33)) l_length_0 (defBody (topS 33)) = true := by decide +kernel
theorem bd_l_length {K : PySem.W.Frag} (f : Addr) (fd : FuncData) (F : Fun K "_law_length" "_law_length" (topS 33) f fd) : L2.Binds K fd R.l_length_P [] := F.binds fun _ _ _ _ _ _ us hl => match us, hl with | [_, _], _ => rfl
theorem tk_l_length : (ckTs' F.sg false l_length_0 (startTags [.sh, .sh] 2)).isSome = true := by decide +kernel
abbrev l_words_N : List Str := ["_law_tree", "_law_cell"]
abbrev l_words_P : List Str := ["_law_tree", "_law_cell"]
theorem sc_l_words : FnScope R.l_words_N R.l_words_P (defScope (topS 34)) := ⟨rfl, rfl, rfl, by decide +kernel, rfl, by decide +kernel, by decide +kernel⟩
theorem ck_l_words : ckSs R.l_words_N (defScope (topS 34)) l_words_0 (defBody (topS 34)) = true := by decide +kernel
theorem bd_l_words {K : PySem.W.Frag} (f : Addr) (fd : FuncData) (F : Fun K "_law_words" "_law_words" (topS 34) f fd) : L2.Binds K fd R.l_words_P [] := F.binds fun _ _ _ _ _ _ us hl => match us, hl with | [_, _], _ => rfl
theorem tk_l_words : (ckTs' F.sg false l_words_0 (startTags [.sh, .sh] 2)).isSome = true := by decide +kernel
abbrev Term_shown_N : List Str := ["self"]
abbrev Term_shown_P : List Str := ["self"]
theorem sc_Term_shown : FnScope R.Term_shown_N R.Term_shown_P (defScope (inClass (topS 16) 1)) := ⟨rfl, rfl, rfl, by decide +kernel, rfl, by decide +kernel, by decide +kernel⟩
theorem ck_Term_shown : ckSs R.Term_shown_N (defScope (inClass (topS 16) 1)) Term_shown_0 (defBody (inClass (topS 16) 1)) = true := by decide +kernel
theorem bd_Term_shown {K : PySem.W.Frag} (f : Addr) (fd : FuncData) (F : Fun K "shown" "Term.shown" (inClass (topS 16) 1) f fd) : L2.Binds K fd R.Term_shown_P [] := F.binds fun _ _ _ _ _ _ us hl => match us, hl with | [_], _ => rfl
theorem tk_Term_shown : (ckTs' F.sg false Term_shown_0 (startTags [.sh] 1)).isSome = true := by decide +kernel
abbrev Term_leaves_N : List Str := ["self"]
abbrev Term_leaves_P : List Str := ["self"]
theorem sc_Term_leaves : FnScope R.Term_leaves_N R.Term_leaves_P (defScope (inClass (topS 16) 2)) := ⟨rfl, rfl, rfl, by decide +kernel, rfl, by decide +kernel, by decide +kernel⟩
theorem ck_Term_leaves : ckSs R.Term_leaves_N (defScope (inClass (topS 16) 2)) Term_leaves_0 (defBody (inClass (topS 16) 2)) = true := by decide +kernel
theorem bd_Term_leaves {K : PySem.W.Frag} (f : Addr) (fd : FuncData) (F : Fun K "leaves" "Term.leaves" (inClass (topS 16) 2) f fd) : L2.Binds K fd R.Term_leaves_P [] := F.binds fun _ _ _ _ _ _ us hl => match us, hl with | [_], _ => rfl
theorem tk_Term_leaves : (ckTs' F.sg true Term_leaves_0 (startTags [.sh] 1)).isSome = true := by decide +kernel
abbrev After_shown_N : List Str := ["self"]
abbrev After_shown_P : List Str := ["self"]
theorem sc_After_shown : FnScope R.After_shown_N R.After_shown_P (defScope (inClass (topS 17) 2)) := ⟨rfl, rfl, rfl, by decide +kernel, rfl, by decide +kernel, by decide +kernel⟩
theorem ck_After_shown : ckSs R.After_shown_N (defScope (inClass (topS 17) 2)) After_shown_0 (defBody (inClass (topS 17) 2)) = true := by decide +kernel
theorem bd_After_shown {K : PySem.W.Frag} (f : Addr) (fd : FuncData) (F : Fun K "shown" "After.shown" (inClass (topS 17) 2) f fd) : L2.Binds K fd R.After_shown_P [] := F.binds fun _ _ _ _ _ _ us hl => match us, hl with | [_], _ => rfl
theorem tk_After_shown : (ckTs' F.sg false After_shown_0 (startTags [.sh] 1)).isSome = true := by decide +kernel
abbrev After_leaves_N : List Str := ["self"]
abbrev After_leaves_P : List Str := ["self"]
theorem sc_After_leaves : FnScope R.After_leaves_N R.After_leaves_P (defScope (inClass (topS 17) 3)) := ⟨rfl, rfl, rfl, by decide +kernel, rfl, by decide +kernel, by decide +kernel⟩
theorem ck_After_leaves : ckSs R.After_leaves_N (defScope (inClass (topS 17) 3)) After_leaves_0 (defBody (inClass (topS 17) 3)) = true := by decide +kernel
theorem bd_After_leaves {K : PySem.W.Frag} (f : Addr) (fd : FuncData) (F : Fun K "leaves" "After.leaves" (inClass (topS 17) 3) f fd) : L2.Binds K fd R.After_leaves_P [] := F.binds fun _ _ _ _ _ _ us hl => match us, hl with | [_], _ => rfl
theorem tk_After_leaves : (ckTs' F.sg true After_leaves_0 (startTags [.sh] 1)).isSome = true := by decide +kernel
abbrev Later_shown_N : List Str := ["self"]
abbrev Later_shown_P : List Str := ["self"]
theorem sc_Later_shown : FnScope R.Later_shown_N R.Later_shown_P (defScope (inClass (topS 18) 2)) := ⟨rfl, rfl, rfl, by decide +kernel, rfl, by decide +kernel, by decide +kernel⟩
theorem ck_Later_shown : ckSs R.Later_shown_N (defScope (inClass (topS 18) 2)) Later_shown_0 (defBody (inClass (topS 18) 2)) = true := by decide +kernel
theorem bd_Later_shown {K : PySem.W.Frag} (f : Addr) (fd : FuncData) (F : Fun K "shown" "Later.shown" (inClass (topS 18) 2) f fd) : L2.Binds K fd R.Later_shown_P [] := F.binds fun _ _ _ _ _ _ us hl => match us, hl with | [_], _ => rfl
theorem tk_Later_shown : (ckTs' F.sg false Later_shown_0 (startTags [.sh] 1)).isSome = true := by decide +kernel
abbrev Later_leaves_N : List Str := ["self"]
abbrev Later_leaves_P : List Str := ["self"]
theorem sc_Later_leaves : FnScope R.Later_leaves_N R.Later_leaves_P (defScope (inClass (topS 18) 3)) := ⟨rfl, rfl, rfl, by decide +kernel, rfl, by decide +kernel, by decide +kernel⟩
theorem ck_Later_leaves : ckSs R.Later_leaves_N (defScope (inClass (topS 18) 3)) Later_leaves_0 (defBody (inClass (topS 18) 3)) = true := by decide +kernel
theorem bd_Later_leaves {K : PySem.W.Frag} (f : Addr) (fd : FuncData) (F : Fun K "leaves" "Later.leaves" (inClass (topS 18) 3) f fd) : L2.Binds K fd R.Later_leaves_P [] := F.binds fun _ _ _ _ _ _ us hl => match us, hl with | [_], _ => rfl
theorem tk_Later_leaves : (ckTs' F.sg true Later_leaves_0 (startTags [.sh] 1)).isSome = true := by decide +kernel
abbrev Earlier_shown_N : List Str := ["self"]
abbrev Earlier_shown_P : List Str := ["self"]
theorem sc_Earlier_shown : FnScope R.Earlier_shown_N R.Earlier_shown_P (defScope (inClass (topS 19) 2)) := ⟨rfl, rfl, rfl, by decide +kernel, rfl, by decide +kernel, by decide +kernel⟩
theorem ck_Earlier_shown : ckSs R.Earlier_shown_N (defScope (inClass (topS 19) 2)) Earlier_shown_0 (defBody (inClass (topS 19) 2)) = true := by decide +kernel
theorem bd_Earlier_shown {K : PySem.W.Frag} (f : Addr) (fd : FuncData) (F : Fun K "shown" "Earlier.shown" (inClass (topS 19) 2) f fd) : L2.Binds K fd R.Earlier_shown_P [] := F.binds fun _ _ _ _ _ _ us hl => match us, hl with | [_], _ => rfl
theorem tk_Earlier_shown : (ckTs' F.sg false Earlier_shown_0 (startTags [.sh] 1)).isSome = true := by decide +kernel
abbrev Earlier_leaves_N : List Str := ["self"]
abbrev Earlier_leaves_P : List Str := ["self"]
theorem sc_Earlier_leaves : FnScope R.Earlier_leaves_N R.Earlier_leaves_P (defScope (inClass (topS 19) 3)) := ⟨rfl, rfl, rfl, by decide +kernel, rfl, by decide +kernel, by decide +kernel⟩
theorem ck_Earlier_leaves : ckSs R.Earlier_leaves_N (defScope (inClass (topS 19) 3)) Earlier_leaves_0 (defBody (inClass (topS 19) 3)) = true := by decide +kernel
theorem bd_Earlier_leaves {K : PySem.W.Frag} (f : Addr) (fd : FuncData) (F : Fun K "leaves" "Earlier.leaves" (inClass (topS 19) 3) f fd) : L2.Binds K fd R.Earlier_leaves_P [] := F.binds fun _ _ _ _ _ _ us hl => match us, hl with | [_], _ => rfl
theorem tk_Earlier_leaves : (ckTs' F.sg true Earlier_leaves_0 (startTags [.sh] 1)).isSome = true := by decide +kernel
abbrev After_init_N : List Str := ["self", "kind", "days"]
abbrev After_init_P : List Str := ["self", "kind", "days"]
theorem sc_After_init : FnScope R.After_init_N R.After_init_P (defScope (inClass (topS 17) 0)) := ⟨rfl, rfl, rfl, by decide +kernel, rfl, by decide +kernel, by decide +kernel⟩
theorem ck_After_init : ckSs R.After_init_N (defScope (inClass (topS 17) 0)) (iniB ["kind", "days"] 1) (defBody (inClass (topS 17) 0)) = true := by decide +kernel
theorem bd_After_init {K : PySem.W.Frag} (f : Addr) (fd : FuncData) (F : Fun K "__init__" "After.__init__" (inClass (topS 17) 0) f fd) : L2.Binds K fd R.After_init_P [] := F.binds fun _ _ _ _ _ _ us hl => match us, hl with | [_, _, _], _ => rfl
abbrev Later_init_N : List Str := ["self", "one", "other"]
abbrev Later_init_P : List Str := ["self", "one", "other"]
theorem sc_Later_init : FnScope R.Later_init_N R.Later_init_P (defScope (inClass (topS 18) 0)) := ⟨rfl, rfl, rfl, by decide +kernel, rfl, by decide +kernel, by decide +kernel⟩
theorem ck_Later_init : ckSs R.Later_init_N (defScope (inClass (topS 18) 0)) (iniB ["one", "other"] 1) (defBody (inClass (topS 18) 0)) = true := by decide +kernel
theorem bd_Later_init {K : PySem.W.Frag} (f : Addr) (fd : FuncData) (F : Fun K "__init__" "Later.__init__" (inClass (topS 18) 0) f fd) : L2.Binds K fd R.Later_init_P [] := F.binds fun _ _ _ _ _ _ us hl => match us, hl with | [_, _, _], _ => rfl
abbrev Earlier_init_N : List Str := ["self", "one", "other"]
abbrev Earlier_init_P : List Str := ["self", "one", "other"]
theorem sc_Earlier_init : FnScope R.Earlier_init_N R.Earlier_init_P (defScope (inClass (topS 19) 0)) := ⟨rfl, rfl, rfl, by decide +kernel, rfl, by decide +kernel, by decide +kernel⟩
theorem ck_Earlier_init : ckSs R.Earlier_init_N (defScope (inClass (topS 19) 0)) (iniB ["one", "other"] 1) (defBody (inClass (topS 19) 0)) = true := by decide +kernel
theorem bd_Earlier_init {K : PySem.W.Frag} (f : Addr) (fd : FuncData) (F : Fun K "__init__" "Earlier.__init__" (inClass (topS 19) 0) f fd) : L2.Binds K fd R.Earlier_init_P [] := F.binds fun _ _ _ _ _ _ us hl => match us, hl with | [_, _, _], _ => rfl
abbrev law_N : List Str := ["_law_script", "_law_names_by", "_law_tree", "_law_due", "_law_term", "_law_found", "_law_again"]
abbrev law_P : List Str := ["_law_script"]
theorem sc_law : FnScope R.law_N R.law_P (defScope (topS 35)) := ⟨rfl, rfl, rfl, by decide +kernel, rfl, by decide +kernel, by decide +kernel⟩
theorem ck_law : ckSs R.law_N (defScope (topS 35)) law_0 (defBody (topS 35)) = true := by decide +kernel
theorem tk_law : (ckTs' F.sg false law_0 (startTags [.sh] 7)).isSome = true := by decide +kernel
theorem row_mk {K : PySem.W.Frag} {c0 : Addr} {c1 : Addr} {c2 : Addr} {c3 : Addr} {c4 : Addr} (A0 : FunAt K "is_number" (topS 10)) (A1 : FunAt K "length_read" (topS 11)) (A2 : FunAt K "length_shown" (topS 12)) (A3 : FunAt K "is_name" (topS 13)) (A4 : FunAt K "never" (topS 20)) (A5 : FunAt K "after" (topS 21)) (A6 : FunAt K "later" (topS 22)) (A7 : FunAt K "earlier" (topS 23)) (A8 : FunAt K "length_in" (topS 24)) (A9 : FunAt K "read_from" (topS 25)) (A10 : FunAt K "term_read" (topS 26)) (A11 : FunAt K "_law_cell_at" (topS 28)) (A12 : FunAt K "_law_name_by" (topS 29)) (A13 : FunAt K "_law_length_by" (topS 30)) (A14 : FunAt K "_law_tree_by" (topS 31)) (A15 : FunAt K "_law_made" (topS 32)) (A16 : FunAt K "_law_length" (topS 33)) (A17 : FunAt K "_law_words" (topS 34)) (z : freeB K) (zgl0 : GlAt K "FIGURES" (.str "0123456789")) (zgl1 : GlAt K "LETTERS" (.str "abcdefghijklmnopqrstuvwxyz")) (zgl2 : GlAt K "YEAR" (.int 360)) (zgl3 : GlAt K "MONTH" (.int 30)) (zgl4 : GlAt K "MOST" (.int 61)) (b0 : PySem.W.nsIn K mainGlobals "str" = some none) (n_Term : PySem.W.nsIn K mainGlobals "Term" = some (some (.ref c0))) (n_After : PySem.W.nsIn K mainGlobals "After" = some (some (.ref c1))) (n_Later : PySem.W.nsIn K mainGlobals "Later" = some (some (.ref c2))) (n_Earlier : PySem.W.nsIn K mainGlobals "Earlier" = some (some (.ref c3))) (n_NoLength : PySem.W.nsIn K mainGlobals "NoLength" = some (some (.ref c4))) (o_Term : OwnC K c0) (m_Term_shown : MethAt K c0 "shown" "Term.shown" (inClass (topS 16) 1)) (m_Term_leaves : MethAt K c0 "leaves" "Term.leaves" (inClass (topS 16) 2)) (i_Term : Mk0 K c0) (f_Term_days : NoAttr K c0 "days") (f_Term_kind : NoAttr K c0 "kind") (f_Term_one : NoAttr K c0 "one") (f_Term_other : NoAttr K c0 "other") (o_After : OwnC K c1) (m_After_shown : MethAt K c1 "shown" "After.shown" (inClass (topS 17) 2)) (m_After_leaves : MethAt K c1 "leaves" "After.leaves" (inClass (topS 17) 3)) (i_After : InitAt K c1 "After.__init__" (inClass (topS 17) 0)) (f_After_days : NoAttr K c1 "days") (f_After_kind : NoAttr K c1 "kind") (f_After_one : NoAttr K c1 "one") (f_After_other : NoAttr K c1 "other") (o_Later : OwnC K c2) (m_Later_shown : MethAt K c2 "shown" "Later.shown" (inClass (topS 18) 2)) (m_Later_leaves : MethAt K c2 "leaves" "Later.leaves" (inClass (topS 18) 3)) (i_Later : InitAt K c2 "Later.__init__" (inClass (topS 18) 0)) (f_Later_days : NoAttr K c2 "days") (f_Later_kind : NoAttr K c2 "kind") (f_Later_one : NoAttr K c2 "one") (f_Later_other : NoAttr K c2 "other") (o_Earlier : OwnC K c3) (m_Earlier_shown : MethAt K c3 "shown" "Earlier.shown" (inClass (topS 19) 2)) (m_Earlier_leaves : MethAt K c3 "leaves" "Earlier.leaves" (inClass (topS 19) 3)) (i_Earlier : InitAt K c3 "Earlier.__init__" (inClass (topS 19) 0)) (f_Earlier_days : NoAttr K c3 "days") (f_Earlier_kind : NoAttr K c3 "kind") (f_Earlier_one : NoAttr K c3 "one") (f_Earlier_other : NoAttr K c3 "other") (inj : ∀ q ∈ ([("Term", c0), ("After", c1), ("Later", c2), ("Earlier", c3)] : List (Str × Addr)), ([("Term", c0), ("After", c1), ("Later", c2), ("Earlier", c3)] : List (Str × Addr)).find? (fun r => r.2 == q.2) = some q) : Row F (pl K c0 c1 c2 c3 c4) where
  fx := fix_mk
    { row := by
        intro q hq r hr
        simp only [F, List.mem_cons, List.not_mem_nil, or_false] at hq
        rcases hq with rfl
        · simp only [List.mem_cons, List.not_mem_nil, or_false] at hr
          rcases hr with rfl
          · exact ⟨_, _, _, rfl, .ty _, rfl, (by kernel_rfl)⟩
      nob := by
        intro q hq
        simp only [pl, List.mem_cons, List.not_mem_nil, or_false] at hq
        rcases hq with rfl | rfl | rfl | rfl
        · exact rfl
        · exact rfl
        · exact rfl
        · exact rfl
      nox := by
        intro q hq
        cases hq
      own := by
        intro q hq
        simp only [pl, List.mem_cons, List.not_mem_nil, or_false] at hq
        rcases hq with rfl | rfl | rfl | rfl
        · exact o_Term
        · exact o_After
        · exact o_Later
        · exact o_Earlier
      exc := by
        intro q hq
        cases hq
      trc := by
        intro C hC
        simp only [F, List.mem_cons, List.not_mem_nil, or_false] at hC
        rcases hC with rfl
        · exact ⟨c4, rfl⟩
      exm := by
        intro q hq r hr ht D hD c hc
        simp only [F, List.mem_cons, List.not_mem_nil, or_false] at hq
        rcases hq with rfl
        · simp only [List.mem_cons, List.not_mem_nil, or_false] at hr
          rcases hr with rfl
          · exact absurd ht (by decide +kernel)
    }
    (by
      intro q hq
      simp only [F, List.mem_cons, List.not_mem_nil, or_false] at hq
      rcases hq with rfl | rfl | rfl | rfl | rfl <;> rfl)
    inj
    (by decide +kernel)
    (by intro q hq; simp only [F, List.mem_cons, List.not_mem_nil, or_false] at hq; rcases hq with rfl | rfl | rfl | rfl <;> rfl)
    (by
      intro q hq f hf
      simp only [F, pl, List.mem_cons, List.not_mem_nil, or_false] at hq hf
      rcases hq with rfl | rfl | rfl | rfl
      · rcases hf with rfl | rfl | rfl | rfl
        · exact ⟨o_Term.cl, f_Term_days⟩
        · exact ⟨o_Term.cl, f_Term_kind⟩
        · exact ⟨o_Term.cl, f_Term_one⟩
        · exact ⟨o_Term.cl, f_Term_other⟩
      · rcases hf with rfl | rfl | rfl | rfl
        · exact ⟨o_After.cl, f_After_days⟩
        · exact ⟨o_After.cl, f_After_kind⟩
        · exact ⟨o_After.cl, f_After_one⟩
        · exact ⟨o_After.cl, f_After_other⟩
      · rcases hf with rfl | rfl | rfl | rfl
        · exact ⟨o_Later.cl, f_Later_days⟩
        · exact ⟨o_Later.cl, f_Later_kind⟩
        · exact ⟨o_Later.cl, f_Later_one⟩
        · exact ⟨o_Later.cl, f_Later_other⟩
      · rcases hf with rfl | rfl | rfl | rfl
        · exact ⟨o_Earlier.cl, f_Earlier_days⟩
        · exact ⟨o_Earlier.cl, f_Earlier_kind⟩
        · exact ⟨o_Earlier.cl, f_Earlier_one⟩
        · exact ⟨o_Earlier.cl, f_Earlier_other⟩
      )
    (by intro q hq; cases hq)
  lk := by intro q hq; simp only [pl, List.mem_cons, List.not_mem_nil, or_false] at hq; rcases hq with rfl | rfl | rfl | rfl <;> rfl
  fns := by
    intro q hq
    simp only [F, List.mem_cons, List.not_mem_nil, or_false] at hq
    rcases hq with rfl | rfl | rfl | rfl | rfl | rfl | rfl | rfl | rfl | rfl | rfl | rfl | rfl | rfl | rfl | rfl | rfl | rfl
    · exact df_at A0 sc_is_number ck_is_number bd_is_number rfl rfl (by decide) rfl tk_is_number
    · exact df_at A1 sc_length_read ck_length_read bd_length_read rfl rfl (by decide) rfl tk_length_read
    · exact df_at A2 sc_length_shown ck_length_shown bd_length_shown rfl rfl (by decide) rfl tk_length_shown
    · exact df_at A3 sc_is_name ck_is_name bd_is_name rfl rfl (by decide) rfl tk_is_name
    · exact df_at A4 sc_never ck_never bd_never rfl rfl (by decide) rfl tk_never
    · exact df_at A5 sc_after ck_after bd_after rfl rfl (by decide) rfl tk_after
    · exact df_at A6 sc_later ck_later bd_later rfl rfl (by decide) rfl tk_later
    · exact df_at A7 sc_earlier ck_earlier bd_earlier rfl rfl (by decide) rfl tk_earlier
    · exact df_at A8 sc_length_in ck_length_in bd_length_in rfl rfl (by decide) rfl tk_length_in
    · exact df_at A9 sc_read_from ck_read_from bd_read_from rfl rfl (by decide) rfl tk_read_from
    · exact df_at A10 sc_term_read ck_term_read bd_term_read rfl rfl (by decide) rfl tk_term_read
    · exact df_at A11 sc_l_cell_at ck_l_cell_at bd_l_cell_at rfl rfl (by decide) rfl tk_l_cell_at
    · exact df_at A12 sc_l_name_by ck_l_name_by bd_l_name_by rfl rfl (by decide) rfl tk_l_name_by
    · exact df_at A13 sc_l_length_by ck_l_length_by bd_l_length_by rfl rfl (by decide) rfl tk_l_length_by
    · exact df_at A14 sc_l_tree_by ck_l_tree_by bd_l_tree_by rfl rfl (by decide) rfl tk_l_tree_by
    · exact df_at A15 sc_l_made ck_l_made bd_l_made rfl rfl (by decide) rfl tk_l_made
    · exact df_at A16 sc_l_length ck_l_length bd_l_length rfl rfl (by decide) rfl tk_l_length
    · exact df_at A17 sc_l_words ck_l_words bd_l_words rfl rfl (by decide) rfl tk_l_words
  mts := by
    intro q hq C hC
    simp only [F, List.mem_cons, List.not_mem_nil, or_false] at hq
    rcases hq with rfl | rfl | rfl | rfl
    · cases (show some c0 = some C from hC)
      refine ⟨o_Term.cl, fun r hr => ?_⟩
      simp only [List.mem_cons, List.not_mem_nil, or_false] at hr
      rcases hr with rfl | rfl
      · exact mt_at m_Term_shown sc_Term_shown ck_Term_shown bd_Term_shown rfl rfl (by decide) rfl tk_Term_shown
      · exact mt_at m_Term_leaves sc_Term_leaves ck_Term_leaves bd_Term_leaves rfl rfl (by decide) rfl tk_Term_leaves
    · cases (show some c1 = some C from hC)
      refine ⟨o_After.cl, fun r hr => ?_⟩
      simp only [List.mem_cons, List.not_mem_nil, or_false] at hr
      rcases hr with rfl | rfl
      · exact mt_at m_After_shown sc_After_shown ck_After_shown bd_After_shown rfl rfl (by decide) rfl tk_After_shown
      · exact mt_at m_After_leaves sc_After_leaves ck_After_leaves bd_After_leaves rfl rfl (by decide) rfl tk_After_leaves
    · cases (show some c2 = some C from hC)
      refine ⟨o_Later.cl, fun r hr => ?_⟩
      simp only [List.mem_cons, List.not_mem_nil, or_false] at hr
      rcases hr with rfl | rfl
      · exact mt_at m_Later_shown sc_Later_shown ck_Later_shown bd_Later_shown rfl rfl (by decide) rfl tk_Later_shown
      · exact mt_at m_Later_leaves sc_Later_leaves ck_Later_leaves bd_Later_leaves rfl rfl (by decide) rfl tk_Later_leaves
    · cases (show some c3 = some C from hC)
      refine ⟨o_Earlier.cl, fun r hr => ?_⟩
      simp only [List.mem_cons, List.not_mem_nil, or_false] at hr
      rcases hr with rfl | rfl
      · exact mt_at m_Earlier_shown sc_Earlier_shown ck_Earlier_shown bd_Earlier_shown rfl rfl (by decide) rfl tk_Earlier_shown
      · exact mt_at m_Earlier_leaves sc_Earlier_leaves ck_Earlier_leaves bd_Earlier_leaves rfl rfl (by decide) rfl tk_Earlier_leaves
  ini := by
    intro q hq C hC
    simp only [F, List.mem_cons, List.not_mem_nil, or_false] at hq
    rcases hq with rfl | rfl | rfl | rfl
    · cases (show some c0 = some C from hC)
      exact ⟨n_Term, by decide +kernel, i_Term⟩
    · cases (show some c1 = some C from hC)
      exact ⟨n_After, by decide +kernel, in_at i_After sc_After_init ck_After_init bd_After_init rfl (by decide) (by decide +kernel)⟩
    · cases (show some c2 = some C from hC)
      exact ⟨n_Later, by decide +kernel, in_at i_Later sc_Later_init ck_Later_init bd_Later_init rfl (by decide) (by decide +kernel)⟩
    · cases (show some c3 = some C from hC)
      exact ⟨n_Earlier, by decide +kernel, in_at i_Earlier sc_Earlier_init ck_Earlier_init bd_Earlier_init rfl (by decide) (by decide +kernel)⟩
  free := z
  gls := by
    intro q hq v hv
    simp only [F, List.mem_cons, List.not_mem_nil, or_false] at hq
    rcases hq with rfl | rfl | rfl | rfl | rfl
    · cases (show some (.str "0123456789" : V) = some v from hv); exact zgl0
    · cases (show some (.str "abcdefghijklmnopqrstuvwxyz" : V) = some v from hv); exact zgl1
    · cases (show some (.int 360 : V) = some v from hv); exact zgl2
    · cases (show some (.int 30 : V) = some v from hv); exact zgl3
    · cases (show some (.int 61 : V) = some v from hv); exact zgl4
  cls := by
    intro q hq
    simp only [pl, List.mem_cons, List.not_mem_nil, or_false] at hq
    rcases hq with rfl | rfl
    · exact cls_blt (by decide +kernel) b0 (by kernel_rfl)
    · exact cls_own (show ("NoLength" : Str) ≠ "__name__" by decide +kernel) n_NoLength
  exc := by
    intro C hC a ha
    cases hC
theorem once : Once F where
  fns := by
    intro q hq
    simp only [F, List.mem_cons, List.not_mem_nil, or_false] at hq
    rcases hq with rfl | rfl | rfl | rfl | rfl | rfl | rfl | rfl | rfl | rfl | rfl | rfl | rfl | rfl | rfl | rfl | rfl | rfl <;> rfl
  mts := by
    intro q hq r hr
    simp only [F, List.mem_cons, List.not_mem_nil, or_false] at hq
    rcases hq with rfl | rfl | rfl | rfl
    · simp only [List.mem_cons, List.not_mem_nil, or_false] at hr; rcases hr with rfl | rfl <;> rfl
    · simp only [List.mem_cons, List.not_mem_nil, or_false] at hr; rcases hr with rfl | rfl <;> rfl
    · simp only [List.mem_cons, List.not_mem_nil, or_false] at hr; rcases hr with rfl | rfl <;> rfl
    · simp only [List.mem_cons, List.not_mem_nil, or_false] at hr; rcases hr with rfl | rfl <;> rfl
theorem at_is_number (d : Nat) : (F.G (d + 1)).fn "is_number" = some ⟨[.sh], false, defP (F.G d) [.sh] 2 is_number_0⟩ := fn_lv (D := ⟨[.sh], false, 2, is_number_0⟩) rfl
theorem at_length_read (d : Nat) : (F.G (d + 1)).fn "length_read" = some ⟨[.sh], false, defP (F.G d) [.sh] 2 length_read_0⟩ := fn_lv (D := ⟨[.sh], false, 2, length_read_0⟩) rfl
theorem at_length_shown (d : Nat) : (F.G (d + 1)).fn "length_shown" = some ⟨[.sh], false, defP (F.G d) [.sh] 1 length_shown_0⟩ := fn_lv (D := ⟨[.sh], false, 1, length_shown_0⟩) rfl
theorem at_is_name (d : Nat) : (F.G (d + 1)).fn "is_name" = some ⟨[.sh], false, defP (F.G d) [.sh] 2 is_name_0⟩ := fn_lv (D := ⟨[.sh], false, 2, is_name_0⟩) rfl
theorem at_never (d : Nat) : (F.G (d + 1)).fn "never" = some ⟨[], false, defP (F.G d) [] 0 never_0⟩ := fn_lv (D := ⟨[], false, 0, never_0⟩) rfl
theorem at_after (d : Nat) : (F.G (d + 1)).fn "after" = some ⟨[.sh, .sh], false, defP (F.G d) [.sh, .sh] 2 after_0⟩ := fn_lv (D := ⟨[.sh, .sh], false, 2, after_0⟩) rfl
theorem at_later (d : Nat) : (F.G (d + 1)).fn "later" = some ⟨[.sh, .sh], false, defP (F.G d) [.sh, .sh] 2 later_0⟩ := fn_lv (D := ⟨[.sh, .sh], false, 2, later_0⟩) rfl
theorem at_earlier (d : Nat) : (F.G (d + 1)).fn "earlier" = some ⟨[.sh, .sh], false, defP (F.G d) [.sh, .sh] 2 earlier_0⟩ := fn_lv (D := ⟨[.sh, .sh], false, 2, earlier_0⟩) rfl
theorem at_length_in (d : Nat) : (F.G (d + 1)).fn "length_in" = some ⟨[.sh], false, defP (F.G d) [.sh] 2 length_in_0⟩ := fn_lv (D := ⟨[.sh], false, 2, length_in_0⟩) rfl
theorem at_read_from (d : Nat) : (F.G (d + 1)).fn "read_from" = some ⟨[.sh, .sh], false, defP (F.G d) [.sh, .sh] 6 read_from_0⟩ := fn_lv (D := ⟨[.sh, .sh], false, 6, read_from_0⟩) rfl
theorem at_term_read (d : Nat) : (F.G (d + 1)).fn "term_read" = some ⟨[.sh], false, defP (F.G d) [.sh] 4 term_read_0⟩ := fn_lv (D := ⟨[.sh], false, 4, term_read_0⟩) rfl
theorem at_l_cell_at (d : Nat) : (F.G (d + 1)).fn "_law_cell_at" = some ⟨[.sh, .sh], false, defP (F.G d) [.sh, .sh] 2 l_cell_at_0⟩ := fn_lv (D := ⟨[.sh, .sh], false, 2, l_cell_at_0⟩) rfl
theorem at_l_name_by (d : Nat) : (F.G (d + 1)).fn "_law_name_by" = some ⟨[.sh, .sh], false, defP (F.G d) [.sh, .sh] 9 l_name_by_0⟩ := fn_lv (D := ⟨[.sh, .sh], false, 9, l_name_by_0⟩) rfl
theorem at_l_length_by (d : Nat) : (F.G (d + 1)).fn "_law_length_by" = some ⟨[.sh], false, defP (F.G d) [.sh] 2 l_length_by_0⟩ := fn_lv (D := ⟨[.sh], false, 2, l_length_by_0⟩) rfl
theorem at_l_tree_by (d : Nat) : (F.G (d + 1)).fn "_law_tree_by" = some ⟨[.sh, .sh, .sh], false, defP (F.G d) [.sh, .sh, .sh] 8 l_tree_by_0⟩ := fn_lv (D := ⟨[.sh, .sh, .sh], false, 8, l_tree_by_0⟩) rfl
theorem at_l_made (d : Nat) : (F.G (d + 1)).fn "_law_made" = some ⟨[.sh], false, defP (F.G d) [.sh] 1 l_made_0⟩ := fn_lv (D := ⟨[.sh], false, 1, l_made_0⟩) rfl
theorem at_l_length (d : Nat) : (F.G (d + 1)).fn "_law_length" = some ⟨[.sh, .sh], false, defP (F.G d) [.sh, .sh] 2 l_length_0⟩ := fn_lv (D := ⟨[.sh, .sh], false, 2, l_length_0⟩) rfl
theorem at_l_words (d : Nat) : (F.G (d + 1)).fn "_law_words" = some ⟨[.sh, .sh], false, defP (F.G d) [.sh, .sh] 2 l_words_0⟩ := fn_lv (D := ⟨[.sh, .sh], false, 2, l_words_0⟩) rfl
theorem at_Term_shown (d : Nat) : (F.G (d + 1)).mt "Term" "shown" = some (defP (F.G d) [.sh] 1 Term_shown_0) := mt_lv (D := ⟨[.sh], false, 1, Term_shown_0⟩) rfl
theorem at_Term_leaves (d : Nat) : (F.G (d + 1)).mt "Term" "leaves" = some (defP (F.G d) [.sh] 1 Term_leaves_0) := mt_lv (D := ⟨[.sh], true, 1, Term_leaves_0⟩) rfl
theorem at_After_shown (d : Nat) : (F.G (d + 1)).mt "After" "shown" = some (defP (F.G d) [.sh] 1 After_shown_0) := mt_lv (D := ⟨[.sh], false, 1, After_shown_0⟩) rfl
theorem at_After_leaves (d : Nat) : (F.G (d + 1)).mt "After" "leaves" = some (defP (F.G d) [.sh] 1 After_leaves_0) := mt_lv (D := ⟨[.sh], true, 1, After_leaves_0⟩) rfl
theorem at_Later_shown (d : Nat) : (F.G (d + 1)).mt "Later" "shown" = some (defP (F.G d) [.sh] 1 Later_shown_0) := mt_lv (D := ⟨[.sh], false, 1, Later_shown_0⟩) rfl
theorem at_Later_leaves (d : Nat) : (F.G (d + 1)).mt "Later" "leaves" = some (defP (F.G d) [.sh] 1 Later_leaves_0) := mt_lv (D := ⟨[.sh], true, 1, Later_leaves_0⟩) rfl
theorem at_Earlier_shown (d : Nat) : (F.G (d + 1)).mt "Earlier" "shown" = some (defP (F.G d) [.sh] 1 Earlier_shown_0) := mt_lv (D := ⟨[.sh], false, 1, Earlier_shown_0⟩) rfl
theorem at_Earlier_leaves (d : Nat) : (F.G (d + 1)).mt "Earlier" "leaves" = some (defP (F.G d) [.sh] 1 Earlier_leaves_0) := mt_lv (D := ⟨[.sh], true, 1, Earlier_leaves_0⟩) rfl

theorem nameK (d : Nat) : NameSo (F.G (d + 1)) := ⟨_, at_l_name_by d, fun cell k h0 h1 => name_ok _ cell k h0 h1⟩
theorem lenK (d : Nat) : LenSo (F.G (d + 1)) := ⟨_, at_l_length_by d, fun c => length_ok _ c⟩
theorem mkK (d : Nat) : MkSo (F.G (d + 1)) := ⟨⟨_, at_never d, never_val rfl⟩, ⟨_, at_after d, after_val rfl⟩, ⟨_, at_later d, later_val rfl⟩, ⟨_, at_earlier d, earlier_val rfl⟩⟩
theorem makK (d : Nat) : MakSo (F.G d) := ⟨rfl, rfl, rfl, rfl⟩
theorem no0 {t : Vc.Tm} (h : hgt t ≤ 0) : False := by have := hgt_pos t; omega
theorem madeK : ∀ d, MadeSo (F.G (d + 1)) d
  | 0 => ⟨_, at_l_made 0, fun t h => (no0 h).elim⟩
  | d + 1 => ⟨_, at_l_made (d + 1), made_val (mkK d) (madeK d)⟩
theorem numK (d : Nat) : NumSo (F.G (d + 1)) := ⟨_, at_is_number d, fun z hz => num_val rfl hz⟩
theorem isnK (d : Nat) : IsNameSo (F.G (d + 1)) := ⟨_, at_is_name d, fun z hz => isname_val rfl hz⟩
theorem lreadK (d : Nat) : LReadSo (F.G (d + 2)) := ⟨_, at_length_read (d + 1), fun z n hz h => lread_val (numK d) rfl rfl hz h⟩
theorem linK (d : Nat) : LInSo (F.G (d + 3)) := ⟨_, at_length_in (d + 2), fun z n hz h => lin_val (lreadK d) z n hz h⟩
theorem lshownK (d : Nat) : LShownSo (F.G (d + 1)) := ⟨_, at_length_shown d, fun n hn => lshown_val rfl rfl hn⟩
theorem llenK (d : Nat) : LLenSo (F.G (d + 1)) := ⟨_, at_l_length d, fun n c hn => llen_val _ hn c⟩
theorem wordsK : ∀ d, WordsSo (F.G (d + 1)) d
  | 0 => ⟨_, at_l_words 0, fun t c h => (no0 h).elim⟩
  | d + 1 => ⟨_, at_l_words (d + 1), fun t c h o hl => words_val (llenK d) (wordsK d) t c h o hl⟩
theorem readK : ∀ d, ReadSo (F.G (d + 3)) d
  | 0 => ⟨_, at_read_from 2, fun t c pre post h => (no0 h).elim⟩
  | d + 1 => ⟨_, at_read_from (d + 3), fun t c pre post h o => read_val (linK d) (isnK (d + 2)) (makK _) (readK d) t c pre post h o⟩
theorem treadK : TReadSo (F.G 24) := ⟨_, at_term_read 23, fun t c o hl => tread_val rfl (readK 20) t c o hl (by decide)⟩
theorem shownK : ∀ d, ShownSo (F.G (d + 1)) d
  | 0 => ⟨rfl, fun t h => (no0 h).elim⟩
  | d + 1 => ⟨rfl, fun t h o hl => match t, h, o, hl with
    | .nev, _, _, _ => ⟨_, at_Term_shown (d + 1), shown_nev _⟩
    | .aft k n, _, o, _ => ⟨_, at_After_shown (d + 1), shown_aft (lshownK d) k n o⟩
    | .lat a b, h, o, hl => ⟨_, at_Later_shown (d + 1), shown_lat (shownK d) a b h o hl⟩
    | .ear a b, h, o, hl => ⟨_, at_Earlier_shown (d + 1), shown_ear (shownK d) a b h o hl⟩⟩
theorem leavesK : ∀ d, LeavesSo (F.G (d + 1)) d
  | 0 => ⟨rfl, fun t h => (no0 h).elim⟩
  | d + 1 => ⟨rfl, fun t h hl => match t, h, hl with
    | .nev, _, _ => ⟨_, at_Term_leaves (d + 1), leaves_nev _⟩
    | .aft k n, _, _ => ⟨_, at_After_leaves (d + 1), leaves_aft _ k n⟩
    | .lat a b, h, hl => ⟨_, at_Later_leaves (d + 1), leaves_lat (leavesK d) a b h hl⟩
    | .ear a b, h, hl => ⟨_, at_Earlier_leaves (d + 1), leaves_ear (leavesK d) a b h hl⟩⟩
theorem mono_made {G : PGm} {a b : Nat} (h : a ≤ b) (M : MadeSo G b) : MadeSo G a := let ⟨r, f, g⟩ := M; ⟨r, f, fun t ht => g t (by omega)⟩
theorem mono_words {G : PGm} {a b : Nat} (h : a ≤ b) (M : WordsSo G b) : WordsSo G a := let ⟨r, f, g⟩ := M; ⟨r, f, fun t c ht => g t c (by omega)⟩
theorem mono_shown {G : PGm} {a b : Nat} (h : a ≤ b) (M : ShownSo G b) : ShownSo G a := ⟨M.1, fun t ht => M.2 t (by omega)⟩
theorem mono_leaves {G : PGm} {a b : Nat} (h : a ≤ b) (M : LeavesSo G b) : LeavesSo G a := ⟨M.1, fun t ht => M.2 t (by omega)⟩
theorem lawK : K06 (F.G 24) where
  cell := ⟨_, at_l_cell_at 23, fun ns => cell_val _ ns⟩
  tree := ⟨_, at_l_tree_by 23, fun cells nb => tree_ok (nameK 22) (lenK 22) (by decide) cells nb 15 (by decide) (by decide)⟩
  made := mono_made (by decide) (madeK 23)
  words := mono_words (by decide) (wordsK 23)
  tread := treadK
  shown := mono_shown (by decide) (shownK 23)
  leaves := mono_leaves (by decide) (leavesK 23)
  isaS := rfl

theorem all_mk {l : PySem.W.OpenLaw} {w : World} {K : PySem.W.Frag} {h : Heap} {mg : Str → Option Value} {fa : Addr} (X : K.In h) (G : h.Ns mainGlobals mg) (hfa : mg "law" = some (.ref fa)) {c0 : Addr} {c1 : Addr} {c2 : Addr} {c3 : Addr} {c4 : Addr} (A0 : FunAt K "is_number" (topS 10)) (A1 : FunAt K "length_read" (topS 11)) (A2 : FunAt K "length_shown" (topS 12)) (A3 : FunAt K "is_name" (topS 13)) (A4 : FunAt K "never" (topS 20)) (A5 : FunAt K "after" (topS 21)) (A6 : FunAt K "later" (topS 22)) (A7 : FunAt K "earlier" (topS 23)) (A8 : FunAt K "length_in" (topS 24)) (A9 : FunAt K "read_from" (topS 25)) (A10 : FunAt K "term_read" (topS 26)) (A11 : FunAt K "_law_cell_at" (topS 28)) (A12 : FunAt K "_law_name_by" (topS 29)) (A13 : FunAt K "_law_length_by" (topS 30)) (A14 : FunAt K "_law_tree_by" (topS 31)) (A15 : FunAt K "_law_made" (topS 32)) (A16 : FunAt K "_law_length" (topS 33)) (A17 : FunAt K "_law_words" (topS 34)) (AL : FunAt K "law" (topS 35)) (z : freeB K) (zgl0 : GlAt K "FIGURES" (.str "0123456789")) (zgl1 : GlAt K "LETTERS" (.str "abcdefghijklmnopqrstuvwxyz")) (zgl2 : GlAt K "YEAR" (.int 360)) (zgl3 : GlAt K "MONTH" (.int 30)) (zgl4 : GlAt K "MOST" (.int 61)) (b0 : PySem.W.nsIn K mainGlobals "str" = some none) (n_Term : PySem.W.nsIn K mainGlobals "Term" = some (some (.ref c0))) (n_After : PySem.W.nsIn K mainGlobals "After" = some (some (.ref c1))) (n_Later : PySem.W.nsIn K mainGlobals "Later" = some (some (.ref c2))) (n_Earlier : PySem.W.nsIn K mainGlobals "Earlier" = some (some (.ref c3))) (n_NoLength : PySem.W.nsIn K mainGlobals "NoLength" = some (some (.ref c4))) (o_Term : OwnC K c0) (m_Term_shown : MethAt K c0 "shown" "Term.shown" (inClass (topS 16) 1)) (m_Term_leaves : MethAt K c0 "leaves" "Term.leaves" (inClass (topS 16) 2)) (i_Term : Mk0 K c0) (f_Term_days : NoAttr K c0 "days") (f_Term_kind : NoAttr K c0 "kind") (f_Term_one : NoAttr K c0 "one") (f_Term_other : NoAttr K c0 "other") (o_After : OwnC K c1) (m_After_shown : MethAt K c1 "shown" "After.shown" (inClass (topS 17) 2)) (m_After_leaves : MethAt K c1 "leaves" "After.leaves" (inClass (topS 17) 3)) (i_After : InitAt K c1 "After.__init__" (inClass (topS 17) 0)) (f_After_days : NoAttr K c1 "days") (f_After_kind : NoAttr K c1 "kind") (f_After_one : NoAttr K c1 "one") (f_After_other : NoAttr K c1 "other") (o_Later : OwnC K c2) (m_Later_shown : MethAt K c2 "shown" "Later.shown" (inClass (topS 18) 2)) (m_Later_leaves : MethAt K c2 "leaves" "Later.leaves" (inClass (topS 18) 3)) (i_Later : InitAt K c2 "Later.__init__" (inClass (topS 18) 0)) (f_Later_days : NoAttr K c2 "days") (f_Later_kind : NoAttr K c2 "kind") (f_Later_one : NoAttr K c2 "one") (f_Later_other : NoAttr K c2 "other") (o_Earlier : OwnC K c3) (m_Earlier_shown : MethAt K c3 "shown" "Earlier.shown" (inClass (topS 19) 2)) (m_Earlier_leaves : MethAt K c3 "leaves" "Earlier.leaves" (inClass (topS 19) 3)) (i_Earlier : InitAt K c3 "Earlier.__init__" (inClass (topS 19) 0)) (f_Earlier_days : NoAttr K c3 "days") (f_Earlier_kind : NoAttr K c3 "kind") (f_Earlier_one : NoAttr K c3 "one") (f_Earlier_other : NoAttr K c3 "other") (inj : ∀ q ∈ ([("Term", c0), ("After", c1), ("Later", c2), ("Earlier", c3)] : List (Str × Addr)), ([("Term", c0), ("After", c1), ("Later", c2), ("Earlier", c3)] : List (Str × Addr)).find? (fun r => r.2 == q.2) = some q) :
    ∃ fd : FuncData, (∀ (s : Shared) (v : Value), BindsTo s fd ⟨[v], []⟩ [("_law_script", v)]) ∧ ∀ base : Heap, K.In base → base.Ns mainGlobals mg → FnOk l.prog w K mg base (L2.CX l.prog w) 27 fa fd ["_law_script"] spLawOf :=
  law_mk (d := 24) (p := pl K c0 c1 c2 c3 c4) (row_mk A0 A1 A2 A3 A4 A5 A6 A7 A8 A9 A10 A11 A12 A13 A14 A15 A16 A17 z zgl0 zgl1 zgl2 zgl3 zgl4 b0 n_Term n_After n_Later n_Earlier n_NoLength o_Term m_Term_shown m_Term_leaves i_Term f_Term_days f_Term_kind f_Term_one f_Term_other o_After m_After_shown m_After_leaves i_After f_After_days f_After_kind f_After_one f_After_other o_Later m_Later_shown m_Later_leaves i_Later f_Later_days f_Later_kind f_Later_one f_Later_other o_Earlier m_Earlier_shown m_Earlier_leaves i_Earlier f_Earlier_days f_Earlier_kind f_Earlier_one f_Earlier_other inj) once X G hfa AL sc_law ck_law (fun _ _ _ _ _ _ _ => rfl) rfl (by decide) tk_law (law_so lawK)
end R
open PySem PySem.W PyProof.Rows
set_option maxRecDepth 100000 in
set_option maxHeartbeats 0 in
theorem PySem.Challenge.cw_disposehall_k06_terms_as_words_holds : PySem.Challenge.rw_disposehall_k06_terms_as_words.Holds := by
  w_on; o_law; k_head; (case hw => w_witness2)
  k_fill
  refine L2.walk_ofB (l := PySem.Challenge.rw_disposehall_k06_terms_as_words) (n := 63) (k := 27) (x := "_law_script") (CX := fun w => L2.CX PySem.Challenge.rw_disposehall_k06_terms_as_words.prog w) (sp := fun _ => Vc.spLawOf) rfl (by decide) rfl ⟨rfl, by decide, by decide⟩ (fun w h Y => PySem.W.kIn_of Y) ?F ?S (fun w H s e s' h => Vc.no_exc _ w H s e s' h)
  case S => exact fun w H a ns hl hb hO hS => ⟨a, ns, rfl, Vc.scr_of (by kernel_rfl) hO hS hl hb, fun _ => rfl⟩
  case F =>
    intro w mg fa h KX G hmg
    refine' R.all_mk KX G hmg (Vc.fun_at ?a0 ?l0 ?c0 ?k0) (Vc.fun_at ?a1 ?l1 ?c1 ?k1) (Vc.fun_at ?a2 ?l2 ?c2 ?k2) (Vc.fun_at ?a3 ?l3 ?c3 ?k3) (Vc.fun_at ?a4 ?l4 ?c4 ?k4) (Vc.fun_at ?a5 ?l5 ?c5 ?k5) (Vc.fun_at ?a6 ?l6 ?c6 ?k6) (Vc.fun_at ?a7 ?l7 ?c7 ?k7) (Vc.fun_at ?a8 ?l8 ?c8 ?k8) (Vc.fun_at ?a9 ?l9 ?c9 ?k9) (Vc.fun_at ?a10 ?l10 ?c10 ?k10) (Vc.fun_at ?a11 ?l11 ?c11 ?k11) (Vc.fun_at ?a12 ?l12 ?c12 ?k12) (Vc.fun_at ?a13 ?l13 ?c13 ?k13) (Vc.fun_at ?a14 ?l14 ?c14 ?k14) (Vc.fun_at ?a15 ?l15 ?c15 ?k15) (Vc.fun_at ?a16 ?l16 ?c16 ?k16) (Vc.fun_at ?a17 ?l17 ?c17 ?k17) (Vc.fun_at ?aL ?lL ?cL ?kL) (Vc.free_mk ?z0 ?z1 ?z2 ?z3 ?z4 ?z5 ?z6 ?z7 ?z8 ?z9 ?z10 ?z11 ?z12 ?z13) ?zgl0 ?zgl1 ?zgl2 ?zgl3 ?zgl4 ?b0 ?n_Term ?n_After ?n_Later ?n_Earlier ?n_NoLength ?o_Term ?m_Term_shown ?m_Term_leaves ?i_Term ?f_Term_days ?f_Term_kind ?f_Term_one ?f_Term_other ?o_After ?m_After_shown ?m_After_leaves ?i_After ?f_After_days ?f_After_kind ?f_After_one ?f_After_other ?o_Later ?m_Later_shown ?m_Later_leaves ?i_Later ?f_Later_days ?f_Later_kind ?f_Later_one ?f_Later_other ?o_Earlier ?m_Earlier_shown ?m_Earlier_leaves ?i_Earlier ?f_Earlier_days ?f_Earlier_kind ?f_Earlier_one ?f_Earlier_other ?inj
    case zgl0 => exact Vc.gl_str (by k_is)
    case zgl1 => exact Vc.gl_str (by k_is)
    case zgl2 => exact Vc.gl_int (by k_is)
    case zgl3 => exact Vc.gl_int (by k_is)
    case zgl4 => exact Vc.gl_int (by k_is)
    case b0 => k_is
    case n_Term => k_is
    case n_After => k_is
    case n_Later => k_is
    case n_Earlier => k_is
    case n_NoLength => k_is
    case o_Term => exact Vc.own_mk (by k_is) (by k_is) (by k_is) (by k_is) (by k_is) (by k_is) (by k_is) (by k_is)
    case m_Term_shown => (refine' Vc.meth_at ?a ?b ?l ?c ?k; (case a => k_is); (case b => k_is); (case l => k_is); (case c => k_is); (case k => k_is))
    case m_Term_leaves => (refine' Vc.meth_at ?a ?b ?l ?c ?k; (case a => k_is); (case b => k_is); (case l => k_is); (case c => k_is); (case k => k_is))
    case i_Term => exact ⟨by k_is, by k_is, by k_is, by k_is⟩
    case f_Term_days => (show PySem.W.findIn _ _ _ = _; k_is)
    case f_Term_kind => (show PySem.W.findIn _ _ _ = _; k_is)
    case f_Term_one => (show PySem.W.findIn _ _ _ = _; k_is)
    case f_Term_other => (show PySem.W.findIn _ _ _ = _; k_is)
    case o_After => exact Vc.own_mk (by k_is) (by k_is) (by k_is) (by k_is) (by k_is) (by k_is) (by k_is) (by k_is)
    case m_After_shown => (refine' Vc.meth_at ?a ?b ?l ?c ?k; (case a => k_is); (case b => k_is); (case l => k_is); (case c => k_is); (case k => k_is))
    case m_After_leaves => (refine' Vc.meth_at ?a ?b ?l ?c ?k; (case a => k_is); (case b => k_is); (case l => k_is); (case c => k_is); (case k => k_is))
    case i_After => (refine' Vc.init_at ?z ?a ?b ?y ?l ?c ?k; (case z => k_is); (case a => k_is); (case b => k_is); (case y => k_is); (case l => k_is); (case c => k_is); (case k => k_is))
    case f_After_days => (show PySem.W.findIn _ _ _ = _; k_is)
    case f_After_kind => (show PySem.W.findIn _ _ _ = _; k_is)
    case f_After_one => (show PySem.W.findIn _ _ _ = _; k_is)
    case f_After_other => (show PySem.W.findIn _ _ _ = _; k_is)
    case o_Later => exact Vc.own_mk (by k_is) (by k_is) (by k_is) (by k_is) (by k_is) (by k_is) (by k_is) (by k_is)
    case m_Later_shown => (refine' Vc.meth_at ?a ?b ?l ?c ?k; (case a => k_is); (case b => k_is); (case l => k_is); (case c => k_is); (case k => k_is))
    case m_Later_leaves => (refine' Vc.meth_at ?a ?b ?l ?c ?k; (case a => k_is); (case b => k_is); (case l => k_is); (case c => k_is); (case k => k_is))
    case i_Later => (refine' Vc.init_at ?z ?a ?b ?y ?l ?c ?k; (case z => k_is); (case a => k_is); (case b => k_is); (case y => k_is); (case l => k_is); (case c => k_is); (case k => k_is))
    case f_Later_days => (show PySem.W.findIn _ _ _ = _; k_is)
    case f_Later_kind => (show PySem.W.findIn _ _ _ = _; k_is)
    case f_Later_one => (show PySem.W.findIn _ _ _ = _; k_is)
    case f_Later_other => (show PySem.W.findIn _ _ _ = _; k_is)
    case o_Earlier => exact Vc.own_mk (by k_is) (by k_is) (by k_is) (by k_is) (by k_is) (by k_is) (by k_is) (by k_is)
    case m_Earlier_shown => (refine' Vc.meth_at ?a ?b ?l ?c ?k; (case a => k_is); (case b => k_is); (case l => k_is); (case c => k_is); (case k => k_is))
    case m_Earlier_leaves => (refine' Vc.meth_at ?a ?b ?l ?c ?k; (case a => k_is); (case b => k_is); (case l => k_is); (case c => k_is); (case k => k_is))
    case i_Earlier => (refine' Vc.init_at ?z ?a ?b ?y ?l ?c ?k; (case z => k_is); (case a => k_is); (case b => k_is); (case y => k_is); (case l => k_is); (case c => k_is); (case k => k_is))
    case f_Earlier_days => (show PySem.W.findIn _ _ _ = _; k_is)
    case f_Earlier_kind => (show PySem.W.findIn _ _ _ = _; k_is)
    case f_Earlier_one => (show PySem.W.findIn _ _ _ = _; k_is)
    case f_Earlier_other => (show PySem.W.findIn _ _ _ = _; k_is)
    case inj => exact (by decide +kernel)
    (case a0 => k_is); (case l0 => k_is); (case c0 => k_is); (case k0 => k_is)
    (case a1 => k_is); (case l1 => k_is); (case c1 => k_is); (case k1 => k_is)
    (case a2 => k_is); (case l2 => k_is); (case c2 => k_is); (case k2 => k_is)
    (case a3 => k_is); (case l3 => k_is); (case c3 => k_is); (case k3 => k_is)
    (case a4 => k_is); (case l4 => k_is); (case c4 => k_is); (case k4 => k_is)
    (case a5 => k_is); (case l5 => k_is); (case c5 => k_is); (case k5 => k_is)
    (case a6 => k_is); (case l6 => k_is); (case c6 => k_is); (case k6 => k_is)
    (case a7 => k_is); (case l7 => k_is); (case c7 => k_is); (case k7 => k_is)
    (case a8 => k_is); (case l8 => k_is); (case c8 => k_is); (case k8 => k_is)
    (case a9 => k_is); (case l9 => k_is); (case c9 => k_is); (case k9 => k_is)
    (case a10 => k_is); (case l10 => k_is); (case c10 => k_is); (case k10 => k_is)
    (case a11 => k_is); (case l11 => k_is); (case c11 => k_is); (case k11 => k_is)
    (case a12 => k_is); (case l12 => k_is); (case c12 => k_is); (case k12 => k_is)
    (case a13 => k_is); (case l13 => k_is); (case c13 => k_is); (case k13 => k_is)
    (case a14 => k_is); (case l14 => k_is); (case c14 => k_is); (case k14 => k_is)
    (case a15 => k_is); (case l15 => k_is); (case c15 => k_is); (case k15 => k_is)
    (case a16 => k_is); (case l16 => k_is); (case c16 => k_is); (case k16 => k_is)
    (case a17 => k_is); (case l17 => k_is); (case c17 => k_is); (case k17 => k_is)
    (case aL => k_is); (case lL => k_is); (case cL => k_is); (case kL => k_is)
    (case z0 => k_is); (case z1 => k_is); (case z2 => k_is); (case z3 => k_is); (case z4 => k_is); (case z5 => k_is); (case z6 => k_is); (case z7 => k_is); (case z8 => k_is); (case z9 => k_is); (case z10 => k_is); (case z11 => k_is); (case z12 => k_is); (case z13 => k_is)
