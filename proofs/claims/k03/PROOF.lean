import PyProof.Rows.All
import Wide.All
import OpenK.AllK
import Wide.FinOn
import HandS.ForMost
import HandS.Exc
import HandS.ExcOwn
import HandS.TryOnly
import HandS.WordsExc
import HandS.StrMore
import HandS.IsInst
import HandS.ExcIs
import HandS.Wide
import HandS.Replace
import HandS.EndBits
import PySem.Challenge.RW_disposehall_k03_no_day_no_length
set_option Elab.async false
set_option linter.all false
set_option maxRecDepth 100000
set_option maxHeartbeats 1000000
namespace Vc
open PySem PySem.Spec PyProof.Rows L2

/-! ### my own tree of a def's body: places for names, no positions -/
inductive Bi | len | str | int | abs | max | min | divmod | any | list | dict | sorted
  deriving DecidableEq
def Bi.nm : Bi → Str
  | .len => "len" | .str => "str" | .int => "int" | .abs => "abs" | .max => "max" | .min => "min" | .divmod => "divmod"
  | .any => "any" | .list => "list" | .dict => "dict" | .sorted => "sorted"
inductive Bm | append | pop | split | partition | join | zfill | index | get | extend
  deriving DecidableEq
def Bm.nm : Bm → Str
  | .append => "append" | .pop => "pop" | .split => "split" | .partition => "partition" | .join => "join" | .zfill => "zfill" | .index => "index"
  | .get => "get" | .extend => "extend"
inductive Tg
  | nm (i : Nat)
  | tp (is : List Nat)
mutual
inductive Ex
  | v (i : Nat)
  | ki (n : Int)
  | ks (s : Str)
  | kb (b : Bool)
  | kn
  | g (x : Str)
  | op (o : Operator) (a b : Ex)
  | cmp (o : CmpOp) (a b : Ex)
  | chain (o o' : CmpOp) (a b c : Ex)
  | and (a b : Ex)
  | or (a b : Ex)
  | not (a : Ex)
  | neg (a : Ex)
  | ife (c a b : Ex)
  | call (f : Str) (es : Exs)
  | bi (f : Bi) (es : Exs)
  | isi (a : Ex) (c : Str)
  | isiT (a : Ex) (cs : List Str)
  | bm (m : Bm) (o : Ex) (es : Exs)
  | ix (a i : Ex)
  | sl (a : Ex) (lo hi : OEx)
  | lst (es : Exs)
  | tup (es : Exs)
inductive Exs
  | nil
  | cons (e : Ex) (r : Exs)
inductive OEx
  | none
  | some (e : Ex)
end

/-- what the surroundings give -/
structure Gam where
  K : PySem.W.Frag
  fn : Str → Option Sp
  cls : Str → Option V
  gl : Str → Option V
  exc : Str → Option Addr

/-! ### reading an object -/
def rd (H : Hp) (p : Addr) : Option HO :=
  match H p with
  | some (.frz _ u) => some u
  | x => x
theorem rd_Rd {H : Hp} {p : Addr} {u : HO} (h : rd H p = some u) : Rd H p u := by
  unfold rd at h
  split at h
  · rename_i o u' e
    cases h
    exact .inr ⟨o, e⟩
  · exact .inl h
theorem rd_lst {K : PySem.W.Frag} {H : Hp} {p : Addr} {xs : List V} (h : rd H p = some (.lst xs)) : SqL K H p xs := .inl (rd_Rd h)
theorem rd_tup {K : PySem.W.Frag} {H : Hp} {p : Addr} {xs : List V} (h : rd H p = some (.tup xs)) : SqT K H p xs := .inl (rd_Rd h)
theorem rd_dK {H : Hp} {p : Addr} {kvs : List (Key × V)} (h : rd H p = some (.dK kvs)) : Rd H p (.dK kvs) := rd_Rd h
/-- an object that isn't frozen is read as it is -/
def frzB : HO → Bool
  | .frz _ _ => true
  | _ => false
theorem rd_of {H : Hp} {p : Addr} {u : HO} (h : H p = some u) (f : frzB u = false := by rfl) : rd H p = some u := by
  unfold rd
  rw [h]
  cases u <;> first | rfl | cases f
theorem rd_frz {H : Hp} {p : Addr} {o : Obj} {u : HO} (h : H p = some (.frz o u)) : rd H p = some u := by
  unfold rd
  rw [h]

/-! ### what operations give, by values -/
def addR (K : PySem.W.Frag) (x y : V) (H : Hp) (Q : VK) : Prop :=
  match x, y with
  | .int i, .int j => Q (.int (i + j)) H
  | .str a, .str b => a.length + b.length ≤ sizeLine ∧ Q (.str (a ++ b)) H
  | .ref p, .ref q => (match rd H p, rd H q with
      | some (.lst xs), some (.lst ys) => xs.length + ys.length ≤ sizeLine ∧ ∀ r, H r = none → Q (.ref r) (upd H r (.lst (xs ++ ys)))
      | _, _ => False)
  | _, _ => False
def subR (x y : V) (H : Hp) (Q : VK) : Prop :=
  match x, y with
  | .int i, .int j => Q (.int (i - j)) H
  | _, _ => False
def mulR (x y : V) (H : Hp) (Q : VK) : Prop :=
  match x, y with
  | .int i, .int j => IntMulOk i j ∧ Q (.int (i * j)) H
  | _, _ => False
def divR (x y : V) (H : Hp) (Q : VK) : Prop :=
  match x, y with
  | .int i, .int j => (0 < j ∧ j < 1073741824) ∧ Q (.int (i / j)) H
  | _, _ => False
def modR (x y : V) (H : Hp) (Q : VK) : Prop :=
  match x, y with
  | .int i, .int j => 0 < j ∧ Q (.int (i % j)) H
  | _, _ => False
def powR (x y : V) (H : Hp) (Q : VK) : Prop :=
  match x, y with
  | .int i, .int j => CPow i j ∧ Q (.int (i ^ j.toNat)) H
  | _, _ => False
def opR (K : PySem.W.Frag) : Operator → V → V → Hp → VK → Prop
  | .Add => addR K
  | .Sub => subR
  | .Mult => mulR
  | .FloorDiv => divR
  | .Mod => modR
  | .Pow => powR
  | _ => fun _ _ _ _ => False

/-- == by values: b is its answer -/
def EqB (K : PySem.W.Frag) (H : Hp) (x y : V) (b : Bool) : Prop :=
  (scal x y = true ∧ b = decide (x = y)) ∨ ∃ d e, Dp K H x d ∧ Dp K H y e ∧ SeqAt.shaped d = true ∧ SeqAt.shaped e = true ∧ b = PyData.eqv d e
def eqR (K : PySem.W.Frag) (neg : Bool) (x y : V) (H : Hp) (Q : VK) : Prop :=
  match x, y with
  | .int i, .int j => Q (.bl (neg ^^ decide (i = j))) H
  | .str a, .str b => Q (.bl (neg ^^ decide (a = b))) H
  | .bl a, .bl b => Q (.bl (neg ^^ decide (a = b))) H
  | _, _ => ∃ b, EqB K H x y b ∧ Q (.bl (neg ^^ b)) H
def ltR (p : Int → Int → Bool) (x y : V) (H : Hp) (Q : VK) : Prop :=
  match x, y with
  | .int i, .int j => Q (.bl (p i j)) H
  | _, _ => False
def isR (neg : Bool) (x y : V) (H : Hp) (Q : VK) : Prop :=
  match y with
  | .non => Q (.bl (neg ^^ decide (x = .non))) H
  | _ => False
def keyOf : V → Option Key
  | .int i => some (.inl i)
  | .str s => some (.inr s)
  | _ => none
def memO (u : HO) (neg : Bool) (x : V) (H : Hp) (Q : VK) : Prop :=
  match u with
  | .lst xs => flatV x = true ∧ xs.all flatV = true ∧ Q (.bl (neg ^^ inV x xs)) H
  | .tup xs => flatV x = true ∧ xs.all flatV = true ∧ Q (.bl (neg ^^ inV x xs)) H
  | .dK kvs => (match keyOf x with
      | some k => Q (.bl (neg ^^ (valV kvs k).isSome)) H
      | none => False)
  | _ => False
def memR (K : PySem.W.Frag) (neg : Bool) (x y : V) (H : Hp) (Q : VK) : Prop :=
  match y with
  | .str z => (match x with
      | .str a => (match a.cps.toList with
          | [c] => Q (.bl (neg ^^ decide (c ∈ z.cps.toList))) H
          | _ => False)
      | _ => False)
  | .ref p => (match rd H p with
      | some u => memO u neg x H Q
      | none => False)
  | _ => False
def cmpR (K : PySem.W.Frag) : CmpOp → V → V → Hp → VK → Prop
  | .Eq => eqR K false
  | .NotEq => eqR K true
  | .Lt => ltR fun i j => decide (i < j)
  | .LtE => ltR fun i j => decide (i ≤ j)
  | .Gt => ltR fun i j => decide (j < i)
  | .GtE => ltR fun i j => decide (j ≤ i)
  | .Is => isR false
  | .IsNot => isR true
  | .In => memR K false
  | .NotIn => memR K true
def lenO (u : HO) (H : Hp) (Q : VK) : Prop :=
  match u with
  | .lst xs => Q (.int xs.length) H
  | .tup xs => Q (.int xs.length) H
  | .dK kvs => Q (.int kvs.length) H
  | _ => False
def lenR (K : PySem.W.Frag) (x : V) (H : Hp) (Q : VK) : Prop :=
  match x with
  | .str z => z.length ≤ sizeLine ∧ Q (.int z.length) H
  | .ref p => (match rd H p with
      | some u => lenO u H Q
      | none => False)
  | _ => False
def truO (u : HO) (H : Hp) (Q : Bool → Hp → Prop) : Prop :=
  match u with
  | .lst xs => Q (!xs.isEmpty) H
  | .tup xs => Q (!xs.isEmpty) H
  | _ => False
def truR (K : PySem.W.Frag) (x : V) (H : Hp) (Q : Bool → Hp → Prop) : Prop :=
  match x with
  | .non => Q false H
  | .bl b => Q b H
  | .int i => Q (i != 0) H
  | .ref p => (match rd H p with
      | some u => truO u H Q
      | none => False)
  | _ => False
def strR (x : V) (H : Hp) (Q : VK) : Prop :=
  match x with
  | .int i => i.natAbs.log2 < 1920 ∧ Q (.str (toString i)) H
  | _ => False
def intR (x : V) (H : Hp) (Q : VK) : Prop :=
  match x with
  | .int i => Q (.int i) H
  | .bl b => Q (.int (if b then 1 else 0)) H
  | .str a => ∃ n, PySem.intText? a = some n ∧ a.length ≤ 640 ∧ Q (.int n) H
  | _ => False
def biR (K : PySem.W.Frag) (f : Bi) (xs : List V) (H : Hp) (Q : VK) : Prop :=
  match f, xs with
  | .len, [x] => lenR K x H Q
  | .str, [x] => strR x H Q
  | .int, [x] => intR x H Q
  | .abs, [.int i] => Q (.int (if i < 0 then -i else i)) H
  | .max, [.int i, .int j] => Q (.int (if j > i then j else i)) H
  | .min, [.int i, .int j] => Q (.int (if j < i then j else i)) H
  | .divmod, [.int i, .int j] => (0 < j ∧ j < 1073741824) ∧ ∀ p, H p = none → Q (.ref p) (upd H p (.tup [.int (i / j), .int (i % j)]))
  | _, _ => False
/-- a caught exception as a thing of the heap -/
def excO (a : Addr) (cls : Value) (d : Option Addr) : HO := .ext fun h => ∃ o vs, h.get? a = some o ∧ o.cls = cls ∧ o.dict = d ∧ o.data = .fields vs
/-- isinstance by values -/
def isiR (K : PySem.W.Frag) (x c : V) (H : Hp) (Q : VK) : Prop := rIsi K [x, c] H Q ∨
  ∃ a D u b, x = .ref a ∧ H a = some (excO a (.ref D) none) ∧ ExcC K D ∧ ClsV c u ∧ PySem.W.kitOne K (.ref D) u = some b ∧ Q (.bl b) H
/-- isinstance of a tuple of classes, that was laid at p -/
def isiTR (K : PySem.W.Frag) (x : V) (p : Addr) (cs : List V) (H : Hp) (Q : VK) : Prop := rIsiT K [x, .ref p] H Q ∨
  ∃ a D us b, x = .ref a ∧ H a = some (excO a (.ref D) none) ∧ ExcC K D ∧ Paired ClsV cs us ∧ H p = some (.tup cs) ∧ PySem.W.kitAny K (.ref D) us = some b ∧ Q (.bl b) H
def bmR (K : PySem.W.Frag) (m : Bm) (x : V) (xs : List V) (H : Hp) (Q : VK) : Prop :=
  match m, x, xs with
  | .append, .ref l, [y] => (match H l with
      | some (.lst ys) => ys.length < sizeLine ∧ Q .non (upd H l (.lst (ys ++ [y])))
      | _ => False)
  | .split, .str a, [.str b] => (b.length == 0) = false ∧ a.length + 2 ≤ sizeLine ∧ ∀ p, H p = none → Q (.ref p) (upd H p (.lst ((Txt.split a b).map V.str)))
  | .zfill, .str a, [.int i] => PadOk i = true ∧ Q (.str (Txt.zfill a i)) H
  | .join, .str a, [.ref p] => (match rd H p with
      | some (.lst ys) => ∃ zs : List Str, ys = zs.map V.str ∧ (zs.map (fun x => x.length)).sum + zs.length * a.length ≤ 16777216 ∧ Q (.str (Txt.join a zs)) H
      | _ => False)
  | .pop, .ref l, [] => (match H l with
      | some (.lst ys) => ∃ y, ys[ys.length - 1]? = some y ∧ Q y (upd H l (.lst ys.dropLast))
      | _ => False)
  | .extend, .ref l, [.ref b] => (match H l, H b with
      | some (.lst ys), some (.lst zs) => ys.length + zs.length ≤ sizeLine ∧ Q .non (upd H l (.lst (ys ++ zs)))
      | _, _ => False)
  | .partition, .str a, [.str b] => (b.length == 0) = false ∧ a.length ≤ sizeLine ∧
      ∀ p, H p = none → Q (.ref p) (upd H p (.tup [.str (Txt.partition a b).1, .str (Txt.partition a b).2.1, .str (Txt.partition a b).2.2]))
  | .index, .str a, [.str b] => ∃ i rest, Builtin.Str.occurrences a b 0 a.length 1 = i :: rest ∧ Q (.int (i : Nat)) H
  | .get, .ref p, [k, d] => (match rd H p with
      | some (.dK kvs) => (match keyOf k with
          | some k => Q ((valV kvs k).getD d) H
          | none => False)
      | _ => False)
  | _, _, _ => False
/-- of which kind a method's receiver is -/
def bmT (m : Bm) (x : V) (H : Hp) : Prop :=
  match m, x with
  | .append, .ref l => (match H l with
      | some (.lst _) => True
      | _ => False)
  | .pop, .ref l => (match H l with
      | some (.lst _) => True
      | _ => False)
  | .extend, .ref l => (match H l with
      | some (.lst _) => True
      | _ => False)
  | .get, .ref l => (match H l with
      | some (.dK _) => True
      | some (.frz _ (.dK _)) => True
      | _ => False)
  | .split, .str _ => True
  | .partition, .str _ => True
  | .join, .str _ => True
  | .zfill, .str _ => True
  | .index, .str _ => True
  | _, _ => False
def ixO (u : HO) (i : V) (H : Hp) (Q : VK) : Prop :=
  match u with
  | .lst xs => (match i with
      | .int k => ∃ v, atI xs k = some v ∧ Q v H
      | _ => False)
  | .tup xs => (match i with
      | .int k => ∃ v, atI xs k = some v ∧ Q v H
      | _ => False)
  | .dK kvs => (match keyOf i with
      | some k => ∃ v, valV kvs k = some v ∧ Q v H
      | none => False)
  | _ => False
def ixR (K : PySem.W.Frag) (x i : V) (H : Hp) (Q : VK) : Prop :=
  match x with
  | .str z => (match i with
      | .int k => z.length ≤ sizeLine ∧ ∃ c, atI z.cps.toList k = some c ∧ Q (.str ⟨#[c]⟩) H
      | _ => False)
  | .ref p => (match rd H p with
      | some u => ixO u i H Q
      | none => False)
  | _ => False
def slR (K : PySem.W.Frag) (x : V) (lo hi : Option Int) (H : Hp) (Q : VK) : Prop :=
  match x with
  | .str z => z.length ≤ sizeLine ∧ Q (.str (cutS z lo hi)) H
  | .ref p => (match rd H p with
      | some (.lst xs) => ∀ r, H r = none → Q (.ref r) (upd H r (.lst (cutV xs lo hi)))
      | _ => False)
  | _ => False

/-! ### the readings, computed -/
def vR (i : Nat) : TE := fun σ H Q => match σ[i]? with
  | some (some v) => Q v H
  | _ => False
abbrev W0 : WX := fun _ _ _ _ => False
def tTr (K : PySem.W.Frag) (t : TE) : TT := fun σ H Q => t σ H fun x H' => truR K x H' Q
mutual
/-- as a value, as a test -/
def wP (G : Gam) : Ex → WX → TE × TT
  | .v i, _ => (vR i, tTr G.K (vR i))
  | .ki n, _ => (tC (.int n), tTr G.K (tC (.int n)))
  | .ks s, _ => (tC (.str s), tTr G.K (tC (.str s)))
  | .kb b, _ => (tC (.bl b), tTr G.K (tC (.bl b)))
  | .kn, _ => (tC .non, tTr G.K (tC .non))
  | .g x, _ =>
    let t : TE := fun _ H Q => ∃ v, G.gl x = some v ∧ Q v H
    (t, tTr G.K t)
  | .op o a b, W =>
    let t := tOp (opR G.K o) (wP G a W).1 (wP G b W).1
    (t, tTr G.K t)
  | .cmp o a b, W =>
    let t := tOp (cmpR G.K o) (wP G a W).1 (wP G b W).1
    (t, tTest t)
  | .chain o o' a b c, W =>
    let t := tChain (cmpR G.K o) (cmpR G.K o') (wP G a W).1 (wP G b W).1 (wP G c W).1
    (t, tTest t)
  | .and a b, W => (tAndV (wP G a W).1 (wP G b W).1, tAnd (wP G a W).2 (wP G b W).2)
  | .or a b, W => (tOrV (wP G a W).1 (wP G b W).1, tOr (wP G a W).2 (wP G b W).2)
  | .not a, W => (tNotV (wP G a W).1, tNot (wP G a W).2)
  | .neg a, W =>
    let t := tUn (rU fun i => .int (-i)) (wP G a W).1
    (t, tTr G.K t)
  | .ife c a b, W =>
    let t := tIf (wP G c W).2 (wP G a W).1 (wP G b W).1
    (t, tTr G.K t)
  | .call f es, W =>
    let t : TE := fun σ H Q => ∃ sp, G.fn f = some sp ∧ wPs G es W σ H fun vs H1 => sp vs H1 Q (WE W σ)
    (t, tTr G.K t)
  | .bi f es, W =>
    let t := tCB (biR G.K f) (wPs G es W)
    (t, tTr G.K t)
  | .isi a c, W =>
    let t : TE := fun σ H Q => (wP G a W).1 σ H fun x H1 => ∃ v, G.cls c = some v ∧ isiR G.K x v H1 Q
    (t, tTr G.K t)
  | .isiT a cs, W =>
    let t : TE := fun σ H Q => (wP G a W).1 σ H fun x H1 => ∃ vs, cs.mapM G.cls = some vs ∧ ∀ p, H1 p = none → isiTR G.K x p vs (upd H1 p (.tup vs)) Q
    (t, tTr G.K t)
  | .bm m o es, W =>
    let t : TE := fun σ H Q => (wP G o W).1 σ H fun x H1 => bmT m x H1 ∧ wPs G es W σ H1 fun xs H2 => bmR G.K m x xs H2 Q
    (t, tTr G.K t)
  | .ix a i, W =>
    let t := tOp (ixR G.K) (wP G a W).1 (wP G i W).1
    (t, tTr G.K t)
  | .sl a lo hi, W =>
    let t := tSl (slR G.K) (wP G a W).1 (wPo G lo W) (wPo G hi W)
    (t, tTr G.K t)
  | .lst es, W =>
    let t := tLst (wPs G es W)
    (t, tTr G.K t)
  | .tup es, W =>
    let t := tTup (wPs G es W)
    (t, tTr G.K t)
def wPs (G : Gam) : Exs → WX → TA
  | .nil, _ => tNil
  | .cons e r, W => tCons (wP G e W).1 (wPs G r W)
def wPo (G : Gam) : OEx → WX → TO
  | .none, _ => tNoPart
  | .some e, W => tPart (wP G e W).1
end
end Vc

set_option Elab.async false
set_option linter.all false
set_option maxRecDepth 100000
set_option maxHeartbeats 1000000
namespace Vc
open PySem PySem.Spec PyProof.Rows L2
/-! ### each operation's reading is right -/
section
variable {X : Cx}
theorem xor_f (b : Bool) : (false ^^ b) = b := by cases b <;> rfl
theorem xor_t (b : Bool) : (true ^^ b) = !b := by cases b <;> rfl
theorem addR_ok : OpR X (binaryOp .Add) (addR X.K) := by
  intro pins s σ H x y v u Q I rx ry h
  unfold addR at h
  split at h
  · exact op_add pins s σ H _ _ v u Q I rx ry ⟨_, _, rfl, rfl, h⟩
  · exact op_add_str pins s σ H _ _ v u Q I rx ry ⟨_, _, rfl, rfl, h.1, h.2⟩
  · split at h
    · rename_i xs ys e1 e2
      obtain ⟨hz, q⟩ := h
      cases rx
      cases ry
      obtain ⟨its, r, ⟨o, n, e, hc, hd, hs⟩, _⟩ := I.list (rd_lst e1)
      obtain ⟨its2, r2, ⟨o2, n2, e2', hc2, hd2, hs2⟩, _⟩ := I.list (rd_lst e2)
      have l1 := r.length
      have l2 := r2.length
      obtain ⟨c1, dd1, da1, sl1⟩ := o
      obtain ⟨c2, dd2, da2, sl2⟩ := o2
      simp only at hc hd hs hc2 hd2 hs2
      subst hc hd hs hc2 hd2 hs2
      refine concat_meets ⟨_, e, rfl⟩ ⟨_, e2', rfl⟩ noFill_list_add seq_list_add PySem.F.slot_list_add PySem.F.entry_list_add (PySem.F.args_list_add_2 _ _) (list_addW _ _ its.toArray its2.toArray n n2 none none sl1 sl2 (by rw [List.size_toArray, List.size_toArray]; omega)) ⟨e, e2', ?_⟩
      have ea : its.toArray ++ its2.toArray = (its ++ its2).toArray := by simp
      rw [ea]
      exact ⟨.ref _, _, I.lnew (t' := s.toks) (r.append r2) (by rw [List.length_append]; omega), rfl, q _ I.fresh⟩
    · exact h.elim
  · exact h.elim
theorem subR_ok : OpR X (binaryOp .Sub) subR := by
  intro pins s σ H x y v u Q I rx ry h
  unfold subR at h
  split at h
  · exact op_sub pins s σ H _ _ v u Q I rx ry ⟨_, _, rfl, rfl, h⟩
  · exact h.elim
theorem op_mulA : OpR X (binaryOp .Mult) (rI IntMulOk fun i j => .int (i * j)) := opI fun _ _ _ _ _ _ _ hc q => mul_int q hc
theorem mulR_ok : OpR X (binaryOp .Mult) mulR := by
  intro pins s σ H x y v u Q I rx ry h
  unfold mulR at h
  split at h
  · exact op_mulA pins s σ H _ _ v u Q I rx ry ⟨_, _, rfl, rfl, h.1, h.2⟩
  · exact h.elim
theorem divR_ok : OpR X (binaryOp .FloorDiv) divR := by
  intro pins s σ H x y v u Q I rx ry h
  unfold divR at h
  split at h
  · exact op_fdiv pins s σ H _ _ v u Q I rx ry ⟨_, _, rfl, rfl, h.1, h.2⟩
  · exact h.elim
theorem modR_ok : OpR X (binaryOp .Mod) modR := by
  intro pins s σ H x y v u Q I rx ry h
  unfold modR at h
  split at h
  · exact op_mod pins s σ H _ _ v u Q I rx ry ⟨_, _, rfl, rfl, h.1, h.2⟩
  · exact h.elim
theorem powR_ok : OpR X (binaryOp .Pow) powR := by
  intro pins s σ H x y v u Q I rx ry h
  unfold powR at h
  split at h
  · exact op_pow pins s σ H _ _ v u Q I rx ry ⟨_, _, rfl, rfl, h.1, h.2⟩
  · exact h.elim
theorem opR_ok : ∀ o : Operator, OpR X (binaryOp o) (opR X.K o)
  | .Add => addR_ok
  | .Sub => subR_ok
  | .Mult => mulR_ok
  | .FloorDiv => divR_ok
  | .Mod => modR_ok
  | .Pow => powR_ok
  | .Div => fun _ _ _ _ _ _ _ _ _ _ _ _ h => h.elim
  | .MatMult => fun _ _ _ _ _ _ _ _ _ _ _ _ h => h.elim
  | .LShift => fun _ _ _ _ _ _ _ _ _ _ _ _ h => h.elim
  | .RShift => fun _ _ _ _ _ _ _ _ _ _ _ _ h => h.elim
  | .BitOr => fun _ _ _ _ _ _ _ _ _ _ _ _ h => h.elim
  | .BitXor => fun _ _ _ _ _ _ _ _ _ _ _ _ h => h.elim
  | .BitAnd => fun _ _ _ _ _ _ _ _ _ _ _ _ h => h.elim
theorem eqR_ok (hu : X.A.units + 64 < cLine) : OpR X (compareOp .Eq) (eqR X.K false) := by
  intro pins s σ H x y v u Q I rx ry h
  unfold eqR at h
  simp only [xor_f] at h
  split at h
  · exact op_eq pins s σ H _ _ v u Q I rx ry ⟨rfl, by simpa using h⟩
  · exact op_eq pins s σ H _ _ v u Q I rx ry ⟨rfl, by simpa using h⟩
  · exact op_eq pins s σ H _ _ v u Q I rx ry ⟨rfl, by simpa using h⟩
  · obtain ⟨b, e, q⟩ := h
    rcases e with ⟨e1, rfl⟩ | ⟨d, e, h1, h2, h3, h4, rfl⟩
    · exact op_eq pins s σ H _ _ v u Q I rx ry ⟨e1, q⟩
    · exact op_eqD hu pins s σ H _ _ v u Q I rx ry ⟨d, e, h1, h2, h3, h4, q⟩
theorem neR_ok (hu : X.A.units + 64 < cLine) : OpR X (compareOp .NotEq) (eqR X.K true) := by
  intro pins s σ H x y v u Q I rx ry h
  unfold eqR at h
  simp only [xor_t] at h
  split at h
  · exact op_ne pins s σ H _ _ v u Q I rx ry ⟨rfl, by simpa using h⟩
  · exact op_ne pins s σ H _ _ v u Q I rx ry ⟨rfl, by simpa using h⟩
  · exact op_ne pins s σ H _ _ v u Q I rx ry ⟨rfl, by simpa using h⟩
  · obtain ⟨b, e, q⟩ := h
    rcases e with ⟨e1, rfl⟩ | ⟨d, e, h1, h2, h3, h4, rfl⟩
    · exact op_ne pins s σ H _ _ v u Q I rx ry ⟨e1, q⟩
    · exact op_neD hu pins s σ H _ _ v u Q I rx ry ⟨d, e, h1, h2, h3, h4, q⟩
theorem str_one {a : Str} {c : Nat} (h : a.cps.toList = [c]) : a = ⟨#[c]⟩ := by
  obtain ⟨cps⟩ := a
  congr 1
  exact Array.toList_inj.mp (by rw [h])
theorem keyOf_kV {x : V} {k : Key} (h : keyOf x = some k) : x = kV k := by
  unfold keyOf at h
  split at h
  · cases h; rfl
  · cases h; rfl
  · cases h
theorem memR_ok (hu : X.A.units + 1 < cLine) : OpR X (compareOp .In) (memR X.K false) := by
  intro pins s σ H x y v u Q I rx ry h
  unfold memR at h
  simp only [xor_f] at h
  split at h
  · split at h
    · split at h
      · rename_i a _ c e
        rw [str_one e] at rx
        exact op_in_sign pins s σ H _ _ v u Q I rx ry ⟨_, _, rfl, rfl, h⟩
      · exact h.elim
    · exact h.elim
  · split at h
    · rename_i e
      unfold memO at h
      simp only [xor_f] at h
      split at h
      · exact op_in_seq pins s σ H _ _ v u Q I rx ry ⟨_, _, rfl, .inl (rd_lst e), h.1, h.2.1, h.2.2⟩
      · exact op_in_seq pins s σ H _ _ v u Q I rx ry ⟨_, _, rfl, .inr (rd_tup e), h.1, h.2.1, h.2.2⟩
      · split at h
        · rename_i k e2
          cases ry
          exact d_in hu I (.inl ⟨_, k, rd_dK e, keyOf_kV e2, rfl⟩) rx fun s3 I3 => ⟨.bl _, H, I3, rfl, h⟩
        · exact h.elim
      · exact h.elim
    · exact h.elim
  · exact h.elim
theorem nmemR_ok (hu : X.A.units + 1 < cLine) : OpR X (compareOp .NotIn) (memR X.K true) := by
  intro pins s σ H x y v u Q I rx ry h
  unfold memR at h
  simp only [xor_t] at h
  split at h
  · split at h
    · split at h
      · rename_i a _ c e
        rw [str_one e] at rx
        exact op_notIn_sign pins s σ H _ _ v u Q I rx ry ⟨_, _, rfl, rfl, h⟩
      · exact h.elim
    · exact h.elim
  · split at h
    · rename_i e
      unfold memO at h
      simp only [xor_t] at h
      split at h
      · exact op_notIn_seq pins s σ H _ _ v u Q I rx ry ⟨_, _, rfl, .inl (rd_lst e), h.1, h.2.1, h.2.2⟩
      · exact op_notIn_seq pins s σ H _ _ v u Q I rx ry ⟨_, _, rfl, .inr (rd_tup e), h.1, h.2.1, h.2.2⟩
      · split at h
        · rename_i k e2
          cases ry
          exact d_notIn hu I (.inl ⟨_, k, rd_dK e, keyOf_kV e2, rfl⟩) rx fun s3 I3 => ⟨.bl _, H, I3, rfl, h⟩
        · exact h.elim
      · exact h.elim
    · exact h.elim
  · exact h.elim
theorem ltR_ok {o : CmpOp} {p : Int → Int → Bool} (ho : OpR X (compareOp o) (rI0 fun i j => .bl (p i j))) : OpR X (compareOp o) (ltR p) := by
  intro pins s σ H x y v u Q I rx ry h
  unfold ltR at h
  split at h
  · exact ho pins s σ H _ _ v u Q I rx ry ⟨_, _, rfl, rfl, h⟩
  · exact h.elim
theorem isR_ok : OpR X (compareOp .Is) (isR false) := by
  intro pins s σ H x y v u Q I rx ry h
  unfold isR at h
  simp only [xor_f] at h
  split at h
  · exact op_isN pins s σ H _ _ v u Q I rx ry ⟨rfl, h⟩
  · exact h.elim
theorem isnR_ok : OpR X (compareOp .IsNot) (isR true) := by
  intro pins s σ H x y v u Q I rx ry h
  unfold isR at h
  simp only [xor_t] at h
  split at h
  · exact op_notN pins s σ H _ _ v u Q I rx ry ⟨rfl, h⟩
  · exact h.elim
theorem cmpR_ok (hu : X.A.units + 64 < cLine) : ∀ o : CmpOp, OpR X (compareOp o) (cmpR X.K o)
  | .Eq => eqR_ok hu
  | .NotEq => neR_ok hu
  | .Lt => ltR_ok op_lt
  | .LtE => ltR_ok op_le
  | .Gt => ltR_ok op_gt
  | .GtE => ltR_ok op_ge
  | .Is => isR_ok
  | .IsNot => isnR_ok
  | .In => memR_ok (by omega)
  | .NotIn => nmemR_ok (by omega)
/-! calls of built-ins -/
def Bi.val : Bi → Value
  | .len => .builtin "len" | .str => .type "str" | .int => .type "int" | .abs => .builtin "abs" | .max => .builtin "max" | .min => .builtin "min"
  | .divmod => .builtin "divmod" | .any => .builtin "any" | .list => .type "list" | .dict => .type "dict" | .sorted => .builtin "sorted"
theorem Bi.boot : ∀ f : Bi, bootBuiltins f.nm = some f.val := by
  intro f
  cases f <;> decide +kernel
theorem lenR_ok : CallR X (.builtin "len") (fun xs H Q => ∃ x, xs = [x] ∧ lenR X.K x H Q) := by
  intro pins s σ H xs us Q I r h
  obtain ⟨x, rfl, h⟩ := h
  unfold lenR at h
  split at h
  · exact call_len_str pins s σ H _ us Q I r ⟨_, rfl, h.1, h.2⟩
  · split at h
    · rename_i e
      unfold lenO at h
      split at h
      · exact call_len_seq pins s σ H _ us Q I r ⟨_, _, rfl, .inl (rd_lst e), h⟩
      · exact call_len_seq pins s σ H _ us Q I r ⟨_, _, rfl, .inr (rd_tup e), h⟩
      · obtain ⟨u, rfl, rx⟩ := vals1 r
        cases rx
        exact d_len I (rd_dK e) fun t s' I' => ⟨.int _, H, I', ⟨t, rfl⟩, h⟩
      · exact h.elim
    · exact h.elim
  · exact h.elim
theorem truR_ok : TruR X (fun x H Q => truR X.K x H Q) := by
  intro pins s σ H x v Q I rx h
  refine tru_ok pins s σ H x v Q I rx ?_
  unfold truR at h
  split at h
  · exact ⟨_, rfl, h⟩
  · exact ⟨_, rfl, h⟩
  · exact ⟨_, rfl, h⟩
  · split at h
    · rename_i e
      unfold truO at h
      split at h
      · exact ⟨_, .inl ⟨_, rd_lst e, rfl⟩, h⟩
      · exact ⟨_, .inr (.inl ⟨_, rd_tup e, rfl⟩), h⟩
      · exact h.elim
    · exact h.elim
  · exact h.elim
theorem strR_ok : CallR X (.type "str") (fun xs H Q => ∃ x, xs = [x] ∧ strR x H Q) := by
  intro pins s σ H xs us Q I r h
  obtain ⟨x, rfl, h⟩ := h
  unfold strR at h
  split at h
  · exact call_str_int pins s σ H _ us Q I r ⟨_, rfl, h.1, h.2⟩
  · exact h.elim
theorem intR_ok : CallR X (.type "int") (fun xs H Q => ∃ x, xs = [x] ∧ intR x H Q) := by
  intro pins s σ H xs us Q I r h
  obtain ⟨x, rfl, h⟩ := h
  unfold intR at h
  split at h
  · exact call_int1 pins s σ H _ us Q I r (.inl ⟨_, rfl, h⟩)
  · exact call_int1 pins s σ H _ us Q I r (.inr ⟨_, rfl, h⟩)
  · obtain ⟨n, h1, h2, h3⟩ := h
    exact call_int_str pins s σ H _ us Q I r ⟨_, n, rfl, h1, h2, h3⟩
  · exact h.elim
theorem biR_ok (hc : X.calm = true) (f : Bi) : CallR X f.val (biR X.K f) := by
  intro pins s σ H xs us Q I r h
  unfold biR at h
  split at h
  · exact lenR_ok pins s σ H _ us Q I r ⟨_, rfl, h⟩
  · exact strR_ok pins s σ H _ us Q I r ⟨_, rfl, h⟩
  · exact intR_ok pins s σ H _ us Q I r ⟨_, rfl, h⟩
  · exact call_abs pins s σ H _ us Q I r ⟨_, rfl, h⟩
  · exact call_max2 hc pins s σ H _ us Q I r ⟨_, _, rfl, h⟩
  · exact call_min2 hc pins s σ H _ us Q I r ⟨_, _, rfl, h⟩
  · exact call_divmod pins s σ H _ us Q I r ⟨_, _, rfl, h.1, h.2⟩
  · exact h.elim
/-! subscripts -/
theorem ixR_ok (hu : X.A.units + 1 < cLine) : IxR X (ixR X.K) := by
  intro value slice pins s σ H x y v u Q I rx ry h hs
  unfold ixR at h
  split at h
  · split at h
    · obtain ⟨hz, c, e, q⟩ := h
      exact ix_str value slice pins s σ H _ _ v u Q I rx ry ⟨_, _, c, rfl, rfl, hz, e, q⟩ hs
    · exact h.elim
  · split at h
    · rename_i e
      unfold ixO at h
      split at h
      · split at h
        · obtain ⟨v', ea, q⟩ := h
          exact ix_list value slice pins s σ H _ _ v u Q I rx ry ⟨_, _, _, v', rfl, rfl, rd_lst e, ea, q⟩ hs
        · exact h.elim
      · split at h
        · obtain ⟨v', ea, q⟩ := h
          exact ix_tup value slice pins s σ H _ _ v u Q I rx ry ⟨_, _, _, v', rfl, rfl, rd_tup e, ea, q⟩ hs
        · exact h.elim
      · split at h
        · rename_i k e2
          obtain ⟨v', ev, q⟩ := h
          cases rx
          have g : DGet H _ _ (some v') := .inl ⟨_, k, rd_dK e, keyOf_kV e2, ev.symm⟩
          exact tail_any (dict_typeIs I g) PySem.F.slot_dict_getitem.lookup (d_getItem hu I g ry fun w' s3 I3 rw' => ⟨v', H, I3, rw', q⟩) hs
        · exact h.elim
      · exact h.elim
    · exact h.elim
  · exact h.elim
theorem slR_ok : SlR X (slR X.K) := by
  intro pins s σ H x v vl vu lo hi sl Q I rx hs pl pu h
  unfold slR at h
  split at h
  · exact sl_str pins s σ H _ v vl vu lo hi sl Q I rx hs pl pu ⟨_, rfl, h.1, h.2⟩
  · split at h
    · rename_i e
      exact sl_list pins s σ H _ v vl vu lo hi sl Q I rx hs pl pu ⟨_, _, rfl, rd_lst e, h⟩
    · exact h.elim
  · exact h.elim
/-! methods of built-in types -/
def Bm.ty : Bm → String
  | .append => "list" | .pop => "list" | .extend => "list" | .get => "dict"
  | .split => "str" | .partition => "str" | .join => "str" | .zfill => "str" | .index => "str"
def Bm.id : Bm → String
  | .append => "list.append" | .pop => "list.pop" | .extend => "list.extend" | .get => "dict.get"
  | .split => "str.split" | .partition => "str.partition" | .join => "str.join" | .zfill => "str.zfill" | .index => "str.index"
theorem Bm.plain : ∀ m : Bm, PlainAttrs m.ty
  | .append => PySem.F.plainAttrs_list | .pop => PySem.F.plainAttrs_list | .extend => PySem.F.plainAttrs_list | .get => PySem.F.plainAttrs_dict
  | .split => PySem.F.plainAttrs_str | .partition => PySem.F.plainAttrs_str | .join => PySem.F.plainAttrs_str | .zfill => PySem.F.plainAttrs_str | .index => PySem.F.plainAttrs_str
theorem Bm.slot : ∀ m : Bm, Slot m.ty m.nm m.id
  | .append => PySem.F.slot_list_append | .pop => PySem.F.slot_list_pop | .extend => PySem.F.slot_list_extend | .get => PySem.F.slot_dict_get
  | .split => PySem.F.slot_str_split | .partition => PySem.F.slot_str_partition | .join => PySem.F.slot_str_join | .zfill => PySem.F.slot_str_zfill | .index => PySem.F.slot_str_index
theorem Bm.typ : ∀ m : Bm, typeOf (.builtin m.id) = pure (.type "method_descriptor")
  | .append => PySem.F.type_list_append | .pop => PySem.F.type_list_pop | .extend => PySem.F.type_list_extend | .get => PySem.F.type_dict_get
  | .split => PySem.F.type_str_split | .partition => PySem.F.type_str_partition | .join => PySem.F.type_str_join | .zfill => PySem.F.type_str_zfill | .index => PySem.F.type_str_index
theorem bmR_ok (hu : X.A.units + 1 < cLine) (m : Bm) : MtR X m.id (bmR X.K m) := by
  intro pins s σ H x xs v us Q I rx rxs h
  unfold bmR at h
  split at h
  · split at h
    · rename_i e
      exact mt_append pins s σ H _ _ v us Q I rx rxs ⟨_, _, _, rfl, rfl, e, h.1, h.2⟩
    · exact h.elim
  · exact mt_split pins s σ H _ _ v us Q I rx rxs ⟨_, _, rfl, rfl, h.1, h.2.1, h.2.2⟩
  · exact mt_zfill pins s σ H _ _ v us Q I rx rxs ⟨_, _, rfl, rfl, h.1, h.2⟩
  · split at h
    · rename_i e
      obtain ⟨zs, rfl, hl, q⟩ := h
      exact mt_join pins s σ H _ _ v us Q I rx rxs ⟨_, _, zs, rfl, rfl, .inl (rd_lst e), hl, q⟩
    · exact h.elim
  · split at h
    · rename_i e
      obtain ⟨y, ey, q⟩ := h
      exact mt_pop pins s σ H _ _ v us Q I rx rxs ⟨_, _, y, rfl, rfl, e, ey, q⟩
    · exact h.elim
  · split at h
    · rename_i e1 e2
      exact mt_extend pins s σ H _ _ v us Q I rx rxs ⟨_, _, _, _, rfl, rfl, e1, e2, h.1, h.2⟩
    · exact h.elim
  · exact mt_partition pins s σ H _ _ v us Q I rx rxs ⟨_, _, rfl, rfl, h.1, h.2.1, h.2.2⟩
  · obtain ⟨i, rest, h1, q⟩ := h
    exact mt_sindex pins s σ H _ _ v us Q I rx rxs ⟨_, _, i, rest, rfl, rfl, h1, q⟩
  · split at h
    · rename_i e
      split at h
      · rename_i k e2
        obtain ⟨u1, u2, rfl, r1, r2⟩ := Vals.two rxs
        cases rx
        exact d_get2 hu I (.inl ⟨_, k, rd_dK e, keyOf_kV e2, rfl⟩) r1 r2 fun w' s4 I4 rw' => ⟨_, H, I4, rw', h⟩
      · exact h.elim
    · exact h.elim
  · exact h.elim
theorem bmT_ok {pins : List (Addr × Obj)} {s : Shared} {σ : L2.St} {H : Hp} {x : V} {m : Bm} (I : Inv X pins σ H s) (h : bmT m x H) {v : Value} (rx : RelV x v) : s.TypeIs v m.ty ∧ (∀ b, v = .ref b → ∃ ob, s.heap.get? b = some ob ∧ ob.dict = none) := by
  unfold bmT at h
  split at h
  all_goals first
    | exact h.elim
    | (obtain ⟨t, rfl⟩ := rx; exact ⟨typeIs_str _ _ _, fun _ e => nomatch e⟩)
    | skip
  · split at h
    · rename_i e
      exact tyV_is (T := "list") I rx (.inl ⟨rfl, _, .inl (.inl e)⟩)
    · exact h.elim
  · split at h
    · rename_i e
      exact tyV_is (T := "list") I rx (.inl ⟨rfl, _, .inl (.inl e)⟩)
    · exact h.elim
  · split at h
    · rename_i e
      exact tyV_is (T := "list") I rx (.inl ⟨rfl, _, .inl (.inl e)⟩)
    · exact h.elim
  · cases rx
    split at h
    · rename_i kvs e
      have g : DGet H _ (.int 0) (valV kvs (Sum.inl 0)) := .inl ⟨kvs, .inl 0, .inl e, rfl, rfl⟩
      exact ⟨dict_typeIs I g, dict_noDict I g⟩
    · rename_i o kvs e
      have g : DGet H _ (.int 0) (valV kvs (Sum.inl 0)) := .inl ⟨kvs, .inl 0, .inr ⟨o, e⟩, rfl, rfl⟩
      exact ⟨dict_typeIs I g, dict_noDict I g⟩
    · exact h.elim
end
end Vc

set_option Elab.async false
set_option linter.all false
set_option maxRecDepth 100000
set_option maxHeartbeats 2000000
namespace Vc
open PySem PySem.Spec PyProof.Rows L2
section
variable {X : Cx} {pins : List (Addr × Obj)} {σ : L2.St} {H : Hp} {s : Shared} {a : Addr} {cls : Value} {d : Option Addr}
theorem suite_track (I : Inv X pins σ H s) {oe : Obj} {vs : Array Value} (he : s.heap.get? a = some oe) (hc : oe.cls = cls) (hd : oe.dict = d) (hf : oe.data = .fields vs) (na : H a = none) (nL : a ≠ X.env.locals)
    (old : X.s_0.heap.get? a = none) (npin : ∀ p ∈ X.pn ++ pins, p.1 ≠ a) : Inv (X.suite a (X.pn ++ pins)) [] σ (upd H a (excO a cls d)) s := by
  have other : ∀ {b : Addr} {u : HO}, H b = some u → (upd H a (excO a cls d)) b = some u := fun {b u} e => by rw [upd_ne (ne_of_none e na)]; exact e
  have gone : ∀ {b : Addr}, b ≠ a → H b = none → (upd H a (excO a cls d)) b = none := fun {b} hb e => by rw [upd_ne hb]; exact e
  have cellNe : ∀ x c, X.env.cells.lookup x = some c → c ≠ a := fun x c e z => by
    obtain ⟨v, o, ho, hv⟩ := I.cell x c e
    rw [z, he] at ho
    cases ho
    rw [hf] at hv
    cases hv
  have ub := I.base
  refine ⟨I.ok.suite _ _, I.os, I.bare, ⟨ub.keep, ub.slot, fun b o e n hx => gone (fun z => ?_) (ub.free b o e n hx), ub.there, fun b xs e => other (ub.tups b xs e), fun b o u e => other (ub.frzs b o u e), fun b ps e => ?_⟩, I.loc, I.cell, gone nL.symm I.free,
    fun x c e => gone (cellNe x c e) (I.freeC x c e), fun p hp => ?_, fun b u e => ?_, I.len⟩
  · have e' : X.s_0.heap.get? b = some o := e
    rw [z, old] at e'
    cases e'
  · obtain ⟨more, q⟩ := ub.tbls b ps e
    exact ⟨more, other q⟩
  · have hp' : p ∈ X.pn ++ pins := by rw [List.append_nil] at hp; exact hp
    obtain ⟨p1, p2, p3, p4, p5⟩ := I.pin p hp'
    exact ⟨p1, gone (npin p hp') p2, p3, p4, p5⟩
  · by_cases hb : b = a
    · subst hb
      rw [upd_same] at e
      cases e
      refine ⟨⟨oe, vs, he, hc, hd, hf⟩, ⟨oe, he⟩, fun h1 h2 ⟨o, w, k1, k2⟩ k => ⟨o, w, k o k1, k2⟩⟩
    · rw [upd_ne hb] at e
      exact (I.hok b u e).stay (fun _ _ _ z => z) (fun _ z => other z) fun _ _ z => other z
theorem suite_back {A : Addr} {pn' : List (Addr × Obj)} (I : Inv (X.suite A (X.pn ++ pins)) pn' σ H s) (ok : X.Ok) : Inv X pins σ H s :=
  ⟨ok, I.os, I.bare, I.base, I.loc, I.cell, I.free, I.freeC, fun p hp => I.pin p (List.mem_append_left _ hp), I.hok, I.len⟩
end
/-- what the clause wishes: the exception stands in the heap from then on -/
def wTrk (K : PySem.W.Frag) (c : Value) (i : Nat) (ts : Addr → TS) (Wout : WX) (D : Ends) : WX := fun cls d σ H =>
  ∃ b, PySem.W.exmOne K cls c = some b ∧ (b = true → ∀ a, H a = none → ts a { nx := fun σ' H' => D.nx (σ'.set i none) H', rt := D.rt, bk := fun σ' H' => D.bk (σ'.set i none) H', ct := fun σ' H' => D.ct (σ'.set i none) H' } (σ.set i (some (.ref a))) (upd H a (excO a cls d))) ∧
    (b = false → Wout cls d σ H)
section
variable {X : Cx} {x n : Str} {c : Value} {i : Nat} {body suite : List Stmt} {b₀ : Stmt} {np pos pos' : Pos} {tb : WX → TS} {ts : Addr → TS} {Wout : WX}
theorem try_track (hs : X.stack = X.env :: X.outer) (hf : X.env.frame = some X.env.locals) (hex : X.ex = []) (hN : X.N.Nodup) (hi : X.N[i]? = some n) (hln : X.env.kindOf n = some .local) (hc : Names X x c) (tk : Takes X Wout)
    (hb : ∀ (W : WX) (pn : List (Addr × Obj)) (xe : Value → Shared → Prop), Takes (X.tr pn xe) W → PassesOwn (model X.prog X.w) X.A X.env xe → PSs (X.tr pn xe) body (tb W))
    (hsu : ∀ (a : Addr) (pn : List (Addr × Obj)), PSs (X.suite a pn) (b₀ :: suite) (ts a)) :
    PS X (.Try body [.ExceptHandler (some (.Name x np)) (some n) (b₀ :: suite) pos'] [] [] pos) (fun D σ H => tb (wTrk X.K c i ts Wout D) D σ H) := by
  refine ⟨fun pins s σ H D I h => ?_⟩
  have ok := I.ok
  have hloc : Loc X.env.scope n := .inl hln
  have hfr : X.A.frames = some (X.env :: X.outer) := hs ▸ ok.frames
  have run := (hb (wTrk X.K c i ts Wout D) (X.pn ++ pins) (fun e s₁ => wpAny (model X.prog X.w) X.A (noteFrame e X.env) (fun _ s₂ => wpAny (model X.prog X.w) X.A (setFlight e none) (fun _ s₃ =>
    wpAny (model X.prog X.w) X.A (handleBy e X.env [.ExceptHandler (some (.Name x np)) (some n) (b₀ :: suite) pos']) (SP X pins D) X.xe s₃) X.xe s₂) X.xe s₁) (fun u s' xx => ?_) PassesOwn.looking).run [] s σ H D (I.toTry _) h
  · refine wpAny_Try_except (wpAny_mono run (fun f s1 hsp => ?_) fun _ _ he => he)
    cases f with
    | next => exact let ⟨σ', H', J, q⟩ := hsp; wpAny_execs_nil ⟨σ', H', J.ofTry ok, q⟩
    | brk => exact let ⟨σ', H', J, q⟩ := hsp; ⟨σ', H', J.ofTry ok, q⟩
    | cont => exact let ⟨σ', H', J, q⟩ := hsp; ⟨σ', H', J.ofTry ok, q⟩
    | ret u => exact let ⟨v, σ', H', J, r, q⟩ := hsp; ⟨v, σ', H', J.ofTry ok, r, q⟩
  · obtain ⟨a, B, sI, pins', σ', H', cls, d, rfl, Jt, nb, up, sky, na, os, ag, b, hb1, hyes, hno⟩ := xx
    have J : Inv X pins σ' H' sI := Jt.ofTry ok
    rw [show (X.tr (X.pn ++ pins) _).stack = X.env :: X.outer from hs] at sky
    show wpAny (model X.prog X.w) X.A (noteFrame (.ref a) X.env) _ _ _
    refine Sky.land Zc.steady hfr hf sky fun h3 fl3 up3 => ?_
    have J3 : Inv X pins σ' H' { s' with heap := h3 } := J.landed nb fl3.1 (up.trans up3) os ag
    obtain ⟨oe3, vs3, he3, hz3, hd3⟩ := fl3.there
    have Bn : B.get? a = none := fl3.2.1
    have nfr : a ∉ frs (X.env :: X.outer) := fun hm => by
      obtain ⟨_, o', e', hnf⟩ := fl3.2.2.1.mem hm
      rw [he3] at e'
      cases e'
      exact hnf _ hd3
    have nL : a ≠ X.env.locals := fun z => nfr (List.mem_filterMap.mpr ⟨X.env, List.mem_cons_self, by rw [hf, z]⟩)
    have nF : a ∉ X.fs := fun hm => by
      obtain ⟨e, he, q⟩ := List.mem_filterMap.mp hm
      exact nfr (List.mem_filterMap.mpr ⟨e, List.mem_cons_of_mem _ he, q⟩)
    have noI : sI.heap.get? a = none := by
      cases q : sI.heap.get? a with
      | none => rfl
      | some o =>
        have := nb a o q (by rw [show (X.tr (X.pn ++ pins) _).stack = X.env :: X.outer from hs]; exact nfr)
        rw [Bn] at this
        cases this
    have old : X.s_0.heap.get? a = none := by
      cases q : X.s_0.heap.get? a with
      | none => rfl
      | some o =>
        obtain ⟨o', z⟩ := J.base.there a o q (by rw [hex]; simp)
        rw [noI] at z
        cases z
    have npin : ∀ p ∈ X.pn ++ pins, p.1 ≠ a := fun p hp z => by
      have := (J.pin p hp).1
      rw [z, noI] at this
      cases this
    refine wpAny_handleBy_cons (codeAny_handlers_test ?_) (by intro q; cases q)
    have LT : PySem.W.Looks (model X.prog X.w) h3 (typeOf (.ref a)) cls := fun _ _ _ _ k q => wpAny_typeOf_ref (k _ _ he3) (by rw [hz3.1]; exact q)
    have LM := PySem.W.exm_one (M := model X.prog X.w) J3.kIn LT hb1
    have S3 := J3.suite he3 hd3 na nL nF
    have test : ∀ {Q : Value → Shared → Prop} {E : Value → Shared → Prop}, Q c { s' with heap := h3 } → wpAny (model X.prog X.w) (X.A.mark (some (.ref a))) (eval (.Name x np) X.env) Q E { s' with heap := h3 } := fun {Q E} q => by
      obtain ⟨hg, hdbg, hm | ⟨hm, hv, hnn⟩⟩ := hc
      · exact ld_glob (X := X.suite a _) S3 hg hm q hdbg
      · exact ld_blt (X := X.suite a _) S3 hg hm hv q hnn hdbg
    refine test (LM.here ?_)
    cases b with
    | false =>
      refine wpAny_handleBy_nil ?_
      obtain ⟨_, _, _, oe, vs, T, _, _, he, _, hd, h1, _⟩ := id fl3
      have fin : wpAny (model X.prog X.w) X.A (setFlight (.ref a) X.env.frame) (fun _ s4 => wpAny (model X.prog X.w) X.A (throw (.ref a) : Sem Flow) (SP X pins D) X.xe s4) X.xe { s' with heap := h3 } := by
        rw [hf]
        exact HandSPX.setFlight_upZ fl3 fun h4 hh4 up4 => wpAny_throw (tk _ _ ⟨a, B, sI, pins, σ', H', cls, d, rfl, J, nb, (up.trans up3).trans up4, .inr (.inr (hs ▸ hh4)), na, os, ag, hno rfl⟩)
      unfold PySem.passOn
      refine wpAny_bind (wpAny_field he hd h1 ?_)
      rw [if_neg (show ¬ ((Value.ref T == Value.none) = true) from by simp)]
      first
        | exact wpAny_bind (wpAny_pure (wpAny_bind fin))
        | exact wpAny_bind fin
    | true =>
      refine codeAny_handlers_suite_as (HandSPX.lands_againZ fl3 fun h4 fl4 up4 => ?_)
      have J4 : Inv X pins σ' H' { s' with heap := h4 } := J.landed nb fl4.1 ((up.trans up3).trans up4) os ag
      obtain ⟨oe4, vs4, he4, hz4, hd4⟩ := fl4.there
      have S4 := suite_track J4 he4 hz4.1 hz4.2 hd4 na nL old npin
      refine store_ok (X := X.suite a (X.pn ++ pins)) (v := .ref a) S4 hN hi hloc rfl (fun s5 S5 => ?_) (.inr hln)
      refine wpAny_mono ((hsu a (X.pn ++ pins)).run [] s5 _ _ _ S5 (hyes rfl a na)) (fun f s6 hsp => ?_) fun _ _ z => False.elim z
      have fin : ∀ {σ6 : L2.St} {H6 : Hp} {Q : Shared → Prop}, Inv (X.suite a (X.pn ++ pins)) [] σ6 H6 s6 → (∀ s7, Inv X pins (σ6.set i none) H6 s7 → Q s7) →
          wpAny (model X.prog X.w) X.A (do bindName X.env n .none; unbindBehindTheSuite X.env n pos') (fun _ s7 => Q s7) X.xe s6 := fun {σ6 H6 Q} S6 hq => gone_ok (suite_back S6 ok) hN hi hln hq
      cases f with
      | next => exact let ⟨σ6, H6, S6, q6⟩ := hsp; fin S6 fun s7 J7 => ⟨_, _, J7, q6⟩
      | brk => exact let ⟨σ6, H6, S6, q6⟩ := hsp; fin S6 fun s7 J7 => ⟨_, _, J7, q6⟩
      | cont => exact let ⟨σ6, H6, S6, q6⟩ := hsp; fin S6 fun s7 J7 => ⟨_, _, J7, q6⟩
      | ret u => exact let ⟨v6, σ6, H6, S6, r6, q6⟩ := hsp; fin S6 fun s7 J7 => ⟨_, _, _, J7, r6, q6⟩
end
/-- isinstance of such an exception -/
theorem exc_inst {X : Cx} {pins : List (Addr × Obj)} {σ : L2.St} {H : Hp} {s : Shared} {a D : Addr} (I : Inv X pins σ H s) (h : H a = some (excO a (.ref D) none)) : ∃ oe, PySem.W.InstAt s.heap a oe D none := by
  obtain ⟨⟨oe, vs, hg, h1, h2, h3⟩, _⟩ := I.hok a _ h
  obtain ⟨oc, od, oda, osl⟩ := oe
  dsimp only at h1 h2 h3
  subst h1 h2 h3
  exact ⟨_, hg, rfl, rfl, trivial⟩
theorem isiR_ok {X : Cx} {pins : List (Addr × Obj)} {σ : L2.St} {H : Hp} {s : Shared} {x c : V} {v u : Value} {Q : VK} (I : Inv X pins σ H s) (rx : RelV x v) (rc : RelV c u) (h : isiR X.K x c H Q) :
    wpAny (model X.prog X.w) X.A (call (.builtin "isinstance") [v, u]) (EP X pins σ Q) X.xe s := by
  rcases h with h | ⟨a, D, w, b, rfl, ha, C, k, e, q⟩
  · exact call_isi pins s σ H [x, c] [v, u] Q I (.cons rx (.cons rc .nil)) h
  · cases rx
    obtain ⟨oe, J⟩ := exc_inst I ha
    have ec := k.eq rc
    subst ec
    exact PySem.W.kia_one (PySem.W.handS_kitx_exc C.hg C.hk C.hs C.hd C.ha C.hn C.ht C.hm) I.kIn J e (fun z => nomatch z) fun tk => ⟨.bl b, H, I.kept (t' := tk) fun _ _ z => z, rfl, q⟩
theorem isiTR_ok {X : Cx} {pins : List (Addr × Obj)} {σ : L2.St} {H : Hp} {s : Shared} {x : V} {p : Addr} {cs : List V} {v : Value} {Q : VK} (I : Inv X pins σ H s) (rx : RelV x v) (h : isiTR X.K x p cs H Q) :
    wpAny (model X.prog X.w) X.A (call (.builtin "isinstance") [v, .ref p]) (EP X pins σ Q) X.xe s := by
  rcases h with h | ⟨a, D, us, b, rfl, ha, C, k, hT, e, q⟩
  · exact call_isiT pins s σ H [x, .ref p] [v, .ref p] Q I (.cons rx (.cons rfl .nil)) h
  · cases rx
    obtain ⟨oe, J⟩ := exc_inst I ha
    obtain ⟨_, its, rv, o, h1, h2, n, h3⟩ := (show ObjOk X.prog X.w H s.heap p (.tup cs) from I.hok p _ hT)
    have e3 := ClsV.all k rv
    subst e3
    obtain ⟨oc, od, dt, sl⟩ := o
    simp only at h2 h3
    subst h2 h3
    exact PySem.W.kia_tup (PySem.W.handS_kitx_exc C.hg C.hk C.hs C.hd C.ha C.hn C.ht C.hm) I.kIn J h1 e (fun z => nomatch z) fun tk => ⟨.bl b, H, I.kept (t' := tk) fun _ _ z => z, rfl, q⟩
end Vc

set_option Elab.async false
set_option linter.all false
set_option maxRecDepth 100000
set_option maxHeartbeats 2000000
namespace Vc
open PySem PySem.Spec PyProof.Rows L2
/-! ### does my tree stand for this text? -/
def isStar : Expr → Bool
  | .Starred .. => true
  | _ => false
/-- an expression that may be a receiver: no call of a name without arguments -/
def plainB : Expr → Bool
  | .Call (.Name _ _) [] [] _ => false
  | _ => true
def noLc : Expr → Bool
  | .ListComp .. => false
  | .SetComp .. => false
  | .DictComp .. => false
  | _ => true
/-- its test is its value's truth -/
def plainT : Expr → Bool
  | .UnaryOp .Not _ _ => false
  | .BoolOp .. => false
  | .IfExp .. => false
  | .Compare .. => false
  | _ => true
def noSlice : Expr → Bool
  | .Slice .. => false
  | _ => true
theorem star_of {e : Expr} (h : isStar e = false) (es : List Expr) (env : Env) : starEach (e :: es) env = (false, eval e env) :: starEach es env := by
  cases e <;> first | rfl | (simp [isStar] at h)
theorem base_of {e : Expr} (h : plainB e = true) (f : Str) (env : Env) (w : Sem Value) : attributeBase e f env w = w := by
  unfold attributeBase
  split
  · simp [plainB] at h
  · rfl
theorem swaps_of {e : Expr} (h : noLc e = true) (t : Option Expr) (l : Nat) (env : Env) : swapsWith e t l env = pure false := by
  cases e <;> first | rfl | (simp [noLc] at h)
theorem isTrue_of {e : Expr} (h : plainT e = true) (env : Env) (whole : Sem Value) : isTrue e env whole = (do let v ← whole; standAt e.pos; holding [v] (truthy v)) := by
  cases e with
  | UnaryOp o x p => cases o <;> first | rfl | (simp [plainT] at h)
  | _ => first | rfl | (simp [plainT] at h)
theorem subs_of {e : Expr} (h : noSlice e = true) (o i : Value) : subscripted e false o i = operate [o, i] (getItem o i) := by
  cases e <;> first | rfl | (simp [noSlice] at h)
def visB (sc : Scope) (x : Str) : Bool :=
  match sc.names.lookup x with
  | some .local => true
  | some .cell => true
  | some .free => true
  | _ => false
def glB (sc : Scope) (x : Str) : Bool :=
  match sc.names.lookup x with
  | some .globalImplicit => true
  | _ => false
def isN (x : Str) (e : Expr) : Bool :=
  match e with
  | .Name y _ => decide (y = x)
  | _ => false
def ckNs (sc : Scope) : List Str → List Expr → Bool
  | [], es => es.isEmpty
  | c :: cs, es => match es with
      | .Name y _ :: r => decide (y = c) && glB sc y && !(y == "__debug__") && ckNs sc cs r
      | _ => false
mutual
def ck (N : List Str) : Ex → Bool → Scope → Expr → Bool
  | .v i, _, sc, e => (match e with
      | .Name x _ => decide (N[i]? = some x) && visB sc x && !(x == "__debug__") && !(x == "__classdict__")
      | _ => false)
  | .ki n, _, _, e => (match e with
      | .Constant (.int m) _ _ => decide (m = n)
      | _ => false)
  | .ks n, _, _, e => (match e with
      | .Constant (.str m) _ _ => decide (m = n)
      | _ => false)
  | .kb n, _, _, e => (match e with
      | .Constant (.bool m) _ _ => decide (m = n)
      | _ => false)
  | .kn, _, _, e => (match e with
      | .Constant .none _ _ => true
      | _ => false)
  | .g y, _, sc, e => (match e with
      | .Name x _ => decide (x = y) && glB sc x && !(x == "__debug__")
      | _ => false)
  | .op o a b, _, sc, e => (match e with
      | .BinOp ea o' eb _ => decide (o' = o) && ck N a false sc ea && ck N b false sc eb
      | _ => false)
  | .cmp o a b, _, sc, e => (match e with
      | .Compare ea [o'] [eb] _ => decide (o' = o) && ck N a false sc ea && ck N b false sc eb && !behindInMarks o' eb
      | _ => false)
  | .chain o1 o2 a b c, _, sc, e => (match e with
      | .Compare ea [p1, p2] [eb, ec] _ => decide (p1 = o1) && decide (p2 = o2) && ck N a false sc ea && ck N b false sc eb && ck N c false sc ec && !lastMarks [p1, p2] [eb, ec]
      | _ => false)
  | .and a b, t, sc, e => (match e with
      | .BoolOp .And [e1, e2] _ => ck N a t sc e1 && ck N b t sc e2
      | .BoolOp .And (e1 :: e2 :: e3 :: r) p => ck N a t sc e1 && ck N b t sc (.BoolOp .And (e2 :: e3 :: r) p)
      | _ => false)
  | .or a b, t, sc, e => (match e with
      | .BoolOp .Or [e1, e2] _ => ck N a t sc e1 && ck N b t sc e2
      | .BoolOp .Or (e1 :: e2 :: e3 :: r) p => ck N a t sc e1 && ck N b t sc (.BoolOp .Or (e2 :: e3 :: r) p)
      | _ => false)
  | .not a, t, sc, e => (match e with
      | .UnaryOp .Not ea _ => ck N a t sc ea
      | _ => false)
  | .neg a, _, sc, e => (match e with
      | .UnaryOp .USub ea _ => ck N a false sc ea
      | _ => false)
  | .ife c a b, t, sc, e => (match e with
      | .IfExp ec ea eb _ => !t && ck N c true sc ec && ck N a false sc ea && ck N b false sc eb
      | _ => false)
  | .call f es, _, sc, e => (match e with
      | .Call (.Name x _) args [] _ => decide (x = f) && glB sc x && !(x == "__debug__") && cks N es sc args
      | _ => false)
  | .bi f es, _, sc, e => (match e with
      | .Call (.Name x _) (a :: args) [] _ => decide (x = f.nm) && glB sc x && !(x == "__debug__") && cks N es sc (a :: args)
      | _ => false)
  | .isi a c, _, sc, e => (match e with
      | .Call (.Name x _) [ea, .Name y _] [] _ => decide (x = "isinstance") && glB sc x && decide (y = c) && glB sc y && !(y == "__debug__") && ck N a false sc ea && !isStar ea
      | _ => false)
  | .isiT a cs, _, sc, e => (match e with
      | .Call (.Name x _) [ea, .Tuple es _ _] [] _ => decide (x = "isinstance") && glB sc x && ck N a false sc ea && !isStar ea && ckNs sc cs es && decide (cs.length < 20)
      | _ => false)
  | .bm m o es, _, sc, e => (match e with
      | .Call (.Attribute eo x apos) args [] pos => decide (x = m.nm) && ck N o false sc eo && plainB eo && (apos.endLine == pos.line) && decide (args.length < 20) && cks N es sc args
      | _ => false)
  | .ix a i, _, sc, e => (match e with
      | .Subscript ea ei _ => ck N a false sc ea && ck N i false sc ei && noSlice ei
      | _ => false)
  | .sl a lo hi, _, sc, e => (match e with
      | .Subscript ea (.Slice l u none _) _ => ck N a false sc ea && cko N lo sc l && cko N hi sc u
      | _ => false)
  | .lst es, _, sc, e => (match e with
      | .List args _ => cks N es sc args
      | _ => false)
  | .tup es, _, sc, e => (match e with
      | .Tuple args _ _ => cks N es sc args
      | _ => false)
def cks (N : List Str) : Exs → Scope → List Expr → Bool
  | .nil, _, es => es.isEmpty
  | .cons x r, sc, es => (match es with
      | e :: rest => ck N x false sc e && !isStar e && cks N r sc rest
      | [] => false)
def cko (N : List Str) : OEx → Scope → Option Expr → Bool
  | .none, _, e => e.isNone
  | .some x, sc, e => (match e with
      | some e => ck N x false sc e
      | none => false)
end

/-! ### the context is as the readings take it -/
structure FnAt (X : Cx) (x : Str) (sp : Sp) : Prop where
  ex : ∃ (a : Addr) (fd : FuncData) (ps : List Str) (k : Nat), FnOk X.prog X.w X.K X.mg X.base (L2.CX X.prog X.w) k a fd ps sp ∧ Room k X.A ∧ X.mg x = some (.ref a) ∧ PySem.W.keepIn X.K (.ref a) = true ∧ Binds X.K fd ps []
structure GOk (X : Cx) (G : Gam) : Prop where
  K : X.K = G.K
  fn : ∀ f sp, G.fn f = some sp → FnAt X f sp
  gl : ∀ x v, G.gl x = some v → ∃ u, X.mg x = some u ∧ RelV v u
  bi : ∀ b : Bi, X.mg b.nm = none
  isi : X.mg "isinstance" = none
  rng : X.mg "range" = none
  cls : ∀ x v, G.cls x = some v → x ≠ "__name__" ∧ ∃ u, RelV v u ∧ (X.mg x = some u ∨ (X.mg x = none ∧ bootBuiltins x = some u))
  hu : X.A.units + 64 < cLine
structure COk (X : Cx) (N : List Str) (sc : Scope) (W : WX) : Prop where
  hN : X.N = N
  hsc : X.env.scope = sc
  nd : N.Nodup
  calm : X.calm = true
  tk : Takes X W
section
variable {X : Cx} {G : Gam} {N : List Str} {sc : Scope} {W : WX}
theorem vis_of {x : Str} (h : visB X.env.scope x = true) : Vis X.env.scope x := by
  unfold visB at h
  split at h
  · exact .inl (by assumption)
  · exact .inr (.inl (by assumption))
  · exact .inr (.inr (by assumption))
  · cases h
theorem gl_of {x : Str} (h : glB X.env.scope x = true) : Gl X x := by
  unfold glB at h
  split at h
  · assumption
  · cases h
/-- what is shown of an expression -/
structure SE (X : Cx) (K : PySem.W.Frag) (e : Expr) (t : TE × TT) : Prop where
  val : PE X e t.1
theorem PE.imp {e : Expr} {t u : TE} (h : PE X e t) (i : ∀ σ H Q, u σ H Q → t σ H Q) : PE X e u := ⟨fun pins s σ H Q I q => h.run pins s σ H Q I (i _ _ _ q)⟩
theorem PT.imp {e : Expr} {t u : TT} (h : PT X e t) (i : ∀ σ H Q, u σ H Q → t σ H Q) : PT X e u := ⟨fun pins s σ H Q I q => h.run pins s σ H Q I (i _ _ _ q)⟩
/-- a plain expression as a test -/
theorem pt_plain {e : Expr} {t : TE} (h : PE X e t) (p : plainT e = true) : PT X e (tTr X.K t) := by
  refine ⟨fun pins s σ H Q I q => ?_⟩
  exact isTrue_plain (thn (h.run pins s σ H _ I q) fun v s1 ⟨x, H1, I1, r1, q1⟩ => truR_ok pins s1 σ H1 x v Q I1 r1 q1) (isTrue_of p _ _)
theorem back_plain {N : List Str} {sc : Scope} : ∀ {es : Exs} {args : List Expr} (h : cks N es sc args = true) (pos : Pos) (env : Env), (backTo pos (starEach args env)).any (·.1) = false
  | .nil, args, h, pos, env => by
    unfold cks at h
    cases args with
    | nil => rfl
    | cons _ _ => cases h
  | .cons x r, args, h, pos, env => by
    unfold cks at h
    cases args with
    | nil => cases h
    | cons e rest =>
      simp only [Bool.and_eq_true, Bool.not_eq_true'] at h
      rw [star_of h.1.2]
      show (false || (backTo pos (starEach rest env)).any (·.1)) = false
      rw [back_plain h.2 pos env]
      rfl
theorem back_all {N : List Str} {sc : Scope} : ∀ {es : Exs} {args : List Expr} (h : cks N es sc args = true) (pos : Pos) (env : Env), (backTo pos (starEach args env)).all (fun x => !x.1) = true
  | .nil, args, h, pos, env => by
    unfold cks at h
    cases args with
    | nil => rfl
    | cons _ _ => cases h
  | .cons x r, args, h, pos, env => by
    unfold cks at h
    cases args with
    | nil => cases h
    | cons e rest =>
      simp only [Bool.and_eq_true, Bool.not_eq_true'] at h
      rw [star_of h.1.2]
      show (true && (backTo pos (starEach rest env)).all (fun x => !x.1)) = true
      rw [back_all h.2 pos env]
      rfl

theorem Bi.kind (f : Bi) : (∃ id, f.val = .builtin id) ∨ ∃ T, f.val = .type T := by
  cases f <;> first
    | exact .inl ⟨_, rfl⟩
    | exact .inr ⟨_, rfl⟩
theorem Bi.nmain (f : Bi) : f.nm ≠ "__name__" := by cases f <;> decide +kernel
/-- the reading is right: as a value (t = false), as a test (t = true) -/
def Snd (X : Cx) (G : Gam) (W : WX) (x : Ex) (t : Bool) (e : Expr) : Prop :=
  (t = false → PE X e (wP G x W).1) ∧ (t = true → PT X e (wP G x W).2 ∧ ∀ op vs p, e = .BoolOp op vs p → PW X e (wP G x W).2)
theorem snd_plain {x : Ex} {t : Bool} {e : Expr} (hG : GOk X G) (h : PE X e (wP G x W).1) (p : plainT e = true) (e2 : (wP G x W).2 = tTr G.K (wP G x W).1) : Snd X G W x t e := by
  refine ⟨fun _ => h, fun _ => ⟨?_, fun op vs q z => ?_⟩⟩
  · rw [e2, ← hG.K]
    exact pt_plain h p
  · subst z
    simp [plainT] at p
theorem pe_cls {y : Str} {p : Pos} {v : V} (hG : GOk X G) (hgl : Gl X y) (h5 : (y == ("__debug__" : Str)) = false) (ev : G.cls y = some v) : PE X (.Name y p) (tC v) := by
  obtain ⟨hn, u2, rv, hm | ⟨hm, hb⟩⟩ := hG.cls _ v ev
  · exact pe_glob hgl hm rv h5
  · exact pe_bltn hgl hm hb rv hn h5
theorem pa_cls (hG : GOk X G) (hsc : X.env.scope = sc) : ∀ {cs : List Str} {es : List Expr} {vs : List V}, ckNs sc cs es = true → cs.mapM G.cls = some vs → PA X es (fun _ H Q => Q vs H) ∧ vs.length = cs.length
  | [], es, vs, h, e => by
    unfold ckNs at h
    cases es with
    | cons _ _ => cases h
    | nil =>
      have : vs = [] := by simpa using e.symm
      subst this
      exact ⟨pa_nil, rfl⟩
  | c :: cs, es, vs, h, e => by
    unfold ckNs at h
    split at h
    · simp only [Bool.and_eq_true, decide_eq_true_eq, Bool.not_eq_true'] at h
      obtain ⟨⟨⟨h1, h2⟩, h3⟩, h4⟩ := h
      subst h1
      rw [List.mapM_cons] at e
      cases e1 : G.cls _ with
      | none => rw [e1] at e; simp at e
      | some v =>
        rw [e1] at e
        cases e2 : cs.mapM G.cls with
        | none => rw [e2] at e; simp at e
        | some ws =>
          rw [e2] at e
          have ev : v :: ws = vs := by simpa using e
          subst ev
          obtain ⟨p1, p2⟩ := pa_cls hG hsc h4 e2
          refine ⟨pa_cons (pe_cls hG (gl_of (by rw [hsc]; exact h2)) h3 e1) p1 rfl, ?_⟩
          show ws.length + 1 = cs.length + 1
          rw [p2]
    · cases h
mutual
theorem sndE : ∀ (x : Ex) {X : Cx} {G : Gam} {N : List Str} {sc : Scope} {W : WX} (hG : GOk X G) (hC : COk X N sc W) {t : Bool} {e : Expr}, ck N x t sc e = true → Snd X G W x t e
  | .v i, X, G, N, sc, W, hG, hC, t, e, h => by
    obtain ⟨rfl, rfl, nd, hc, tk⟩ := hC
    unfold ck at h
    split at h
    · simp only [Bool.and_eq_true, decide_eq_true_eq, Bool.not_eq_true'] at h
      obtain ⟨⟨⟨h1, h2⟩, h3⟩, h4⟩ := h
      refine snd_plain hG (PE.imp (pe_var h1 (vis_of h2) h3 h4) fun σ H Q q => ?_) rfl rfl
      have q : vR i σ H Q := q
      unfold vR at q
      split at q
      · exact ⟨_, by assumption, q⟩
      · exact q.elim
    · cases h
  | .ki n, X, G, N, sc, W, hG, hC, t, e, h => by
    unfold ck at h
    split at h
    · have h := of_decide_eq_true h
      subst h
      exact snd_plain hG pe_int rfl rfl
    · cases h
  | .ks n, X, G, N, sc, W, hG, hC, t, e, h => by
    unfold ck at h
    split at h
    · have h := of_decide_eq_true h
      subst h
      exact snd_plain hG pe_str rfl rfl
    · cases h
  | .kb n, X, G, N, sc, W, hG, hC, t, e, h => by
    unfold ck at h
    split at h
    · have h := of_decide_eq_true h
      subst h
      exact snd_plain hG pe_bl rfl rfl
    · cases h
  | .kn, X, G, N, sc, W, hG, hC, t, e, h => by
    unfold ck at h
    split at h
    · exact snd_plain hG pe_non rfl rfl
    · cases h
  | .g y, X, G, N, sc, W, hG, hC, t, e, h => by
    obtain ⟨rfl, rfl, nd, hc, tk⟩ := hC
    unfold ck at h
    split at h
    · simp only [Bool.and_eq_true, decide_eq_true_eq, Bool.not_eq_true'] at h
      obtain ⟨⟨h1, h2⟩, h3⟩ := h
      subst h1
      refine snd_plain hG ⟨fun pins s σ H Q I q => ?_⟩ rfl rfl
      obtain ⟨v, ev, q⟩ := q
      obtain ⟨u, hu, r⟩ := hG.gl _ v ev
      exact (pe_glob (gl_of h2) hu r h3).run pins s σ H Q I q
    · cases h
  | .op o a b, X, G, N, sc, W, hG, hC, t, e, h => by
    unfold ck at h
    split at h
    · simp only [Bool.and_eq_true, decide_eq_true_eq] at h
      obtain ⟨⟨h1, h2⟩, h3⟩ := h
      subst h1
      refine snd_plain hG ?_ rfl rfl
      have ha := (sndE a hG hC h2).1 rfl
      have hb := (sndE b hG hC h3).1 rfl
      have k := hG.K
      show PE X _ (tOp (opR G.K _) _ _)
      rw [← k]
      exact pe_op (opR_ok _) ha hb
    · cases h
  | .cmp o a b, X, G, N, sc, W, hG, hC, t, e, h => by
    unfold ck at h
    split at h
    · simp only [Bool.and_eq_true, decide_eq_true_eq, Bool.not_eq_true'] at h
      obtain ⟨⟨⟨h1, h2⟩, h3⟩, h4⟩ := h
      subst h1
      have ha := (sndE a hG hC h2).1 rfl
      have hb := (sndE b hG hC h3).1 rfl
      have k := hG.K
      refine ⟨fun _ => ?_, fun _ => ⟨?_, fun _ _ _ z => nomatch z⟩⟩
      · show PE X _ (tOp (cmpR G.K _) _ _)
        rw [← k]
        exact pe_cmpR (cmpR_ok hG.hu _) ha hb h4
      · show PT X _ (tTest (tOp (cmpR G.K _) _ _))
        rw [← k]
        exact pt_cmpR (cmpR_ok hG.hu _) ha hb h4
    · cases h
  | .chain o1 o2 a b c, X, G, N, sc, W, hG, hC, t, e, h => by
    unfold ck at h
    split at h
    · simp only [Bool.and_eq_true, decide_eq_true_eq, Bool.not_eq_true'] at h
      obtain ⟨⟨⟨⟨⟨h1, h2⟩, h3⟩, h4⟩, h5⟩, h6⟩ := h
      subst h1
      subst h2
      have ha := (sndE a hG hC h3).1 rfl
      have hb := (sndE b hG hC h4).1 rfl
      have hc := (sndE c hG hC h5).1 rfl
      have k := hG.K
      refine ⟨fun _ => ?_, fun _ => ⟨?_, fun _ _ _ z => nomatch z⟩⟩
      · show PE X _ (tChain (cmpR G.K _) (cmpR G.K _) _ _ _)
        rw [← k]
        exact pe_chain (cmpR_ok hG.hu _) (cmpR_ok hG.hu _) ha hb hc h6
      · show PT X _ (tTest (tChain (cmpR G.K _) (cmpR G.K _) _ _ _))
        rw [← k]
        exact pt_chain (cmpR_ok hG.hu _) (cmpR_ok hG.hu _) ha hb hc h6
    · cases h
  | .and a b, X, G, N, sc, W, hG, hC, t, e, h => by
    unfold ck at h
    split at h
    · simp only [Bool.and_eq_true] at h
      obtain ⟨h1, h2⟩ := h
      have ha := sndE a hG hC h1
      have hb := sndE b hG hC h2
      refine ⟨fun z => pe_and (ha.1 z) (pe_one (hb.1 z)), fun z => ?_⟩
      have w := pw_and (ha.2 z).1 (pw_and1 (pos := by assumption) (hb.2 z).1)
      exact ⟨w.pt, fun _ _ _ q => w⟩
    · simp only [Bool.and_eq_true] at h
      obtain ⟨h1, h2⟩ := h
      have ha := sndE a hG hC h1
      have hb := sndE b hG hC h2
      refine ⟨fun z => pe_and (ha.1 z) (hb.1 z), fun z => ?_⟩
      have w := pw_and (ha.2 z).1 ((hb.2 z).2 _ _ _ rfl)
      exact ⟨w.pt, fun _ _ _ q => w⟩
    · cases h
  | .or a b, X, G, N, sc, W, hG, hC, t, e, h => by
    unfold ck at h
    split at h
    · simp only [Bool.and_eq_true] at h
      obtain ⟨h1, h2⟩ := h
      have ha := sndE a hG hC h1
      have hb := sndE b hG hC h2
      refine ⟨fun z => pe_or (ha.1 z) (pe_one (hb.1 z)), fun z => ?_⟩
      have w := pw_or (ha.2 z).1 (pw_or1 (pos := by assumption) (hb.2 z).1)
      exact ⟨w.pt, fun _ _ _ q => w⟩
    · simp only [Bool.and_eq_true] at h
      obtain ⟨h1, h2⟩ := h
      have ha := sndE a hG hC h1
      have hb := sndE b hG hC h2
      refine ⟨fun z => pe_or (ha.1 z) (hb.1 z), fun z => ?_⟩
      have w := pw_or (ha.2 z).1 ((hb.2 z).2 _ _ _ rfl)
      exact ⟨w.pt, fun _ _ _ q => w⟩
    · cases h
  | .not a, X, G, N, sc, W, hG, hC, t, e, h => by
    unfold ck at h
    split at h
    · have ha := sndE a hG hC h
      exact ⟨fun z => pe_not (ha.1 z), fun z => ⟨pt_not (ha.2 z).1, fun _ _ _ q => nomatch q⟩⟩
    · cases h
  | .neg a, X, G, N, sc, W, hG, hC, t, e, h => by
    unfold ck at h
    split at h
    · have ha := (sndE a hG hC h).1 rfl
      refine snd_plain hG ?_ rfl rfl
      show PE X _ (tUn (rU fun i => .int (-i)) _)
      exact pe_un un_neg ha
    · cases h
  | .ife c a b, X, G, N, sc, W, hG, hC, t, e, h => by
    unfold ck at h
    split at h
    · simp only [Bool.and_eq_true, Bool.not_eq_true'] at h
      obtain ⟨⟨⟨h0, h1⟩, h2⟩, h3⟩ := h
      subst h0
      exact ⟨fun _ => pe_ifExp ((sndE c hG hC h1).2 rfl).1 ((sndE a hG hC h2).1 rfl) ((sndE b hG hC h3).1 rfl), fun z => nomatch z⟩
    · cases h
  | .call f es, X, G, N, sc, W, hG, hC, t, e, h => by
    unfold ck at h
    split at h
    · simp only [Bool.and_eq_true, decide_eq_true_eq, Bool.not_eq_true'] at h
      obtain ⟨⟨⟨h1, h2⟩, h3⟩, h4⟩ := h
      subst h1
      have pa := sndEs es hG hC h4
      have bp := back_plain h4
      refine snd_plain hG ⟨fun pins s σ H Q I q => ?_⟩ rfl rfl
      obtain ⟨sp, es', q⟩ := q
      obtain ⟨a, fd, ps, k, F, hr, hm, hk, hb⟩ := (hG.fn _ sp es').ex
      have hgl : Gl X _ := gl_of (by rw [hC.hsc]; exact h2)
      refine wpAny_Call_Name_kw (ld_glob I hgl hm ?_ h3)
      rename_i args pos
      cases args with
      | nil =>
        have e0 : wPs G es W = tNil := by
          cases es with
          | nil => rfl
          | cons _ _ => unfold cks at h4; cases h4
        rw [e0] at q
        exact PySem.W.callWith_K0 I.kIn hk (run_fnS (us := []) (vs := []) F hr hb (E := WE W) (passAt hC.tk σ) I .nil q)
      | cons a1 rest =>
        have hs : isStar a1 = false := by
          cases es with
          | nil => unfold cks at h4; cases h4
          | cons _ _ =>
            unfold cks at h4
            simp only [Bool.and_eq_true, Bool.not_eq_true'] at h4
            exact h4.1.2
        have hp : (backTo pos (starEach rest X.env)).any (·.1) = false := by
          have := bp pos X.env
          rw [star_of hs] at this
          exact this
        refine PySem.W.callWith_K (h₀ := X.base) I.ok.mod.kin hk (thn (pa.run pos pins s σ H _ I q) fun us s1 ⟨vs, H1, I1, r, q⟩ => ⟨I1.kIn, ?_⟩) (star_of hs _ _) hp
        exact run_fnS F hr hb (E := WE W) (passAt hC.tk σ) I1 r q
    · cases h
  | .bi f es, X, G, N, sc, W, hG, hC, t, e, h => by
    unfold ck at h
    split at h
    · simp only [Bool.and_eq_true, decide_eq_true_eq, Bool.not_eq_true'] at h
      obtain ⟨⟨⟨h1, h2⟩, h3⟩, h4⟩ := h
      subst h1
      have pa := sndEs es hG hC h4
      have bp := back_plain h4
      have hgl : Gl X _ := gl_of (by rw [hC.hsc]; exact h2)
      have hs : ∀ {a1 : Expr} {rest : List Expr}, cks N es sc (a1 :: rest) = true → isStar a1 = false := fun {a1 rest} h4 => by
        cases es with
        | nil => unfold cks at h4; cases h4
        | cons _ _ =>
          unfold cks at h4
          simp only [Bool.and_eq_true, Bool.not_eq_true'] at h4
          exact h4.1.2
      refine snd_plain hG ⟨fun pins s σ H Q I q => ?_⟩ rfl rfl
      have hv := Bi.boot f
      have hn := Bi.nmain f
      have hc := biR_ok (X := X) hC.calm f
      rw [hG.K] at hc
      refine wpAny_Call_Name_kw (ld_blt I hgl (hG.bi f) hv ?_ hn h3)
      have hp : ∀ pos, (backTo pos (starEach _ X.env)).any (·.1) = false := fun pos => by
        have := bp pos X.env
        rw [star_of (hs h4)] at this
        exact this
      have go : ∀ pos, wpAny (model X.prog X.w) X.A (spliced (backTo pos (starEach _ X.env))) (fun us s1 => wpAny (model X.prog X.w) X.A (call f.val us) (EP X pins σ Q) X.xe s1) X.xe s :=
        fun pos => thn (pa.run pos pins s σ H _ I q) fun us s1 ⟨vs, H1, I1, r1, q1⟩ => hc pins s1 σ H1 vs us Q I1 r1 q1
      rcases Bi.kind f with ⟨id, e⟩ | ⟨T, e⟩
      · rw [e] at go ⊢
        exact PyProof.Rows.callWith_builtin1 (go _) (star_of (hs h4) _ _) (hp _)
      · rw [e] at go ⊢
        exact PyProof.Rows.callWith_type1 (go _) (star_of (hs h4) _ _) (hp _)
    · cases h
  | .isi a c, X, G, N, sc, W, hG, hC, t, e, h => by
    unfold ck at h
    split at h
    · simp only [Bool.and_eq_true, decide_eq_true_eq, Bool.not_eq_true'] at h
      obtain ⟨⟨⟨⟨⟨⟨h1, h2⟩, h3⟩, h4⟩, h5⟩, h6⟩, h7⟩ := h
      subst h1
      subst h3
      have ha := (sndE a hG hC h6).1 rfl
      have hgl : Gl X _ := gl_of (by rw [hC.hsc]; exact h2)
      have hgl2 : Gl X _ := gl_of (by rw [hC.hsc]; exact h4)
      refine snd_plain hG ⟨fun pins s σ H Q I q => ?_⟩ rfl rfl
      refine wpAny_Call_Name_kw (ld_blt I hgl hG.isi (by decide +kernel : bootBuiltins "isinstance" = some (.builtin "isinstance")) ?_ (by decide) (by decide))
      refine PyProof.Rows.callWith_builtin1 ?_ (star_of h7 _ _) rfl
      rw [star_of h7]
      refine Calls.spliced_cons (thn (ha.run pins s σ H _ I q) fun u s1 ⟨x, H1, I1, r1, v, ev, q1⟩ => ?_)
      rw [← hG.K] at q1
      have pc : ∀ p, PE X (.Name _ p) (tC v) := fun p => pe_cls hG hgl2 h5 ev
      show wpAny _ _ (spliced ((false, eval (.Name _ _) X.env) :: [])) _ _ _
      refine Calls.spliced_cons (thn ((pc _).run pins s1 σ H1 (fun w H2 => w = v ∧ H2 = H1) I1 ⟨rfl, rfl⟩) fun u2 s2 ⟨w, H2, I2, r2, e1, e2⟩ => ?_)
      subst e1 e2
      exact Calls.spliced_nil (isiR_ok I2 r1 r2 q1)
    · cases h
  | .isiT a cs, X, G, N, sc, W, hG, hC, t, e, h => by
    unfold ck at h
    split at h
    · rename_i pos0 ea es1 k1 p1 p2
      simp only [Bool.and_eq_true, decide_eq_true_eq, Bool.not_eq_true'] at h
      obtain ⟨⟨⟨⟨⟨h1, h2⟩, h6⟩, h7⟩, h8⟩, h9⟩ := h
      subst h1
      have ha := (sndE a hG hC h6).1 rfl
      have hgl : Gl X _ := gl_of (by rw [hC.hsc]; exact h2)
      refine snd_plain hG ⟨fun pins s σ H Q I q => ?_⟩ rfl rfl
      refine wpAny_Call_Name_kw (ld_blt I hgl hG.isi (by decide +kernel : bootBuiltins "isinstance" = some (.builtin "isinstance")) ?_ (by decide) (by decide))
      refine PyProof.Rows.callWith_builtin1 ?_ (star_of h7 _ _) rfl
      rw [star_of h7]
      refine Calls.spliced_cons (thn (ha.run pins s σ H _ I q) fun u s1 ⟨x, H1, I1, r1, vs, ev, q1⟩ => ?_)
      rw [← hG.K] at q1
      obtain ⟨pa, hl⟩ := pa_cls hG hC.hsc h8 ev
      have hl : vs.length ≤ sizeLine := by
        rw [hl]
        exact Nat.le_trans (Nat.le_of_lt h9) (by decide +kernel : 20 ≤ sizeLine)
      have pt : ∀ x1 pos, PE X (.Tuple _ x1 pos) (tTup fun _ H Q => Q vs H) := fun x1 pos => pe_tup pa
      show wpAny _ _ (spliced ((false, eval (.Tuple es1 k1 p1) X.env) :: [])) _ _ _
      refine Calls.spliced_cons (thn ((pt _ _).run pins s1 σ H1 (fun w H2 => ∃ p, w = .ref p ∧ isiTR X.K x p vs H2 Q) I1 ⟨hl, fun p hp => ⟨p, rfl, q1 p hp⟩⟩) fun u2 s2 ⟨w, H2, I2, r2, p, e1, q2⟩ => ?_)
      subst e1
      cases r2
      exact Calls.spliced_nil (isiTR_ok I2 r1 q2)
    · cases h
  | .bm m o es, X, G, N, sc, W, hG, hC, t, e, h => by
    unfold ck at h
    split at h
    · simp only [Bool.and_eq_true, decide_eq_true_eq] at h
      obtain ⟨⟨⟨⟨⟨h1, h2⟩, h3⟩, h4⟩, h5⟩, h6⟩ := h
      subst h1
      have ho := (sndE o hG hC h2).1 rfl
      have pa := sndEs es hG hC h6
      have bp := back_plain h6
      have ba := back_all h6
      refine snd_plain hG ⟨fun pins s σ H Q I q => ?_⟩ rfl rfl
      have hm := bmR_ok (X := X) (by have := hG.hu; omega) m
      rw [hG.K] at hm
      rename_i args pos
      cases args with
      | nil =>
        have e0 : wPs G es W = tNil := by
          cases es with
          | nil => rfl
          | cons _ _ => unfold cks at h6; cases h6
        refine wpAny_Call_method0_late (base_of h3 _ _ _) h4 (thn (ho.run pins s σ H _ I q) fun v s1 ⟨x, H1, I1, r1, ty, q1⟩ => ?_)
        obtain ⟨k1, k2⟩ := bmT_ok I1 ty r1
        rw [e0] at q1
        exact ⟨m.ty, m.id, m.plain, m.slot, m.typ, k1, k2, Calls.callWith_builtin rfl (PySem.evalArgs_none (hm pins s1 σ H1 x [] v [] Q I1 r1 .nil q1))⟩
      | cons a1 rest =>
        have hs : isStar a1 = false := by
          cases es with
          | nil => unfold cks at h6; cases h6
          | cons _ _ =>
            unfold cks at h6
            simp only [Bool.and_eq_true, Bool.not_eq_true'] at h6
            exact h6.1.2
        have hfew : ((backTo pos (starEach (a1 :: rest) X.env)).all (fun x => !x.1) && (backToKw pos (keywordEach [] X.env)).all (fun x => x.1.isSome)
            && decide ((a1 :: rest).length + ([] : List Keyword).length + (if ([] : List Keyword).isEmpty then 0 else 1) < 30)) = true := by
          rw [ba pos X.env]
          show (true && true && decide ((a1 :: rest).length + 0 + 0 < 30)) = true
          rw [decide_eq_true (by omega)]
          rfl
        refine wpAny_Call_method_late (base_of h3 _ _ _) hfew h4 rfl (thn (ho.run pins s σ H _ I q) fun v s1 ⟨x, H1, I1, r1, ty, q1⟩ => ?_)
        obtain ⟨k1, k2⟩ := bmT_ok I1 ty r1
        refine ⟨m.ty, m.id, m.plain, m.slot, m.typ, k1, k2, ?_⟩
        have hA := pa.run pos pins s1 σ H1 _ I1 q1
        have hpl : (backTo pos (starEach rest X.env)).any (·.1) = false := by
          have := bp pos X.env
          rw [star_of hs] at this
          exact this
        rw [star_of hs] at hA ⊢
        refine Calls.callWith_builtin (by show (false || (backTo pos (starEach rest X.env)).any (·.1)) = false; rw [hpl] <;> rfl) (Calls.evalArgs_plain ?_)
        exact thn hA fun us s2 ⟨vs, H2, I2, r2, q2⟩ => hm pins s2 σ H2 x vs v us Q I2 r1 r2 q2
    · cases h
  | .ix a i, X, G, N, sc, W, hG, hC, t, e, h => by
    unfold ck at h
    split at h
    · simp only [Bool.and_eq_true] at h
      obtain ⟨⟨h1, h2⟩, h3⟩ := h
      refine snd_plain hG ?_ rfl rfl
      have := pe_ix (ixR_ok (X := X) (by have := hG.hu; omega)) ((sndE a hG hC h1).1 rfl) ((sndE i hG hC h2).1 rfl) (fun o i => subs_of h3 o i) (pos := by assumption)
      rw [hG.K] at this
      exact this
    · cases h
  | .sl a lo hi, X, G, N, sc, W, hG, hC, t, e, h => by
    unfold ck at h
    split at h
    · simp only [Bool.and_eq_true] at h
      obtain ⟨⟨h1, h2⟩, h3⟩ := h
      refine snd_plain hG ?_ rfl rfl
      rename_i p2 pos
      have := pe_slice (p2 := p2) (pos := pos) (slR_ok (X := X)) ((sndE a hG hC h1).1 rfl) (sndO lo hG hC h2) (sndO hi hG hC h3)
      rw [hG.K] at this
      exact this
    · cases h
  | .lst es, X, G, N, sc, W, hG, hC, t, e, h => by
    unfold ck at h
    split at h
    · exact snd_plain hG (pe_lst (sndEs es hG hC h)) rfl rfl
    · cases h
  | .tup es, X, G, N, sc, W, hG, hC, t, e, h => by
    unfold ck at h
    split at h
    · exact snd_plain hG (pe_tup (sndEs es hG hC h)) rfl rfl
    · cases h
theorem sndEs : ∀ (x : Exs) {X : Cx} {G : Gam} {N : List Str} {sc : Scope} {W : WX} (hG : GOk X G) (hC : COk X N sc W) {es : List Expr}, cks N x sc es = true → PA X es (wPs G x W)
  | .nil, X, G, N, sc, W, hG, hC, es, h => by
    unfold cks at h
    cases es with
    | nil => exact pa_nil
    | cons _ _ => cases h
  | .cons x r, X, G, N, sc, W, hG, hC, es, h => by
    unfold cks at h
    cases es with
    | nil => cases h
    | cons e rest =>
      simp only [Bool.and_eq_true, Bool.not_eq_true'] at h
      obtain ⟨⟨h1, h2⟩, h3⟩ := h
      exact pa_cons ((sndE x hG hC h1).1 rfl) (sndEs r hG hC h3) (star_of h2 _ _)
theorem sndO : ∀ (x : OEx) {X : Cx} {G : Gam} {N : List Str} {sc : Scope} {W : WX} (hG : GOk X G) (hC : COk X N sc W) {e : Option Expr}, cko N x sc e = true → PO X e (wPo G x W)
  | .none, X, G, N, sc, W, hG, hC, e, h => by
    unfold cko at h
    cases e with
    | none => exact po_none
    | some _ => cases h
  | .some x, X, G, N, sc, W, hG, hC, e, h => by
    unfold cko at h
    cases e with
    | none => cases h
    | some e => exact po_some ((sndE x hG hC h).1 rfl)
end
end
end Vc

set_option Elab.async false
set_option linter.all false
set_option maxRecDepth 100000
set_option maxHeartbeats 2000000
namespace Vc
open PySem PySem.Spec PyProof.Rows L2
/-! ### statements -/
inductive Src
  | seq (e : Ex)
  | rng (e : Ex)
mutual
inductive St
  | set (i : Nat) (e : Ex)
  | unp (is : List Nat) (e : Ex)
  | ex (e : Ex)
  | ifs (c : Ex) (a b : Sts)
  | fors (t : Tg) (s : Src) (b : Sts)
  | whl (c : Ex) (b : Sts)
  | ret (e : Ex)
  | retn
  | raise (C m : Str)
  | pass
  | tr (b : Sts) (C : Str) (n : Option Nat) (h : Sts)
inductive Sts
  | nil
  | cons (s : St) (r : Sts)
end
def setAll (σ : L2.St) : List Nat → List V → L2.St
  | i :: is, x :: xs => setAll (σ.set i (some x)) is xs
  | _, _ => σ
def hoSeq : HO → Option (List V)
  | .lst xs => some xs
  | .tup xs => some xs
  | _ => none
/-- a target -/
def wTg (K : PySem.W.Frag) : Tg → TG
  | .nm i => gName i
  | .tp is => fun v σ H Q => match v with
      | .ref a => (match rd H a with
          | some u => (match hoSeq u with
              | some xs => xs.length = is.length ∧ Q (setAll σ is xs) H
              | none => False)
          | none => False)
      | _ => False
/-- what a for walks: the items, and what must stand meanwhile -/
def wSrc (G : Gam) (W : WX) : Src → L2.St → Hp → (List V → (Hp → Prop) → Hp → Prop) → Prop
  | .seq e => fun σ H R => (wP G e W).1 σ H fun x H1 => match x with
      | .str z => R (z.cps.toList.map fun c => V.str ⟨#[c]⟩) (fun _ => True) H1
      | .ref a => (match rd H1 a with
          | some (.lst xs) => R xs (fun H => rd H a = some (.lst xs)) H1
          | some (.tup xs) => R xs (fun H => rd H a = some (.tup xs)) H1
          | _ => False)
      | _ => False
  | .rng e => fun σ H R => (wP G e W).1 σ H fun x H1 => match x with
      | .int n => (-(2 ^ 62) ≤ n ∧ n < 2 ^ 62) ∧ R ((List.range n.toNat).map fun k => V.int (k : Nat)) (fun _ => True) H1
      | _ => False
/-- an iterator whose items are known ahead -/
structure Known (J : It) (items : List V) (ok : Hp → Prop) : Prop where
  go : ∀ i H, ok H → i < items.length → J.go i H
  yld : ∀ i H x H', ok H → i < items.length → J.yld i H x H' → H' = H ∧ items[i]? = some x
  stop : ∀ i H, ok H → items.length ≤ i → J.stop i H
/-- what the loop rule asks, of any iterator with these items -/
def forQ (items : List V) (ok : Hp → Prop) (t : TG) (b : TS) : TS := fun D σ H => ∀ J : It, Known J items ok → ∃ W : Nat → Nat → L2.St → Hp → Prop, (∃ m, W 0 m σ H) ∧ ∀ i m σ H, W i m σ H →
      (J.stop i H ∧ D.nx σ H) ∨ (J.go i H ∧ ∃ N : L2.St → Hp → Prop, (∀ σ' H', N σ' H' → ∃ m', m' < m ∧ W (i + 1) m' σ' H') ∧ ∀ x H', J.yld i H x H' → t x σ H' fun σ2 H2 => b { D with nx := N, ct := N, bk := D.nx } σ2 H2)
/-- the loop by an invariant over the items gone through -/
def forR (items : List V) (ok : Hp → Prop) (t : TG) (b : TS) : TS := fun D σ H =>
  ∃ Pv : Nat → L2.St → Hp → Prop, Pv 0 σ H ∧ (∀ i σ H, i ≤ items.length → Pv i σ H → ok H) ∧
    (∀ i x σ H, items[i]? = some x → Pv i σ H → t x σ H fun σ2 H2 => b { D with nx := Pv (i + 1), ct := Pv (i + 1), bk := D.nx } σ2 H2) ∧ ∀ σ H, Pv items.length σ H → D.nx σ H
mutual
def wS (G : Gam) : WX → St → TS
  | W, .set i e => tAsg (wP G e W).1 (gName i)
  | W, .unp is e => tAsg (wP G e W).1 (wTg G.K (.tp is))
  | W, .ex e => tDrop (wP G e W).1
  | W, .ifs c a b => tIfS (wP G c W).2 (wSs G W a) (wSs G W b)
  | W, .fors t s b => fun D σ H => wSrc G W s σ H fun items ok H1 => forQ items ok (wTg G.K t) (wSs G W b) D σ H1
  | W, .whl c b => tWhile (wP G c W).2 (wSs G W b)
  | W, .ret e => tRet (wP G e W).1
  | _, .retn => tRetN
  | W, .raise C _ => fun _ σ H => ∃ a, G.exc C = some a ∧ W (.ref a) none σ H
  | _, .pass => tNext
  | W, .tr b C (some i) h => fun D σ H => ∃ c, G.cls C = some (.ref c) ∧ wSs G (wTrk G.K (.ref c) i (fun _ => wSs G W0 h) W D) b D σ H
  | W, .tr b C none h => fun D σ H => ∃ c, G.cls C = some (.ref c) ∧ wSs G (wOnly G.K (.ref c) (fun _ _ _ => wSs G W0 h) W D) b D σ H
def wSs (G : Gam) : WX → Sts → TS
  | _, .nil => tNext
  | W, .cons s r => tSeq (wS G W s) (wSs G W r)
end
/-! ### the check -/
def locB (N : List Str) (sc : Scope) (i : Nat) (x : Str) : Bool :=
  decide (N[i]? = some x) && (match sc.names.lookup x with
    | some .local => true
    | some .cell => true
    | _ => false)
def notTup : Expr → Bool
  | .Tuple .. => false
  | _ => true
def notSet : Expr → Bool
  | .Set .. => false
  | _ => true
def ckTs (N : List Str) (sc : Scope) : List Nat → List Expr → Bool
  | [], ts => ts.isEmpty
  | i :: is, ts => match ts with
      | .Name x _ :: r => locB N sc i x && ckTs N sc is r
      | _ => false
def ckTg (N : List Str) (sc : Scope) : Tg → Expr → Bool
  | .nm i, e => (match e with
      | .Name x _ => locB N sc i x
      | _ => false)
  | .tp is, e => (match e with
      | .Tuple ts _ _ => ckTs N sc is ts
      | _ => false)
def ckSrc (N : List Str) (sc : Scope) : Src → Expr → Bool
  | .seq x, e => ck N x false sc e && notSet e
  | .rng x, e => (match e with
      | .Call (.Name y _) [a] [] _ => decide (y = "range") && glB sc y && ck N x false sc a && !isStar a
      | _ => false)
/-- what may stand in a clause's suite: a name or a constant, kept or told -/
def easyB : Ex → Bool
  | .v _ => true
  | .ki _ => true
  | .ks _ => true
  | .kb _ => true
  | .kn => true
  | _ => false
def easyS : St → Bool
  | .set _ e => easyB e
  | .ret e => easyB e
  | .retn => true
  | .pass => true
  | _ => false
def easySs : Sts → Bool
  | .nil => true
  | .cons s r => easyS s && easySs r
def justLoc (sc : Scope) (n : Str) : Bool :=
  match sc.names.lookup n with
  | some .local => true
  | _ => false
mutual
def ckS (N : List Str) (sc : Scope) : St → Stmt → Bool
  | .set i x, s => (match s with
      | .Assign [.Name y _] e _ => locB N sc i y && ck N x false sc e && noLc e
      | _ => false)
  | .unp is x, s => (match s with
      | .Assign [.Tuple ts _ _] e _ => ckTs N sc is ts && ck N x false sc e && noLc e && notTup e
      | _ => false)
  | .ex x, s => (match s with
      | .Expr e _ => ck N x false sc e && noLc e
      | _ => false)
  | .ifs c a b, s => (match s with
      | .If e t f _ => ck N c true sc e && ckSs N sc a t && ckSs N sc b f
      | _ => false)
  | .fors t r b, s => (match s with
      | .For tg it body [] _ => ckTg N sc t tg && ckSrc N sc r it && ckSs N sc b body
      | _ => false)
  | .whl c b, s => (match s with
      | .While e body [] _ => ck N c true sc e && ckSs N sc b body
      | _ => false)
  | .ret x, s => (match s with
      | .Return (some e) _ => ck N x false sc e
      | _ => false)
  | .retn, s => (match s with
      | .Return none _ => true
      | _ => false)
  | .raise C m, s => (match s with
      | .Raise (some (.Call (.Name x _) [.Constant (.str _) _ _] [] _)) none _ => decide (x = C) && glB sc x && !(x == "__debug__")
      | _ => false)
  | .pass, s => (match s with
      | .Pass _ => true
      | _ => false)
  | .tr b C n h, s => (match s with
      | .Try body [.ExceptHandler (some (.Name x _)) m (s0 :: suite) _] [] [] _ =>
        ckSs N sc b body && decide (x = C) && glB sc x && !(x == "__debug__") && ckSs N sc h (s0 :: suite) && easySs h && (match n, m with
          | some i, some y => decide (N[i]? = some y) && justLoc sc y
          | none, none => true
          | _, _ => false)
      | _ => false)
def ckSs (N : List Str) (sc : Scope) : Sts → List Stmt → Bool
  | .nil, ss => ss.isEmpty
  | .cons x r, ss => (match ss with
      | s :: rest => ckS N sc x s && ckSs N sc r rest
      | [] => false)
end
/-! ### it is right -/
structure XOk (X : Cx) (C : Addr) : Prop where
  ex : PySem.W.excIn X.K C [.type "ValueError", .type "Exception", .type "BaseException", .type "object"] "ValueError.__new__" = true
  kp : PySem.W.keepIn X.K (.ref C) = true
  sb : PySem.W.subIn X.K (.ref C) (.type "BaseException") = some true
  ty : PySem.W.typeIn X.K (.ref C) = some (.type "type")
structure SOk (X : Cx) (G : Gam) (N : List Str) (sc : Scope) (W : WX) : Prop where
  g : GOk X G
  c : COk X N sc W
  fn : ∀ x, X.fn x = true
  own : PassesOwn (model X.prog X.w) X.A X.env X.xe
  exc : ∀ C a, G.exc C = some a → X.mg C = some (.ref a) ∧ XOk X a
  hs : X.stack = X.env :: X.outer
  hf : X.env.frame = some X.env.locals
  hex : X.ex = []
section
variable {X : Cx} {G : Gam} {N : List Str} {sc : Scope} {W : WX}
theorem PG.imp {e : Expr} {t u : TG} (h : PG X e t) (i : ∀ v σ H Q, u v σ H Q → t v σ H Q) : PG X e u := ⟨fun pins s σ H v w Q I r q => h.run pins s σ H v w Q I r (i _ _ _ _ q)⟩
theorem PI.imp {tg it : Expr} {t u : TI} (h : PI X tg it t) (i : ∀ σ H R, u σ H R → t σ H R) : PI X tg it u := ⟨fun pins s σ H R I q => h.run pins s σ H R I (i _ _ _ q)⟩
theorem PS.imp {e : Stmt} {t u : TS} (h : PS X e t) (i : ∀ D σ H, u D σ H → t D σ H) : PS X e u := ⟨fun pins s σ H D I q => h.run pins s σ H D I (i _ _ _ q)⟩
theorem loc_of {i : Nat} {x : Str} (hC : COk X N sc W) (h : locB N sc i x = true) : X.N[i]? = some x ∧ Loc X.env.scope x := by
  unfold locB at h
  rw [Bool.and_eq_true] at h
  obtain ⟨h1, h2⟩ := h
  refine ⟨by rw [hC.hN]; exact of_decide_eq_true h1, ?_⟩
  rw [hC.hsc]
  split at h2
  · exact .inl (by assumption)
  · exact .inr (by assumption)
  · cases h2
def gAll (is : List Nat) : TGs := fun vs σ H Q => vs.length = is.length ∧ Q (setAll σ is vs) H
theorem each_name {ts : List Expr} {x : Str} {p : Pos} {env : Env} : (assignEach (.Name x p :: ts) env).map (·.2) = assign (.Name x p) env :: (assignEach ts env).map (·.2) := rfl
theorem tgs_ok (hC : COk X N sc W) (hf : ∀ x, X.fn x = true) : ∀ {is : List Nat} {ts : List Expr}, ckTs N sc is ts = true → PGs X ts (gAll is) ∧ (assignEach ts X.env).length = is.length ∧ (assignEach ts X.env).findIdx? (·.1) = none
  | [], ts, h => by
    unfold ckTs at h
    cases ts with
    | nil =>
      refine ⟨⟨fun pins s σ H vs us Q I r q => ?_⟩, rfl, rfl⟩
      refine pgs_nil.run pins s σ H vs us Q I r ⟨?_, ?_⟩
      · exact List.length_eq_zero_iff.mp q.1
      · have : vs = [] := List.length_eq_zero_iff.mp q.1
        subst this
        exact q.2
    | cons _ _ => cases h
  | i :: is, ts, h => by
    unfold ckTs at h
    split at h
    · rw [Bool.and_eq_true] at h
      obtain ⟨h1, h2⟩ := h
      obtain ⟨k1, k2⟩ := loc_of hC h1
      obtain ⟨r1, r2, r3⟩ := tgs_ok hC hf h2
      have nd : X.N.Nodup := by rw [hC.hN]; exact hC.nd
      refine ⟨⟨fun pins s σ H vs us Q I r q => ?_⟩, ?_, ?_⟩
      · refine (pgs_cons (pg_name nd k1 k2 (.inl (hf _))) r1 each_name).run pins s σ H vs us Q I r ?_
        obtain ⟨q1, q2⟩ := q
        cases vs with
        | nil => cases q1
        | cons v vr => exact ⟨v, vr, rfl, by simpa using q1, q2⟩
      · show (assignEach _ X.env).length + 1 = is.length + 1
        rw [r2]
      · show List.findIdx? _ (_ :: _) = none
        rw [List.findIdx?_cons]
        simp only [Bool.false_eq_true, if_false]
        rw [r3]
        rfl
    · cases h
theorem tg_ok (hG : GOk X G) (hC : COk X N sc W) (hf : ∀ x, X.fn x = true) : ∀ {t : Tg} {e : Expr}, ckTg N sc t e = true → PG X e (wTg G.K t)
  | .nm i, e, h => by
    simp only [ckTg] at h
    split at h
    · obtain ⟨k1, k2⟩ := loc_of hC h
      exact pg_name (by rw [hC.hN]; exact hC.nd) k1 k2 (.inl (hf _))
    · cases h
  | .tp is, e, h => by
    simp only [ckTg] at h
    split at h
    · obtain ⟨r1, r2, r3⟩ := tgs_ok hC hf h
      refine ⟨fun pins s σ H v u Q I r q => ?_⟩
      simp only [wTg] at q
      split at q
      · rename_i a
        split at q
        · rename_i w e
          split at q
          · rename_i xs e2
            cases w <;> first | cases e2 | skip
            · exact (pg_lst hC.calm r1 r2 r3).run pins s σ H _ u Q I r ⟨_, xs, rfl, rd_lst e, q.1, q.1, q.2⟩
            · exact (pg_tup hC.calm r1 r2 r3).run pins s σ H _ u Q I r ⟨_, xs, rfl, rd_tup e, q.1, q.1, q.2⟩
          · exact q.elim
        · exact q.elim
      · exact q.elim
    · cases h
theorem set_of {e : Expr} (h : notSet e = true) (env : Env) (x : Value) : foldedSetIterable e env x = pure x := by
  cases e <;> first | rfl | (simp [notSet] at h)
theorem forR_for {J : It} {items : List V} {ok : Hp → Prop} (k : Known J items ok) {t : TG} {b : TS} {D : Ends} {σ : L2.St} {H : Hp} (h : forR items ok t b D σ H) :
    ∃ W : Nat → Nat → L2.St → Hp → Prop, (∃ m, W 0 m σ H) ∧ ∀ i m σ H, W i m σ H →
      (J.stop i H ∧ D.nx σ H) ∨ (J.go i H ∧ ∃ N : L2.St → Hp → Prop, (∀ σ' H', N σ' H' → ∃ m', m' < m ∧ W (i + 1) m' σ' H') ∧ ∀ x H', J.yld i H x H' → t x σ H' fun σ2 H2 => b { D with nx := N, ct := N, bk := D.nx } σ2 H2) := by
  obtain ⟨Pv, h0, hok, hs, hd⟩ := h
  refine ⟨fun i m σ H => m + i = items.length ∧ Pv i σ H, ⟨items.length, rfl, h0⟩, ?_⟩
  rintro i m σ H ⟨em, p⟩
  have o := hok i σ H (by omega) p
  by_cases hlt : i < items.length
  · refine .inr ⟨k.go i H o hlt, Pv (i + 1), fun σ' H' p' => ⟨m - 1, by omega, by omega, p'⟩, fun x H' y => ?_⟩
    obtain ⟨rfl, y2⟩ := k.yld i H x H' o hlt y
    exact hs i x σ _ y2 p
  · have e : i = items.length := by omega
    subst e
    exact .inl ⟨k.stop _ H o (Nat.le_refl _), hd σ H p⟩
theorem known_list {K : PySem.W.Frag} {a : Addr} {xs : List V} : Known (Itl K a) xs (fun H => rd H a = some (.lst xs)) := by
  refine ⟨fun i H o hi => ⟨xs, xs[i], rd_lst o, by simp [hi]⟩, fun i H x H' o _ y => ⟨y.1, y.2 xs (rd_lst o)⟩, fun i H o hi => ⟨xs, rd_lst o, hi⟩⟩
theorem known_tup {K : PySem.W.Frag} {a : Addr} {xs : List V} : Known (Itt K a) xs (fun H => rd H a = some (.tup xs)) := by
  refine ⟨fun i H o hi => ⟨xs, xs[i], rd_tup o, by simp [hi]⟩, fun i H x H' o _ y => ⟨y.1, y.2 xs (rd_tup o)⟩, fun i H o hi => ⟨xs, rd_tup o, hi⟩⟩
theorem known_str {z : Str} : Known (Its z) (z.cps.toList.map fun c => V.str ⟨#[c]⟩) (fun _ => True) := by
  refine ⟨fun i H o hi => ?_, fun i H x H' o _ y => ⟨y.1, ?_⟩, fun i H o hi => ?_⟩
  · show i < z.cps.size
    simpa using hi
  · obtain ⟨c, ec, rfl⟩ := y.2
    simp only [List.getElem?_map, Array.getElem?_toList, ec]
    rfl
  · show z.cps.size ≤ i
    simpa using hi
theorem known_rng {n : Nat} : Known (Itr 0 n) ((List.range n).map fun k => V.int (k : Nat)) (fun _ => True) := by
  have hl : ((List.range n).map fun k => V.int (k : Nat)).length = n := by simp
  refine ⟨fun i H o hi => ?_, fun i H x H' o hi y => ⟨y.1, ?_⟩, fun i H o hi => ?_⟩
  · show i < n
    omega
  · have g : i < n := by omega
    rw [List.getElem?_map, List.getElem?_range g, y.2]
    simp
  · show n ≤ i
    omega
/-- an iterator begins, by the walked value -/
theorem iv_list {pins : List (Addr × Obj)} {σ : L2.St} {H : Hp} {s : Shared} {a : Addr} {xs : List V} {tg : Expr} {R : It → Hp → Prop} (I : Inv X pins σ H s) (hq : SqL X.K H a xs) (q : R (Itl X.K a) H) :
    wpAny (model X.prog X.w) X.A (pyIter (.ref a)) (PIE X pins σ tg R) X.xe s := by
  have pe : PE X (.Constant .none 0 ⟨0, 0, 0, 0⟩) (fun σ' H' Q => σ' = σ ∧ H' = H ∧ Q (.ref a) H) → True := fun _ => trivial
  obtain ⟨its, rv, pl, hz⟩ := I.list hq
  have sz : ∀ b, b = s.heap.objs.size → FpOk X pins H b := fun b e => by
    subst e
    exact I.fpOk (Nat.le_refl _) (I.hok.fresh (Nat.le_refl _))
  exact wpAny_pyIter_list pl.isList ⟨_, [s.heap.objs.size], _, _, H, rfl, I.kept (t' := s.toks) fun b o e => Heap.get?_push_of_some _ e, turn_list a _, ⟨_, Heap.get?_push_size _ rfl, rfl, rfl⟩, fun b hb => sz b (by simpa using hb), q⟩
theorem iv_tup {pins : List (Addr × Obj)} {σ : L2.St} {H : Hp} {s : Shared} {a : Addr} {xs : List V} {tg : Expr} {R : It → Hp → Prop} (I : Inv X pins σ H s) (hq : SqT X.K H a xs) (q : R (Itt X.K a) H) :
    wpAny (model X.prog X.w) X.A (pyIter (.ref a)) (PIE X pins σ tg R) X.xe s := by
  obtain ⟨its, rv, pl, hz⟩ := I.tuple hq
  have sz : ∀ b, b = s.heap.objs.size → FpOk X pins H b := fun b e => by
    subst e
    exact I.fpOk (Nat.le_refl _) (I.hok.fresh (Nat.le_refl _))
  exact wpAny_pyIter_tuple (show s.heap.IsTuple a its.toArray from pl) ⟨_, [s.heap.objs.size], _, _, H, rfl, I.kept (t' := s.toks) fun b o e => Heap.get?_push_of_some _ e, turn_tuple a _, ⟨_, Heap.get?_push_size _ rfl, rfl, rfl⟩, fun b hb => sz b (by simpa using hb), q⟩
theorem iv_str {pins : List (Addr × Obj)} {σ : L2.St} {H : Hp} {s : Shared} {x : Str} {t : Tok} {tg : Expr} {R : It → Hp → Prop} (I : Inv X pins σ H s) (q : R (Its x) H) :
    wpAny (model X.prog X.w) X.A (pyIter (.str x t)) (PIE X pins σ tg R) X.xe s := by
  cases ha : x.cps.all (· < 128)
  · exact wpAny_pyIter_wide ha (pi_one (tk := s.toks) I _ (turn_str _ x t "str_iterator" (.inr rfl)) ⟨_, Heap.get?_push_size _ rfl, rfl, rfl⟩ q)
  · exact wpAny_pyIter_ascii ha (pi_one (tk := s.toks) I _ (turn_str _ x t "str_ascii_iterator" (.inl rfl)) ⟨_, Heap.get?_push_size _ rfl, rfl, rfl⟩ q)
/-- a source's iterator and its items -/
def KR (R : List V → (Hp → Prop) → Hp → Prop) (J : It) (H : Hp) : Prop := ∃ items ok, Known J items ok ∧ R items ok H
theorem src_ok (hG : GOk X G) (hC : COk X N sc W) : ∀ {r : Src} {tg e : Expr}, ckSrc N sc r e = true → PI X tg e (fun σ H R => wSrc G W r σ H fun items ok H1 => ∀ J, Known J items ok → R J H1) ∧ ∀ x, foldedSetIterable e X.env x = pure x
  | .seq x, tg, e, h => by
    simp only [ckSrc, Bool.and_eq_true] at h
    obtain ⟨h1, h2⟩ := h
    refine ⟨⟨fun pins s σ H R I q => ?_⟩, set_of h2 _⟩
    have pe := (sndE x hG hC h1).1 rfl
    refine thn (pe.run pins s σ H _ I q) fun v s1 ⟨y, H1, I1, r1, q1⟩ => ?_
    dsimp only at q1
    split at q1
    · obtain ⟨t, rfl⟩ := r1
      exact iv_str I1 (q1 _ known_str)
    · cases r1
      split at q1
      · rename_i xs e
        exact iv_list I1 (rd_lst e) (q1 _ known_list)
      · rename_i xs e
        exact iv_tup I1 (rd_tup e) (q1 _ known_tup)
      · exact q1.elim
    · exact q1.elim
  | .rng x, tg, e, h => by
    simp only [ckSrc] at h
    split at h
    · simp only [Bool.and_eq_true, decide_eq_true_eq, Bool.not_eq_true'] at h
      obtain ⟨⟨⟨h1, h2⟩, h3⟩, h4⟩ := h
      subst h1
      have hgl : Gl X "range" := gl_of (by rw [hC.hsc]; exact h2)
      have pe := (sndE x hG hC h3).1 rfl
      refine ⟨⟨fun pins s σ H R I q => ?_⟩, fun _ => rfl⟩
      have pa := pa_cons pe pa_nil (star_of h4 [] X.env)
      refine Call_ (ld_blt I hgl hG.rng boot_range (PyProof.Rows.callWith_type1 (thn (pa.run _ pins s σ H (fun vs H1 => match vs with
        | [y] => (match y with
            | .int n => (-(2 ^ 62) ≤ n ∧ n < 2 ^ 62) ∧ ∀ J, Known J ((List.range n.toNat).map fun k => V.int (k : Nat)) (fun _ => True) → R J H1
            | _ => False)
        | _ => False) I q) fun us s1 ⟨vs, H1, I1, r1, q1⟩ => ?_) (star_of h4 _ _) rfl))
      dsimp only at q1
      split at q1
      · split at q1
        · obtain ⟨⟨b1, b2⟩, q1⟩ := q1
          obtain ⟨u, rfl, t, rfl⟩ := vals1 r1
          refine call_range_1 (range_it I1 (by omega) (by omega) b1 b2 (q1 _ ?_))
          simp only [Int.sub_zero]
          exact known_rng
        · exact q1.elim
      · exact q1.elim
    · cases h
theorem forQ_of {items : List V} {ok : Hp → Prop} {t : TG} {b : TS} {D : Ends} {σ : L2.St} {H : Hp} (h : forR items ok t b D σ H) : forQ items ok t b D σ H := fun _ k => forR_for k h
theorem swSole_of {e t : Expr} (h : noLc e = true) (l : Nat) (env : Env) : swapsWithSole [t] e l env = pure false := swaps_of h (some t) l env
theorem stores_of {e : Expr} (h : notTup e = true) (ts : List Expr) (env : Env) : swappedStores ts e env = pure none := by
  unfold swappedStores
  split
  · rename_i h1
    split at h1
    · simp [notTup] at h
    · simp [notTup] at h
    · cases h1
  · rfl
/-- in a clause's suite -/
structure EOk (X : Cx) (N : List Str) (sc : Scope) : Prop where
  hN : X.N = N
  hsc : X.env.scope = sc
  nd : N.Nodup
  fn : ∀ x, X.fn x = true
theorem easy_pe {Y : Cx} {x : Ex} {e : Expr} (hE : EOk Y N sc) (z : easyB x = true) (h : ck N x false sc e = true) : PE Y e (wP G x W0).1 := by
  obtain ⟨rfl, rfl, nd, _⟩ := hE
  cases x <;> first | (simp [easyB] at z; done) | skip
  · unfold ck at h
    split at h
    · simp only [Bool.and_eq_true, decide_eq_true_eq, Bool.not_eq_true'] at h
      obtain ⟨⟨⟨h1, h2⟩, h3⟩, h4⟩ := h
      refine PE.imp (pe_var h1 (vis_of h2) h3 h4) fun σ H Q q => ?_
      have q : vR _ σ H Q := q
      unfold vR at q
      split at q
      · exact ⟨_, by assumption, q⟩
      · exact q.elim
    · cases h
  · unfold ck at h
    split at h
    · have h := of_decide_eq_true h
      subst h
      exact pe_int
    · cases h
  · unfold ck at h
    split at h
    · have h := of_decide_eq_true h
      subst h
      exact pe_str
    · cases h
  · unfold ck at h
    split at h
    · have h := of_decide_eq_true h
      subst h
      exact pe_bl
    · cases h
  · unfold ck at h
    split at h
    · exact pe_non
    · cases h
theorem easy_ps {Y : Cx} {x : St} {s : Stmt} (hE : EOk Y N sc) (z : easyS x = true) (h : ckS N sc x s = true) : PS Y s (wS G W0 x) := by
  cases x <;> first | (simp [easyS] at z; done) | skip
  · unfold ckS at h
    split at h
    · simp only [Bool.and_eq_true] at h
      obtain ⟨⟨h1, h2⟩, h3⟩ := h
      have hl : ∀ {i : Nat} {y : Str}, locB N sc i y = true → Y.N[i]? = some y ∧ Loc Y.env.scope y := fun {i y} h1 => by
        unfold locB at h1
        rw [Bool.and_eq_true] at h1
        obtain ⟨h1, h2⟩ := h1
        refine ⟨by rw [hE.hN]; exact of_decide_eq_true h1, ?_⟩
        rw [hE.hsc]
        split at h2
        · exact .inl (by assumption)
        · exact .inr (by assumption)
        · cases h2
      exact ps_set (by rw [hE.hN]; exact hE.nd) (hl h1).1 (hl h1).2 (easy_pe hE z h2) (swaps_of h3 _ _ _) (.inl (hE.fn _))
    · cases h
  · unfold ckS at h
    split at h
    · exact ps_ret (easy_pe hE z h)
    · cases h
  · unfold ckS at h
    split at h
    · exact ps_retN
    · cases h
  · unfold ckS at h
    split at h
    · exact ps_pass
    · cases h
theorem easy_pss {Y : Cx} : ∀ {x : Sts} {s : List Stmt} (hE : EOk Y N sc) (z : easySs x = true) (h : ckSs N sc x s = true), PSs Y s (wSs G W0 x)
  | .nil, s, hE, z, h => by
    unfold ckSs at h
    cases s with
    | nil => exact pss_nil
    | cons _ _ => cases h
  | .cons x r, s, hE, z, h => by
    unfold ckSs at h
    simp only [easySs, Bool.and_eq_true] at z
    cases s with
    | nil => cases h
    | cons s rest =>
      simp only [Bool.and_eq_true] at h
      exact pss_cons (easy_ps hE z.1 h.1) (easy_pss hE z.2 h.2)
theorem SOk.tr (hS : SOk X G N sc W) {W' : WX} {pn : List (Addr × Obj)} {xe : Value → Shared → Prop} (tk : Takes (X.tr pn xe) W') (pw : PassesOwn (model X.prog X.w) X.A X.env xe) : SOk (X.tr pn xe) G N sc W' where
  g := ⟨hS.g.K, fun f sp e => ⟨(hS.g.fn f sp e).ex⟩, hS.g.gl, hS.g.bi, hS.g.isi, hS.g.rng, hS.g.cls, hS.g.hu⟩
  c := ⟨hS.c.hN, hS.c.hsc, hS.c.nd, hS.c.calm, tk⟩
  fn := hS.fn
  own := pw
  exc := fun C a e => ⟨(hS.exc C a e).1, ⟨(hS.exc C a e).2.ex, (hS.exc C a e).2.kp, (hS.exc C a e).2.sb, (hS.exc C a e).2.ty⟩⟩
  hs := hS.hs
  hf := hS.hf
  hex := hS.hex
theorem names_of {x : Str} {c : Addr} (hS : SOk X G N sc W) (h2 : glB sc x = true) (h3 : (x == ("__debug__" : Str)) = false) (e : G.cls x = some (.ref c)) : Names X x (.ref c) := by
  obtain ⟨hn, u, r, h⟩ := hS.g.cls x _ e
  cases r
  refine ⟨gl_of (by rw [hS.c.hsc]; exact h2), h3, ?_⟩
  rcases h with h | ⟨h, h'⟩
  · exact .inl h
  · exact .inr ⟨h, h', hn⟩
mutual
theorem sndS : ∀ (x : St) {X : Cx} {G : Gam} {N : List Str} {sc : Scope} {W : WX} (hS : SOk X G N sc W) {s : Stmt}, ckS N sc x s = true → PS X s (wS G W x)
  | .set i e, X, G, N, sc, W, hS, s, h => by
    unfold ckS at h
    split at h
    · simp only [Bool.and_eq_true] at h
      obtain ⟨⟨h1, h2⟩, h3⟩ := h
      obtain ⟨k1, k2⟩ := loc_of hS.c h1
      exact ps_set (by rw [hS.c.hN]; exact hS.c.nd) k1 k2 ((sndE e hS.g hS.c h2).1 rfl) (swaps_of h3 _ _ _) (.inl (hS.fn _))
    · cases h
  | .unp is e, X, G, N, sc, W, hS, s, h => by
    unfold ckS at h
    split at h
    · simp only [Bool.and_eq_true] at h
      obtain ⟨⟨⟨h1, h2⟩, h3⟩, h4⟩ := h
      exact ps_asg ((sndE e hS.g hS.c h2).1 rfl) (tg_ok (t := .tp is) hS.g hS.c hS.fn h1) (swSole_of h3 _ _) (stores_of h4 _ _) rfl
    · cases h
  | .ex e, X, G, N, sc, W, hS, s, h => by
    unfold ckS at h
    split at h
    · simp only [Bool.and_eq_true] at h
      exact ps_expr ((sndE e hS.g hS.c h.1).1 rfl) (swaps_of h.2 _ _ _)
    · cases h
  | .ifs c a b, X, G, N, sc, W, hS, s, h => by
    unfold ckS at h
    split at h
    · simp only [Bool.and_eq_true] at h
      exact ps_if ((sndE c hS.g hS.c h.1.1).2 rfl).1 (sndSs a hS h.1.2) (sndSs b hS h.2)
    · cases h
  | .fors t r b, X, G, N, sc, W, hS, s, h => by
    unfold ckS at h
    split at h
    · simp only [Bool.and_eq_true] at h
      obtain ⟨⟨h1, h2⟩, h3⟩ := h
      obtain ⟨k1, k2⟩ := src_ok (tg := _) hS.g hS.c h2
      exact ps_for hS.own hS.c.calm k1 (tg_ok hS.g hS.c hS.fn h1) (sndSs b hS h3) k2
    · cases h
  | .whl c b, X, G, N, sc, W, hS, s, h => by
    unfold ckS at h
    split at h
    · simp only [Bool.and_eq_true] at h
      exact ps_while hS.own ((sndE c hS.g hS.c h.1).2 rfl).1 (sndSs b hS h.2)
    · cases h
  | .ret e, X, G, N, sc, W, hS, s, h => by
    unfold ckS at h
    split at h
    · exact ps_ret ((sndE e hS.g hS.c h).1 rfl)
    · cases h
  | .retn, X, G, N, sc, W, hS, s, h => by
    unfold ckS at h
    split at h
    · exact ps_retN
    · cases h
  | .raise C m, X, G, N, sc, W, hS, s, h => by
    unfold ckS at h
    split at h
    · simp only [Bool.and_eq_true, decide_eq_true_eq, Bool.not_eq_true'] at h
      obtain ⟨⟨h1, h2⟩, h3⟩ := h
      subst h1
      have hgl : Gl X _ := gl_of (by rw [hS.c.hsc]; exact h2)
      refine ⟨fun pins s σ H D I q => ?_⟩
      obtain ⟨a, ea, q⟩ := q
      obtain ⟨hm, ox⟩ := hS.exc _ a ea
      exact (ps_raise hS.c.calm hS.c.tk (pmk_own PySem.F.excBase_ValueError ox.ex hm ox.kp (raises_own ox.sb ox.ty) hgl h3)).run pins s σ H D I q
    · cases h
  | .pass, X, G, N, sc, W, hS, s, h => by
    unfold ckS at h
    split at h
    · exact ps_pass
    · cases h
  | .tr b C n h0, X, G, N, sc, W, hS, s, h => by
    unfold ckS at h
    split at h
    · simp only [Bool.and_eq_true, decide_eq_true_eq, Bool.not_eq_true'] at h
      obtain ⟨⟨⟨⟨⟨⟨h1, h2⟩, h3⟩, h4⟩, h5⟩, h6⟩, h7⟩ := h
      subst h2
      split at h7
      · simp only [Bool.and_eq_true, decide_eq_true_eq] at h7
        obtain ⟨k1, k2⟩ := h7
        refine ⟨fun pins s σ H D I q => ?_⟩
        obtain ⟨c, ec, q⟩ := q
        rw [← hS.g.K] at q
        have hln : ∀ {y : Str}, justLoc sc y = true → X.env.kindOf y = some .local := fun {y} k2 => by
          show X.env.scope.names.lookup y = some .local
          rw [hS.c.hsc]
          unfold justLoc at k2
          split at k2
          · assumption
          · cases k2
        exact (try_track (tb := fun W' => wSs G W' b) hS.hs hS.hf hS.hex (by rw [hS.c.hN]; exact hS.c.nd) (by rw [hS.c.hN]; exact k1) (hln k2) (names_of hS h3 h4 ec) hS.c.tk (fun W' pn xe tk pw => sndSs b (hS.tr tk pw) h1)
          (fun a pn => easy_pss ⟨hS.c.hN, hS.c.hsc, hS.c.nd, hS.fn⟩ h6 h5)).run pins s σ H D I q
      · refine ⟨fun pins s σ H D I q => ?_⟩
        obtain ⟨c, ec, q⟩ := q
        rw [← hS.g.K] at q
        exact (ps_try_only (tb := fun W' => wSs G W' b) hS.hs hS.hf (names_of hS h3 h4 ec) hS.c.tk (fun W' pn xe tk pw => sndSs b (hS.tr tk pw) h1)
          (fun a oe cls d pn _ _ => easy_pss ⟨hS.c.hN, hS.c.hsc, hS.c.nd, hS.fn⟩ h6 h5)).run pins s σ H D I q
      · cases h7
    · cases h
theorem sndSs : ∀ (x : Sts) {X : Cx} {G : Gam} {N : List Str} {sc : Scope} {W : WX} (hS : SOk X G N sc W) {s : List Stmt}, ckSs N sc x s = true → PSs X s (wSs G W x)
  | .nil, X, G, N, sc, W, hS, s, h => by
    unfold ckSs at h
    cases s with
    | nil => exact pss_nil
    | cons _ _ => cases h
  | .cons x r, X, G, N, sc, W, hS, s, h => by
    unfold ckSs at h
    cases s with
    | nil => cases h
    | cons s rest =>
      simp only [Bool.and_eq_true] at h
      exact pss_cons (sndS x hS h.1) (sndSs r hS h.2)
end

/-! ### a def by its tree -/
/-- what a module's surroundings give, apart from how deep one stands -/
structure Env1 (P : Program) (w : World) (K : PySem.W.Frag) (mg : Str → Option Value) (base : Heap) (k : Nat) (G : Gam) : Prop where
  hK : K = G.K
  fn : ∀ f sp, G.fn f = some sp → ∃ (a : Addr) (fd : FuncData) (ps : List Str), FnOk P w K mg base (L2.CX P w) k a fd ps sp ∧ mg f = some (.ref a) ∧ PySem.W.keepIn K (.ref a) = true ∧ L2.Binds K fd ps []
  gl : ∀ x v, G.gl x = some v → ∃ u, mg x = some u ∧ RelV v u
  bi : ∀ b : Bi, mg b.nm = none
  isi : mg "isinstance" = none
  rng : mg "range" = none
  cls : ∀ x v, G.cls x = some v → x ≠ "__name__" ∧ ∃ u, RelV v u ∧ (mg x = some u ∨ (mg x = none ∧ bootBuiltins x = some u))
  exc : ∀ C a, G.exc C = some a → mg C = some (.ref a) ∧ PySem.W.excIn K a [.type "ValueError", .type "Exception", .type "BaseException", .type "object"] "ValueError.__new__" = true ∧ PySem.W.keepIn K (.ref a) = true ∧
    PySem.W.subIn K (.ref a) (.type "BaseException") = some true ∧ PySem.W.typeIn K (.ref a) = some (.type "type")
/-- the body's tree keeps the promise, by the readings alone -/
def Keeps (G : Gam) (N : List Str) (b : Sts) (sp : Sp) : Prop :=
  ∀ (H : Hp) (vs : List V) (Q : VK) (E : XK), sp vs H Q E → wSs G (fun cls d _ H => E cls d H) b { nx := fun _ H' => Q .non H', rt := Q } (start N vs) H
theorem fn_tree {P : Program} {w : World} {K : PySem.W.Frag} {mg : Str → Option Value} {base : Heap} {k : Nat} {G : Gam} (E1 : Env1 P w K mg base k G)
    {x qual : Str} {st : Stmt} {f : Addr} {fd : FuncData} {N ps : List Str} {sp : Sp} {b : Sts} (F : Fun K x qual st f fd) (S : FnScope N ps (defScope st)) (hck : ckSs N (defScope st) b (defBody st) = true)
    (len : ∀ vs H Q E, sp vs H Q E → vs.length = ps.length) (kp : Keeps G N b sp) : FnOk P w K mg base (L2.CX P w) (k + 1) f fd ps sp := by
  refine F.okX S len fun cdv A outer s H vs Q E hr h => ⟨wSs G (fun cls d _ H => E cls d H) b, ?_, kp H vs Q E h⟩
  refine sndSs b (N := N) (sc := defScope st) ⟨⟨E1.hK, fun f sp e => ?_, E1.gl, E1.bi, E1.isi, E1.rng, E1.cls, hr.units⟩, ⟨rfl, rfl, S.nd, rfl, ?_⟩, fun _ => rfl, ?_, fun C a e => ?_, rfl, rfl, rfl⟩ hck
  · obtain ⟨a, fd, ps, F2, h1, h2, h3⟩ := E1.fn f sp e
    exact ⟨a, fd, ps, k, F2, hr, h1, h2, h3⟩
  · exact takes_of rfl rfl rfl rfl
  · exact passes_of rfl
  · obtain ⟨h1, h2, h3, h4, h5⟩ := E1.exc C a e
    exact ⟨h1, ⟨h2, h3, h4, h5⟩⟩
end
end Vc

set_option Elab.async false
set_option linter.all false
set_option maxRecDepth 100000
set_option maxHeartbeats 2000000
namespace Vc
open PySem PySem.Spec PyProof.Rows L2
/-! ### loops, as one uses them -/
theorem forQ_map {α : Type} {f : α → V} {xs : List α} {ok : Hp → Prop} {t : TG} {b : TS} {D : Ends} {σ : L2.St} {H : Hp} (I : List α → L2.St → Hp → Prop) (h0 : I [] σ H) (hok : ∀ pre σ H, I pre σ H → ok H)
    (hs : ∀ pre x post σ H, xs = pre ++ x :: post → I pre σ H → t (f x) σ H fun σ2 H2 => b { D with nx := I (pre ++ [x]), ct := I (pre ++ [x]), bk := D.nx } σ2 H2) (hd : ∀ σ H, I xs σ H → D.nx σ H) : forQ (xs.map f) ok t b D σ H := by
  refine forQ_of ⟨fun i σ H => I (xs.take i) σ H, h0, fun i σ H _ p => hok _ σ H p, fun i x σ H hx p => ?_, fun σ H p => hd σ H ?_⟩
  · rw [List.getElem?_map] at hx
    cases e : xs[i]? with
    | none => rw [e] at hx; cases hx
    | some y =>
      rw [e] at hx
      cases hx
      obtain ⟨hi, ey⟩ := List.getElem?_eq_some_iff.mp e
      have e1 : xs = xs.take i ++ y :: xs.drop (i + 1) := by
        rw [← ey, ← List.drop_eq_getElem_cons hi, List.take_append_drop]
      have e2 : xs.take (i + 1) = xs.take i ++ [y] := by
        rw [List.take_add_one, e]
        rfl
      have := hs (xs.take i) y (xs.drop (i + 1)) σ H e1 p
      rw [← e2] at this
      exact this
  · rw [List.length_map, List.take_length] at p
    exact p
theorem forQ_pre {items : List V} {ok : Hp → Prop} {t : TG} {b : TS} {D : Ends} {σ : L2.St} {H : Hp} (I : List V → L2.St → Hp → Prop) (h0 : I [] σ H) (hok : ∀ pre σ H, I pre σ H → ok H)
    (hs : ∀ pre x post σ H, items = pre ++ x :: post → I pre σ H → t x σ H fun σ2 H2 => b { D with nx := I (pre ++ [x]), ct := I (pre ++ [x]), bk := D.nx } σ2 H2) (hd : ∀ σ H, I items σ H → D.nx σ H) : forQ items ok t b D σ H := by
  have := forQ_map (f := fun x : V => x) (xs := items) (ok := ok) (t := t) (b := b) (D := D) (σ := σ) (H := H) I h0 hok hs hd
  rwa [List.map_id'] at this
theorem forQ_rng {n : Nat} {ok : Hp → Prop} {t : TG} {b : TS} {D : Ends} {σ : L2.St} {H : Hp} (I : Nat → L2.St → Hp → Prop) (h0 : I 0 σ H) (hok : ∀ k σ H, I k σ H → ok H)
    (hs : ∀ k σ H, k < n → I k σ H → t (.int (k : Nat)) σ H fun σ2 H2 => b { D with nx := I (k + 1), ct := I (k + 1), bk := D.nx } σ2 H2) (hd : ∀ σ H, I n σ H → D.nx σ H) : forQ ((List.range n).map fun k => V.int (k : Nat)) ok t b D σ H := by
  refine forQ_of ⟨I, h0, fun i σ H _ p => hok _ σ H p, fun i x σ H hx p => ?_, fun σ H p => hd σ H ?_⟩
  · have hi : i < n := by
      have := (List.getElem?_eq_some_iff.mp hx).1
      simpa using this
    rw [List.getElem?_map, List.getElem?_range hi] at hx
    cases hx
    exact hs i σ H hi p
  · have e : ((List.range n).map fun k => V.int (k : Nat)).length = n := by simp
    rw [e] at p
    exact p
/-! ### heaps -/
theorem same_new {H : Hp} {p : Addr} {o : HO} (h : H p = none) : Same H (upd H p o) := fun b x e => by
  rw [upd_ne (ne_of_none e h)]
  exact e
/-- a new object, the heap forgotten but for what is kept -/
theorem alloc {H : Hp} {o : HO} {Q : Addr → Hp → Prop} (h : ∀ p H', H p = none → Same H H' → H' p = some o → Q p H') : ∀ p, H p = none → Q p (upd H p o) :=
  fun p hp => h p _ hp (same_new hp) upd_same
/-! readings of objects, by their kinds -/
section
variable {xs : List V} {kvs : List (Key × V)} {k : Int} {z : Str} {i x : V} {H : Hp} {Q : VK} {T : Bool → Hp → Prop} {n : Bool}
theorem ixO_lst : ixO (.lst xs) (.int k) H Q = ∃ v, atI xs k = some v ∧ Q v H := rfl
theorem ixO_tup : ixO (.tup xs) (.int k) H Q = ∃ v, atI xs k = some v ∧ Q v H := rfl
theorem ixO_dKi : ixO (.dK kvs) (.int k) H Q = ∃ v, valV kvs (.inl k) = some v ∧ Q v H := rfl
theorem ixO_dKs : ixO (.dK kvs) (.str z) H Q = ∃ v, valV kvs (.inr z) = some v ∧ Q v H := rfl
theorem lenO_lst : lenO (.lst xs) H Q = Q (.int xs.length) H := rfl
theorem lenO_tup : lenO (.tup xs) H Q = Q (.int xs.length) H := rfl
theorem lenO_dK : lenO (.dK kvs) H Q = Q (.int kvs.length) H := rfl
theorem truO_lst : truO (.lst xs) H T = T (!xs.isEmpty) H := rfl
theorem truO_tup : truO (.tup xs) H T = T (!xs.isEmpty) H := rfl
theorem memO_lst : memO (.lst xs) n x H Q = (flatV x = true ∧ xs.all flatV = true ∧ Q (.bl (n ^^ inV x xs)) H) := rfl
theorem memO_tup : memO (.tup xs) n x H Q = (flatV x = true ∧ xs.all flatV = true ∧ Q (.bl (n ^^ inV x xs)) H) := rfl
theorem memO_dKs : memO (.dK kvs) n (.str z) H Q = Q (.bl (n ^^ (valV kvs (.inr z)).isSome)) H := rfl
theorem memO_dKi : memO (.dK kvs) n (.int k) H Q = Q (.bl (n ^^ (valV kvs (.inl k)).isSome)) H := rfl
theorem hoSeq_lst : hoSeq (.lst xs) = some xs := rfl
theorem hoSeq_tup : hoSeq (.tup xs) = some xs := rfl
end
theorem pick {H : Hp} {p : Addr} {xs : List V} {i : Int} {v : V} {Q : VK} (hp : H p = none) (hv : atI xs i = some v) (h : ∀ H', Same H H' → Q v H') : (match rd (upd H p (.lst xs)) p with
    | some u => ixO u (.int i) (upd H p (.lst xs)) Q
    | none => False) := by
  rw [show rd (upd H p (.lst xs)) p = some (.lst xs) from rd_of upd_same]
  exact ⟨v, hv, h _ (same_new hp)⟩
theorem at_nat {xs : List V} {i : Int} {v : V} (h0 : 0 ≤ i) (h : xs[i.toNat]? = some v) : atI xs i = some v := by
  have := atI_nat (xs := xs) (j := i.toNat) h
  rwa [Int.toNat_of_nonneg h0] at this
/-! ### texts -/
theorem str_ext {a b : Str} (h : a.cps.toList = b.cps.toList) : a = b := by
  obtain ⟨a⟩ := a
  obtain ⟨b⟩ := b
  congr 1
  exact Array.toList_inj.mp h
theorem cps_app (a b : Str) : (a ++ b).cps.toList = a.cps.toList ++ b.cps.toList := by
  show (a.cps ++ b.cps).toList = _
  simp
theorem len_cps (a : Str) : a.length = a.cps.toList.length := by
  show a.cps.size = _
  simp
theorem len_app (a b : Str) : (a ++ b).length = a.length + b.length := by
  rw [len_cps, len_cps, len_cps, cps_app, List.length_append]
theorem len_one (c : Nat) : (⟨#[c]⟩ : Str).length = 1 := rfl
/-! ### small facts that readings ask -/
theorem mul_l {i j : Int} (h : -(2 ^ 64) < i ∧ i < 2 ^ 64) : IntMulOk i j := .of_left (intBits_le_64 h.1 h.2)
theorem mul_r {i j : Int} (h : -(2 ^ 64) < j ∧ j < 2 ^ 64) : IntMulOk i j := .of_right (intBits_le_64 h.1 h.2)
theorem isi_ty {K : PySem.W.Frag} {H : Hp} {x : V} {t n : String} {r : Bool} {Q : VK} (ty : TyOf K H x (.type t)) (h : kitB t n = some r) (q : Q (.bl r) H) : isiR K x (.ty n) H Q :=
  .inl ⟨x, .ty n, .type t, .type n, r, rfl, .ty n, .base ty, kit_ty h, q⟩
theorem line_big : (16777216 : Nat) ≤ sizeLine := by rw [sizeLine_eq]; decide
theorem at_len {xs : List V} {i : Int} (h0 : -(xs.length : Int) ≤ i) (h1 : i < xs.length) : ∃ v, atI xs i = some v ∧ v ∈ xs := by
  unfold atI ixN
  by_cases h : 0 ≤ i
  · have hl : i.toNat < xs.length := by omega
    rw [if_pos h, if_pos h1]
    exact ⟨xs[i.toNat], by simp [hl], List.getElem_mem hl⟩
  · have hl : (i + xs.length).toNat < xs.length := by omega
    rw [if_neg h, if_pos h0]
    exact ⟨xs[(i + xs.length).toNat], by simp [hl], List.getElem_mem hl⟩
theorem at_len' {α : Type} {xs : List α} {i : Int} (h0 : -(xs.length : Int) ≤ i) (h1 : i < xs.length) : ∃ v, atI xs i = some v ∧ v ∈ xs := by
  unfold atI ixN
  by_cases h : 0 ≤ i
  · have hl : i.toNat < xs.length := by omega
    rw [if_pos h, if_pos h1]
    exact ⟨xs[i.toNat], by simp [hl], List.getElem_mem hl⟩
  · have hl : (i + xs.length).toNat < xs.length := by omega
    rw [if_neg h, if_pos h0]
    exact ⟨xs[(i + xs.length).toNat], by simp [hl], List.getElem_mem hl⟩
theorem rd_other {H : Hp} {p r : Addr} {u w : HO} (h : rd H p = some u) (hr : H r = none) : rd (upd H r w) p = some u := by
  have : p ≠ r := by
    rintro rfl
    unfold rd at h
    rw [hr] at h
    cases h
  unfold rd at h ⊢
  rw [upd_ne this]
  exact h
/-- a list and a fresh one, added up -/
theorem add_lst {K : PySem.W.Frag} {H : Hp} {p q : Addr} {xs ys : List V} {Q : VK} (h1 : rd H p = some (.lst xs)) (h2 : H q = none) (hl : xs.length + ys.length ≤ sizeLine) (h : ∀ r H', Same H H' → H' r = some (.lst (xs ++ ys)) → Q (.ref r) H') :
    addR K (.ref p) (.ref q) (upd H q (.lst ys)) Q := by
  unfold addR
  simp only
  rw [rd_other h1 h2, show rd (upd H q (.lst ys)) q = some (.lst ys) from rd_of upd_same]
  exact ⟨hl, fun r hr => h r _ ((same_new h2).trans (same_new hr)) upd_same⟩
end Vc

set_option Elab.async false
set_option linter.all false
set_option maxRecDepth 100000
set_option maxHeartbeats 2000000
namespace Vc
open PySem PySem.Spec PyProof.Rows L2
/-! ### a law's row: the defs one behind the other -/
def mkG (K : PySem.W.Frag) (fns : List (Str × Sp)) (cls gl : List (Str × V)) (exc : List (Str × Addr)) : Gam :=
  ⟨K, fun x => fns.lookup x, fun x => cls.lookup x, fun x => gl.lookup x, fun x => exc.lookup x⟩
/-- a def stands at its name -/
def FunAt (K : PySem.W.Frag) (x : Str) (st : Stmt) : Prop := ∃ (f : Addr) (fd : FuncData), PySem.W.nsIn K mainGlobals x = some (some (.ref f)) ∧ Fun K x x st f fd
theorem fun_at {K : PySem.W.Frag} {x : Str} {st : Stmt} {f : Addr} {oc : Value} {od an : Option Addr} {osl : Array (Option Value)} {kV doc pm cdv ct : Value} (a : PySem.W.nsIn K mainGlobals x = some (some (.ref f)))
    (l : K.lookup f = some ⟨oc, od, .func (PySem.W.fnOf x x (defArgs st) (defBody st) (defScope st) .none kV doc pm an cdv ct), osl⟩)
    (c : PySem.W.codeIn K cdv x = true) (k : PySem.W.keepIn K (.ref f) = true) : FunAt K x st := ⟨f, _, a, fun_mk l c k⟩
/-- a constant of the module stands at its name -/
def GlAt (K : PySem.W.Frag) (x : Str) (v : V) : Prop := ∃ u, PySem.W.nsIn K mainGlobals x = some (some u) ∧ RelV v u
theorem gl_str {K : PySem.W.Frag} {x z : Str} {t : Tok} (a : PySem.W.nsIn K mainGlobals x = some (some (.str z t))) : GlAt K x (.str z) := ⟨_, a, t, rfl⟩
theorem gl_ref {K : PySem.W.Frag} {x : Str} {c : Addr} (a : PySem.W.nsIn K mainGlobals x = some (some (.ref c))) : GlAt K x (.ref c) := ⟨_, a, rfl⟩
theorem gl_int {K : PySem.W.Frag} {x : Str} {z : Int} {t : Tok} (a : PySem.W.nsIn K mainGlobals x = some (some (.int z t))) : GlAt K x (.int z) := ⟨_, a, t, rfl⟩
/-- an own exception class -/
def ExcAt (K : PySem.W.Frag) (x : Str) (C : Addr) : Prop := PySem.W.nsIn K mainGlobals x = some (some (.ref C)) ∧
  PySem.W.excIn K C [.type "ValueError", .type "Exception", .type "BaseException", .type "object"] "ValueError.__new__" = true ∧ PySem.W.keepIn K (.ref C) = true ∧
    PySem.W.subIn K (.ref C) (.type "BaseException") = some true ∧ PySem.W.typeIn K (.ref C) = some (.type "type")
/-- no built-in name is taken by the module -/
structure Free (K : PySem.W.Frag) : Prop where
  b1 : PySem.W.nsIn K mainGlobals "len" = some none
  b2 : PySem.W.nsIn K mainGlobals "str" = some none
  b3 : PySem.W.nsIn K mainGlobals "int" = some none
  b4 : PySem.W.nsIn K mainGlobals "abs" = some none
  b5 : PySem.W.nsIn K mainGlobals "max" = some none
  b6 : PySem.W.nsIn K mainGlobals "min" = some none
  b7 : PySem.W.nsIn K mainGlobals "divmod" = some none
  b8 : PySem.W.nsIn K mainGlobals "any" = some none
  b9 : PySem.W.nsIn K mainGlobals "list" = some none
  b10 : PySem.W.nsIn K mainGlobals "dict" = some none
  b11 : PySem.W.nsIn K mainGlobals "sorted" = some none
  b12 : PySem.W.nsIn K mainGlobals "isinstance" = some none
  b13 : PySem.W.nsIn K mainGlobals "range" = some none
  b14 : PySem.W.nsIn K mainGlobals "bool" = some none
  b15 : PySem.W.nsIn K mainGlobals "ValueError" = some none
/-- the built-in classes that isinstance asks for -/
def blts : List (Str × V) := [("bool", .ty "bool"), ("int", .ty "int"), ("str", .ty "str"), ("list", .ty "list"), ("dict", .ty "dict"), ("ValueError", .ty "ValueError")]
structure Top (K : PySem.W.Frag) (cls gl : List (Str × V)) (exc : List (Str × Addr)) : Prop where
  free : Free K
  gl : ∀ p ∈ gl, GlAt K p.1 p.2
  cls : ∀ p ∈ cls, p.1 ≠ "__name__" ∧ GlAt K p.1 p.2
  exc : ∀ p ∈ exc, ExcAt K p.1 p.2
/-! ### classes asked for by isinstance -/
theorem kit_rr {K : PySem.W.Frag} {D C : Addr} {b : Bool} (hd : PySem.W.hasDictIn K C = true) (ht : PySem.W.typeIn K (.ref C) = some (.type "type")) (h : PySem.W.subIn K (.ref D) (.ref C) = some b) (n : b = false → D ≠ C) :
    PySem.W.kitOne K (.ref D) (.ref C) = some b := by
  have hc : (PySem.W.clsIn K C).isSome = true := by
    unfold PySem.W.hasDictIn at hd
    cases e : PySem.W.clsIn K C with
    | none => rw [e] at hd; cases hd
    | some _ => rfl
  unfold PySem.W.kitOne
  split
  · rename_i e
    cases b with
    | true => rfl
    | false => exact (n rfl (Value.ref.inj (eq_of_beq e))).elim
  · show (if ((PySem.W.clsIn K C).isSome && PySem.W.typeIn K (Value.ref C) == some (Value.type "type")) = true then PySem.W.subIn K (Value.ref D) (Value.ref C) else none) = _
    rw [hc, ht]
    exact (if_pos rfl).trans h
theorem kit_rt {K : PySem.W.Frag} {D : Addr} {T : String} {b : Bool} (m : PySem.W.kitMeta T = true) (h : PySem.W.subIn K (.ref D) (.type T) = some b) : PySem.W.kitOne K (.ref D) (.type T) = some b := by
  unfold PySem.W.kitOne
  split
  · rename_i e
    exact nomatch (eq_of_beq e)
  · show (if PySem.W.kitMeta T = true then _ else _) = _
    rw [if_pos m]
    exact h
def FnF (P : Program) (w : World) (K : PySem.W.Frag) (mg : Str → Option Value) (base : Heap) (k : Nat) (x : Str) (sp : Sp) : Prop :=
  ∃ (a : Addr) (fd : FuncData) (ps : List Str), FnOk P w K mg base (L2.CX P w) k a fd ps sp ∧ mg x = some (.ref a) ∧ PySem.W.keepIn K (.ref a) = true ∧ L2.Binds K fd ps []
section
variable {P : Program} {w : World} {K : PySem.W.Frag} {mg : Str → Option Value} {base : Heap} {k : Nat}
theorem FnF.mono {j : Nat} {x : Str} {sp : Sp} (h : FnF P w K mg base j x sp) (l : j ≤ k) : FnF P w K mg base k x sp := by
  obtain ⟨a, fd, ps, h1, h2⟩ := h
  exact ⟨a, fd, ps, h1.mono l, h2⟩
theorem env_of {cls gl : List (Str × V)} {exc : List (Str × Addr)} (T : Top K cls gl exc) (X : K.In base) (N : base.Ns mainGlobals mg) {fns : List (Str × Sp)} (hf : ∀ p ∈ fns, FnF P w K mg base k p.1 p.2) : Env1 P w K mg base k (mkG K fns (blts ++ cls) gl exc) where
  hK := rfl
  fn := fun f sp e => hf (f, sp) (PySem.mem_of_lookup e)
  gl := fun x v e => by
    obtain ⟨u, h1, h2⟩ := T.gl (x, v) (PySem.mem_of_lookup e)
    exact ⟨u, PySem.W.mg_of X N h1, h2⟩
  bi := fun b => by
    have F := T.free
    cases b
    · exact PySem.W.mg_none_of X N F.b1
    · exact PySem.W.mg_none_of X N F.b2
    · exact PySem.W.mg_none_of X N F.b3
    · exact PySem.W.mg_none_of X N F.b4
    · exact PySem.W.mg_none_of X N F.b5
    · exact PySem.W.mg_none_of X N F.b6
    · exact PySem.W.mg_none_of X N F.b7
    · exact PySem.W.mg_none_of X N F.b8
    · exact PySem.W.mg_none_of X N F.b9
    · exact PySem.W.mg_none_of X N F.b10
    · exact PySem.W.mg_none_of X N F.b11
  isi := PySem.W.mg_none_of X N T.free.b12
  rng := PySem.W.mg_none_of X N T.free.b13
  cls := fun x v e => by
    have m := PySem.mem_of_lookup (show (blts ++ cls).lookup x = some v from e)
    rcases List.mem_append.mp m with m | m
    · have F := T.free
      simp only [blts, List.mem_cons, Prod.mk.injEq, List.not_mem_nil, or_false] at m
      rcases m with ⟨rfl, rfl⟩ | ⟨rfl, rfl⟩ | ⟨rfl, rfl⟩ | ⟨rfl, rfl⟩ | ⟨rfl, rfl⟩ | ⟨rfl, rfl⟩
      · exact ⟨by decide +kernel, _, rfl, .inr ⟨PySem.W.mg_none_of X N F.b14, by decide +kernel⟩⟩
      · exact ⟨by decide +kernel, _, rfl, .inr ⟨PySem.W.mg_none_of X N F.b3, by decide +kernel⟩⟩
      · exact ⟨by decide +kernel, _, rfl, .inr ⟨PySem.W.mg_none_of X N F.b2, by decide +kernel⟩⟩
      · exact ⟨by decide +kernel, _, rfl, .inr ⟨PySem.W.mg_none_of X N F.b9, by decide +kernel⟩⟩
      · exact ⟨by decide +kernel, _, rfl, .inr ⟨PySem.W.mg_none_of X N F.b10, by decide +kernel⟩⟩
      · exact ⟨by decide +kernel, _, rfl, .inr ⟨PySem.W.mg_none_of X N F.b15, by decide +kernel⟩⟩
    · obtain ⟨h0, u, h1, h2⟩ := T.cls (x, v) m
      exact ⟨h0, u, h2, .inl (PySem.W.mg_of X N h1)⟩
  exc := fun C a e => by
    obtain ⟨h1, h2⟩ := T.exc (C, a) (PySem.mem_of_lookup e)
    exact ⟨PySem.W.mg_of X N h1, h2⟩
/-- one def more -/
theorem fn_next {cls gl : List (Str × V)} {exc : List (Str × Addr)} (T : Top K cls gl exc) (X : K.In base) (N : base.Ns mainGlobals mg) {fns : List (Str × Sp)} (hf : ∀ p ∈ fns, FnF P w K mg base k p.1 p.2)
    {x : Str} {st : Stmt} {Ns ps : List Str} {sp : Sp} {b : Sts} (A : FunAt K x st) (S : FnScope Ns ps (defScope st)) (hck : ckSs Ns (defScope st) b (defBody st) = true)
    (bd : ∀ (f : Addr) (fd : FuncData), Fun K x x st f fd → L2.Binds K fd ps [])
    (len : ∀ vs H Q E, sp vs H Q E → vs.length = ps.length) (kp : Keeps (mkG K fns (blts ++ cls) gl exc) Ns b sp) : FnF P w K mg base (k + 1) x sp := by
  obtain ⟨f, fd, a, F⟩ := A
  exact ⟨f, fd, ps, fn_tree (env_of T X N hf) F S hck len kp, PySem.W.mg_of X N a, F.kp, bd f fd F⟩
theorem more {fns : List (Str × Sp)} {x : Str} {sp : Sp} (hf : ∀ p ∈ fns, FnF P w K mg base k p.1 p.2) (h : FnF P w K mg base (k + 1) x sp) : ∀ p ∈ (x, sp) :: fns, FnF P w K mg base (k + 1) p.1 p.2 := fun p hp => by
  rcases List.mem_cons.mp hp with rfl | hp
  · exact h
  · exact (hf p hp).mono (Nat.le_succ _)
end
/-- a law is handed the script: a list that stands in the heap, of ints of at most 2 ^ 20 bits -/
def Scr (H : Hp) (a : Addr) (ns : List Int) : Prop := rd H a = some (.lst (ns.map V.int)) ∧ ns.length ≤ 63 ∧ ∀ z ∈ ns, Builtin.Int.intBits z ≤ 1048576
def spLawOf : Sp := fun vs H Q _ => ∃ (a : Addr) (ns : List Int), vs = [.ref a] ∧ Scr H a ns ∧ ∀ H', Q (.bl true) H'
def noList (K : PySem.W.Frag) : Bool := K.all fun p => !(p.2.cls == .type "list")
theorem mem_lk {β : Type} : ∀ {l : List (Nat × β)} {a : Nat} {b : β}, l.lookup a = some b → (a, b) ∈ l
  | [], _, _, h => by cases h
  | (c, d) :: r, a, b, h => by
    rw [List.lookup_cons] at h
    cases e : a == c with
    | true =>
      rw [e] at h
      have e2 : d = b := Option.some.inj h
      have e3 : a = c := by simpa using e
      rw [e2, e3]
      exact List.mem_cons_self
    | false =>
      rw [e] at h
      exact List.mem_cons_of_mem _ (mem_lk h)
theorem scr_of {K : PySem.W.Frag} (n : noList K = true) {H : Hp} {a : Addr} {ns : List Int} (o : Only H) (s : SqL K H a (ns.map V.int)) (h1 : ns.length ≤ 63) (h2 : ∀ z ∈ ns, Builtin.Int.intBits z ≤ 1048576) : Scr H a ns := by
  refine ⟨?_, h1, h2⟩
  rcases s with (s | ⟨ob, s⟩) | ⟨ob, its, m, e, c, _⟩
  · exact rd_of s
  · exact rd_frz s
  · have := List.all_eq_true.mp n (a, ob) (mem_lk e)
    rw [c] at this
    simp at this
theorem law_fd {K : PySem.W.Frag} {st : Stmt} {f : Addr} {fd : FuncData} {x y : Str} (F : Fun K x x st f fd) (h : ∀ (kV doc pm : Value) (an : Option Addr) (cdv ct : Value) (v : Value), bindArgs (PySem.W.fnOf x x (defArgs st) (defBody st) (defScope st) .none kV doc pm an cdv ct) ⟨[v], []⟩ = pure [(y, v)]) :
    ∀ (s : Shared) (v : Value), BindsTo s fd ⟨[v], []⟩ [(y, v)] := by
  obtain ⟨oc, od, kV, doc, pm, an, cdv, ct, osl, rfl, lk, hcd⟩ := F.ex
  exact fun s v => .of_eq (h _ _ _ _ _ _ v)
theorem no_exc (P : Program) (w : World) (H : Hp) (s : Shared) (e : Value) (s' : Shared) : L2.CX P w [] H s (fun _ _ _ => False) e s' → False := fun h => by
  obtain ⟨_, _, _, _, _, _, _, _, _, _, _, _, z⟩ := h
  exact z
end Vc

set_option Elab.async false
set_option linter.all false
set_option maxRecDepth 100000
set_option maxHeartbeats 2000000
namespace T
open PySem PySem.Spec PyProof.Rows L2 TL PySem.NumText Vc
def is_number_1 : Sts := .cons (.ret (.kb false)) .nil
def is_number_4 : Sts := .cons (.ret (.kb false)) .nil
def is_number_3 : Sts := .cons (.ifs (.cmp .NotIn (.v 1) (.g "FIGURES")) is_number_4 .nil) .nil
def is_number_5 : Sts := .cons (.ret (.kb true)) .nil
def is_number_2 : Sts := .cons (.fors (.nm 1) (.seq (.v 0)) is_number_3) is_number_5
def is_number_0 : Sts := .cons (.ifs (.or (.not (.chain .LtE .LtE (.ki 1) (.bi .len (.cons (.v 0) .nil)) (.ki 40))) (.and (.cmp .Eq (.ix (.v 0) (.ki 0)) (.ks "0")) (.cmp .NotEq (.v 0) (.ks "0")))) is_number_1 .nil) is_number_2
abbrev is_number_N : List Str := ["text", "sign"]
abbrev is_number_P : List Str := ["text"]

def two_figures_1 : Sts := .cons (.ret .kn) .nil
def two_figures_4 : Sts := .cons (.ret .kn) .nil
def two_figures_5 : Sts := .cons (.ret (.v 2)) .nil
def two_figures_3 : Sts := .cons (.ifs (.not (.chain .LtE .LtE (.ki 1) (.v 2) (.v 1))) two_figures_4 .nil) two_figures_5
def two_figures_2 : Sts := .cons (.set 2 (.bi .int (.cons (.v 0) .nil))) two_figures_3
def two_figures_0 : Sts := .cons (.ifs (.or (.cmp .NotEq (.bi .len (.cons (.v 0) .nil)) (.ki 2)) (.or (.cmp .NotIn (.ix (.v 0) (.ki 0)) (.g "FIGURES")) (.cmp .NotIn (.ix (.v 0) (.ki 1)) (.g "FIGURES")))) two_figures_1 .nil) two_figures_2
abbrev two_figures_N : List Str := ["text", "most", "number"]
abbrev two_figures_P : List Str := ["text", "most"]

def day_read_2 : Sts := .cons (.raise "NoDay" "no day") .nil
def day_read_6 : Sts := .cons (.raise "NoDay" "no day") .nil
def day_read_7 : Sts := .cons (.ret (.op .Sub (.op .Add (.op .Add (.op .Mult (.g "YEAR") (.bi .int (.cons (.ix (.v 1) (.ki 0)) .nil))) (.op .Mult (.g "MONTH") (.op .Sub (.v 2) (.ki 1)))) (.v 3)) (.ki 1))) .nil
def day_read_5 : Sts := .cons (.ifs (.or (.cmp .Is (.v 2) .kn) (.cmp .Is (.v 3) .kn)) day_read_6 .nil) day_read_7
def day_read_4 : Sts := .cons (.set 3 (.call "two_figures" (.cons (.ix (.v 1) (.ki 2)) (.cons (.ki 30) .nil)))) day_read_5
def day_read_3 : Sts := .cons (.set 2 (.call "two_figures" (.cons (.ix (.v 1) (.ki 1)) (.cons (.ki 12) .nil)))) day_read_4
def day_read_1 : Sts := .cons (.ifs (.or (.cmp .NotEq (.bi .len (.cons (.v 1) .nil)) (.ki 3)) (.not (.call "is_number" (.cons (.ix (.v 1) (.ki 0)) .nil)))) day_read_2 .nil) day_read_3
def day_read_0 : Sts := .cons (.set 1 (.bm .split (.v 0) (.cons (.ks "-") .nil))) day_read_1
abbrev day_read_N : List Str := ["text", "parts", "month", "day"]
abbrev day_read_P : List Str := ["text"]

def day_shown_2 : Sts := .cons (.ret (.op .Add (.op .Add (.op .Add (.op .Add (.bi .str (.cons (.v 1) .nil)) (.ks "-")) (.bm .zfill (.bi .str (.cons (.op .Add (.v 3) (.ki 1)) .nil)) (.cons (.ki 2) .nil))) (.ks "-")) (.bm .zfill (.bi .str (.cons (.op .Add (.v 4) (.ki 1)) .nil)) (.cons (.ki 2) .nil)))) .nil
def day_shown_1 : Sts := .cons (.unp [3, 4] (.bi .divmod (.cons (.v 2) (.cons (.g "MONTH") .nil)))) day_shown_2
def day_shown_0 : Sts := .cons (.unp [1, 2] (.bi .divmod (.cons (.v 0) (.cons (.g "YEAR") .nil)))) day_shown_1
abbrev day_shown_N : List Str := ["day", "year", "rest", "month", "last"]
abbrev day_shown_P : List Str := ["day"]

def length_read_1 : Sts := .cons (.raise "NoLength" "no length") .nil
def length_read_4 : Sts := .cons (.ret (.op .Mult (.g "YEAR") (.v 1))) .nil
def length_read_6 : Sts := .cons (.ret (.op .Mult (.g "MONTH") (.v 1))) .nil
def length_read_8 : Sts := .cons (.ret (.v 1)) .nil
def length_read_9 : Sts := .cons (.raise "NoLength" "no length") .nil
def length_read_7 : Sts := .cons (.ifs (.cmp .Eq (.ix (.v 0) (.neg (.ki 1))) (.ks "d")) length_read_8 .nil) length_read_9
def length_read_5 : Sts := .cons (.ifs (.cmp .Eq (.ix (.v 0) (.neg (.ki 1))) (.ks "m")) length_read_6 .nil) length_read_7
def length_read_3 : Sts := .cons (.ifs (.cmp .Eq (.ix (.v 0) (.neg (.ki 1))) (.ks "y")) length_read_4 .nil) length_read_5
def length_read_2 : Sts := .cons (.set 1 (.bi .int (.cons (.sl (.v 0) .none (.some (.neg (.ki 1)))) .nil))) length_read_3
def length_read_0 : Sts := .cons (.ifs (.or (.cmp .Eq (.v 0) (.ks "")) (.not (.call "is_number" (.cons (.sl (.v 0) .none (.some (.neg (.ki 1)))) .nil)))) length_read_1 .nil) length_read_2
abbrev length_read_N : List Str := ["text", "number"]
abbrev length_read_P : List Str := ["text"]

def length_shown_1 : Sts := .cons (.ret (.op .Add (.bi .str (.cons (.op .FloorDiv (.v 0) (.g "YEAR")) .nil)) (.ks "y"))) .nil
def length_shown_3 : Sts := .cons (.ret (.op .Add (.bi .str (.cons (.op .FloorDiv (.v 0) (.g "MONTH")) .nil)) (.ks "m"))) .nil
def length_shown_4 : Sts := .cons (.ret (.op .Add (.bi .str (.cons (.v 0) .nil)) (.ks "d"))) .nil
def length_shown_2 : Sts := .cons (.ifs (.cmp .Eq (.op .Mult (.op .FloorDiv (.v 0) (.g "MONTH")) (.g "MONTH")) (.v 0)) length_shown_3 .nil) length_shown_4
def length_shown_0 : Sts := .cons (.ifs (.cmp .Eq (.op .Mult (.op .FloorDiv (.v 0) (.g "YEAR")) (.g "YEAR")) (.v 0)) length_shown_1 .nil) length_shown_2
abbrev length_shown_N : List Str := ["days"]
abbrev length_shown_P : List Str := ["days"]

def l_whole_0 : Sts := .cons (.ret (.and (.isi (.v 0) "int") (.not (.isi (.v 0) "bool")))) .nil
abbrev l_whole_N : List Str := ["_law_found"]
abbrev l_whole_P : List Str := ["_law_found"]

local macro_rules | `(tactic| walk_at "vc") => `(tactic| simp only [wS, wSs, wP, wPs, wPo, wSrc, wTg, tSeq, tNext, tAsg, gName, tIfS, tRet, tRetN, tDrop, tOp, vR, tC, tTest, tChain, tAnd, tOr, tNot, tAndV, tOrV, tNotV, tUn, rU, tIf, tCB, tCons, tNil, tLst, tTup, tSl, tPart, tNoPart, tTr, opR, cmpR, addR, subR, mulR, divR, modR, powR, eqR, ltR, isR, memR, lenR, truR, lenO_lst, lenO_tup, lenO_dK, truO_lst, truO_tup, memO_lst, memO_tup, memO_dKs, memO_dKi, ixO_lst, ixO_tup, ixO_dKi, ixO_dKs, hoSeq_lst, hoSeq_tup, setAll, strR, intR, biR, bmR, bmT, ixR, slR, xor_f, xor_t, List.getElem?_cons_zero, List.getElem?_cons_succ, List.set_cons_zero, List.set_cons_succ, V.bl.injEq, V.int.injEq, V.str.injEq, exists_eq_left', Option.some.injEq, exists_eq_left, List.map_cons, List.map_nil, List.cons_append, List.nil_append, decide_eq_true_eq, Bool.not_eq_true', decide_eq_false_iff_not, Bool.not_false, Bool.not_true, if_true, Bool.false_eq_true, if_false, true_and, List.length_cons, List.length_nil, and_true])
/-! ### the mathematics of days and lengths -/
abbrev figS : Str := "0123456789"
def digB (c : Nat) : Bool := decide (48 ≤ c ∧ c ≤ 57)
abbrev dval := digitsVal
def numB (cs : List Nat) : Bool := decide (1 ≤ cs.length ∧ cs.length ≤ 40) && !(decide (cs.head? = some 48) && decide (cs ≠ [48])) && cs.all digB
def twoB (cs : List Nat) (most : Nat) : Option Nat := if cs.length = 2 ∧ cs.all digB = true ∧ 1 ≤ dval cs ∧ dval cs ≤ most then some (dval cs) else none
def dayR (cs : List Nat) : Option Nat :=
  match spl [45] 0 [] cs with
  | [a, b, c] => if numB a = true then (match twoB b 12, twoB c 30 with
      | some m, some d => some (360 * dval a + 30 * (m - 1) + (d - 1))
      | _, _ => none) else none
  | _ => none
def optV : Option Nat → V
  | some n => .int n
  | none => .non
theorem fig_mem (c : Nat) : c ∈ figS.cps.toList ↔ digB c = true := by
  have e : figS.cps.toList = [48, 49, 50, 51, 52, 53, 54, 55, 56, 57] := by decide +kernel
  rw [e]
  unfold digB
  simp only [List.mem_cons, List.not_mem_nil, or_false, decide_eq_true_eq]
  omega
theorem s1_eq {c d : Nat} : ((⟨#[c]⟩ : Str) = ⟨#[d]⟩) ↔ c = d := by
  constructor
  · intro h
    have := congrArg (fun z : Str => z.cps.toList) h
    simpa using this
  · rintro rfl
    rfl
theorem s0 : ("0" : Str) = ⟨#[48]⟩ := by decide +kernel
theorem all_dig {cs : List Nat} (h : cs.all digB = true) : AllDigits cs := fun c hc => by
  have := List.all_eq_true.mp h c hc
  exact of_decide_eq_true this
theorem int_of_digits {z : Str} (h : (tl z).all digB = true) (h1 : 1 ≤ (tl z).length) (h2 : (tl z).length ≤ 640) : PySem.intText? z = some (dval (tl z) : Nat) ∧ z.length ≤ 640 := by
  have hl : z.length = (tl z).length := len_tl z
  exact ⟨intText_digits (all_dig h) (fun e => by rw [show tl z = [] from e] at h1; simp at h1) (by omega), by omega⟩
/-! ### is_number -/
def spIsNum : Sp := fun vs H Q _ => ∃ z : Str, vs = [.str z] ∧ z.length ≤ sizeLine ∧ Q (.bl (numB (tl z))) H
theorem ok_is_number {G : Gam} (hF : G.gl "FIGURES" = some (.str figS)) : Keeps G is_number_N is_number_0 spIsNum := by
  rintro H vs Q E ⟨z, rfl, hz, q⟩
  show wSs G _ is_number_0 _ [some (.str z), none] H
  have hl : z.length = (tl z).length := len_tl z
  have rest : ¬ (1 ≤ (tl z).length ∧ (tl z).length ≤ 40) ∨ ((tl z).head? = some 48 ∧ tl z ≠ [48]) → numB (tl z) = false := by
    rintro (h | ⟨h1, h2⟩)
    · unfold numB
      rw [decide_eq_false h]
      rfl
    · unfold numB
      rw [decide_eq_true h1, decide_eq_true h2]
      simp
  have loop : (1 ≤ (tl z).length ∧ (tl z).length ≤ 40) → ¬ ((tl z).head? = some 48 ∧ tl z ≠ [48]) → wSs G (fun cls d _ H => E cls d H) is_number_2 { nx := fun _ H' => Q .non H', rt := Q } [some (.str z), none] H := by
    intro h1 h2
    have e0 : numB (tl z) = (tl z).all digB := by
      unfold numB
      rw [decide_eq_true h1]
      have : (decide ((tl z).head? = some 48) && decide (tl z ≠ [48])) = false := by
        rw [← Bool.decide_and]
        exact decide_eq_false h2
      rw [this]
      simp
    unfold is_number_2
    walk_at "vc"
    obtain ⟨I, hI⟩ : ∃ I : List Nat → L2.St → Hp → Prop, I = fun pre σ' H' => H' = H ∧ (∃ y, σ' = [some (.str z), y]) ∧ pre.all digB = true := ⟨_, rfl⟩
    refine forQ_map I (by rw [hI]; exact ⟨rfl, ⟨_, rfl⟩, rfl⟩) (fun _ _ _ _ => trivial) ?_ ?_
    · intro pre c post σ' H' e p
      rw [hI] at p
      obtain ⟨rfl, ⟨y, rfl⟩, hp⟩ := p
      unfold is_number_3
      walk_at "vc"
      rw [hF]
      walk_at "vc"
      simp only [fig_mem]
      by_cases hc : digB c = true
      · rw [if_neg (by simpa using hc), hI]
        exact ⟨rfl, ⟨_, rfl⟩, by rw [List.all_append, hp]; simpa using hc⟩
      · rw [if_pos (by simpa using hc)]
        unfold is_number_4
        walk_at "vc"
        have : numB (tl z) = false := by
          rw [e0, List.all_eq_false]
          exact ⟨c, by show c ∈ z.cps.toList; rw [e]; simp, hc⟩
        rw [this] at q
        exact q
    · intro σ' H' p
      rw [hI] at p
      obtain ⟨rfl, ⟨y, rfl⟩, hp⟩ := p
      unfold is_number_5
      walk_at "vc"
      rw [e0, show (tl z).all digB = true from hp] at q
      exact q
  unfold is_number_0
  walk_at "vc"
  refine ⟨hz, ?_⟩
  by_cases h1 : 1 ≤ (tl z).length ∧ (tl z).length ≤ 40
  · rw [if_pos (by omega), if_neg (by omega)]
    obtain ⟨c, r, e⟩ : ∃ c r, tl z = c :: r := by
      cases h : tl z with
      | nil => rw [h] at h1; simp at h1
      | cons c r => exact ⟨c, r, rfl⟩
    refine ⟨hz, c, atI_nat (j := 0) (by rw [show z.cps.toList = tl z from rfl, e]; rfl), ?_⟩
    have hh : (tl z).head? = some c := by rw [e]; rfl
    simp only [s0, s1_eq]
    by_cases hc : c = 48
    · rw [if_pos hc]
      have hs : z = ⟨#[48]⟩ ↔ tl z = [48] := by
        constructor
        · rintro rfl
          rfl
        · intro h
          exact str_ext h
      by_cases h2 : tl z = [48]
      · rw [if_neg (fun h => h (hs.mpr h2))]
        exact loop h1 fun h => h.2 h2
      · rw [if_pos (fun h => h2 (hs.mp h))]
        unfold is_number_1
        walk_at "vc"
        rw [rest (.inr ⟨by rw [hh, hc], h2⟩)] at q
        exact q
    · rw [if_neg hc]
      exact loop h1 fun h => hc (by rw [hh] at h; exact Option.some.inj h.1)
  · rw [rest (.inl h1)] at q
    have fin : wSs G (fun cls d _ H => E cls d H) is_number_1 { nx := wSs G (fun cls d _ H => E cls d H) is_number_2 { nx := fun _ H' => Q .non H', rt := Q }, rt := Q } [some (.str z), none] H := by
      unfold is_number_1
      walk_at "vc"
      exact q
    split
    · rw [if_pos (by omega)]
      exact fin
    · exact fin
/-! ### two_figures -/
def spTwo : Sp := fun vs H Q _ => ∃ (z : Str) (m : Nat), vs = [.str z, .int m] ∧ z.length ≤ sizeLine ∧ Q (optV (twoB (tl z) m)) H
theorem ok_two_figures {G : Gam} (hF : G.gl "FIGURES" = some (.str figS)) : Keeps G two_figures_N two_figures_0 spTwo := by
  rintro H vs Q E ⟨z, m, rfl, hz, q⟩
  show wSs G _ two_figures_0 _ [some (.str z), some (.int m), none] H
  have hl : z.length = (tl z).length := len_tl z
  unfold two_figures_0
  walk_at "vc"
  refine ⟨hz, ?_⟩
  have bad : twoB (tl z) m = none → wSs G (fun cls d _ H => E cls d H) two_figures_1 { nx := wSs G (fun cls d _ H => E cls d H) two_figures_2 { nx := fun _ H' => Q .non H', rt := Q }, rt := Q } [some (.str z), some (.int m), none] H := by
    intro h
    unfold two_figures_1
    walk_at "vc"
    rw [h] at q
    exact q
  by_cases h2 : (tl z).length = 2
  · rw [if_neg (by omega)]
    obtain ⟨a, b, e⟩ : ∃ a b, tl z = [a, b] := by
      match h : tl z with
      | [a, b] => exact ⟨a, b, rfl⟩
      | [] => rw [h] at h2; simp at h2
      | [a] => rw [h] at h2; simp at h2
      | a :: b :: c :: r => rw [h] at h2; simp at h2
    refine ⟨hz, a, atI_nat (j := 0) (by rw [show z.cps.toList = tl z from rfl, e]; rfl), ?_⟩
    rw [hF]
    walk_at "vc"
    simp only [fig_mem]
    by_cases ha : digB a = true
    · rw [if_neg (by simpa using ha)]
      refine ⟨hz, b, atI_nat (j := 1) (by rw [show z.cps.toList = tl z from rfl, e]; rfl), ?_⟩
      by_cases hb : digB b = true
      · rw [if_neg (by simpa using hb)]
        have hall : (tl z).all digB = true := by
          rw [e]
          simp [ha, hb]
        obtain ⟨i1, i2⟩ := int_of_digits hall (by omega) (by omega)
        unfold two_figures_2
        walk_at "vc"
        refine ⟨_, i1, i2, ?_⟩
        unfold two_figures_3
        walk_at "vc"
        have tw : twoB (tl z) m = if 1 ≤ dval (tl z) ∧ dval (tl z) ≤ m then some (dval (tl z)) else none := by
          unfold twoB
          by_cases h : 1 ≤ dval (tl z) ∧ dval (tl z) ≤ m
          · rw [if_pos ⟨h2, hall, h⟩, if_pos h]
          · rw [if_neg (fun k => h k.2.2), if_neg h]
        by_cases h : 1 ≤ dval (tl z) ∧ dval (tl z) ≤ m
        · rw [if_pos (by omega), if_neg (by omega)]
          unfold two_figures_5
          walk_at "vc"
          rw [tw, if_pos h] at q
          exact q
        · rw [tw, if_neg h] at q
          have fin : wSs G (fun cls d _ H => E cls d H) two_figures_4 { nx := wSs G (fun cls d _ H => E cls d H) two_figures_5 { nx := fun _ H' => Q .non H', rt := Q }, rt := Q } [some (.str z), some (.int m), some (.int (dval (tl z) : Nat))] H := by
            unfold two_figures_4
            walk_at "vc"
            exact q
          split
          · rw [if_pos (by omega)]
            exact fin
          · exact fin
      · rw [if_pos (by simpa using hb)]
        refine bad ?_
        unfold twoB
        rw [if_neg]
        rw [e]
        simp [hb]
    · rw [if_pos (by simpa using ha)]
      refine bad ?_
      unfold twoB
      rw [if_neg]
      rw [e]
      simp [ha]
  · rw [if_pos (by omega)]
    refine bad ?_
    unfold twoB
    rw [if_neg fun k => h2 k.1]

/-! ### day_read -/
theorem split_parts (z : Str) (c : Nat) (hc : c < 256) : (Txt.split z ⟨#[c]⟩).map tl = spl [c] 0 [] (tl z) ∧ ∀ p ∈ Txt.split z ⟨#[c]⟩, p.length ≤ z.length := by
  refine ⟨split_spl z ⟨#[c]⟩ (by show [c] ≠ []; simp) (kind_ok (by simp [hc])), fun p hp => ?_⟩
  have h := PyProof.Rows.split_weight z ⟨#[c]⟩ (Nat.le_refl _)
  have h1 : p.length ≤ ((Txt.split z ⟨#[c]⟩).map (·.length)).sum := by
    have : ∀ l : List Str, p ∈ l → p.length ≤ (l.map (·.length)).sum := by
      intro l
      induction l with
      | nil => intro h; cases h
      | cons a r ih =>
        intro h
        rw [List.map_cons, List.sum_cons]
        rcases List.mem_cons.mp h with rfl | h
        · exact Nat.le_add_right _ _
        · exact Nat.le_trans (ih h) (Nat.le_add_left _ _)
    exact this _ hp
  have h2 : 1 ≤ (Txt.split z ⟨#[c]⟩).length := List.length_pos_iff.mpr (List.ne_nil_of_mem hp)
  omega
def spDayRead (c : Addr) : Sp := fun vs H Q E => ∃ z : Str, vs = [.str z] ∧ z.length ≤ 1000000 ∧
  (∀ n, dayR (tl z) = some n → ∀ H', Same H H' → Q (.int (n : Nat)) H') ∧ (dayR (tl z) = none → ∀ H', Same H H' → E (.ref c) none H')
theorem sDash : ("-" : Str) = ⟨#[45]⟩ := by decide +kernel
theorem twoB_pos {cs : List Nat} {m n : Nat} (h : twoB cs m = some n) : 1 ≤ n ∧ n ≤ m ∧ n = dval cs := by
  unfold twoB at h
  split at h
  · rename_i k
    cases h
    exact ⟨k.2.2.1, k.2.2.2, rfl⟩
  · cases h
theorem numB_dig {cs : List Nat} (h : numB cs = true) : cs.all digB = true ∧ 1 ≤ cs.length ∧ cs.length ≤ 40 := by
  unfold numB at h
  simp only [Bool.and_eq_true, decide_eq_true_eq] at h
  exact ⟨h.2, h.1.1⟩
theorem line_mil : (1000000 : Nat) + 2 ≤ sizeLine := by rw [sizeLine_eq]; decide
theorem ok_day_read {G : Gam} {c : Addr} (hc : G.exc "NoDay" = some c) (hY : G.gl "YEAR" = some (.int 360)) (hM : G.gl "MONTH" = some (.int 30)) (h1 : G.fn "is_number" = some spIsNum) (h2 : G.fn "two_figures" = some spTwo) :
    Keeps G day_read_N day_read_0 (spDayRead c) := by
  rintro H vs Q E ⟨z, rfl, hz, q, e⟩
  show wSs G _ day_read_0 _ [some (.str z), none, none, none] H
  have lm := line_mil
  unfold day_read_0
  walk_at "vc"
  refine ⟨by decide, by omega, fun p hp => ?_⟩
  generalize hH1 : upd H p (.lst ((Txt.split z "-").map V.str)) = H1
  have hS : Same H H1 := hH1 ▸ same_new hp
  have hv : rd H1 p = some (.lst ((Txt.split z "-").map V.str)) := hH1 ▸ rd_of upd_same
  obtain ⟨e1, e2⟩ := split_parts z 45 (by decide)
  rw [← sDash] at e1 e2
  generalize hps : Txt.split z "-" = ps at hv e1 e2
  have dr : dayR (tl z) = (match ps.map tl with
      | [a, b, c] => if numB a = true then (match twoB b 12, twoB c 30 with
          | some m, some d => some (360 * dval a + 30 * (m - 1) + (d - 1))
          | _, _ => none) else none
      | _ => none) := by
    unfold dayR
    rw [e1]
  unfold day_read_1
  walk_at "vc"
  rw [hv]
  walk_at "vc"
  have bad : dayR (tl z) = none → wSs G (fun cls d _ H => E cls d H) day_read_2 { nx := wSs G (fun cls d _ H => E cls d H) day_read_3 { nx := fun _ H' => Q .non H', rt := Q }, rt := Q } [some (.str z), some (.ref p), none, none] H1 := by
    intro hn
    unfold day_read_2
    walk_at "vc"
    exact ⟨c, hc, e hn H1 hS⟩
  rw [List.length_map]
  match ps, e1, e2, dr, hv with
  | [a, b, d], e1, e2, dr, hv =>
    have la := e2 a (by simp)
    have lb := e2 b (by simp)
    have ld := e2 d (by simp)
    rw [if_neg (by simp), hv]
    walk_at "vc"
    refine ⟨_, h1, _, atI_nat (j := 0) rfl, a, rfl, by omega, ?_⟩
    walk_at "vc"
    simp only [List.map_cons, List.map_nil] at dr
    by_cases ha : numB (tl a) = true
    · rw [if_neg (by simpa using ha)]
      rw [if_pos ha] at dr
      unfold day_read_3
      walk_at "vc"
      rw [hv]
      walk_at "vc"
      refine ⟨_, h2, _, atI_nat (j := 1) rfl, b, 12, rfl, by omega, ?_⟩
      walk_at "vc"
      unfold day_read_4
      walk_at "vc"
      rw [hv]
      walk_at "vc"
      refine ⟨_, h2, _, atI_nat (j := 2) rfl, d, 30, rfl, by omega, ?_⟩
      walk_at "vc"
      unfold day_read_5
      walk_at "vc"
      have bad2 : dayR (tl z) = none → ∀ u v, wSs G (fun cls d _ H => E cls d H) day_read_6 { nx := wSs G (fun cls d _ H => E cls d H) day_read_7 { nx := fun _ H' => Q .non H', rt := Q }, rt := Q } [some (.str z), some (.ref p), u, v] H1 := by
        intro hn u v
        unfold day_read_6
        walk_at "vc"
        exact ⟨c, hc, e hn H1 hS⟩
      cases hb : twoB (tl b) 12 with
      | none =>
        rw [if_pos (show optV none = V.non from rfl)]
        rw [hb] at dr
        exact bad2 dr _ _
      | some m =>
        rw [if_neg (by simp [optV])]
        cases hd : twoB (tl d) 30 with
        | none =>
          rw [if_pos (show optV none = V.non from rfl)]
          rw [hb, hd] at dr
          exact bad2 dr _ _
        | some n =>
          rw [if_neg (by simp [optV])]
          rw [hb, hd] at dr
          obtain ⟨m1, m2, _⟩ := twoB_pos hb
          obtain ⟨n1, n2, _⟩ := twoB_pos hd
          obtain ⟨i1, i2, i3⟩ := numB_dig ha
          obtain ⟨k1, k2⟩ := int_of_digits i1 i2 (by omega)
          unfold day_read_7
          walk_at "vc"
          rw [hY, hM]
          walk_at "vc"
          rw [hv]
          walk_at "vc"
          refine ⟨_, atI_nat (j := 0) rfl, ?_⟩
          walk_at "vc"
          refine ⟨_, k1, k2, mul_l (by omega), mul_l (by omega), ?_⟩
          have := q _ dr H1 hS
          have e5 : (360 * ((dval (tl a) : Nat) : Int) + 30 * ((m : Int) - 1) + n - 1) = ((360 * dval (tl a) + 30 * (m - 1) + (n - 1) : Nat) : Int) := by omega
          show Q (.int (360 * ((dval (tl a) : Nat) : Int) + 30 * ((m : Int) - 1) + n - 1)) H1
          rw [e5]
          exact this
    · rw [if_pos (by simpa using ha)]
      rw [if_neg ha] at dr
      exact bad dr
  | [], e1, e2, dr, hv => rw [if_pos (by simp)]; exact bad dr
  | [a], e1, e2, dr, hv => rw [if_pos (by simp)]; exact bad dr
  | [a, b], e1, e2, dr, hv => rw [if_pos (by simp)]; exact bad dr
  | a :: b :: d :: f :: r, e1, e2, dr, hv => rw [if_pos (by simp; omega)]; exact bad dr

/-! ### day_shown -/
def two (n : Nat) : List Nat := [48 + n / 10, 48 + n % 10]
def num (n : Nat) : Str := toString ((n : Nat) : Int)
def dayS (n : Nat) : Str := num (n / 360) ++ "-" ++ ⟨(two (n % 360 / 30 + 1)).toArray⟩ ++ "-" ++ ⟨(two (n % 30 + 1)).toArray⟩
def spDayShown : Sp := fun vs H Q _ => ∃ n : Nat, vs = [.int n] ∧ n < 10 ^ 60 ∧ ∀ H', Same H H' → Q (.str (dayS n)) H'
theorem zf : ∀ n < 100, Txt.zfill (num n) 2 = ⟨(two n).toArray⟩ := by decide +kernel
theorem num_len {n k : Nat} (hk : 0 < k) (h : n < 10 ^ k) : (num n).length ≤ k := by
  have := numL_len hk h
  rw [← tl_num] at this
  rw [len_tl]
  exact this
theorem log_small {n : Nat} (h : n < 10 ^ 60) : (n : Int).natAbs.log2 < 1920 := by
  rw [Int.natAbs_natCast]
  have h2 : n < 2 ^ 200 := Nat.lt_trans h (by decide +kernel)
  by_cases h0 : n = 0
  · rw [h0, Nat.log2_zero]
    exact Nat.zero_lt_succ _
  · exact Nat.lt_trans ((Nat.log2_lt h0).mpr h2) (by decide)
theorem ok_day_shown {G : Gam} (hY : G.gl "YEAR" = some (.int 360)) (hM : G.gl "MONTH" = some (.int 30)) : Keeps G day_shown_N day_shown_0 spDayShown := by
  rintro H vs Q E ⟨n, rfl, hn, q⟩
  show wSs G _ day_shown_0 _ [some (.int n), none, none, none, none] H
  have lm := line_big
  have e360 : ((n : Int) / 360) = ((n / 360 : Nat) : Int) := by omega
  have m360 : ((n : Int) % 360) = ((n % 360 : Nat) : Int) := by omega
  have e30 : (((n % 360 : Nat) : Int) / 30) = ((n % 360 / 30 : Nat) : Int) := by omega
  have m30 : (((n % 360 : Nat) : Int) % 30) = ((n % 30 : Nat) : Int) := by omega
  unfold day_shown_0
  walk_at "vc"
  rw [hY]
  walk_at "vc"
  refine ⟨by decide, fun p hp => ?_⟩
  rw [e360, m360]
  generalize hH1 : upd H p (.tup [.int (n / 360 : Nat), .int (n % 360 : Nat)]) = H1
  have hS : Same H H1 := hH1 ▸ same_new hp
  have hv : rd H1 p = some (.tup [.int (n / 360 : Nat), .int (n % 360 : Nat)]) := hH1 ▸ rd_of upd_same
  rw [hv]
  walk_at "vc"
  unfold day_shown_1
  walk_at "vc"
  rw [hM]
  walk_at "vc"
  refine ⟨by decide, fun r hr => ?_⟩
  rw [e30, m30]
  generalize hH2 : upd H1 r (.tup [.int (n % 360 / 30 : Nat), .int (n % 30 : Nat)]) = H2
  have hS2 : Same H1 H2 := hH2 ▸ same_new hr
  have hv2 : rd H2 r = some (.tup [.int (n % 360 / 30 : Nat), .int (n % 30 : Nat)]) := hH2 ▸ rd_of upd_same
  rw [hv2]
  walk_at "vc"
  unfold day_shown_2
  walk_at "vc"
  have k1 : (((n % 360 / 30 : Nat) : Int) + 1) = ((n % 360 / 30 + 1 : Nat) : Int) := by omega
  have k2 : (((n % 30 : Nat) : Int) + 1) = ((n % 30 + 1 : Nat) : Int) := by omega
  rw [k1, k2]
  have z1 := zf (n % 360 / 30 + 1) (by omega)
  have z2 := zf (n % 30 + 1) (by omega)
  have l1 : (num (n / 360)).length ≤ 60 := num_len (by decide) (by omega)
  have gn : ∀ k : Nat, Str.ofString (toString (k : Int)) = num k := fun _ => rfl
  have t1 : (⟨(two (n % 360 / 30 + 1)).toArray⟩ : Str).length = 2 := rfl
  have t2 : (⟨(two (n % 30 + 1)).toArray⟩ : Str).length = 2 := rfl
  have d1 : ("-" : Str).length = 1 := by decide +kernel
  simp only [gn, z1, z2, len_app, t1, t2, d1]
  refine ⟨log_small (by omega), by omega, log_small (by omega), by decide, by omega, by omega, log_small (by omega), by decide, by omega, ?_⟩
  exact q H2 (hS.trans hS2)
/-! ### lengths -/
def lenRd (cs : List Nat) : Option Nat :=
  if numB cs.dropLast = true then (match cs.getLast? with
    | some 121 => some (360 * dval cs.dropLast)
    | some 109 => some (30 * dval cs.dropLast)
    | some 100 => some (dval cs.dropLast)
    | _ => none) else none
def spLenRead (c : Addr) : Sp := fun vs H Q E => ∃ z : Str, vs = [.str z] ∧ z.length ≤ 1000000 ∧
  (∀ n, lenRd (tl z) = some n → Q (.int (n : Nat)) H) ∧ (lenRd (tl z) = none → E (.ref c) none H)
theorem cut_last (z : Str) : tl (cutS z none (some (-1))) = (tl z).dropLast := by
  have hl : z.length = (tl z).length := len_tl z
  show ((tl z).drop (HT.sIx z.length 0 none)).take (HT.sIx z.length z.length (some (-1)) - HT.sIx z.length 0 none) = _
  rw [HT.sIx_none, List.drop_zero, List.dropLast_eq_take]
  congr 1
  unfold HT.sIx
  simp only
  rw [hl]
  split <;> omega
theorem at_last {cs : List Nat} {c : Nat} (h : cs.getLast? = some c) : atI cs (-1) = some c := by
  obtain ⟨r, rfl⟩ := List.getLast?_eq_some_iff.mp h
  have := atI_last (α := Nat) r c
  exact this
theorem sY : ("y" : Str) = ⟨#[121]⟩ := by decide +kernel
theorem sM : ("m" : Str) = ⟨#[109]⟩ := by decide +kernel
theorem sD : ("d" : Str) = ⟨#[100]⟩ := by decide +kernel
theorem ok_length_read {G : Gam} {c : Addr} (hc : G.exc "NoLength" = some c) (hY : G.gl "YEAR" = some (.int 360)) (hM : G.gl "MONTH" = some (.int 30)) (h1 : G.fn "is_number" = some spIsNum) :
    Keeps G length_read_N length_read_0 (spLenRead c) := by
  rintro H vs Q E ⟨z, rfl, hz, q, e⟩
  show wSs G _ length_read_0 _ [some (.str z), none] H
  have lm := line_mil
  have hl : z.length = (tl z).length := len_tl z
  have hcl := cutS_length z none (some (-1))
  have bad : lenRd (tl z) = none → wSs G (fun cls d _ H => E cls d H) length_read_1 { nx := wSs G (fun cls d _ H => E cls d H) length_read_2 { nx := fun _ H' => Q .non H', rt := Q }, rt := Q } [some (.str z), none] H := by
    intro hn
    unfold length_read_1
    walk_at "vc"
    exact ⟨c, hc, e hn⟩
  unfold length_read_0
  walk_at "vc"
  by_cases h0 : z = ""
  · rw [if_pos h0]
    refine bad ?_
    subst h0
    rfl
  · rw [if_neg h0]
    refine ⟨_, h1, by omega, _, rfl, by omega, ?_⟩
    walk_at "vc"
    rw [cut_last]
    by_cases hn : numB (tl z).dropLast = true
    · rw [if_neg (by simpa using hn)]
      obtain ⟨i1, i2, i3⟩ := numB_dig hn
      obtain ⟨k1, k2⟩ := int_of_digits (z := cutS z none (some (-1))) (by rw [cut_last]; exact i1) (by rw [cut_last]; exact i2) (by rw [cut_last]; omega)
      rw [cut_last] at k1
      obtain ⟨u, hu⟩ : ∃ u, (tl z).getLast? = some u := by
        cases h : (tl z).getLast? with
        | none =>
          rw [List.getLast?_eq_none_iff.mp h] at i2
          simp at i2
        | some u => exact ⟨u, rfl⟩
      have hat : atI z.cps.toList (-1) = some u := at_last hu
      unfold length_read_2
      walk_at "vc"
      refine ⟨by omega, _, k1, k2, ?_⟩
      unfold length_read_3
      walk_at "vc"
      refine ⟨by omega, u, hat, ?_⟩
      simp only [sY, s1_eq]
      have dr : lenRd (tl z) = (match some u with
        | some 121 => some (360 * dval (tl z).dropLast)
        | some 109 => some (30 * dval (tl z).dropLast)
        | some 100 => some (dval (tl z).dropLast)
        | _ => none) := by
        unfold lenRd
        rw [if_pos hn, hu]
      by_cases h121 : u = 121
      · rw [if_pos h121]
        subst h121
        unfold length_read_4
        walk_at "vc"
        rw [hY]
        walk_at "vc"
        refine ⟨mul_l (by omega), ?_⟩
        exact q _ dr
      · rw [if_neg h121]
        unfold length_read_5
        walk_at "vc"
        refine ⟨by omega, u, hat, ?_⟩
        simp only [sM, s1_eq]
        by_cases h109 : u = 109
        · rw [if_pos h109]
          subst h109
          unfold length_read_6
          walk_at "vc"
          rw [hM]
          walk_at "vc"
          refine ⟨mul_l (by omega), ?_⟩
          exact q _ dr
        · rw [if_neg h109]
          unfold length_read_7
          walk_at "vc"
          refine ⟨by omega, u, hat, ?_⟩
          simp only [sD, s1_eq]
          by_cases h100 : u = 100
          · rw [if_pos h100]
            subst h100
            unfold length_read_8
            walk_at "vc"
            exact q _ dr
          · rw [if_neg h100]
            unfold length_read_9
            walk_at "vc"
            refine ⟨c, hc, e ?_⟩
            rw [dr]
            split
            · rename_i h; exact absurd (Option.some.inj h) h121
            · rename_i h; exact absurd (Option.some.inj h) h109
            · rename_i h; exact absurd (Option.some.inj h) h100
            · rfl
    · rw [if_pos (by simpa using hn)]
      refine bad ?_
      unfold lenRd
      rw [if_neg hn]
def lenS (n : Nat) : Str := if n % 360 = 0 then num (n / 360) ++ "y" else if n % 30 = 0 then num (n / 30) ++ "m" else num n ++ "d"
def spLenShown : Sp := fun vs H Q _ => ∃ n : Nat, vs = [.int n] ∧ n < 10 ^ 60 ∧ Q (.str (lenS n)) H
theorem ok_length_shown {G : Gam} (hY : G.gl "YEAR" = some (.int 360)) (hM : G.gl "MONTH" = some (.int 30)) : Keeps G length_shown_N length_shown_0 spLenShown := by
  rintro H vs Q E ⟨n, rfl, hn, q⟩
  show wSs G _ length_shown_0 _ [some (.int n)] H
  have lm := line_big
  have gn : ∀ k : Nat, Str.ofString (toString (k : Int)) = num k := fun _ => rfl
  have l1 : (num (n / 360)).length ≤ 60 := num_len (by decide) (by omega)
  have l2 : (num (n / 30)).length ≤ 60 := num_len (by decide) (by omega)
  have l3 : (num n).length ≤ 60 := num_len (by decide) hn
  have dy : ("y" : Str).length = 1 := by decide +kernel
  have dm : ("m" : Str).length = 1 := by decide +kernel
  have dd : ("d" : Str).length = 1 := by decide +kernel
  have e360 : ((n : Int) / 360) = ((n / 360 : Nat) : Int) := by omega
  have e30 : ((n : Int) / 30) = ((n / 30 : Nat) : Int) := by omega
  unfold length_shown_0
  walk_at "vc"
  rw [hY]
  walk_at "vc"
  rw [e360]
  refine ⟨by decide, mul_r (by decide), ?_⟩
  by_cases h1 : n % 360 = 0
  · rw [if_pos (by omega)]
    unfold length_shown_1
    walk_at "vc"
    rw [hY]
    walk_at "vc"
    rw [e360]
    simp only [gn, dy]
    refine ⟨by decide, log_small (by omega), by omega, ?_⟩
    unfold lenS at q
    rw [if_pos h1] at q
    exact q
  · rw [if_neg (by omega)]
    unfold length_shown_2
    walk_at "vc"
    rw [hM]
    walk_at "vc"
    rw [e30]
    refine ⟨by decide, mul_r (by decide), ?_⟩
    by_cases h2 : n % 30 = 0
    · rw [if_pos (by omega)]
      unfold length_shown_3
      walk_at "vc"
      rw [hM]
      walk_at "vc"
      rw [e30]
      simp only [gn, dm]
      refine ⟨by decide, log_small (by omega), by omega, ?_⟩
      unfold lenS at q
      rw [if_neg h1, if_pos h2] at q
      exact q
    · rw [if_neg (by omega)]
      unfold length_shown_4
      walk_at "vc"
      simp only [gn, dd]
      refine ⟨log_small hn, by omega, ?_⟩
      unfold lenS at q
      rw [if_neg h1, if_neg h2] at q
      exact q
/-! ### reading back what is shown -/
theorem numL_head : ∀ n : Nat, (numL n).head? = some 48 → numL n = [48] := by
  intro n
  induction n using Nat.strongRecOn with
  | _ n ih =>
    intro h
    by_cases hn : n < 10
    · rw [numL_lt hn] at h ⊢
      simpa using h
    · exfalso
      rw [numL_step (by omega)] at h
      have h2 : (numL (n / 10)).head? = some 48 := by
        cases e : numL (n / 10) with
        | nil => exact absurd e (numL_ne _)
        | cons a r =>
          rw [e] at h
          simpa using h
      have h3 := ih (n / 10) (by omega) h2
      have h4 : n / 10 = 0 := by
        have := congrArg dval h3
        rw [show dval (numL (n / 10)) = n / 10 from numL_val _] at this
        simpa [dval, digitsVal] using this
      omega
theorem numB_numL {n : Nat} (h : n < 10 ^ 40) : numB (numL n) = true := by
  have h1 : (numL n).length ≤ 40 := numL_len (by decide) h
  have h2 : 1 ≤ (numL n).length := List.length_pos_iff.mpr (numL_ne n)
  unfold numB
  rw [decide_eq_true (show 1 ≤ (numL n).length ∧ (numL n).length ≤ 40 from ⟨h2, h1⟩)]
  have h3 : (decide ((numL n).head? = some 48) && decide (numL n ≠ [48])) = false := by
    rw [← Bool.decide_and]
    exact decide_eq_false fun k => k.2 (numL_head n k.1)
  rw [h3]
  show (true && (numL n).all digB) = true
  rw [Bool.true_and, List.all_eq_true]
  intro c hc
  exact decide_eq_true (numL_digits n c hc)
theorem dval_two {m : Nat} (h : m < 100) : dval (two m) = m := by
  unfold two dval digitsVal
  simp only [List.foldl_cons, List.foldl_nil]
  first | omega | skip
theorem twoB_two {m k : Nat} (h : m < 100) (h1 : 1 ≤ m) (h2 : m ≤ k) : twoB (two m) k = some m := by
  have e := dval_two h
  have h3 : (two m).all digB = true := by
    unfold two digB
    simp only [List.all_cons, List.all_nil, Bool.and_true, Bool.and_eq_true, decide_eq_true_eq]
    omega
  unfold twoB
  rw [e, if_pos ⟨rfl, h3, h1, h2⟩]
theorem two_free (m : Nat) : 45 ∉ two m := by
  unfold two
  simp only [List.mem_cons, List.not_mem_nil, or_false]
  omega
theorem tl_dayS (n : Nat) : tl (dayS n) = joinL [45] [numL (n / 360), two (n % 360 / 30 + 1), two (n % 30 + 1)] := by
  unfold dayS
  rw [tl_append, tl_append, tl_append, tl_append, sDash]
  show tl (num (n / 360)) ++ [45] ++ two _ ++ [45] ++ two _ = numL (n / 360) ++ ([45] ++ (two _ ++ ([45] ++ two _)))
  rw [show tl (num (n / 360)) = numL (n / 360) from tl_num _]
  simp only [List.append_assoc]
theorem dayR_dayS {n : Nat} (h : n / 360 < 10 ^ 40) : dayR (tl (dayS n)) = some n := by
  unfold dayR
  rw [tl_dayS, spl_join (by simp) (by
    intro p hp
    simp only [List.mem_cons, List.not_mem_nil, or_false] at hp
    rcases hp with rfl | rfl | rfl
    · exact numL_free (by decide)
    · exact two_free _
    · exact two_free _)]
  simp only
  rw [if_pos (numB_numL h), twoB_two (by omega) (by omega) (by omega), twoB_two (by omega) (by omega) (by omega)]
  simp only
  rw [show dval (numL (n / 360)) = n / 360 from numL_val _]
  exact congrArg some (by omega : 360 * (n / 360) + 30 * (n % 360 / 30 + 1 - 1) + (n % 30 + 1 - 1) = n)
def spWhole : Sp := fun vs H Q _ => ∃ n : Int, vs = [.int n] ∧ Q (.bl true) H
theorem ok_whole {G : Gam} (hi : G.cls "int" = some (.ty "int")) (hb : G.cls "bool" = some (.ty "bool")) : Keeps G l_whole_N l_whole_0 spWhole := by
  rintro H vs Q E ⟨n, rfl, q⟩
  show wSs G _ l_whole_0 _ [some (.int n)] H
  unfold l_whole_0
  walk_at "vc"
  refine ⟨_, hi, isi_ty (r := true) (.int _) (by decide +kernel) ?_⟩
  walk_at "vc"
  refine ⟨_, hb, isi_ty (r := false) (.int _) (by decide +kernel) ?_⟩
  walk_at "vc"
  exact q
theorem at4 {a b c d : V} (i : Int) (h0 : 0 ≤ i) (h1 : i < 4) : atI [a, b, c, d] i = some (if i = 0 then a else if i = 1 then b else if i = 2 then c else d) := by
  have : i = 0 ∨ i = 1 ∨ i = 2 ∨ i = 3 := by omega
  rcases this with rfl | rfl | rfl | rfl <;> rfl
theorem at3 {a b c : V} (i : Int) (h0 : 0 ≤ i) (h1 : i < 3) : atI [a, b, c] i = some (if i = 0 then a else if i = 1 then b else c) := by
  have : i = 0 ∨ i = 1 ∨ i = 2 := by omega
  rcases this with rfl | rfl | rfl <;> rfl
theorem at5 {a b c d e : V} (i : Int) (h0 : 0 ≤ i) (h1 : i < 5) : atI [a, b, c, d, e] i = some (if i = 0 then a else if i = 1 then b else if i = 2 then c else if i = 3 then d else e) := by
  have : i = 0 ∨ i = 1 ∨ i = 2 ∨ i = 3 ∨ i = 4 := by omega
  rcases this with rfl | rfl | rfl | rfl | rfl <;> rfl
theorem lenRd_of {n u : Nat} (h : n < 10 ^ 40) : lenRd (numL n ++ [u]) = (match some u with
    | some 121 => some (360 * n)
    | some 109 => some (30 * n)
    | some 100 => some n
    | _ => none) := by
  have e : dval (numL n) = n := numL_val n
  unfold lenRd
  rw [List.dropLast_concat, List.getLast?_concat, if_pos (numB_numL h), e]
theorem tl_num' (n : Nat) : tl (num n) = numL n := tl_num n
theorem lenRd_lenS {n : Nat} (h : n < 10 ^ 40) : lenRd (tl (lenS n)) = some n := by
  unfold lenS
  split
  · rw [tl_append, sY, tl_num']
    show lenRd (numL (n / 360) ++ [121]) = some n
    rw [lenRd_of (by omega)]
    show some (360 * (n / 360)) = some n
    exact congrArg some (by omega : 360 * (n / 360) = n)
  · split
    · rw [tl_append, sM, tl_num']
      show lenRd (numL (n / 30) ++ [109]) = some n
      rw [lenRd_of (by omega)]
      show some (30 * (n / 30)) = some n
      exact congrArg some (by omega : 30 * (n / 30) = n)
    · rw [tl_append, sD, tl_num']
      show lenRd (numL n ++ [100]) = some n
      rw [lenRd_of h]
      rfl
theorem lenS_len {n : Nat} (h : n < 10 ^ 60) : (lenS n).length ≤ 61 := by
  have l1 : (num (n / 360)).length ≤ 60 := num_len (by decide) (by omega)
  have l2 : (num (n / 30)).length ≤ 60 := num_len (by decide) (by omega)
  have l3 : (num n).length ≤ 60 := num_len (by decide) h
  have dy : ("y" : Str).length = 1 := by decide +kernel
  have dm : ("m" : Str).length = 1 := by decide +kernel
  have dd : ("d" : Str).length = 1 := by decide +kernel
  unfold lenS
  split
  · rw [len_app]; omega
  · split
    · rw [len_app]; omega
    · rw [len_app]; omega
end T

set_option Elab.async false
set_option linter.all false
set_option maxRecDepth 100000
set_option maxHeartbeats 2000000
namespace T
open PySem PySem.Spec PyProof.Rows L2 TL PySem.NumText Vc
def l_sign_by_1 : Sts := .cons (.ret (.ix (.v 1) (.op .Mod (.v 0) (.bi .len (.cons (.v 1) .nil))))) .nil
def l_sign_by_0 : Sts := .cons (.set 1 (.ks "0123456789-ymd !\"#$&'()*+,./:;<=>?@ABCDEFGHIJKLMNOPQRSTUVWXYZ[\\]^_`abcefghijklnopqrstuvwxz{|}~\n")) l_sign_by_1
abbrev l_sign_by_N : List Str := ["_law_cell", "_law_some"]
abbrev l_sign_by_P : List Str := ["_law_cell"]

def l_bent_3 : Sts := .cons (.ret (.op .Add (.op .Add (.sl (.v 0) .none (.some (.v 2))) (.v 3)) (.sl (.v 0) (.some (.v 2)) .none))) .nil
def l_bent_5 : Sts := .cons (.ret (.op .Add (.sl (.v 0) .none (.some (.v 2))) (.sl (.v 0) (.some (.op .Add (.v 2) (.ki 1))) .none))) .nil
def l_bent_7 : Sts := .cons (.ret (.op .Add (.op .Add (.sl (.v 0) .none (.some (.v 2))) (.v 3)) (.sl (.v 0) (.some (.op .Add (.v 2) (.ki 1))) .none))) .nil
def l_bent_8 : Sts := .cons (.ret (.v 0)) .nil
def l_bent_6 : Sts := .cons (.ifs (.cmp .Eq (.op .Mod (.v 1) (.ki 4)) (.ki 3)) l_bent_7 .nil) l_bent_8
def l_bent_4 : Sts := .cons (.ifs (.cmp .Eq (.op .Mod (.v 1) (.ki 4)) (.ki 2)) l_bent_5 .nil) l_bent_6
def l_bent_2 : Sts := .cons (.ifs (.cmp .Eq (.op .Mod (.v 1) (.ki 4)) (.ki 1)) l_bent_3 .nil) l_bent_4
def l_bent_1 : Sts := .cons (.set 3 (.call "_law_sign_by" (.cons (.op .FloorDiv (.v 1) (.ki 173)) .nil))) l_bent_2
def l_bent_0 : Sts := .cons (.set 2 (.op .Mod (.op .FloorDiv (.v 1) (.ki 4)) (.op .Add (.bi .len (.cons (.v 0) .nil)) (.ki 1)))) l_bent_1
abbrev l_bent_N : List Str := ["_law_text", "_law_cell", "_law_at", "_law_sign"]
abbrev l_bent_P : List Str := ["_law_text", "_law_cell"]

def l_figures_1 : Sts := .cons (.ret (.kb false)) .nil
def l_figures_4 : Sts := .cons (.ret (.kb false)) .nil
def l_figures_3 : Sts := .cons (.ifs (.cmp .NotIn (.v 2) (.ks "0123456789")) l_figures_4 .nil) .nil
def l_figures_5 : Sts := .cons (.ret (.kb true)) .nil
def l_figures_2 : Sts := .cons (.fors (.nm 2) (.seq (.v 0)) l_figures_3) l_figures_5
def l_figures_0 : Sts := .cons (.ifs (.or (.cmp .Lt (.bi .len (.cons (.v 0) .nil)) (.ki 1)) (.cmp .Gt (.bi .len (.cons (.v 0) .nil)) (.v 1))) l_figures_1 .nil) l_figures_2
abbrev l_figures_N : List Str := ["_law_text", "_law_most", "_law_sign"]
abbrev l_figures_P : List Str := ["_law_text", "_law_most"]

def l_number_0 : Sts := .cons (.ret (.and (.call "_law_figures" (.cons (.v 0) (.cons (.ki 40) .nil))) (.or (.cmp .Eq (.v 0) (.ks "0")) (.cmp .NotEq (.ix (.v 0) (.ki 0)) (.ks "0"))))) .nil
abbrev l_number_N : List Str := ["_law_text"]
abbrev l_number_P : List Str := ["_law_text"]

def l_day_due_3 : Sts := .cons (.ret .kn) .nil
def l_day_due_5 : Sts := .cons (.ret .kn) .nil
def l_day_due_7 : Sts := .cons (.ret .kn) .nil
def l_day_due_8 : Sts := .cons (.ret (.op .Sub (.op .Add (.op .Add (.op .Mult (.ki 360) (.bi .int (.cons (.v 1) .nil))) (.op .Mult (.ki 30) (.bi .int (.cons (.v 4) .nil)))) (.bi .int (.cons (.v 6) .nil))) (.ki 31))) .nil
def l_day_due_6 : Sts := .cons (.ifs (.or (.not (.chain .LtE .LtE (.ki 1) (.bi .int (.cons (.v 4) .nil)) (.ki 12))) (.not (.chain .LtE .LtE (.ki 1) (.bi .int (.cons (.v 6) .nil)) (.ki 30)))) l_day_due_7 .nil) l_day_due_8
def l_day_due_4 : Sts := .cons (.ifs (.or (.cmp .NotEq (.bi .len (.cons (.v 4) .nil)) (.ki 2)) (.or (.cmp .NotEq (.bi .len (.cons (.v 6) .nil)) (.ki 2)) (.or (.not (.call "_law_figures" (.cons (.v 4) (.cons (.ki 2) .nil)))) (.not (.call "_law_figures" (.cons (.v 6) (.cons (.ki 2) .nil))))))) l_day_due_5 .nil) l_day_due_6
def l_day_due_2 : Sts := .cons (.ifs (.or (.cmp .Eq (.v 2) (.ks "")) (.or (.cmp .Eq (.v 5) (.ks "")) (.not (.call "_law_number" (.cons (.v 1) .nil))))) l_day_due_3 .nil) l_day_due_4
def l_day_due_1 : Sts := .cons (.unp [4, 5, 6] (.bm .partition (.v 3) (.cons (.ks "-") .nil))) l_day_due_2
def l_day_due_0 : Sts := .cons (.unp [1, 2, 3] (.bm .partition (.v 0) (.cons (.ks "-") .nil))) l_day_due_1
abbrev l_day_due_N : List Str := ["_law_text", "_law_year", "_law_bar", "_law_rest", "_law_month", "_law_other", "_law_last"]
abbrev l_day_due_P : List Str := ["_law_text"]

def l_length_due_1 : Sts := .cons (.ret .kn) .nil
def l_length_due_2 : Sts := .cons (.ret (.op .Mult (.bi .int (.cons (.sl (.v 0) .none (.some (.neg (.ki 1)))) .nil)) (.ix (.lst (.cons (.ki 360) (.cons (.ki 30) (.cons (.ki 1) .nil)))) (.bm .index (.ks "ymd") (.cons (.ix (.v 0) (.neg (.ki 1))) .nil))))) .nil
def l_length_due_0 : Sts := .cons (.ifs (.or (.not (.call "_law_number" (.cons (.sl (.v 0) .none (.some (.neg (.ki 1)))) .nil))) (.cmp .NotIn (.ix (.v 0) (.neg (.ki 1))) (.ks "ymd"))) l_length_due_1 .nil) l_length_due_2
abbrev l_length_due_N : List Str := ["_law_text"]
abbrev l_length_due_P : List Str := ["_law_text"]

def l_refused_1 : Sts := .cons (.ret (.kb false)) .nil
def l_refused_3 : Sts := .cons (.ret (.kb false)) .nil
def l_refused_4 : Sts := .cons (.ret (.isi (.v 0) "HallError")) .nil
def l_refused_2 : Sts := .cons (.ifs (.isiT (.v 0) ["HeldTwice", "NoBook", "NoRow", "NoSeries", "NoTerm", "PutTwice", "RunBack", "TooWide", "Unlike"]) l_refused_3 .nil) l_refused_4
def l_refused_0 : Sts := .cons (.ifs (.or (.not (.isi (.v 0) "ValueError")) (.or (.cmp .NotEq (.isi (.v 0) "NoDay") (.v 1)) (.cmp .Eq (.isi (.v 0) "NoLength") (.v 1)))) l_refused_1 .nil) l_refused_2
abbrev l_refused_N : List Str := ["_law_told", "_law_one"]
abbrev l_refused_P : List Str := ["_law_told", "_law_one"]

def l_day_so_3 : Sts := .cons (.set 2 (.call "day_read" (.cons (.v 0) .nil))) .nil
def l_day_so_4 : Sts := .cons (.set 1 (.v 3)) .nil
def l_day_so_7 : Sts := .cons (.ret (.call "_law_refused" (.cons (.v 1) (.cons (.kb true) .nil)))) .nil
def l_day_so_8 : Sts := .cons (.ret (.and (.cmp .Is (.v 1) .kn) (.and (.call "_law_whole" (.cons (.v 2) .nil)) (.cmp .Eq (.v 2) (.v 4))))) .nil
def l_day_so_6 : Sts := .cons (.ifs (.cmp .Is (.v 4) .kn) l_day_so_7 .nil) l_day_so_8
def l_day_so_5 : Sts := .cons (.set 4 (.call "_law_day_due" (.cons (.v 0) .nil))) l_day_so_6
def l_day_so_2 : Sts := .cons (.tr l_day_so_3 "HallError" (some 3) l_day_so_4) l_day_so_5
def l_day_so_1 : Sts := .cons (.set 2 .kn) l_day_so_2
def l_day_so_0 : Sts := .cons (.set 1 .kn) l_day_so_1
abbrev l_day_so_N : List Str := ["_law_text", "_law_told", "_law_found", "e", "_law_due"]
abbrev l_day_so_P : List Str := ["_law_text"]

def l_length_so_3 : Sts := .cons (.set 2 (.call "length_read" (.cons (.v 0) .nil))) .nil
def l_length_so_4 : Sts := .cons (.set 1 (.v 3)) .nil
def l_length_so_7 : Sts := .cons (.ret (.call "_law_refused" (.cons (.v 1) (.cons (.kb false) .nil)))) .nil
def l_length_so_8 : Sts := .cons (.ret (.and (.cmp .Is (.v 1) .kn) (.and (.call "_law_whole" (.cons (.v 2) .nil)) (.cmp .Eq (.v 2) (.v 4))))) .nil
def l_length_so_6 : Sts := .cons (.ifs (.cmp .Is (.v 4) .kn) l_length_so_7 .nil) l_length_so_8
def l_length_so_5 : Sts := .cons (.set 4 (.call "_law_length_due" (.cons (.v 0) .nil))) l_length_so_6
def l_length_so_2 : Sts := .cons (.tr l_length_so_3 "HallError" (some 3) l_length_so_4) l_length_so_5
def l_length_so_1 : Sts := .cons (.set 2 .kn) l_length_so_2
def l_length_so_0 : Sts := .cons (.set 1 .kn) l_length_so_1
abbrev l_length_so_N : List Str := ["_law_text", "_law_told", "_law_found", "e", "_law_due"]
abbrev l_length_so_P : List Str := ["_law_text"]

def l_odd_3 : Sts := .cons (.ret (.ix (.v 1) (.op .Mod (.v 0) (.ki 25)))) .nil
def l_odd_2 : Sts := .cons (.set 1 (.op .Add (.v 1) (.lst (.cons (.ks "0-01-010") (.cons (.ks "0-001-01") .nil))))) l_odd_3
def l_odd_1 : Sts := .cons (.set 1 (.op .Add (.v 1) (.lst (.cons (.ks "-1-01-01") (.cons (.ks "0-01-01-") (.cons (.ks "0--01-01") (.cons (.ks "y") (.cons (.ks "0") (.cons (.ks "00d") (.cons (.ks "01y") (.cons (.ks "-1d") (.cons (.ks "1 d") (.cons (.ks "1w") (.cons (.ks "1Y") (.cons (.ks "d1") .nil))))))))))))))) l_odd_2
def l_odd_0 : Sts := .cons (.set 1 (.lst (.cons (.ks "") (.cons (.ks "-") (.cons (.ks "--") (.cons (.ks "0-01") (.cons (.ks "0-1-01") (.cons (.ks "0-01-1") (.cons (.ks "0-00-01") (.cons (.ks "0-01-00") (.cons (.ks "0-13-01") (.cons (.ks "0-12-31") (.cons (.ks "00-01-01") .nil))))))))))))) l_odd_1
abbrev l_odd_N : List Str := ["_law_cell", "_law_some"]
abbrev l_odd_P : List Str := ["_law_cell"]

def l_holds_5 : Sts := .cons (.ret (.kb false)) .nil
def l_holds_7 : Sts := .cons (.ret (.kb false)) .nil
def l_holds_8 : Sts := .cons (.ret (.and (.call "_law_day_so" (.cons (.call "_law_odd" (.cons (.v 0) .nil)) .nil)) (.call "_law_length_so" (.cons (.call "_law_odd" (.cons (.v 1) .nil)) .nil)))) .nil
def l_holds_6 : Sts := .cons (.ifs (.not (.call "_law_length_so" (.cons (.call "_law_bent" (.cons (.op .Add (.bi .str (.cons (.v 3) .nil)) (.ix (.ks "ymdh") (.op .Mod (.op .FloorDiv (.v 1) (.ki 3)) (.ki 4)))) (.cons (.op .FloorDiv (.v 1) (.ki 7)) .nil))) .nil))) l_holds_7 .nil) l_holds_8
def l_holds_4 : Sts := .cons (.ifs (.not (.call "_law_day_so" (.cons (.call "_law_bent" (.cons (.op .Add (.op .Add (.op .Add (.op .Add (.bi .str (.cons (.v 3) .nil)) (.ks "-")) (.v 4)) (.ks "-")) (.v 5)) (.cons (.v 1) .nil))) .nil))) l_holds_5 .nil) l_holds_6
def l_holds_3 : Sts := .cons (.set 5 (.sl (.bi .str (.cons (.op .Add (.ki 100) (.op .Mod (.op .FloorDiv (.v 1) (.ki 14)) (.ki 33))) .nil)) (.some (.ki 1)) .none)) l_holds_4
def l_holds_2 : Sts := .cons (.set 4 (.sl (.bi .str (.cons (.op .Add (.ki 100) (.op .Mod (.v 1) (.ki 14))) .nil)) (.some (.ki 1)) .none)) l_holds_3
def l_holds_1 : Sts := .cons (.set 3 (.ix (.lst (.cons (.op .Mod (.v 2) (.ki 12)) (.cons (.op .Mod (.op .Mult (.v 2) (.ki 982451653)) (.op .Pow (.ki 10) (.ki 41))) (.cons (.op .Add (.op .Sub (.op .Pow (.ki 10) (.ki 40)) (.ki 1)) (.op .Mod (.v 2) (.ki 2))) (.cons (.ki 0) (.cons (.op .Mod (.v 2) (.ki 100)) .nil)))))) (.op .Mod (.v 0) (.ki 5)))) l_holds_2
def l_holds_0 : Sts := .cons (.set 2 (.op .FloorDiv (.v 0) (.ki 5))) l_holds_1
abbrev l_holds_N : List Str := ["_law_cell", "_law_other", "_law_rest", "_law_number_here", "_law_two", "_law_last"]
abbrev l_holds_P : List Str := ["_law_cell", "_law_other"]

def law_3 : Sts := .cons (.ret (.kb false)) .nil
def law_2 : Sts := .cons (.ifs (.not (.call "_law_holds" (.cons (.ix (.v 1) (.v 2)) (.cons (.ix (.v 1) (.op .Sub (.v 2) (.ki 1))) .nil)))) law_3 .nil) .nil
def law_4 : Sts := .cons (.ret (.kb true)) .nil
def law_1 : Sts := .cons (.fors (.nm 2) (.rng (.bi .len (.cons (.v 1) .nil))) law_2) law_4
def law_0 : Sts := .cons (.set 1 (.op .Add (.v 0) (.lst (.cons (.ki 0) .nil)))) law_1
abbrev law_N : List Str := ["_law_script", "_law_cells", "_law_k"]
abbrev law_P : List Str := ["_law_script"]

local macro_rules | `(tactic| walk_at "vc") => `(tactic| simp only [wS, wSs, wP, wPs, wPo, wSrc, wTg, tSeq, tNext, tAsg, gName, tIfS, tRet, tRetN, tDrop, tOp, vR, tC, tTest, tChain, tAnd, tOr, tNot, tAndV, tOrV, tNotV, tUn, rU, tIf, tCB, tCons, tNil, tLst, tTup, tSl, tPart, tNoPart, tTr, opR, cmpR, addR, subR, mulR, divR, modR, powR, eqR, ltR, isR, memR, lenR, truR, lenO_lst, lenO_tup, lenO_dK, truO_lst, truO_tup, memO_lst, memO_tup, memO_dKs, memO_dKi, ixO_lst, ixO_tup, ixO_dKi, ixO_dKs, hoSeq_lst, hoSeq_tup, setAll, strR, intR, biR, bmR, bmT, ixR, slR, xor_f, xor_t, List.getElem?_cons_zero, List.getElem?_cons_succ, List.set_cons_zero, List.set_cons_succ, V.bl.injEq, V.int.injEq, V.str.injEq, exists_eq_left', Option.some.injEq, exists_eq_left, List.map_cons, List.map_nil, List.cons_append, List.nil_append, decide_eq_true_eq, Bool.not_eq_true', decide_eq_false_iff_not, Bool.not_false, Bool.not_true, if_true, Bool.false_eq_true, if_false, true_and, List.length_cons, List.length_nil, and_true])
/-! ### what the law reckons -/
def figB (cs : List Nat) (m : Nat) : Bool := decide (1 ≤ cs.length ∧ cs.length ≤ m) && cs.all digB
def spFig : Sp := fun vs H Q _ => ∃ (z : Str) (m : Nat), vs = [.str z, .int m] ∧ z.length ≤ sizeLine ∧ Q (.bl (figB (tl z) m)) H
theorem ok_figures {G : Gam} : Keeps G l_figures_N l_figures_0 spFig := by
  rintro H vs Q E ⟨z, m, rfl, hz, q⟩
  show wSs G _ l_figures_0 _ [some (.str z), some (.int m), none] H
  have hl : z.length = (tl z).length := len_tl z
  have loop : (1 ≤ (tl z).length ∧ (tl z).length ≤ m) → wSs G (fun cls d _ H => E cls d H) l_figures_2 { nx := fun _ H' => Q .non H', rt := Q } [some (.str z), some (.int m), none] H := by
    intro h1
    have e0 : figB (tl z) m = (tl z).all digB := by
      unfold figB
      rw [decide_eq_true h1]
      rfl
    unfold l_figures_2
    walk_at "vc"
    obtain ⟨I, hI⟩ : ∃ I : List Nat → L2.St → Hp → Prop, I = fun pre σ' H' => H' = H ∧ (∃ y, σ' = [some (.str z), some (.int m), y]) ∧ pre.all digB = true := ⟨_, rfl⟩
    refine forQ_map I (by rw [hI]; exact ⟨rfl, ⟨_, rfl⟩, rfl⟩) (fun _ _ _ _ => trivial) ?_ ?_
    · intro pre c post σ' H' e p
      rw [hI] at p
      obtain ⟨rfl, ⟨y, rfl⟩, hp⟩ := p
      unfold l_figures_3
      walk_at "vc"
      simp only [show ∀ c, c ∈ ("0123456789" : Str).cps.toList ↔ digB c = true from fig_mem]
      by_cases hc : digB c = true
      · rw [if_neg (by simpa using hc), hI]
        exact ⟨rfl, ⟨_, rfl⟩, by rw [List.all_append, hp]; simpa using hc⟩
      · rw [if_pos (by simpa using hc)]
        unfold l_figures_4
        walk_at "vc"
        have : figB (tl z) m = false := by
          rw [e0, List.all_eq_false]
          exact ⟨c, by show c ∈ z.cps.toList; rw [e]; simp, hc⟩
        rw [this] at q
        exact q
    · intro σ' H' p
      rw [hI] at p
      obtain ⟨rfl, ⟨y, rfl⟩, hp⟩ := p
      unfold l_figures_5
      walk_at "vc"
      rw [e0, show (tl z).all digB = true from hp] at q
      exact q
  have bad : ¬ (1 ≤ (tl z).length ∧ (tl z).length ≤ m) → wSs G (fun cls d _ H => E cls d H) l_figures_1 { nx := wSs G (fun cls d _ H => E cls d H) l_figures_2 { nx := fun _ H' => Q .non H', rt := Q }, rt := Q } [some (.str z), some (.int m), none] H := by
    intro h
    unfold l_figures_1
    walk_at "vc"
    have : figB (tl z) m = false := by
      unfold figB
      rw [decide_eq_false h]
      rfl
    rw [this] at q
    exact q
  unfold l_figures_0
  walk_at "vc"
  refine ⟨hz, ?_⟩
  by_cases h1 : (z.length : Int) < 1
  · rw [if_pos h1]
    exact bad (by omega)
  · rw [if_neg h1]
    refine ⟨hz, ?_⟩
    by_cases h2 : (m : Int) < z.length
    · rw [if_pos h2]
      exact bad (by omega)
    · rw [if_neg h2]
      exact loop (by omega)
def spNumber : Sp := fun vs H Q _ => ∃ z : Str, vs = [.str z] ∧ z.length ≤ sizeLine ∧ Q (.bl (numB (tl z))) H
theorem ok_number {G : Gam} (h1 : G.fn "_law_figures" = some spFig) : Keeps G l_number_N l_number_0 spNumber := by
  rintro H vs Q E ⟨z, rfl, hz, q⟩
  show wSs G _ l_number_0 _ [some (.str z)] H
  have e : numB (tl z) = (figB (tl z) 40 && !(decide ((tl z).head? = some 48) && decide (tl z ≠ [48]))) := by
    unfold numB figB
    cases (decide (1 ≤ (tl z).length ∧ (tl z).length ≤ 40)) <;> cases ((tl z).all digB) <;> simp
  unfold l_number_0
  walk_at "vc"
  refine ⟨_, h1, z, 40, rfl, hz, ?_⟩
  cases hf : figB (tl z) 40 with
  | false =>
    rw [hf] at e
    rw [e] at q
    walk_at "vc"
    exact q
  | true =>
    rw [hf] at e
    walk_at "vc"
    obtain ⟨c, r, ec⟩ : ∃ c r, tl z = c :: r := by
      cases h : tl z with
      | nil => rw [h] at hf; simp [figB] at hf
      | cons c r => exact ⟨c, r, rfl⟩
    have hs : z = "0" ↔ tl z = [48] := by
      rw [s0]
      constructor
      · rintro rfl
        rfl
      · intro h
        exact str_ext h
    by_cases h0 : z = "0"
    · rw [if_pos h0]
      have : numB (tl z) = true := by
        rw [e, hs.mp h0]
        decide
      rw [this] at q
      exact q
    · rw [if_neg h0]
      refine ⟨hz, c, atI_nat (j := 0) (by rw [show z.cps.toList = tl z from rfl, ec]; rfl), ?_⟩
      have h0' : tl z ≠ [48] := fun h => h0 (hs.mpr h)
      simp only [s0, s1_eq]
      have : numB (tl z) = !decide (c = 48) := by
        rw [e, decide_eq_true h0', ec]
        simp
      rw [this] at q
      exact q
theorem par_spl : ∀ (cs acc : List Nat), (TL.par [45] acc cs = none → TL.spl [45] 0 acc cs = [acc ++ cs]) ∧ ∀ p q, TL.par [45] acc cs = some (p, q) → TL.spl [45] 0 acc cs = p :: TL.spl [45] 0 [] q
  | [], acc => ⟨fun _ => by rw [TL.spl_nil, List.append_nil], fun p q h => by cases h⟩
  | c :: r, acc => by
    unfold TL.par
    cases e : TL.pre [45] (c :: r) with
    | true =>
      rw [if_pos rfl, TL.spl_hit e]
      exact ⟨fun h => (nomatch h), fun p q h => by cases h; rfl⟩
    | false =>
      rw [if_neg (by simp), TL.spl_miss e]
      obtain ⟨h1, h2⟩ := par_spl r (acc ++ [c])
      exact ⟨fun h => by rw [h1 h]; simp, h2⟩
theorem spl_free : ∀ (cs acc : List Nat), 45 ∉ cs → TL.spl [45] 0 acc cs = [acc ++ cs]
  | [], acc, _ => by rw [TL.spl_nil, List.append_nil]
  | c :: r, acc, h => by
    have : TL.pre [45] (c :: r) = false := by
      show ([c] == [45]) = false
      have : c ≠ 45 := fun e => h (by rw [e]; exact List.mem_cons_self)
      simpa using this
    rw [TL.spl_miss this, spl_free r _ fun m => h (List.mem_cons_of_mem _ m)]
    simp
theorem spl_more : ∀ (cs acc : List Nat), 45 ∈ cs → ∃ a b r, TL.spl [45] 0 acc cs = a :: b :: r
  | [], acc, h => nomatch h
  | c :: r, acc, h => by
    by_cases hc : c = 45
    · subst hc
      rw [TL.spl_hit (by rfl)]
      cases e : TL.spl [45] 0 [] r with
      | nil =>
        cases r with
        | nil => rw [TL.spl_nil] at e; cases e
        | cons _ _ =>
          exfalso
          obtain ⟨h1, h2⟩ := par_spl (_ :: _) []
          cases hp : TL.par [45] [] (_ :: _) with
          | none => rw [h1 hp] at e; cases e
          | some p => rw [h2 p.1 p.2 hp] at e; cases e
      | cons b r' => exact ⟨acc, b, r', rfl⟩
    · have : TL.pre [45] (c :: r) = false := by
        show ([c] == [45]) = false
        simpa using hc
      rw [TL.spl_miss this]
      exact spl_more r _ (by rcases List.mem_cons.mp h with h | h; exact absurd h.symm hc; exact h)
theorem part_some {z : Str} {p q : List Nat} (h : TL.par [45] [] (tl z) = some (p, q)) : Txt.partition z "-" = (⟨p.toArray⟩, ⟨#[45]⟩, ⟨q.toArray⟩) := by
  have e := TL.partition_par z "-" (by decide +kernel)
  rw [show tl ("-" : Str) = [45] by decide +kernel, h] at e
  exact e
theorem part_none {z : Str} (h : TL.par [45] [] (tl z) = none) : Txt.partition z "-" = (z, ⟨#[]⟩, ⟨#[]⟩) := by
  have e := TL.partition_par z "-" (by decide +kernel)
  rw [show tl ("-" : Str) = [45] by decide +kernel, h] at e
  exact e
theorem tl_mk (l : List Nat) : tl ⟨l.toArray⟩ = l := rfl
theorem part_len (z w : Str) : (Txt.partition z w).1.length ≤ z.length ∧ (Txt.partition z w).2.1.length ≤ z.length ∧ (Txt.partition z w).2.2.length ≤ z.length := PyProof.Rows.fact_partition z w

theorem figB2 {cs : List Nat} (h : figB cs 2 = true) : cs.all digB = true ∧ 1 ≤ cs.length ∧ cs.length ≤ 2 := by
  unfold figB at h
  simp only [Bool.and_eq_true, decide_eq_true_eq] at h
  exact ⟨h.2, h.1.1, h.1.2⟩
theorem dig_free {cs : List Nat} (h : cs.all digB = true) : 45 ∉ cs := fun m => by
  have := List.all_eq_true.mp h 45 m
  exact absurd this (by decide)
def spDayDue : Sp := fun vs H Q _ => ∃ z : Str, vs = [.str z] ∧ z.length ≤ 1000000 ∧ ∀ H', Same H H' → Q (optV (dayR (tl z))) H'
theorem ok_day_due {G : Gam} (h1 : G.fn "_law_figures" = some spFig) (h2 : G.fn "_law_number" = some spNumber) : Keeps G l_day_due_N l_day_due_0 spDayDue := by
  rintro H vs Q E ⟨z, rfl, hz, q⟩
  show wSs G _ l_day_due_0 _ [some (.str z), none, none, none, none, none, none] H
  have lm := line_mil
  have pl := part_len z "-"
  unfold l_day_due_0
  walk_at "vc"
  refine ⟨by decide +kernel, by omega, fun p hp => ?_⟩
  have hS1 := same_new (o := .tup [.str (Txt.partition z "-").1, .str (Txt.partition z "-").2.1, .str (Txt.partition z "-").2.2]) hp
  rw [show rd (upd H p (.tup [.str (Txt.partition z "-").1, .str (Txt.partition z "-").2.1, .str (Txt.partition z "-").2.2])) p = some (.tup [.str (Txt.partition z "-").1, .str (Txt.partition z "-").2.1, .str (Txt.partition z "-").2.2]) from rd_of upd_same]
  generalize upd H p (.tup [.str (Txt.partition z "-").1, .str (Txt.partition z "-").2.1, .str (Txt.partition z "-").2.2]) = H1 at hS1
  walk_at "vc"
  obtain ⟨y, hy⟩ : ∃ y, y = (Txt.partition z "-").1 := ⟨_, rfl⟩
  obtain ⟨b1, hb1⟩ : ∃ y, y = (Txt.partition z "-").2.1 := ⟨_, rfl⟩
  obtain ⟨r1, hr1⟩ : ∃ y, y = (Txt.partition z "-").2.2 := ⟨_, rfl⟩
  rw [← hy, ← hb1, ← hr1] at pl ⊢
  have pl2 := part_len r1 "-"
  unfold l_day_due_1
  walk_at "vc"
  refine ⟨by decide +kernel, by omega, fun p2 hp2 => ?_⟩
  have hS2 := same_new (o := .tup [.str (Txt.partition r1 "-").1, .str (Txt.partition r1 "-").2.1, .str (Txt.partition r1 "-").2.2]) hp2
  rw [show rd (upd H1 p2 (.tup [.str (Txt.partition r1 "-").1, .str (Txt.partition r1 "-").2.1, .str (Txt.partition r1 "-").2.2])) p2 = some (.tup [.str (Txt.partition r1 "-").1, .str (Txt.partition r1 "-").2.1, .str (Txt.partition r1 "-").2.2]) from rd_of upd_same]
  generalize upd H1 p2 (.tup [.str (Txt.partition r1 "-").1, .str (Txt.partition r1 "-").2.1, .str (Txt.partition r1 "-").2.2]) = H2 at hS2
  walk_at "vc"
  obtain ⟨m, hm⟩ : ∃ y, y = (Txt.partition r1 "-").1 := ⟨_, rfl⟩
  obtain ⟨b2, hb2⟩ : ∃ y, y = (Txt.partition r1 "-").2.1 := ⟨_, rfl⟩
  obtain ⟨l, hl⟩ : ∃ y, y = (Txt.partition r1 "-").2.2 := ⟨_, rfl⟩
  rw [← hm, ← hb2, ← hl] at pl2 ⊢
  have q2 := q H2 (hS1.trans hS2)
  have bad3 : ∀ {nx : L2.St → Hp → Prop}, dayR (tl z) = none → wSs G (fun cls d _ H => E cls d H) l_day_due_3 { nx := nx, rt := Q } [some (.str z), some (.str y), some (.str b1), some (.str r1), some (.str m), some (.str b2), some (.str l)] H2 := by
    intro nx e
    unfold l_day_due_3
    walk_at "vc"
    rw [e] at q2
    exact q2
  have bad5 : ∀ {nx : L2.St → Hp → Prop}, dayR (tl z) = none → wSs G (fun cls d _ H => E cls d H) l_day_due_5 { nx := nx, rt := Q } [some (.str z), some (.str y), some (.str b1), some (.str r1), some (.str m), some (.str b2), some (.str l)] H2 := by
    intro nx e
    unfold l_day_due_5
    walk_at "vc"
    rw [e] at q2
    exact q2
  have bad7 : ∀ {nx : L2.St → Hp → Prop}, dayR (tl z) = none → wSs G (fun cls d _ H => E cls d H) l_day_due_7 { nx := nx, rt := Q } [some (.str z), some (.str y), some (.str b1), some (.str r1), some (.str m), some (.str b2), some (.str l)] H2 := by
    intro nx e
    unfold l_day_due_7
    walk_at "vc"
    rw [e] at q2
    exact q2
  unfold l_day_due_2
  walk_at "vc"
  cases e1 : TL.par [45] [] (tl z) with
  | none =>
    have hn : dayR (tl z) = none := by
      unfold dayR
      rw [(par_spl _ _).1 e1]
    rw [part_none e1] at hb1
    subst hb1
    rw [if_pos (show (⟨#[]⟩ : Str) = "" by decide)]
    exact bad3 hn
  | some pq =>
    obtain ⟨yl, rl⟩ := pq
    rw [part_some e1] at hy hb1 hr1
    dsimp only at hy hb1 hr1
    subst hy hb1 hr1
    rw [if_neg (by decide)]
    have es := (par_spl _ _).2 _ _ e1
    cases e2 : TL.par [45] [] (tl ⟨rl.toArray⟩) with
    | none =>
      have hn : dayR (tl z) = none := by
        unfold dayR
        rw [es, (par_spl _ _).1 (show TL.par [45] [] rl = none from e2)]
      rw [part_none e2] at hb2
      subst hb2
      rw [if_pos (show (⟨#[]⟩ : Str) = "" by decide)]
      exact bad3 hn
    | some pq2 =>
      obtain ⟨ml, ll⟩ := pq2
      rw [part_some e2] at hm hb2 hl
      dsimp only at hm hb2 hl
      subst hm hb2 hl
      rw [if_neg (by decide)]
      have es2 := (par_spl _ _).2 _ _ (show TL.par [45] [] rl = some (ml, ll) from e2)
      refine ⟨_, h2, _, rfl, by omega, ?_⟩
      rw [tl_mk]
      have hsp : ∀ (h : 45 ∉ ll), TL.spl [45] 0 [] (tl z) = [yl, ml, ll] := fun h => by rw [es, es2, spl_free _ _ h]; rfl
      have hdig : 45 ∈ ll → dayR (tl z) = none := fun h => by
        obtain ⟨a, b, r, e⟩ := spl_more ll [] h
        unfold dayR
        rw [es, es2, e]
      cases hn : numB yl with
      | false =>
        simp only [Bool.not_false, if_true]
        refine bad3 ?_
        by_cases h : 45 ∈ ll
        · exact hdig h
        · unfold dayR
          rw [hsp h]
          simp only
          rw [if_neg (by rw [hn]; simp)]
      | true =>
        simp only [Bool.not_true, Bool.false_eq_true, if_false]
        have dR : 45 ∉ ll → dayR (tl z) = (match twoB ml 12, twoB ll 30 with
          | some m, some d => some (360 * dval yl + 30 * (m - 1) + (d - 1))
          | _, _ => none) := fun h => by
          unfold dayR
          rw [hsp h]
          simp only
          rw [if_pos hn]
          try (cases twoB ml 12 <;> cases twoB ll 30 <;> rfl)
        have none1 : twoB ml 12 = none → dayR (tl z) = none := fun h => by
          by_cases h45 : 45 ∈ ll
          · exact hdig h45
          · rw [dR h45, h]
        have none2 : twoB ll 30 = none → dayR (tl z) = none := fun h => by
          by_cases h45 : 45 ∈ ll
          · exact hdig h45
          · rw [dR h45, h]
            split
            · rename_i e; cases e
            · rfl
        unfold l_day_due_4
        walk_at "vc"
        have lml : (⟨ml.toArray⟩ : Str).length = ml.length := len_tl _
        have lll : (⟨ll.toArray⟩ : Str).length = ll.length := len_tl _
        have lrl : (⟨rl.toArray⟩ : Str).length = rl.length := len_tl _
        have lyl : (⟨yl.toArray⟩ : Str).length = yl.length := len_tl _
        refine ⟨by omega, ?_⟩
        by_cases c1 : ml.length = 2
        · rw [if_neg (by rw [lml, c1]; decide)]
          refine ⟨by omega, ?_⟩
          by_cases c2 : ll.length = 2
          · rw [if_neg (by rw [lll, c2]; decide)]
            refine ⟨_, h1, _, 2, rfl, by omega, ?_⟩
            rw [tl_mk]
            cases f1 : figB ml 2 with
            | false =>
              simp only [Bool.not_false, if_true]
              refine bad5 (none1 ?_)
              unfold twoB
              rw [if_neg fun k => by
                unfold figB at f1
                rw [k.1, k.2.1] at f1
                simp at f1]
            | true =>
              simp only [Bool.not_true, Bool.false_eq_true, if_false]
              refine ⟨_, h1, _, 2, rfl, by omega, ?_⟩
              rw [tl_mk]
              cases f2 : figB ll 2 with
              | false =>
                simp only [Bool.not_false, if_true]
                refine bad5 (none2 ?_)
                unfold twoB
                rw [if_neg fun k => by
                  unfold figB at f2
                  rw [k.1, k.2.1] at f2
                  simp at f2]
              | true =>
                simp only [Bool.not_true, Bool.false_eq_true, if_false]
                obtain ⟨d1, _, _⟩ := figB2 f1
                obtain ⟨d2, _, _⟩ := figB2 f2
                obtain ⟨y1, y2, y3⟩ := numB_dig hn
                have i1 := int_of_digits (z := ⟨ml.toArray⟩) d1 (by rw [tl_mk]; omega) (by rw [tl_mk]; omega)
                have i2 := int_of_digits (z := ⟨ll.toArray⟩) d2 (by rw [tl_mk]; omega) (by rw [tl_mk]; omega)
                have i3 := int_of_digits (z := ⟨yl.toArray⟩) y1 (by rw [tl_mk]; omega) (by rw [tl_mk]; omega)
                rw [tl_mk] at i1 i2 i3
                have t1 : twoB ml 12 = if 1 ≤ dval ml ∧ dval ml ≤ 12 then some (dval ml) else none := by
                  unfold twoB
                  simp only [c1, d1, true_and]
                have t2 : twoB ll 30 = if 1 ≤ dval ll ∧ dval ll ≤ 30 then some (dval ll) else none := by
                  unfold twoB
                  simp only [c2, d2, true_and]
                unfold l_day_due_6
                walk_at "vc"
                refine ⟨_, i1.1, i1.2, ?_⟩
                by_cases k1 : 1 ≤ dval ml
                · rw [if_pos (by omega)]
                  by_cases k2 : dval ml ≤ 12
                  · rw [if_neg (by omega)]
                    rw [if_pos ⟨k1, k2⟩] at t1
                    refine ⟨_, i2.1, i2.2, ?_⟩
                    by_cases k3 : 1 ≤ dval ll
                    · rw [if_pos (by omega)]
                      by_cases k4 : dval ll ≤ 30
                      · rw [if_neg (by omega)]
                        rw [if_pos ⟨k3, k4⟩] at t2
                        have e := dR (dig_free d2)
                        rw [t1, t2] at e
                        rw [e] at q2
                        unfold l_day_due_8
                        walk_at "vc"
                        refine ⟨_, i3.1, i3.2, mul_l (by decide), _, i1.1, i1.2, mul_l (by decide), _, i2.1, i2.2, ?_⟩
                        rw [show 360 * (dval yl : Int) + 30 * (dval ml : Int) + (dval ll : Int) - 31 = ((360 * dval yl + 30 * (dval ml - 1) + (dval ll - 1) : Nat) : Int) by omega]
                        exact q2
                      · rw [if_pos (by omega)]
                        rw [if_neg (fun k => k4 k.2)] at t2
                        exact bad7 (none2 t2)
                    · rw [if_neg (by omega)]
                      rw [if_neg (fun k => k3 k.1)] at t2
                      exact bad7 (none2 t2)
                  · rw [if_pos (by omega)]
                    rw [if_neg (fun k => k2 k.2)] at t1
                    exact bad7 (none1 t1)
                · rw [if_neg (by omega)]
                  rw [if_neg (fun k => k1 k.1)] at t1
                  exact bad7 (none1 t1)
          · rw [if_pos (by rw [lll]; omega)]
            refine bad5 (none2 ?_)
            unfold twoB
            rw [if_neg fun k => c2 k.1]
        · rw [if_pos (by rw [lml]; omega)]
          refine bad5 (none1 ?_)
          unfold twoB
          rw [if_neg fun k => c1 k.1]

def spLenDue : Sp := fun vs H Q _ => ∃ z : Str, vs = [.str z] ∧ z.length ≤ 1000000 ∧ ∀ H', Same H H' → Q (optV (lenRd (tl z))) H'
theorem ymd_mem (c : Nat) : c ∈ ("ymd" : Str).cps.toList ↔ c = 121 ∨ c = 109 ∨ c = 100 := by
  have e : ("ymd" : Str).cps.toList = [121, 109, 100] := by decide +kernel
  rw [e]
  simp
theorem ok_length_due {G : Gam} (h2 : G.fn "_law_number" = some spNumber) : Keeps G l_length_due_N l_length_due_0 spLenDue := by
  rintro H vs Q E ⟨z, rfl, hz, q⟩
  show wSs G _ l_length_due_0 _ [some (.str z)] H
  have lm := line_mil
  have hl : z.length = (tl z).length := len_tl z
  have hcl := cutS_length z none (some (-1))
  have bad : ∀ {nx : L2.St → Hp → Prop}, lenRd (tl z) = none → wSs G (fun cls d _ H => E cls d H) l_length_due_1 { nx := nx, rt := Q } [some (.str z)] H := by
    intro nx hn
    unfold l_length_due_1
    walk_at "vc"
    have := q H (Same.refl _)
    rw [hn] at this
    exact this
  unfold l_length_due_0
  walk_at "vc"
  refine ⟨_, h2, by omega, _, rfl, by omega, ?_⟩
  rw [cut_last]
  cases hn : numB (tl z).dropLast with
  | false =>
    simp only [Bool.not_false, if_true]
    refine bad ?_
    unfold lenRd
    rw [if_neg (by rw [hn]; simp)]
  | true =>
    simp only [Bool.not_true, Bool.false_eq_true, if_false]
    obtain ⟨y1, y2, y3⟩ := numB_dig hn
    obtain ⟨c, hc⟩ : ∃ c, (tl z).getLast? = some c := by
      cases h : (tl z).getLast? with
      | some c => exact ⟨c, rfl⟩
      | none =>
        have : tl z = [] := List.getLast?_eq_none_iff.mp h
        rw [this] at y2
        simp at y2
    refine ⟨by omega, c, at_last hc, ?_⟩
    simp only [ymd_mem]
    by_cases h3 : c = 121 ∨ c = 109 ∨ c = 100
    · rw [if_neg (fun h => h h3)]
      have i1 := int_of_digits (z := cutS z none (some (-1))) (by rw [cut_last]; exact y1) (by rw [cut_last]; exact y2) (by rw [cut_last]; omega)
      rw [cut_last] at i1
      unfold l_length_due_2
      walk_at "vc"
      refine ⟨by omega, _, i1.1, i1.2, by decide, fun p hp => ⟨by omega, c, at_last hc, ?_⟩⟩
      rcases h3 with rfl | rfl | rfl
      · refine ⟨0, [], by decide +kernel, ?_⟩
        refine pick hp (at3 0 (by omega) (by omega)) fun H2 s2 => ?_
        walk_at "vc"
        refine ⟨mul_r (by decide), ?_⟩
        have := q H2 s2
        unfold lenRd at this
        rw [if_pos hn, hc] at this
        simp only at this
        rw [show (dval (tl z).dropLast : Int) * 360 = ((360 * dval (tl z).dropLast : Nat) : Int) by omega]
        exact this
      · refine ⟨1, [], by decide +kernel, ?_⟩
        refine pick hp (at3 1 (by omega) (by omega)) fun H2 s2 => ?_
        walk_at "vc"
        refine ⟨mul_r (by decide), ?_⟩
        have := q H2 s2
        unfold lenRd at this
        rw [if_pos hn, hc] at this
        simp only at this
        rw [show (dval (tl z).dropLast : Int) * 30 = ((30 * dval (tl z).dropLast : Nat) : Int) by omega]
        exact this
      · refine ⟨2, [], by decide +kernel, ?_⟩
        refine pick hp (at3 2 (by omega) (by omega)) fun H2 s2 => ?_
        rw [if_neg (by decide), if_neg (by decide)]
        walk_at "vc"
        refine ⟨mul_r (by decide), ?_⟩
        have := q H2 s2
        unfold lenRd at this
        rw [if_pos hn, hc] at this
        simp only at this
        rw [show (dval (tl z).dropLast : Int) * 1 = ((dval (tl z).dropLast : Nat) : Int) by omega]
        exact this
    · rw [if_pos h3]
      refine bad ?_
      unfold lenRd
      rw [if_pos hn, hc]
      split
      · rename_i e; cases e; simp at h3
      · rename_i e; cases e; simp at h3
      · rename_i e; cases e; simp at h3
      · exact rfl

/-- what isinstance says of the refusals -/
structure Ref3 (K : PySem.W.Frag) (D c0 c1 cH : Addr) (l : List Addr) (one : Bool) : Prop where
  C : ExcC K D
  ex : PySem.W.exmOne K (.ref D) (.ref cH) = some true
  kv : PySem.W.kitOne K (.ref D) (.type "ValueError") = some true
  kh : PySem.W.kitOne K (.ref D) (.ref cH) = some true
  k0 : PySem.W.kitOne K (.ref D) (.ref c0) = some one
  k1 : PySem.W.kitOne K (.ref D) (.ref c1) = some (!one)
  kn : PySem.W.kitAny K (.ref D) (l.map Value.ref) = some false
theorem paired_refs : ∀ l : List Addr, Paired ClsV (l.map V.ref) (l.map Value.ref)
  | [] => .nil
  | a :: r => .cons (.own a) (paired_refs r)
theorem isi_exc {K : PySem.W.Frag} {H : Hp} {a D : Addr} {c : V} {u : Value} {b : Bool} {Q : VK} (ha : H a = some (excO a (.ref D) none)) (C : ExcC K D) (cv : ClsV c u) (h : PySem.W.kitOne K (.ref D) u = some b) (q : Q (.bl b) H) : isiR K (.ref a) c H Q :=
  .inr ⟨a, D, u, b, rfl, ha, C, cv, h, q⟩
abbrev clsL : List Str := ["HeldTwice", "NoBook", "NoRow", "NoSeries", "NoTerm", "PutTwice", "RunBack", "TooWide", "Unlike"]
def spRefused (c0 c1 : Addr) : Sp := fun vs H Q _ => ∃ (a : Addr) (one : Bool), vs = [.ref a, .bl one] ∧ H a = some (excO a (.ref (if one then c0 else c1)) none) ∧ ∀ H', Same H H' → Q (.bl true) H'
theorem ok_refused {G : Gam} {c0 c1 cH : Addr} {l : List Addr} (hV : G.cls "ValueError" = some (.ty "ValueError")) (h0 : G.cls "NoDay" = some (.ref c0)) (h1 : G.cls "NoLength" = some (.ref c1)) (hH : G.cls "HallError" = some (.ref cH))
    (hl : clsL.mapM G.cls = some (l.map V.ref)) (R0 : Ref3 G.K c0 c0 c1 cH l true) (R1 : Ref3 G.K c1 c0 c1 cH l false) : Keeps G l_refused_N l_refused_0 (spRefused c0 c1) := by
  rintro H vs Q E ⟨a, one, rfl, ha, q⟩
  show wSs G _ l_refused_0 _ [some (.ref a), some (.bl one)] H
  obtain ⟨D, hD, R⟩ : ∃ D, D = (if one then c0 else c1) ∧ Ref3 G.K D c0 c1 cH l one := by
    cases one with
    | true => exact ⟨c0, rfl, R0⟩
    | false => exact ⟨c1, rfl, R1⟩
  rw [← hD] at ha
  unfold l_refused_0
  walk_at "vc"
  refine ⟨_, hV, isi_exc ha R.C (.ty _) R.kv ?_⟩
  walk_at "vc"
  refine ⟨_, h0, isi_exc ha R.C (.own _) R.k0 ?_⟩
  walk_at "vc"
  rw [if_neg (fun h => h trivial)]
  refine ⟨_, h1, isi_exc ha R.C (.own _) R.k1 ?_⟩
  walk_at "vc"
  rw [if_neg (by cases one <;> decide)]
  unfold l_refused_2
  walk_at "vc"
  refine ⟨_, hl, fun p hp => ?_⟩
  have hS := same_new (o := .tup (l.map V.ref)) hp
  refine .inr ⟨a, D, l.map Value.ref, false, rfl, hS _ _ ha, R.C, paired_refs l, upd_same, R.kn, ?_⟩
  walk_at "vc"
  unfold l_refused_4
  walk_at "vc"
  refine ⟨_, hH, isi_exc (hS _ _ ha) R.C (.own _) R.kh ?_⟩
  exact q _ hS

end T

set_option Elab.async false
set_option linter.all false
set_option maxRecDepth 100000
set_option maxHeartbeats 2000000
namespace T
open PySem PySem.Spec PyProof.Rows L2 TL PySem.NumText Vc

local macro_rules | `(tactic| walk_at "vc") => `(tactic| simp only [wS, wSs, wP, wPs, wPo, wSrc, wTg, tSeq, tNext, tAsg, gName, tIfS, tRet, tRetN, tDrop, tOp, vR, tC, tTest, tChain, tAnd, tOr, tNot, tAndV, tOrV, tNotV, tUn, rU, tIf, tCB, tCons, tNil, tLst, tTup, tSl, tPart, tNoPart, tTr, opR, cmpR, addR, subR, mulR, divR, modR, powR, eqR, ltR, isR, memR, lenR, truR, lenO_lst, lenO_tup, lenO_dK, truO_lst, truO_tup, memO_lst, memO_tup, memO_dKs, memO_dKi, ixO_lst, ixO_tup, ixO_dKi, ixO_dKs, hoSeq_lst, hoSeq_tup, setAll, strR, intR, biR, bmR, bmT, ixR, slR, xor_f, xor_t, List.getElem?_cons_zero, List.getElem?_cons_succ, List.set_cons_zero, List.set_cons_succ, V.bl.injEq, V.int.injEq, V.str.injEq, exists_eq_left', Option.some.injEq, exists_eq_left, List.map_cons, List.map_nil, List.cons_append, List.nil_append, decide_eq_true_eq, Bool.not_eq_true', decide_eq_false_iff_not, Bool.not_false, Bool.not_true, if_true, Bool.false_eq_true, if_false, true_and, List.length_cons, List.length_nil, and_true])
def spSo : Sp := fun vs H Q _ => ∃ z : Str, vs = [.str z] ∧ z.length ≤ 1000000 ∧ ∀ H', Same H H' → Q (.bl true) H'
theorem ok_day_so {G : Gam} {c0 c1 cH : Addr} {l : List Addr} (h1 : G.fn "day_read" = some (spDayRead c0)) (h2 : G.fn "_law_day_due" = some spDayDue) (h3 : G.fn "_law_refused" = some (spRefused c0 c1)) (h4 : G.fn "_law_whole" = some spWhole)
    (hH : G.cls "HallError" = some (.ref cH)) (R0 : Ref3 G.K c0 c0 c1 cH l true) : Keeps G l_day_so_N l_day_so_0 spSo := by
  rintro H vs Q E ⟨z, rfl, hz, q⟩
  show wSs G _ l_day_so_0 _ [some (.str z), none, none, none, none] H
  unfold l_day_so_0
  simp only [wSs, tSeq, wS]
  simp only [wP, tAsg, gName, tC]
  simp only [List.set_cons_zero, List.set_cons_succ]
  unfold l_day_so_1
  simp only [wSs, tSeq, wS]
  simp only [wP, tAsg, gName, tC]
  simp only [List.set_cons_zero, List.set_cons_succ]
  unfold l_day_so_2
  simp only [wSs, tSeq, wS]
  refine ⟨cH, hH, ?_⟩
  unfold l_day_so_3
  simp only [wSs, tSeq, wS, tNext]
  simp only [wP, tAsg, gName, tC, wPs, tCons, tNil, vR, List.getElem?_cons_zero]
  simp only [List.set_cons_zero, List.set_cons_succ]
  refine ⟨_, h1, z, rfl, hz, fun n hn H1 s1 => ?_, fun hn H1 s1 => ⟨true, R0.ex, fun _ a ha => ?_, fun e => by cases e⟩⟩
  · show wSs G _ l_day_so_5 _ [some (.str z), some .non, some (.int n), none, none] H1
    unfold l_day_so_5
    walk_at "vc"
    refine ⟨_, h2, z, rfl, hz, fun H2 s2 => ?_⟩
    rw [hn]
    unfold l_day_so_6 optV
    walk_at "vc"
    rw [if_neg (by simp)]
    unfold l_day_so_8
    walk_at "vc"
    refine ⟨_, h4, n, rfl, ?_⟩
    walk_at "vc"
    have := q H2 (s1.trans s2)
    simpa using this
  · unfold l_day_so_4
    simp only [wSs, tSeq, wS, tNext]
    simp only [wP, tAsg, gName, tC, vR, List.getElem?_cons_zero, List.getElem?_cons_succ, List.set_cons_zero, List.set_cons_succ]
    show wSs G _ l_day_so_5 _ [some (.str z), some (.ref a), some .non, none, none] _
    unfold l_day_so_5
    walk_at "vc"
    have s2 : Same H1 (upd H1 a (excO a (.ref c0) none)) := same_new ha
    have ha2 : (upd H1 a (excO a (.ref c0) none)) a = some (excO a (.ref c0) none) := upd_same
    generalize upd H1 a (excO a (.ref c0) none) = H2 at s2 ha2
    refine ⟨_, h2, z, rfl, hz, fun H3 s3 => ?_⟩
    rw [hn]
    unfold l_day_so_6 optV
    walk_at "vc"
    unfold l_day_so_7
    walk_at "vc"
    refine ⟨_, h3, a, true, rfl, s3 _ _ ha2, fun H4 s4 => ?_⟩
    exact q H4 (s1.trans (s2.trans (s3.trans s4)))
theorem ok_length_so {G : Gam} {c0 c1 cH : Addr} {l : List Addr} (h1 : G.fn "length_read" = some (spLenRead c1)) (h2 : G.fn "_law_length_due" = some spLenDue) (h3 : G.fn "_law_refused" = some (spRefused c0 c1)) (h4 : G.fn "_law_whole" = some spWhole)
    (hH : G.cls "HallError" = some (.ref cH)) (R1 : Ref3 G.K c1 c0 c1 cH l false) : Keeps G l_length_so_N l_length_so_0 spSo := by
  rintro H vs Q E ⟨z, rfl, hz, q⟩
  show wSs G _ l_length_so_0 _ [some (.str z), none, none, none, none] H
  unfold l_length_so_0
  simp only [wSs, tSeq, wS]
  simp only [wP, tAsg, gName, tC]
  simp only [List.set_cons_zero, List.set_cons_succ]
  unfold l_length_so_1
  simp only [wSs, tSeq, wS]
  simp only [wP, tAsg, gName, tC]
  simp only [List.set_cons_zero, List.set_cons_succ]
  unfold l_length_so_2
  simp only [wSs, tSeq, wS]
  refine ⟨cH, hH, ?_⟩
  unfold l_length_so_3
  simp only [wSs, tSeq, wS, tNext]
  simp only [wP, tAsg, gName, tC, wPs, tCons, tNil, vR, List.getElem?_cons_zero]
  simp only [List.set_cons_zero, List.set_cons_succ]
  refine ⟨_, h1, z, rfl, hz, fun n hn => ?_, fun hn => ⟨true, R1.ex, fun _ a ha => ?_, fun e => by cases e⟩⟩
  · show wSs G _ l_length_so_5 _ [some (.str z), some .non, some (.int n), none, none] H
    unfold l_length_so_5
    walk_at "vc"
    refine ⟨_, h2, z, rfl, hz, fun H2 s2 => ?_⟩
    rw [hn]
    unfold l_length_so_6 optV
    walk_at "vc"
    rw [if_neg (by simp)]
    unfold l_length_so_8
    walk_at "vc"
    refine ⟨_, h4, n, rfl, ?_⟩
    walk_at "vc"
    have := q H2 s2
    simpa using this
  · unfold l_length_so_4
    simp only [wSs, tSeq, wS, tNext]
    simp only [wP, tAsg, gName, tC, vR, List.getElem?_cons_zero, List.getElem?_cons_succ, List.set_cons_zero, List.set_cons_succ]
    show wSs G _ l_length_so_5 _ [some (.str z), some (.ref a), some .non, none, none] _
    unfold l_length_so_5
    walk_at "vc"
    have s2 : Same H (upd H a (excO a (.ref c1) none)) := same_new ha
    have ha2 : (upd H a (excO a (.ref c1) none)) a = some (excO a (.ref c1) none) := upd_same
    generalize upd H a (excO a (.ref c1) none) = H2 at s2 ha2
    refine ⟨_, h2, z, rfl, hz, fun H3 s3 => ?_⟩
    rw [hn]
    unfold l_length_so_6 optV
    walk_at "vc"
    unfold l_length_so_7
    walk_at "vc"
    refine ⟨_, h3, a, false, rfl, s3 _ _ ha2, fun H4 s4 => ?_⟩
    exact q H4 (s2.trans (s3.trans s4))
end T

set_option Elab.async false
set_option linter.all false
set_option maxRecDepth 100000
set_option maxHeartbeats 2000000
namespace T
open PySem PySem.Spec PyProof.Rows L2 TL PySem.NumText Vc

local macro_rules | `(tactic| walk_at "vc") => `(tactic| simp only [wS, wSs, wP, wPs, wPo, wSrc, wTg, tSeq, tNext, tAsg, gName, tIfS, tRet, tRetN, tDrop, tOp, vR, tC, tTest, tChain, tAnd, tOr, tNot, tAndV, tOrV, tNotV, tUn, rU, tIf, tCB, tCons, tNil, tLst, tTup, tSl, tPart, tNoPart, tTr, opR, cmpR, addR, subR, mulR, divR, modR, powR, eqR, ltR, isR, memR, lenR, truR, lenO_lst, lenO_tup, lenO_dK, truO_lst, truO_tup, memO_lst, memO_tup, memO_dKs, memO_dKi, ixO_lst, ixO_tup, ixO_dKi, ixO_dKs, hoSeq_lst, hoSeq_tup, setAll, strR, intR, biR, bmR, bmT, ixR, slR, xor_f, xor_t, List.getElem?_cons_zero, List.getElem?_cons_succ, List.set_cons_zero, List.set_cons_succ, V.bl.injEq, V.int.injEq, V.str.injEq, exists_eq_left', Option.some.injEq, exists_eq_left, List.map_cons, List.map_nil, List.cons_append, List.nil_append, decide_eq_true_eq, Bool.not_eq_true', decide_eq_false_iff_not, Bool.not_false, Bool.not_true, if_true, Bool.false_eq_true, if_false, true_and, List.length_cons, List.length_nil, and_true])
def signS : Str := "0123456789-ymd !\"#$&'()*+,./:;<=>?@ABCDEFGHIJKLMNOPQRSTUVWXYZ[\\]^_`abcefghijklnopqrstuvwxz{|}~\n"
def spSign : Sp := fun vs H Q _ => ∃ n : Int, vs = [.int n] ∧ ∀ c, Q (.str ⟨#[c]⟩) H
theorem ok_sign_by {G : Gam} : Keeps G l_sign_by_N l_sign_by_0 spSign := by
  rintro H vs Q E ⟨n, rfl, q⟩
  show wSs G _ l_sign_by_0 _ [some (.int n), none] H
  have lb := line_big
  have hL : signS.length = 95 := by decide +kernel
  have hL2 : signS.cps.toList.length = 95 := by decide +kernel
  unfold l_sign_by_0
  rw [show ("0123456789-ymd !\"#$&'()*+,./:;<=>?@ABCDEFGHIJKLMNOPQRSTUVWXYZ[\\]^_`abcefghijklnopqrstuvwxz{|}~\n" : Str) = signS from rfl]
  generalize signS = z at hL hL2
  walk_at "vc"
  unfold l_sign_by_1
  walk_at "vc"
  rw [hL]
  refine ⟨by omega, by omega, by omega, ?_⟩
  have b1 := Int.emod_nonneg n (show (95 : Int) ≠ 0 by decide)
  have b2 := Int.emod_lt_of_pos n (show (0 : Int) < 95 by decide)
  obtain ⟨v, hv, _⟩ := at_len' (xs := z.cps.toList) (i := n % 95) (by omega) (by omega)
  exact ⟨v, hv, q _⟩
def spBent : Sp := fun vs H Q _ => ∃ (z : Str) (n : Int), vs = [.str z, .int n] ∧ z.length ≤ 1000 ∧ ∀ w : Str, w.length ≤ 3000 → Q (.str w) H
theorem ok_bent {G : Gam} (h1 : G.fn "_law_sign_by" = some spSign) : Keeps G l_bent_N l_bent_0 spBent := by
  rintro H vs Q E ⟨z, n, rfl, hz, q⟩
  show wSs G _ l_bent_0 _ [some (.str z), some (.int n), none, none] H
  have lb := line_big
  unfold l_bent_0
  walk_at "vc"
  refine ⟨by omega, by omega, ?_⟩
  generalize (n / 4 % ((z.length : Int) + 1)) = k
  unfold l_bent_1
  walk_at "vc"
  refine ⟨by omega, _, h1, ⟨by decide, by decide⟩, _, rfl, fun c => ?_⟩
  have l1 : (⟨#[c]⟩ : Str).length = 1 := rfl
  have la := cutS_length z none (some k)
  have lb2 := cutS_length z (some k) none
  have lc := cutS_length z (some (k + 1)) none
  unfold l_bent_2
  walk_at "vc"
  split
  · unfold l_bent_3
    walk_at "vc"
    try simp only [len_app]
    repeat refine ⟨by omega, ?_⟩
    refine q _ ?_
    simp only [len_app]
    omega
  · unfold l_bent_4
    walk_at "vc"
    split
    · unfold l_bent_5
      walk_at "vc"
      try simp only [len_app]
      repeat refine ⟨by omega, ?_⟩
      refine q _ ?_
      simp only [len_app]
      omega
    · unfold l_bent_6
      walk_at "vc"
      split
      · unfold l_bent_7
        walk_at "vc"
        try simp only [len_app]
        repeat refine ⟨by omega, ?_⟩
        refine q _ ?_
        simp only [len_app]
        omega
      · unfold l_bent_8
        walk_at "vc"
        exact ⟨by decide, by decide, by decide, q z (by omega)⟩
def spOdd : Sp := fun vs H Q _ => ∃ n : Int, vs = [.int n] ∧ ∀ (z : Str) H', z.length ≤ 1000 → Same H H' → Q (.str z) H'
def oddA : List V := (["", "-", "--", "0-01", "0-1-01", "0-01-1", "0-00-01", "0-01-00", "0-13-01", "0-12-31", "00-01-01"] : List Str).map V.str
def oddB : List V := (["-1-01-01", "0-01-01-", "0--01-01", "y", "0", "00d", "01y", "-1d", "1 d", "1w", "1Y", "d1"] : List Str).map V.str
def oddC : List V := (["0-01-010", "0-001-01"] : List Str).map V.str
theorem all_str {l : List Str} (h : l.all (fun z => decide (z.length ≤ 1000)) = true) : ∀ v ∈ l.map V.str, ∃ z : Str, v = .str z ∧ z.length ≤ 1000 := fun v hv => by
  obtain ⟨z, hz, rfl⟩ := List.mem_map.mp hv
  exact ⟨z, rfl, of_decide_eq_true (List.all_eq_true.mp h z hz)⟩
theorem odd_all : ∀ v ∈ oddA ++ oddB ++ oddC, ∃ z : Str, v = .str z ∧ z.length ≤ 1000 := by
  intro v hv
  rcases List.mem_append.mp hv with hv | hv
  · rcases List.mem_append.mp hv with hv | hv
    · exact all_str (by decide +kernel) v hv
    · exact all_str (by decide +kernel) v hv
  · exact all_str (by decide +kernel) v hv
theorem ok_odd {G : Gam} : Keeps G l_odd_N l_odd_0 spOdd := by
  rintro H vs Q E ⟨n, rfl, q⟩
  show wSs G _ l_odd_0 _ [some (.int n), none] H
  have lb := line_big
  unfold l_odd_0
  walk_at "vc"
  refine ⟨by omega, fun p1 hp1 => ?_⟩
  have hv1 : rd (upd H p1 (.lst oddA)) p1 = some (.lst oddA) := rd_of upd_same
  have s1 : Same H (upd H p1 (.lst oddA)) := same_new hp1
  show wSs G _ l_odd_1 _ [some (.int n), some (.ref p1)] (upd H p1 (.lst oddA))
  generalize upd H p1 (.lst oddA) = H1 at hv1 s1
  have lA : oddA.length = 11 := rfl
  have lB : oddB.length = 12 := rfl
  have lC : oddC.length = 2 := rfl
  have hall := odd_all
  unfold l_odd_1
  walk_at "vc"
  refine ⟨by omega, fun p2 hp2 => ?_⟩
  refine add_lst (K := G.K) (ys := oddB) (Q := fun v H' => wSs G _ l_odd_2 _ [some (.int n), some v] H') hv1 hp2 (by omega) fun p3 H3 s3 h3 => ?_
  have hv3 := rd_of h3
  generalize hAB : oddA ++ oddB = AB at hall hv3
  have lAB : AB.length = 23 := by rw [← hAB, List.length_append, lA, lB]
  unfold l_odd_2
  walk_at "vc"
  refine ⟨by omega, fun p4 hp4 => ?_⟩
  refine add_lst (K := G.K) (ys := oddC) (Q := fun v H' => wSs G _ l_odd_3 _ [some (.int n), some v] H') hv3 hp4 (by omega) fun p5 H5 s5 h5 => ?_
  have hv5 := rd_of h5
  generalize hABC : AB ++ oddC = ABC at hall hv5
  have lABC : ABC.length = 25 := by rw [← hABC, List.length_append, lAB, lC]
  unfold l_odd_3
  walk_at "vc"
  rw [hv5]
  walk_at "vc"
  obtain ⟨v, ev, mv⟩ := at_len (xs := ABC) (i := n % 25) (by omega) (by omega)
  obtain ⟨z, rfl, hz⟩ := hall v mv
  exact ⟨by decide, _, ev, q z _ hz (s1.trans (s3.trans s5))⟩
def spHolds : Sp := fun vs H Q _ => ∃ n m : Int, vs = [.int n, .int m] ∧ ∀ H', Same H H' → Q (.bl true) H'
theorem two_at {z : Str} {k : Int} (hl : z.cps.toList.length = 4) (h0 : 0 ≤ k) (h1 : k < 4) : ∃ c, atI z.cps.toList k = some c := by
  obtain ⟨v, h, _⟩ := at_len' (xs := z.cps.toList) (i := k) (by omega) (by omega)
  exact ⟨v, h⟩
theorem ok_holds {G : Gam} (h1 : G.fn "_law_bent" = some spBent) (h2 : G.fn "_law_day_so" = some spSo) (h3 : G.fn "_law_length_so" = some spSo) (h4 : G.fn "_law_odd" = some spOdd) : Keeps G l_holds_N l_holds_0 spHolds := by
  rintro H vs Q E ⟨n, m, rfl, q⟩
  show wSs G _ l_holds_0 _ [some (.int n), some (.int m), none, none, none, none] H
  have lb := line_big
  have e41 : (10 : Int) ^ Int.toNat 41 = 100000000000000000000000000000000000000000 := by decide +kernel
  have e40 : (10 : Int) ^ Int.toNat 40 = 10000000000000000000000000000000000000000 := by decide +kernel
  unfold l_holds_0
  walk_at "vc"
  refine ⟨⟨by decide, by decide⟩, ?_⟩
  generalize n / 5 = r
  unfold l_holds_1
  walk_at "vc"
  rw [e41, e40]
  refine ⟨by decide, mul_r (by decide), ⟨by decide, by decide, by decide⟩, by decide, ⟨by decide, by decide, by decide⟩, by decide, by decide, by omega, fun p hp => ⟨by decide, ?_⟩⟩
  refine pick hp (at5 _ (by omega) (by omega)) fun H1 s1 => ?_
  obtain ⟨y, hy, ey⟩ : ∃ y : Nat, y < 10 ^ 42 ∧ (if n % 5 = 0 then V.int (r % 12) else if n % 5 = 1 then V.int (r * 982451653 % 100000000000000000000000000000000000000000) else if n % 5 = 2 then V.int (10000000000000000000000000000000000000000 - 1 + r % 2) else if n % 5 = 3 then V.int 0 else V.int (r % 100)) = V.int (y : Nat) := by
    have h42 : (10 : Nat) ^ 42 = 1000000000000000000000000000000000000000000 := by decide +kernel
    rw [h42]
    split
    · exact ⟨(r % 12).toNat, by omega, by rw [Int.toNat_of_nonneg (by omega)]⟩
    · split
      · exact ⟨(r * 982451653 % 100000000000000000000000000000000000000000).toNat, by omega, by rw [Int.toNat_of_nonneg (by omega)]⟩
      · split
        · exact ⟨(10000000000000000000000000000000000000000 - 1 + r % 2).toNat, by omega, by rw [Int.toNat_of_nonneg (by omega)]⟩
        · split
          · exact ⟨0, by omega, rfl⟩
          · exact ⟨(r % 100).toNat, by omega, by rw [Int.toNat_of_nonneg (by omega)]⟩
  rw [ey]
  unfold l_holds_2
  walk_at "vc"
  obtain ⟨a, ha, ea⟩ : ∃ a : Nat, a < 10 ^ 3 ∧ 100 + m % 14 = (a : Nat) := ⟨(100 + m % 14).toNat, by omega, by rw [Int.toNat_of_nonneg (by omega)]⟩
  rw [ea]
  have la := num_len (n := a) (k := 3) (by decide) ha
  have lac := cutS_length (num a) (some 1) none
  refine ⟨by decide, log_small (by omega), by show (num a).length ≤ _; omega, ?_⟩
  show wSs G _ l_holds_3 _ [some (.int n), some (.int m), some (.int r), some (.int y), some (.str (cutS (num a) (some 1) none)), none] H1
  generalize cutS (num a) (some 1) none = ta at lac
  unfold l_holds_3
  walk_at "vc"
  obtain ⟨b, hb, eb⟩ : ∃ a : Nat, a < 10 ^ 3 ∧ 100 + m / 14 % 33 = (a : Nat) := ⟨(100 + m / 14 % 33).toNat, by omega, by rw [Int.toNat_of_nonneg (by omega)]⟩
  rw [eb]
  have lb1 := num_len (n := b) (k := 3) (by decide) hb
  have lbc := cutS_length (num b) (some 1) none
  refine ⟨⟨by decide, by decide⟩, by decide, log_small (by omega), by show (num b).length ≤ _; omega, ?_⟩
  show wSs G _ l_holds_4 _ [some (.int n), some (.int m), some (.int r), some (.int y), some (.str ta), some (.str (cutS (num b) (some 1) none))] H1
  generalize cutS (num b) (some 1) none = tb at lbc
  have ly := num_len (n := y) (k := 42) (by decide) hy
  have hy60 : y < 10 ^ 60 := Nat.lt_trans hy (by decide +kernel)
  have ld : ("-" : Str).length = 1 := by decide +kernel
  have l4 : ("ymdh" : Str).length = 4 := by decide +kernel
  have l4c : ("ymdh" : Str).cps.toList.length = 4 := by decide +kernel
  obtain ⟨Y, hY⟩ : ∃ Y : Str, Y = Str.ofString (toString (y : Int)) := ⟨_, rfl⟩
  have lY : Y.length ≤ 42 := by
    rw [hY]
    exact ly
  unfold l_holds_4
  walk_at "vc"
  rw [← hY]
  refine ⟨_, h2, _, h1, log_small hy60, ?_⟩
  simp only [len_app, ld]
  refine ⟨by omega, by omega, by omega, by omega, _, _, rfl, ?_, fun w hw => ?_⟩
  · simp only [len_app, ld]
    omega
  refine ⟨w, rfl, by omega, fun H2 s2 => ?_⟩
  walk_at "vc"
  rw [if_neg (by simp)]
  unfold l_holds_6
  walk_at "vc"
  rw [← hY]
  generalize ("ymdh" : Str) = M at l4 l4c
  obtain ⟨c, hc⟩ := two_at (k := m / 3 % 4) l4c (by omega) (by omega)
  have l1 : (⟨#[c]⟩ : Str).length = 1 := rfl
  refine ⟨_, h3, _, h1, log_small hy60, ⟨by decide, by decide⟩, by decide, by omega, c, hc, by omega, ⟨by decide, by decide⟩, _, _, rfl, ?_, fun w2 hw2 => ?_⟩
  · simp only [len_app]
    omega
  refine ⟨w2, rfl, by omega, fun H3 s3 => ?_⟩
  walk_at "vc"
  rw [if_neg (by simp)]
  unfold l_holds_8
  walk_at "vc"
  refine ⟨_, h2, _, h4, n, rfl, fun w4 H4 hw4 s4 => ⟨w4, rfl, by omega, fun H5 s5 => ?_⟩⟩
  walk_at "vc"
  refine ⟨_, h3, _, h4, m, rfl, fun w6 H6 hw6 s6 => ⟨w6, rfl, by omega, fun H7 s7 => ?_⟩⟩
  exact q H7 (s1.trans (s2.trans (s3.trans (s4.trans (s5.trans (s6.trans s7))))))
theorem ok_law {G : Gam} (h1 : G.fn "_law_holds" = some spHolds) : Keeps G law_N law_0 spLawOf := by
  rintro H vs Q E ⟨a, ns, rfl, ⟨ha, hl, hbits⟩, q⟩
  show wSs G _ law_0 _ [some (.ref a), none, none] H
  have lb := line_big
  unfold law_0
  walk_at "vc"
  refine ⟨by omega, fun p hp => ?_⟩
  have hap : a ≠ p := by
    rintro rfl
    unfold rd at ha
    rw [hp] at ha
    cases ha
  have ha2 : rd (upd H p (.lst [.int 0])) a = some (.lst (ns.map V.int)) := by
    unfold rd at ha ⊢
    rw [upd_ne hap]
    exact ha
  rw [ha2, show rd (upd H p (.lst [.int 0])) p = some (.lst [.int 0]) from rd_of upd_same]
  walk_at "vc"
  refine ⟨by rw [List.length_map]; omega, fun r hr => ?_⟩
  generalize hH2 : upd (upd H p (.lst [.int 0])) r (.lst (ns.map V.int ++ [.int 0])) = H2
  have hr2 : H2 r = some (.lst ((ns ++ [0]).map V.int)) := by
    rw [← hH2, List.map_append]
    exact upd_same
  have hr3 := rd_of hr2
  unfold law_1
  walk_at "vc"
  rw [hr3]
  walk_at "vc"
  rw [List.length_map, List.length_append]
  walk_at "vc"
  refine ⟨by omega, ?_⟩
  obtain ⟨I, hI⟩ : ∃ I : Nat → L2.St → Hp → Prop, I = fun k σ' H' => H' r = some (.lst ((ns ++ [0]).map V.int)) ∧ ∃ y, σ' = [some (.ref a), some (.ref r), y] := ⟨_, rfl⟩
  refine forQ_rng I (by rw [hI]; exact ⟨hr2, _, rfl⟩) (fun _ _ _ _ => trivial) ?_ ?_
  · intro k σ' H' hk p
    rw [hI] at p
    obtain ⟨hr', y, rfl⟩ := p
    unfold law_2
    walk_at "vc"
    rw [rd_of hr']
    walk_at "vc"
    have hlen : ((ns ++ [0]).map V.int).length = ns.length + 1 := by simp
    obtain ⟨v1, e1, m1⟩ := at_len (xs := (ns ++ [0]).map V.int) (i := k) (by omega) (by omega)
    obtain ⟨v2, e2, m2⟩ := at_len (xs := (ns ++ [0]).map V.int) (i := (k : Int) - 1) (by omega) (by omega)
    obtain ⟨n1, k1, rfl⟩ := List.mem_map.mp m1
    obtain ⟨n2, _, rfl⟩ := List.mem_map.mp m2
    have b1 : Builtin.Int.intBits n1 ≤ 1048576 := by
      rcases List.mem_append.mp k1 with k1 | k1
      · exact hbits _ k1
      · rw [List.mem_singleton.mp k1]
        decide
    refine ⟨_, h1, _, e1, ?_⟩
    rw [rd_of hr']
    walk_at "vc"
    refine ⟨_, e2, n1, n2, rfl, fun H3 s3 => ?_⟩
    walk_at "vc"
    rw [hI]
    exact ⟨s3 _ _ hr', _, rfl⟩
  · intro σ' H' p
    rw [hI] at p
    obtain ⟨hr', y, rfl⟩ := p
    unfold law_4
    walk_at "vc"
    exact q _
end T

/-! ### the row -/
namespace R
open PySem PySem.Spec PyProof.Rows L2 Vc T
def topS (i : Nat) : Stmt := PySem.Challenge.pw_disposehall_k03_no_day_no_length.main.body.getD i (.Pass ⟨0, 0, 0, 0⟩)
theorem sc_is_number : FnScope is_number_N is_number_P (defScope (topS 17)) := ⟨rfl, rfl, rfl, by decide +kernel, rfl, by decide +kernel, by decide +kernel⟩
theorem ck_is_number : ckSs is_number_N (defScope (topS 17)) is_number_0 (defBody (topS 17)) = true := by decide +kernel
theorem bd_is_number {K : PySem.W.Frag} (f : Addr) (fd : FuncData) (F : Fun K "is_number" "is_number" (topS 17) f fd) : L2.Binds K fd is_number_P [] := F.binds fun _ _ _ _ _ _ us hl => match us, hl with | [_], _ => rfl
theorem sc_two_figures : FnScope two_figures_N two_figures_P (defScope (topS 18)) := ⟨rfl, rfl, rfl, by decide +kernel, rfl, by decide +kernel, by decide +kernel⟩
theorem ck_two_figures : ckSs two_figures_N (defScope (topS 18)) two_figures_0 (defBody (topS 18)) = true := by decide +kernel
theorem bd_two_figures {K : PySem.W.Frag} (f : Addr) (fd : FuncData) (F : Fun K "two_figures" "two_figures" (topS 18) f fd) : L2.Binds K fd two_figures_P [] := F.binds fun _ _ _ _ _ _ us hl => match us, hl with | [_, _], _ => rfl
theorem sc_day_read : FnScope day_read_N day_read_P (defScope (topS 19)) := ⟨rfl, rfl, rfl, by decide +kernel, rfl, by decide +kernel, by decide +kernel⟩
theorem ck_day_read : ckSs day_read_N (defScope (topS 19)) day_read_0 (defBody (topS 19)) = true := by decide +kernel
theorem bd_day_read {K : PySem.W.Frag} (f : Addr) (fd : FuncData) (F : Fun K "day_read" "day_read" (topS 19) f fd) : L2.Binds K fd day_read_P [] := F.binds fun _ _ _ _ _ _ us hl => match us, hl with | [_], _ => rfl
theorem sc_length_read : FnScope length_read_N length_read_P (defScope (topS 20)) := ⟨rfl, rfl, rfl, by decide +kernel, rfl, by decide +kernel, by decide +kernel⟩
theorem ck_length_read : ckSs length_read_N (defScope (topS 20)) length_read_0 (defBody (topS 20)) = true := by decide +kernel
theorem bd_length_read {K : PySem.W.Frag} (f : Addr) (fd : FuncData) (F : Fun K "length_read" "length_read" (topS 20) f fd) : L2.Binds K fd length_read_P [] := F.binds fun _ _ _ _ _ _ us hl => match us, hl with | [_], _ => rfl
theorem sc_l_whole : FnScope l_whole_N l_whole_P (defScope (topS 22)) := ⟨rfl, rfl, rfl, by decide +kernel, rfl, by decide +kernel, by decide +kernel⟩
theorem ck_l_whole : ckSs l_whole_N (defScope (topS 22)) l_whole_0 (defBody (topS 22)) = true := by decide +kernel
theorem bd_l_whole {K : PySem.W.Frag} (f : Addr) (fd : FuncData) (F : Fun K "_law_whole" "_law_whole" (topS 22) f fd) : L2.Binds K fd l_whole_P [] := F.binds fun _ _ _ _ _ _ us hl => match us, hl with | [_], _ => rfl
theorem sc_l_sign_by : FnScope l_sign_by_N l_sign_by_P (defScope (topS 23)) := ⟨rfl, rfl, rfl, by decide +kernel, rfl, by decide +kernel, by decide +kernel⟩
theorem ck_l_sign_by : ckSs l_sign_by_N (defScope (topS 23)) l_sign_by_0 (defBody (topS 23)) = true := by decide +kernel
theorem bd_l_sign_by {K : PySem.W.Frag} (f : Addr) (fd : FuncData) (F : Fun K "_law_sign_by" "_law_sign_by" (topS 23) f fd) : L2.Binds K fd l_sign_by_P [] := F.binds fun _ _ _ _ _ _ us hl => match us, hl with | [_], _ => rfl
theorem sc_l_bent : FnScope l_bent_N l_bent_P (defScope (topS 24)) := ⟨rfl, rfl, rfl, by decide +kernel, rfl, by decide +kernel, by decide +kernel⟩
theorem ck_l_bent : ckSs l_bent_N (defScope (topS 24)) l_bent_0 (defBody (topS 24)) = true := by decide +kernel
theorem bd_l_bent {K : PySem.W.Frag} (f : Addr) (fd : FuncData) (F : Fun K "_law_bent" "_law_bent" (topS 24) f fd) : L2.Binds K fd l_bent_P [] := F.binds fun _ _ _ _ _ _ us hl => match us, hl with | [_, _], _ => rfl
theorem sc_l_figures : FnScope l_figures_N l_figures_P (defScope (topS 25)) := ⟨rfl, rfl, rfl, by decide +kernel, rfl, by decide +kernel, by decide +kernel⟩
theorem ck_l_figures : ckSs l_figures_N (defScope (topS 25)) l_figures_0 (defBody (topS 25)) = true := by decide +kernel
theorem bd_l_figures {K : PySem.W.Frag} (f : Addr) (fd : FuncData) (F : Fun K "_law_figures" "_law_figures" (topS 25) f fd) : L2.Binds K fd l_figures_P [] := F.binds fun _ _ _ _ _ _ us hl => match us, hl with | [_, _], _ => rfl
theorem sc_l_number : FnScope l_number_N l_number_P (defScope (topS 26)) := ⟨rfl, rfl, rfl, by decide +kernel, rfl, by decide +kernel, by decide +kernel⟩
theorem ck_l_number : ckSs l_number_N (defScope (topS 26)) l_number_0 (defBody (topS 26)) = true := by decide +kernel
theorem bd_l_number {K : PySem.W.Frag} (f : Addr) (fd : FuncData) (F : Fun K "_law_number" "_law_number" (topS 26) f fd) : L2.Binds K fd l_number_P [] := F.binds fun _ _ _ _ _ _ us hl => match us, hl with | [_], _ => rfl
theorem sc_l_day_due : FnScope l_day_due_N l_day_due_P (defScope (topS 27)) := ⟨rfl, rfl, rfl, by decide +kernel, rfl, by decide +kernel, by decide +kernel⟩
theorem ck_l_day_due : ckSs l_day_due_N (defScope (topS 27)) l_day_due_0 (defBody (topS 27)) = true := by decide +kernel
theorem bd_l_day_due {K : PySem.W.Frag} (f : Addr) (fd : FuncData) (F : Fun K "_law_day_due" "_law_day_due" (topS 27) f fd) : L2.Binds K fd l_day_due_P [] := F.binds fun _ _ _ _ _ _ us hl => match us, hl with | [_], _ => rfl
theorem sc_l_length_due : FnScope l_length_due_N l_length_due_P (defScope (topS 28)) := ⟨rfl, rfl, rfl, by decide +kernel, rfl, by decide +kernel, by decide +kernel⟩
theorem ck_l_length_due : ckSs l_length_due_N (defScope (topS 28)) l_length_due_0 (defBody (topS 28)) = true := by decide +kernel
theorem bd_l_length_due {K : PySem.W.Frag} (f : Addr) (fd : FuncData) (F : Fun K "_law_length_due" "_law_length_due" (topS 28) f fd) : L2.Binds K fd l_length_due_P [] := F.binds fun _ _ _ _ _ _ us hl => match us, hl with | [_], _ => rfl
theorem sc_l_refused : FnScope l_refused_N l_refused_P (defScope (topS 29)) := ⟨rfl, rfl, rfl, by decide +kernel, rfl, by decide +kernel, by decide +kernel⟩
theorem ck_l_refused : ckSs l_refused_N (defScope (topS 29)) l_refused_0 (defBody (topS 29)) = true := by decide +kernel
theorem bd_l_refused {K : PySem.W.Frag} (f : Addr) (fd : FuncData) (F : Fun K "_law_refused" "_law_refused" (topS 29) f fd) : L2.Binds K fd l_refused_P [] := F.binds fun _ _ _ _ _ _ us hl => match us, hl with | [_, _], _ => rfl
theorem sc_l_day_so : FnScope l_day_so_N l_day_so_P (defScope (topS 30)) := ⟨rfl, rfl, rfl, by decide +kernel, rfl, by decide +kernel, by decide +kernel⟩
theorem ck_l_day_so : ckSs l_day_so_N (defScope (topS 30)) l_day_so_0 (defBody (topS 30)) = true := by decide +kernel
theorem bd_l_day_so {K : PySem.W.Frag} (f : Addr) (fd : FuncData) (F : Fun K "_law_day_so" "_law_day_so" (topS 30) f fd) : L2.Binds K fd l_day_so_P [] := F.binds fun _ _ _ _ _ _ us hl => match us, hl with | [_], _ => rfl
theorem sc_l_length_so : FnScope l_length_so_N l_length_so_P (defScope (topS 31)) := ⟨rfl, rfl, rfl, by decide +kernel, rfl, by decide +kernel, by decide +kernel⟩
theorem ck_l_length_so : ckSs l_length_so_N (defScope (topS 31)) l_length_so_0 (defBody (topS 31)) = true := by decide +kernel
theorem bd_l_length_so {K : PySem.W.Frag} (f : Addr) (fd : FuncData) (F : Fun K "_law_length_so" "_law_length_so" (topS 31) f fd) : L2.Binds K fd l_length_so_P [] := F.binds fun _ _ _ _ _ _ us hl => match us, hl with | [_], _ => rfl
theorem sc_l_odd : FnScope l_odd_N l_odd_P (defScope (topS 32)) := ⟨rfl, rfl, rfl, by decide +kernel, rfl, by decide +kernel, by decide +kernel⟩
theorem ck_l_odd : ckSs l_odd_N (defScope (topS 32)) l_odd_0 (defBody (topS 32)) = true := by decide +kernel
theorem bd_l_odd {K : PySem.W.Frag} (f : Addr) (fd : FuncData) (F : Fun K "_law_odd" "_law_odd" (topS 32) f fd) : L2.Binds K fd l_odd_P [] := F.binds fun _ _ _ _ _ _ us hl => match us, hl with | [_], _ => rfl
theorem sc_l_holds : FnScope l_holds_N l_holds_P (defScope (topS 33)) := ⟨rfl, rfl, rfl, by decide +kernel, rfl, by decide +kernel, by decide +kernel⟩
theorem ck_l_holds : ckSs l_holds_N (defScope (topS 33)) l_holds_0 (defBody (topS 33)) = true := by decide +kernel
theorem bd_l_holds {K : PySem.W.Frag} (f : Addr) (fd : FuncData) (F : Fun K "_law_holds" "_law_holds" (topS 33) f fd) : L2.Binds K fd l_holds_P [] := F.binds fun _ _ _ _ _ _ us hl => match us, hl with | [_, _], _ => rfl
theorem sc_law : FnScope law_N law_P (defScope (topS 34)) := ⟨rfl, rfl, rfl, by decide +kernel, rfl, by decide +kernel, by decide +kernel⟩
theorem ck_law : ckSs law_N (defScope (topS 34)) law_0 (defBody (topS 34)) = true := by decide +kernel
def gls : List (Str × V) := [("FIGURES", .str "0123456789"), ("YEAR", .int 360), ("MONTH", .int 30)]
theorem all_mk {l : PySem.W.OpenLaw} {w : World} {K : PySem.W.Frag} {h : Heap} {mg : Str → Option Value} {fa : Addr} (X : K.In h) (G : h.Ns mainGlobals mg) (hfa : mg "law" = some (.ref fa)) {c0 : Addr} {c1 : Addr} {c2 : Addr} {c3 : Addr} {c4 : Addr} {c5 : Addr} {c6 : Addr} {c7 : Addr} {c8 : Addr} {c9 : Addr} {c10 : Addr} {c11 : Addr} (A0 : FunAt K "is_number" (topS 17)) (A1 : FunAt K "two_figures" (topS 18)) (A2 : FunAt K "day_read" (topS 19)) (A3 : FunAt K "length_read" (topS 20)) (A4 : FunAt K "_law_whole" (topS 22)) (A5 : FunAt K "_law_sign_by" (topS 23)) (A6 : FunAt K "_law_bent" (topS 24)) (A7 : FunAt K "_law_figures" (topS 25)) (A8 : FunAt K "_law_number" (topS 26)) (A9 : FunAt K "_law_day_due" (topS 27)) (A10 : FunAt K "_law_length_due" (topS 28)) (A11 : FunAt K "_law_refused" (topS 29)) (A12 : FunAt K "_law_day_so" (topS 30)) (A13 : FunAt K "_law_length_so" (topS 31)) (A14 : FunAt K "_law_odd" (topS 32)) (A15 : FunAt K "_law_holds" (topS 33)) (A16 : FunAt K "law" (topS 34)) (R0 : Ref3 K c0 c0 c1 c2 [c3, c4, c5, c6, c7, c8, c9, c10, c11] true) (R1 : Ref3 K c1 c0 c1 c2 [c3, c4, c5, c6, c7, c8, c9, c10, c11] false) (hT : Top K [("HallError", .ref c2), ("NoDay", .ref c0), ("NoLength", .ref c1), ("HeldTwice", .ref c3), ("NoBook", .ref c4), ("NoRow", .ref c5), ("NoSeries", .ref c6), ("NoTerm", .ref c7), ("PutTwice", .ref c8), ("RunBack", .ref c9), ("TooWide", .ref c10), ("Unlike", .ref c11)] gls [("NoDay", c0), ("NoLength", c1)]) :
    ∃ fd : FuncData, (∀ (s : Shared) (v : Value), BindsTo s fd ⟨[v], []⟩ [("_law_script", v)]) ∧ ∀ base : Heap, K.In base → base.Ns mainGlobals mg → FnOk l.prog w K mg base (L2.CX l.prog w) 17 fa fd ["_law_script"] spLawOf := by
  obtain ⟨f, fd, a, F⟩ := A16
  have e := hfa.symm.trans (PySem.W.mg_of X G a)
  cases e
  refine ⟨fd, law_fd F fun _ _ _ _ _ _ _ => rfl, fun base KB NB => ?_⟩
  have f0 : ∀ p ∈ ([] : List (Str × Sp)), FnF l.prog w K mg base 0 p.1 p.2 := fun p hp => by cases hp
  have f1 := more f0 (fn_next (sp := spIsNum) hT KB NB f0 A0 sc_is_number ck_is_number bd_is_number (by intro vs H Q E h; first | (obtain ⟨_, rfl, _⟩ := h; rfl) | (obtain ⟨_, _, rfl, _⟩ := h; rfl) | (obtain ⟨_, _, _, rfl, _⟩ := h; rfl) | (obtain ⟨_, _, _, _, rfl, _⟩ := h; rfl) | (obtain ⟨_, _, _, _, _, rfl, _⟩ := h; rfl)) (ok_is_number (by kernel_rfl)))
  have f2 := more f1 (fn_next (sp := spTwo) hT KB NB f1 A1 sc_two_figures ck_two_figures bd_two_figures (by intro vs H Q E h; first | (obtain ⟨_, rfl, _⟩ := h; rfl) | (obtain ⟨_, _, rfl, _⟩ := h; rfl) | (obtain ⟨_, _, _, rfl, _⟩ := h; rfl) | (obtain ⟨_, _, _, _, rfl, _⟩ := h; rfl) | (obtain ⟨_, _, _, _, _, rfl, _⟩ := h; rfl)) (ok_two_figures (by kernel_rfl)))
  have f3 := more f2 (fn_next (sp := (spDayRead c0)) hT KB NB f2 A2 sc_day_read ck_day_read bd_day_read (by intro vs H Q E h; first | (obtain ⟨_, rfl, _⟩ := h; rfl) | (obtain ⟨_, _, rfl, _⟩ := h; rfl) | (obtain ⟨_, _, _, rfl, _⟩ := h; rfl) | (obtain ⟨_, _, _, _, rfl, _⟩ := h; rfl) | (obtain ⟨_, _, _, _, _, rfl, _⟩ := h; rfl)) (ok_day_read (by kernel_rfl) (by kernel_rfl) (by kernel_rfl) (by kernel_rfl) (by kernel_rfl)))
  have f4 := more f3 (fn_next (sp := (spLenRead c1)) hT KB NB f3 A3 sc_length_read ck_length_read bd_length_read (by intro vs H Q E h; first | (obtain ⟨_, rfl, _⟩ := h; rfl) | (obtain ⟨_, _, rfl, _⟩ := h; rfl) | (obtain ⟨_, _, _, rfl, _⟩ := h; rfl) | (obtain ⟨_, _, _, _, rfl, _⟩ := h; rfl) | (obtain ⟨_, _, _, _, _, rfl, _⟩ := h; rfl)) (ok_length_read (by kernel_rfl) (by kernel_rfl) (by kernel_rfl) (by kernel_rfl)))
  have f5 := more f4 (fn_next (sp := spWhole) hT KB NB f4 A4 sc_l_whole ck_l_whole bd_l_whole (by intro vs H Q E h; first | (obtain ⟨_, rfl, _⟩ := h; rfl) | (obtain ⟨_, _, rfl, _⟩ := h; rfl) | (obtain ⟨_, _, _, rfl, _⟩ := h; rfl) | (obtain ⟨_, _, _, _, rfl, _⟩ := h; rfl) | (obtain ⟨_, _, _, _, _, rfl, _⟩ := h; rfl)) (ok_whole (by kernel_rfl) (by kernel_rfl)))
  have f6 := more f5 (fn_next (sp := spSign) hT KB NB f5 A5 sc_l_sign_by ck_l_sign_by bd_l_sign_by (by intro vs H Q E h; first | (obtain ⟨_, rfl, _⟩ := h; rfl) | (obtain ⟨_, _, rfl, _⟩ := h; rfl) | (obtain ⟨_, _, _, rfl, _⟩ := h; rfl) | (obtain ⟨_, _, _, _, rfl, _⟩ := h; rfl) | (obtain ⟨_, _, _, _, _, rfl, _⟩ := h; rfl)) (ok_sign_by))
  have f7 := more f6 (fn_next (sp := spBent) hT KB NB f6 A6 sc_l_bent ck_l_bent bd_l_bent (by intro vs H Q E h; first | (obtain ⟨_, rfl, _⟩ := h; rfl) | (obtain ⟨_, _, rfl, _⟩ := h; rfl) | (obtain ⟨_, _, _, rfl, _⟩ := h; rfl) | (obtain ⟨_, _, _, _, rfl, _⟩ := h; rfl) | (obtain ⟨_, _, _, _, _, rfl, _⟩ := h; rfl)) (ok_bent (by kernel_rfl)))
  have f8 := more f7 (fn_next (sp := spFig) hT KB NB f7 A7 sc_l_figures ck_l_figures bd_l_figures (by intro vs H Q E h; first | (obtain ⟨_, rfl, _⟩ := h; rfl) | (obtain ⟨_, _, rfl, _⟩ := h; rfl) | (obtain ⟨_, _, _, rfl, _⟩ := h; rfl) | (obtain ⟨_, _, _, _, rfl, _⟩ := h; rfl) | (obtain ⟨_, _, _, _, _, rfl, _⟩ := h; rfl)) (ok_figures))
  have f9 := more f8 (fn_next (sp := spNumber) hT KB NB f8 A8 sc_l_number ck_l_number bd_l_number (by intro vs H Q E h; first | (obtain ⟨_, rfl, _⟩ := h; rfl) | (obtain ⟨_, _, rfl, _⟩ := h; rfl) | (obtain ⟨_, _, _, rfl, _⟩ := h; rfl) | (obtain ⟨_, _, _, _, rfl, _⟩ := h; rfl) | (obtain ⟨_, _, _, _, _, rfl, _⟩ := h; rfl)) (ok_number (by kernel_rfl)))
  have f10 := more f9 (fn_next (sp := spDayDue) hT KB NB f9 A9 sc_l_day_due ck_l_day_due bd_l_day_due (by intro vs H Q E h; first | (obtain ⟨_, rfl, _⟩ := h; rfl) | (obtain ⟨_, _, rfl, _⟩ := h; rfl) | (obtain ⟨_, _, _, rfl, _⟩ := h; rfl) | (obtain ⟨_, _, _, _, rfl, _⟩ := h; rfl) | (obtain ⟨_, _, _, _, _, rfl, _⟩ := h; rfl)) (ok_day_due (by kernel_rfl) (by kernel_rfl)))
  have f11 := more f10 (fn_next (sp := spLenDue) hT KB NB f10 A10 sc_l_length_due ck_l_length_due bd_l_length_due (by intro vs H Q E h; first | (obtain ⟨_, rfl, _⟩ := h; rfl) | (obtain ⟨_, _, rfl, _⟩ := h; rfl) | (obtain ⟨_, _, _, rfl, _⟩ := h; rfl) | (obtain ⟨_, _, _, _, rfl, _⟩ := h; rfl) | (obtain ⟨_, _, _, _, _, rfl, _⟩ := h; rfl)) (ok_length_due (by kernel_rfl)))
  have f12 := more f11 (fn_next (sp := (spRefused c0 c1)) hT KB NB f11 A11 sc_l_refused ck_l_refused bd_l_refused (by intro vs H Q E h; first | (obtain ⟨_, rfl, _⟩ := h; rfl) | (obtain ⟨_, _, rfl, _⟩ := h; rfl) | (obtain ⟨_, _, _, rfl, _⟩ := h; rfl) | (obtain ⟨_, _, _, _, rfl, _⟩ := h; rfl) | (obtain ⟨_, _, _, _, _, rfl, _⟩ := h; rfl)) (ok_refused (cH := c2) (l := [c3, c4, c5, c6, c7, c8, c9, c10, c11]) (by kernel_rfl) (by kernel_rfl) (by kernel_rfl) (by kernel_rfl) (by kernel_rfl) R0 R1))
  have f13 := more f12 (fn_next (sp := spSo) hT KB NB f12 A12 sc_l_day_so ck_l_day_so bd_l_day_so (by intro vs H Q E h; first | (obtain ⟨_, rfl, _⟩ := h; rfl) | (obtain ⟨_, _, rfl, _⟩ := h; rfl) | (obtain ⟨_, _, _, rfl, _⟩ := h; rfl) | (obtain ⟨_, _, _, _, rfl, _⟩ := h; rfl) | (obtain ⟨_, _, _, _, _, rfl, _⟩ := h; rfl)) (ok_day_so (c0 := c0) (c1 := c1) (cH := c2) (l := [c3, c4, c5, c6, c7, c8, c9, c10, c11]) (by kernel_rfl) (by kernel_rfl) (by kernel_rfl) (by kernel_rfl) (by kernel_rfl) R0))
  have f14 := more f13 (fn_next (sp := spSo) hT KB NB f13 A13 sc_l_length_so ck_l_length_so bd_l_length_so (by intro vs H Q E h; first | (obtain ⟨_, rfl, _⟩ := h; rfl) | (obtain ⟨_, _, rfl, _⟩ := h; rfl) | (obtain ⟨_, _, _, rfl, _⟩ := h; rfl) | (obtain ⟨_, _, _, _, rfl, _⟩ := h; rfl) | (obtain ⟨_, _, _, _, _, rfl, _⟩ := h; rfl)) (ok_length_so (c0 := c0) (c1 := c1) (cH := c2) (l := [c3, c4, c5, c6, c7, c8, c9, c10, c11]) (by kernel_rfl) (by kernel_rfl) (by kernel_rfl) (by kernel_rfl) (by kernel_rfl) R1))
  have f15 := more f14 (fn_next (sp := spOdd) hT KB NB f14 A14 sc_l_odd ck_l_odd bd_l_odd (by intro vs H Q E h; first | (obtain ⟨_, rfl, _⟩ := h; rfl) | (obtain ⟨_, _, rfl, _⟩ := h; rfl) | (obtain ⟨_, _, _, rfl, _⟩ := h; rfl) | (obtain ⟨_, _, _, _, rfl, _⟩ := h; rfl) | (obtain ⟨_, _, _, _, _, rfl, _⟩ := h; rfl)) (ok_odd))
  have f16 := more f15 (fn_next (sp := spHolds) hT KB NB f15 A15 sc_l_holds ck_l_holds bd_l_holds (by intro vs H Q E h; first | (obtain ⟨_, rfl, _⟩ := h; rfl) | (obtain ⟨_, _, rfl, _⟩ := h; rfl) | (obtain ⟨_, _, _, rfl, _⟩ := h; rfl) | (obtain ⟨_, _, _, _, rfl, _⟩ := h; rfl) | (obtain ⟨_, _, _, _, _, rfl, _⟩ := h; rfl)) (ok_holds (by kernel_rfl) (by kernel_rfl) (by kernel_rfl) (by kernel_rfl)))
  exact fn_tree (env_of hT KB NB f16) F sc_law ck_law (by intro vs H Q E h; first | (obtain ⟨_, rfl, _⟩ := h; rfl) | (obtain ⟨_, _, rfl, _⟩ := h; rfl) | (obtain ⟨_, _, _, rfl, _⟩ := h; rfl) | (obtain ⟨_, _, _, _, rfl, _⟩ := h; rfl) | (obtain ⟨_, _, _, _, _, rfl, _⟩ := h; rfl)) (ok_law (by kernel_rfl))
end R
open PySem PySem.W PyProof.Rows
set_option maxRecDepth 100000 in
set_option maxHeartbeats 0 in
theorem PySem.Challenge.cw_disposehall_k03_no_day_no_length_holds : PySem.Challenge.rw_disposehall_k03_no_day_no_length.Holds := by
  w_on; o_law; k_head; (case hw => w_witness2)
  k_fill
  refine L2.walk_ofB (l := PySem.Challenge.rw_disposehall_k03_no_day_no_length) (n := 63) (k := 17) (x := "_law_script") (CX := fun w => L2.CX PySem.Challenge.rw_disposehall_k03_no_day_no_length.prog w) (sp := fun _ => Vc.spLawOf) rfl (by decide) rfl ⟨rfl, by decide, by decide⟩ (fun w h Y => PySem.W.kIn_of Y) ?F ?S (fun w H s e s' h => Vc.no_exc _ w H s e s' h)
  case S => exact fun w H a ns hl hb hO hS => ⟨a, ns, rfl, Vc.scr_of (by kernel_rfl) hO hS hl hb, fun _ => rfl⟩
  case F =>
    intro w mg fa h KX G hmg
    refine' R.all_mk KX G hmg (Vc.fun_at ?a0 ?l0 ?c0 ?k0) (Vc.fun_at ?a1 ?l1 ?c1 ?k1) (Vc.fun_at ?a2 ?l2 ?c2 ?k2) (Vc.fun_at ?a3 ?l3 ?c3 ?k3) (Vc.fun_at ?a4 ?l4 ?c4 ?k4) (Vc.fun_at ?a5 ?l5 ?c5 ?k5) (Vc.fun_at ?a6 ?l6 ?c6 ?k6) (Vc.fun_at ?a7 ?l7 ?c7 ?k7) (Vc.fun_at ?a8 ?l8 ?c8 ?k8) (Vc.fun_at ?a9 ?l9 ?c9 ?k9) (Vc.fun_at ?a10 ?l10 ?c10 ?k10) (Vc.fun_at ?a11 ?l11 ?c11 ?k11) (Vc.fun_at ?a12 ?l12 ?c12 ?k12) (Vc.fun_at ?a13 ?l13 ?c13 ?k13) (Vc.fun_at ?a14 ?l14 ?c14 ?k14) (Vc.fun_at ?a15 ?l15 ?c15 ?k15) (Vc.fun_at ?a16 ?l16 ?c16 ?k16) ?R0 ?R1 ⟨⟨?z0, ?z1, ?z2, ?z3, ?z4, ?z5, ?z6, ?z7, ?z8, ?z9, ?z10, ?z11, ?z12, ?z13, ?z14⟩, ?g, ?c, ?x⟩
    case g =>
      intro p hp
      simp only [R.gls, List.mem_cons, List.not_mem_nil, or_false] at hp
      rcases hp with rfl | rfl | rfl
      · exact Vc.gl_str (by k_is)
      · exact Vc.gl_int (by k_is)
      · exact Vc.gl_int (by k_is)
    case c =>
      intro p hp
      simp only [List.mem_cons, List.not_mem_nil, or_false] at hp
      rcases hp with rfl | rfl | rfl | rfl | rfl | rfl | rfl | rfl | rfl | rfl | rfl | rfl
      · exact ⟨(by decide +kernel : ("HallError" : Str) ≠ "__name__"), Vc.gl_ref (by k_is)⟩
      · exact ⟨(by decide +kernel : ("NoDay" : Str) ≠ "__name__"), Vc.gl_ref (by k_is)⟩
      · exact ⟨(by decide +kernel : ("NoLength" : Str) ≠ "__name__"), Vc.gl_ref (by k_is)⟩
      · exact ⟨(by decide +kernel : ("HeldTwice" : Str) ≠ "__name__"), Vc.gl_ref (by k_is)⟩
      · exact ⟨(by decide +kernel : ("NoBook" : Str) ≠ "__name__"), Vc.gl_ref (by k_is)⟩
      · exact ⟨(by decide +kernel : ("NoRow" : Str) ≠ "__name__"), Vc.gl_ref (by k_is)⟩
      · exact ⟨(by decide +kernel : ("NoSeries" : Str) ≠ "__name__"), Vc.gl_ref (by k_is)⟩
      · exact ⟨(by decide +kernel : ("NoTerm" : Str) ≠ "__name__"), Vc.gl_ref (by k_is)⟩
      · exact ⟨(by decide +kernel : ("PutTwice" : Str) ≠ "__name__"), Vc.gl_ref (by k_is)⟩
      · exact ⟨(by decide +kernel : ("RunBack" : Str) ≠ "__name__"), Vc.gl_ref (by k_is)⟩
      · exact ⟨(by decide +kernel : ("TooWide" : Str) ≠ "__name__"), Vc.gl_ref (by k_is)⟩
      · exact ⟨(by decide +kernel : ("Unlike" : Str) ≠ "__name__"), Vc.gl_ref (by k_is)⟩
    case x =>
      intro p hp
      simp only [List.mem_cons, List.not_mem_nil, or_false] at hp
      rcases hp with rfl | rfl
      · exact ⟨by k_is, by k_exc, by k_is, by k_is, by k_is⟩
      · exact ⟨by k_is, by k_exc, by k_is, by k_is, by k_is⟩
    case R0 => exact ⟨⟨by k_is, by k_is, by k_is, by k_is, by k_is, by k_is, by k_is, by k_is⟩, PySem.W.exm_ref (by k_is) (by k_is) (by k_is) (by k_is), Vc.kit_rt (by decide +kernel) (by k_is), Vc.kit_rr (by k_is) (by k_is) (by k_is) (fun h => by cases h), Vc.kit_rr (by k_is) (by k_is) (by k_is) (fun h => by cases h), Vc.kit_rr (by k_is) (by k_is) (by k_is) (fun _ => by decide), L2.kitAny_cons (Vc.kit_rr (by k_is) (by k_is) (by k_is) (fun _ => by decide)) (fun _ => L2.kitAny_cons (Vc.kit_rr (by k_is) (by k_is) (by k_is) (fun _ => by decide)) (fun _ => L2.kitAny_cons (Vc.kit_rr (by k_is) (by k_is) (by k_is) (fun _ => by decide)) (fun _ => L2.kitAny_cons (Vc.kit_rr (by k_is) (by k_is) (by k_is) (fun _ => by decide)) (fun _ => L2.kitAny_cons (Vc.kit_rr (by k_is) (by k_is) (by k_is) (fun _ => by decide)) (fun _ => L2.kitAny_cons (Vc.kit_rr (by k_is) (by k_is) (by k_is) (fun _ => by decide)) (fun _ => L2.kitAny_cons (Vc.kit_rr (by k_is) (by k_is) (by k_is) (fun _ => by decide)) (fun _ => L2.kitAny_cons (Vc.kit_rr (by k_is) (by k_is) (by k_is) (fun _ => by decide)) (fun _ => L2.kitAny_cons (Vc.kit_rr (by k_is) (by k_is) (by k_is) (fun _ => by decide)) (fun _ => L2.kitAny_nil) (fun h => by cases h)) (fun h => by cases h)) (fun h => by cases h)) (fun h => by cases h)) (fun h => by cases h)) (fun h => by cases h)) (fun h => by cases h)) (fun h => by cases h)) (fun h => by cases h)⟩
    case R1 => exact ⟨⟨by k_is, by k_is, by k_is, by k_is, by k_is, by k_is, by k_is, by k_is⟩, PySem.W.exm_ref (by k_is) (by k_is) (by k_is) (by k_is), Vc.kit_rt (by decide +kernel) (by k_is), Vc.kit_rr (by k_is) (by k_is) (by k_is) (fun h => by cases h), Vc.kit_rr (by k_is) (by k_is) (by k_is) (fun _ => by decide), Vc.kit_rr (by k_is) (by k_is) (by k_is) (fun h => by cases h), L2.kitAny_cons (Vc.kit_rr (by k_is) (by k_is) (by k_is) (fun _ => by decide)) (fun _ => L2.kitAny_cons (Vc.kit_rr (by k_is) (by k_is) (by k_is) (fun _ => by decide)) (fun _ => L2.kitAny_cons (Vc.kit_rr (by k_is) (by k_is) (by k_is) (fun _ => by decide)) (fun _ => L2.kitAny_cons (Vc.kit_rr (by k_is) (by k_is) (by k_is) (fun _ => by decide)) (fun _ => L2.kitAny_cons (Vc.kit_rr (by k_is) (by k_is) (by k_is) (fun _ => by decide)) (fun _ => L2.kitAny_cons (Vc.kit_rr (by k_is) (by k_is) (by k_is) (fun _ => by decide)) (fun _ => L2.kitAny_cons (Vc.kit_rr (by k_is) (by k_is) (by k_is) (fun _ => by decide)) (fun _ => L2.kitAny_cons (Vc.kit_rr (by k_is) (by k_is) (by k_is) (fun _ => by decide)) (fun _ => L2.kitAny_cons (Vc.kit_rr (by k_is) (by k_is) (by k_is) (fun _ => by decide)) (fun _ => L2.kitAny_nil) (fun h => by cases h)) (fun h => by cases h)) (fun h => by cases h)) (fun h => by cases h)) (fun h => by cases h)) (fun h => by cases h)) (fun h => by cases h)) (fun h => by cases h)) (fun h => by cases h)⟩
    (case a0 => k_is); (case l0 => k_is); (case c0 => k_is); (case k0 => k_is)
    (case a1 => k_is); (case l1 => k_is); (case c1 => k_is); (case k1 => k_is)
    (case a2 => k_is); (case l2 => k_is); (case c2 => k_is); (case k2 => k_is)
    (case a3 => k_is); (case l3 => k_is); (case c3 => k_is); (case k3 => k_is)
    (case a4 => k_is); (case l4 => k_is); (case c4 => k_is); (case k4 => k_is)
    (case a5 => k_is); (case l5 => k_is); (case c5 => k_is); (case k5 => k_is)
    (case a6 => k_is); (case l6 => k_is); (case c6 => k_is); (case k6 => k_is)
    (case a7 => k_is); (case l7 => k_is); (case c7 => k_is); (case k7 => k_is)
    (case a8 => k_is); (case l8 => k_is); (case c8 => k_is); (case k8 => k_is)
    (case a9 => k_is); (case l9 => k_is); (case c9 => k_is); (case k9 => k_is)
    (case a10 => k_is); (case l10 => k_is); (case c10 => k_is); (case k10 => k_is)
    (case a11 => k_is); (case l11 => k_is); (case c11 => k_is); (case k11 => k_is)
    (case a12 => k_is); (case l12 => k_is); (case c12 => k_is); (case k12 => k_is)
    (case a13 => k_is); (case l13 => k_is); (case c13 => k_is); (case k13 => k_is)
    (case a14 => k_is); (case l14 => k_is); (case c14 => k_is); (case k14 => k_is)
    (case a15 => k_is); (case l15 => k_is); (case c15 => k_is); (case k15 => k_is)
    (case a16 => k_is); (case l16 => k_is); (case c16 => k_is); (case k16 => k_is)
    (case z0 => k_is); (case z1 => k_is); (case z2 => k_is); (case z3 => k_is); (case z4 => k_is); (case z5 => k_is); (case z6 => k_is); (case z7 => k_is); (case z8 => k_is); (case z9 => k_is); (case z10 => k_is); (case z11 => k_is); (case z12 => k_is); (case z13 => k_is); (case z14 => k_is)
