import PyProof.Rows.All
import Wide.All
import OpenK.AllK
import Wide.FinOn
import HandS.ForMost
import HandS.Exc
import HandS.ExcOwn
import HandS.WordsExc
import HandS.Wide
import HandS.WideBits
import HandS.IsInst
import HandS.FStr
import HandS.Conv
import HandS.TupAny
import HandS.TupMul
import HandS.Flow
import HandS.More
import KE.SortData
import KE.DataEq
import PyProof.ReprReads
import HandS.Style
import HandS.RaiseMore
import PyProof.ReprRoads
import HandS.SetFor
import HandS.Strs
import HandS.ExcIs
import HandS.TryOnly
import KE.KUnpackStar
import HandS.NoneIn
import HandS.Zip
import HandS.Bytes
import HandS.Ends
import HandS.Words
import PySem.Challenge.RW_latestof_k85_texts_of_rule_sets_judged
import KE.SortLaws
section
set_option Elab.async false
set_option linter.all false
set_option maxRecDepth 100000
/-! A pure evaluator of a part of Python over plain values, and (RfSnd) that the model runs as it says. -/
namespace Rf
open PySem

/-- a plain value: tuples are trees; lst is a list that nobody changes; loc is a place of the plain heap -/
inductive PV where
  | non | bl (b : Bool) | int (i : Int) | str (x : Str) | byt (b : Array UInt8) | ty (n : String)
  | tup (xs : List PV) | lst (xs : List PV) | scr (xs : List PV) | loc (l : Nat)
  deriving Inhabited
inductive PO where
  | lst (xs : List PV)
  | dK (kvs : List (L2.Key × PV))
  | dT (kvs : List (List L2.Key × PV))
  | ins (c : Nat) (fs : List (Str × PV))
  deriving Inhabited
abbrev PHeap := List PO
abbrev PSt := List (Option PV)
/-- an exception: its class, the fields of its own dict (none: it has none) -/
structure PX where
  cls : Nat
  fs : Option (List (Str × PV))
inductive Res (α : Type) where
  | ok (a : α) (h : PHeap) | exc (e : PX) (h : PHeap) | stuck
def Res.bind {α β : Type} (r : Res α) (k : α → PHeap → Res β) : Res β := match r with
  | .ok a h => k a h
  | .exc e h => .exc e h
  | .stuck => .stuck
inductive Fl where
  | nx (ρ : PSt) (h : PHeap) | rt (v : PV) (h : PHeap) | bk (ρ : PSt) (h : PHeap) | ct (ρ : PSt) (h : PHeap) | exc (e : PX) (ρ : PSt) (h : PHeap) | stuck

inductive BO where | add | sub | mul | fdiv | mod | pow deriving DecidableEq
inductive CO where | eq | ne | lt | le | gt | ge | is_ | isnot | in_ | notin deriving DecidableEq
inductive Bi where | len | abs | max | min | int | str | repr | isinst | tuple | list | all | any | sum | sorted | bytes deriving DecidableEq
inductive Me where | append | pop | extend | join | partition | split | get | upper deriving DecidableEq
inductive IK where | seq | rng | enm | zip deriving DecidableEq
/-- tps: the last one takes the rest, as a list -/
inductive T where
  | nm (i : Nat) | tp (ts : List T) | tps (ts : List T) (i : Nat)

inductive E where
  | nop
  | var (i : Nat)
  | cst (v : PV)
  | glb (x : Str) (v : PV)
  | tyn (x : Str) (n : String)
  | bin (o : BO) (a b : E)
  | neg (a : E)
  | not (a : E)
  | and (a b : E)
  | or (a b : E)
  | ite (c a b : E)
  | cmp (o : CO) (a b : E)
  | chn (o o' : CO) (a b c : E)
  | call (f : Nat) (es : List E)
  | bi (b : Bi) (mu : Bool) (es : List E)
  | mth (m : Me) (o : E) (es : List E)
  | tup (es : List E)
  | lst (mu : Bool) (es : List E)
  | dnew (t : Bool)
  | idx (a i : E)
  | slc (mu : Bool) (a lo hi : E)
  | rev (mu : Bool) (a : E)
  | cat (mu : Bool) (a b : E)
  | lrng (mu : Bool) (es : List E)
  | cmpr (mu ex : Bool) (own : List Nat) (ik : IK) (its : List E) (tg : T) (cd elt : E)
  | ssrt (mu : Bool) (e : E)
  | d1 (k e : E)
  | fld (e : E)
  | fst (ps : List E)
/-- what an except suite of one return says of its exception -/
inductive Qx where
  | is (k : Nat) | cst (v : PV) | not (q : Qx) | and (p q : Qx) | ite (t p q : Qx)
inductive S where
  | set (i : Nat) (e : E)
  | setc (i : Nat) (e : E)
  | unp (tg : T) (e : E)
  | par (i j : Nat) (a b : E)
  | seti (o i e : E)
  | aug (i : Nat) (o : BO) (e : E)
  | ex (e : E)
  | ret (e : E)
  | ret0
  | ifs (c : E) (a b : List S)
  | for_ (tg : T) (ik : IK) (its : List E) (b : List S)
  | whl (c : E) (b : List S)
  | rs (k : Nat)
  | tryq (b : List S) (k : Nat) (nm : Option Nat) (sups : List (List Nat)) (q : Qx)
  | pas | brk | cnt | nvr

/-! ### by values -/
mutual
/-- as the library's data; none: it is not such data -/
def toD : PV → Option PyData
  | .non => some .none
  | .bl b => some (.bool b)
  | .int i => some (.int i)
  | .str x => some (.str x)
  | .tup xs => (toDs xs).map .tuple
  | .lst xs => (toDs xs).map .list
  | .scr xs => (toDs xs).map .list
  | .byt _ => none
  | .ty _ => none
  | .loc _ => none
def toDs : List PV → Option (List PyData)
  | [] => some []
  | x :: xs => match toD x, toDs xs with
    | some d, some ds => some (d :: ds)
    | _, _ => none
end
def toDD (v : PV) : PyData := (toD v).getD .none
/-- a list in the heap, read -/
def deref (h : PHeap) : PV → PV
  | .loc l => match h[l]? with
    | some (.lst xs) => .lst xs
    | _ => .loc l
  | v => v
def seqOf (h : PHeap) (v : PV) : Option (List PV) := match deref h v with
  | .tup xs => some xs
  | .lst xs => some xs
  | .scr xs => some xs
  | _ => none
def lstOf (h : PHeap) (v : PV) : Option (List PV) := match deref h v with
  | .lst xs => some xs
  | .scr xs => some xs
  | _ => none
def intOf : PV → Option Int
  | .int i => some i
  | _ => none
def strOf : PV → Option Str
  | .str x => some x
  | _ => none
def blOf : PV → Option Bool
  | .bl b => some b
  | _ => none
def allOf {α : Type} (f : PV → Option α) : List PV → Option (List α)
  | [] => some []
  | x :: xs => match f x, allOf f xs with
    | some a, some r => some (a :: r)
    | _, _ => none
def keyOf : PV → Option L2.Key
  | .int i => some (.inl i)
  | .str x => some (.inr x)
  | _ => none
/-- the size that lists and texts may have -/
def szB : Nat := 16777216
def mkL (mu : Bool) (xs : List PV) (h : PHeap) : Res PV := if mu then .ok (.loc h.length) (h ++ [.lst xs]) else .ok (.lst xs) h
def guardR {α : Type} (c : Prop) [Decidable c] (r : Res α) : Res α := if c then r else .stuck
def orStuck {α β : Type} (o : Option α) (k : α → Res β) : Res β := match o with
  | some a => k a
  | none => .stuck
/-- a product's size -/
def MulOk (i j : Int) : Prop := (-(2 ^ 64) < i ∧ i < 2 ^ 64) ∨ (-(2 ^ 64) < j ∧ j < 2 ^ 64) ∨ i.natAbs.log2 + j.natAbs.log2 < 1000000
instance (i j : Int) : Decidable (MulOk i j) := by unfold MulOk; infer_instance
def PowOk (i j : Int) : Prop := 0 ≤ j ∧ ((i.natAbs.log2 + 1 : Nat) : Int) * j ≤ 2 ^ 27
instance (i j : Int) : Decidable (PowOk i j) := by unfold PowOk; infer_instance
def DivOk (j : Int) : Prop := 0 < j ∧ j.natAbs.log2 < 9000
instance (j : Int) : Decidable (DivOk j) := by unfold DivOk; infer_instance
/-- a text over and over -/
def repS (x : Str) (n : Nat) : Str := ⟨(List.replicate n x.cps).foldl (· ++ ·) #[]⟩
def binOp (o : BO) (v w : PV) (h : PHeap) : Res PV := match o, v, w with
  | .add, .int i, .int j => .ok (.int (i + j)) h
  | .sub, .int i, .int j => .ok (.int (i - j)) h
  | .mul, .int i, .int j => guardR (MulOk i j) (.ok (.int (i * j)) h)
  | .fdiv, .int i, .int j => guardR (DivOk j) (.ok (.int (i / j)) h)
  | .mod, .int i, .int j => guardR (0 < j) (.ok (.int (i % j)) h)
  | .pow, .int i, .int j => guardR (PowOk i j) (.ok (.int (i ^ j.toNat)) h)
  | .add, .str x, .str y => guardR (x.length + y.length ≤ szB) (.ok (.str (x ++ y)) h)
  | .add, .tup xs, .tup ys => guardR (xs.length + ys.length ≤ szB) (.ok (.tup (xs ++ ys)) h)
  | .mul, .str x, .int k => guardR (0 ≤ k ∧ k ≤ 1000 ∧ x.length ≤ 1000) (.ok (.str (repS x k.toNat)) h)
  | .mul, .tup xs, .int k => guardR (2 ≤ k ∧ k ≤ 1000 ∧ xs.length ≤ 1000) (.ok (.tup (List.replicate k.toNat xs).flatten) h)
  | _, _, _ => .stuck
/-- name op= e -/
def augOp (o : BO) (v w : PV) (h : PHeap) : Res PV := match o, v, w with
  | .add, .int i, .int j => .ok (.int (i + j)) h
  | .sub, .int i, .int j => .ok (.int (i - j)) h
  | .add, .str x, .str y => guardR (x.length + y.length ≤ szB) (.ok (.str (x ++ y)) h)
  | _, _, _ => .stuck
def truth (h : PHeap) (v : PV) : Option Bool := match deref h v with
  | .non => some false
  | .bl b => some b
  | .int i => some (i != 0)
  | .str x => some ((x.length : Int) != 0)
  | .byt b => some ((b.size : Int) != 0)
  | .tup xs => some (!xs.isEmpty)
  | .lst xs => some (!xs.isEmpty)
  | .scr xs => some (!xs.isEmpty)
  | .loc l => match h[l]? with
    | some (.dK kvs) => some (!kvs.isEmpty)
    | _ => none
  | .ty _ => none
def eqP (h : PHeap) (v w : PV) : Option Bool := match deref h v, deref h w with
  | .byt a, .byt b => some (decide (a = b))
  | a, b => match toD a, toD b with
    | some d, some e => if min d.depth e.depth ≤ 60 then some (PyData.eqv d e) else none
    | _, _ => none
def inP (h : PHeap) (v w : PV) : Option Bool := match v, deref h w with
  | .str x, .str y => some (!(Builtin.Str.occurrences y x 0 y.length 1).isEmpty)
  | a, .loc l => match h[l]? with
    | some (.dK kvs) => (keyOf a).map fun k => (kvs.find? fun kv => decide (kv.1 = k)).isSome
    | _ => none
  | a, b => match toD a, toD b with
    | some d, some (.list ds) => if min (PyData.depthAll ds) d.depth ≤ 60 then some (ds.any fun y => PyData.eqv y d) else none
    | some d, some (.tuple ds) => if min (PyData.depthAll ds) d.depth ≤ 60 then some (ds.any fun y => PyData.eqv y d) else none
    | _, _ => none
def isNon : PV → Bool
  | .non => true
  | _ => false
def cmpP (o : CO) (h : PHeap) (v w : PV) : Option Bool := match o with
  | .eq => eqP h v w
  | .ne => (eqP h v w).map (!·)
  | .in_ => inP h v w
  | .notin => (inP h v w).map (!·)
  | .is_ => if isNon w then some (isNon v) else match v, w with
    | .bl a, .bl b => some (decide (a = b))
    | _, _ => none
  | .isnot => if isNon w then some (!isNon v) else match v, w with
    | .bl a, .bl b => some (!decide (a = b))
    | _, _ => none
  | .lt => match v, w with
    | .int i, .int j => some (decide (i < j))
    | .str x, .str y => some (decide (x.cps.toList < y.cps.toList))
    | _, _ => none
  | .le => match v, w with
    | .int i, .int j => some (decide (i ≤ j))
    | _, _ => none
  | .gt => match v, w with
    | .int i, .int j => some (decide (j < i))
    | _, _ => none
  | .ge => match v, w with
    | .int i, .int j => some (decide (j ≤ i))
    | _, _ => none
/-- a type's name -/
def tyOf (h : PHeap) (v : PV) : Option String := match deref h v with
  | .non => some "NoneType"
  | .bl _ => some "bool"
  | .int _ => some "int"
  | .str _ => some "str"
  | .byt _ => some "bytes"
  | .tup _ => some "tuple"
  | .lst _ => some "list"
  | .scr _ => some "list"
  | .loc l => match h[l]? with
    | some (.dK _) => some "dict"
    | some (.dT _) => some "dict"
    | _ => none
  | .ty _ => none
/-- T is one of the types that isinstance is asked about -/
def isiTab (t T : String) : Option Bool :=
  if ["int", "bool", "str", "bytes", "tuple", "list", "dict"].contains T = true then some (t == T || (t == "bool" && T == "int")) else none
def fmt : PV → Option Str
  | .str x => some x
  | .int i => if i.natAbs.log2 < 1920 then some (toString i) else none
  | _ => none
def lenOf (h : PHeap) (v : PV) : Option Nat := match deref h v with
  | .str x => some x.length
  | .byt b => some b.size
  | .tup xs => some xs.length
  | .lst xs => some xs.length
  | .scr xs => some xs.length
  | .loc l => match h[l]? with
    | some (.dK kvs) => some kvs.length
    | _ => none
  | _ => none
def Byte (i : Int) : Prop := 0 ≤ i ∧ i < 256
instance (i : Int) : Decidable (Byte i) := by unfold Byte; infer_instance
/-- all items of one kind -/
def sortB (ds : List PyData) : Bool := (ds.all fun d => match d with | .tuple (_ :: _) => true | _ => false) || (ds.all fun d => match d with | .none => false | .tuple _ => false | _ => true)
def sortOk (xs : List PV) : Bool := match toDs xs with
  | some ds => sortB ds && ds.all fun d => decide (d.depth ≤ 60) && ds.all fun e => PySem.W.alike d e
  | none => false
def keyPV : L2.Key → PV
  | .inl i => .int i
  | .inr x => .str x
def sortPV (xs : List PV) : List PV := xs.mergeSort (PySem.W.dataLe false toDD)
def biOp (b : Bi) (mu : Bool) (vs : List PV) (h : PHeap) : Res PV := match b, vs with
  | .len, [v] => orStuck (lenOf h v) fun n => .ok (.int n) h
  | .abs, [.int i] => .ok (.int (if i < 0 then -i else i)) h
  | .max, [.int i, .int j] => .ok (.int (if j > i then j else i)) h
  | .min, [.int i, .int j] => .ok (.int (if j < i then j else i)) h
  | .int, [.int i] => .ok (.int i) h
  | .int, [.bl b] => .ok (.int (if b then 1 else 0)) h
  | .int, [.str x] => orStuck (PySem.intText? x) fun n => guardR (x.length ≤ 640) (.ok (.int n) h)
  | .str, [.int i] => guardR (i.natAbs.log2 < 1920) (.ok (.str (toString i)) h)
  | .str, [.str x] => .ok (.str x) h
  | .repr, [v] => match toD v with
    | some d => guardR (d.showable = true ∧ d.hasDict = false ∧ d.depth ≤ 60 ∧ d.shown.length ≤ szB) (.ok (.str d.shown) h)
    | none => .stuck
  | .isinst, [v, .ty T] => orStuck ((tyOf h v).bind fun t => isiTab t T) fun b => .ok (.bl b) h
  | .tuple, [v] => match deref h v with
    | .tup xs => .ok (.tup xs) h
    | .lst xs => .ok (.tup xs) h
    | .scr xs => .ok (.tup xs) h
    | _ => .stuck
  | .list, [v] => match deref h v with
    | .tup xs => mkL mu xs h
    | .lst xs => mkL mu xs h
    | .scr xs => mkL mu xs h
    | .byt b => mkL mu ((PySem.W.KBw.bInts b).map .int) h
    | _ => .stuck
  | .all, [v] => orStuck ((lstOf h v).bind (allOf blOf)) fun bs => .ok (.bl (bs.all id)) h
  | .any, [v] => orStuck ((lstOf h v).bind (allOf blOf)) fun bs => .ok (.bl (bs.any id)) h
  | .sum, [v] => orStuck ((lstOf h v).bind (allOf intOf)) fun ns => .ok (.int ns.sum) h
  | .sorted, [v] => match deref h v with
    | .tup xs => guardR (sortOk xs = true) (mkL mu (sortPV xs) h)
    | .lst xs => guardR (sortOk xs = true) (mkL mu (sortPV xs) h)
    | .loc l => match h[l]? with
      | some (.dK kvs) => guardR (sortOk (kvs.map fun kv => keyPV kv.1) = true) (mkL mu (sortPV (kvs.map fun kv => keyPV kv.1)) h)
      | _ => .stuck
    | _ => .stuck
  | .bytes, [v] => orStuck ((lstOf h v).bind (allOf intOf)) fun ns => guardR (∀ i ∈ ns, Byte i) (.ok (.byt (PySem.byteArr ns)) h)
  | _, _ => .stuck
def idxOp (v i : PV) (h : PHeap) : Res PV := match deref h v, i with
  | .tup xs, .int i => orStuck (L2.atI xs i) fun v => .ok v h
  | .lst xs, .int i => orStuck (L2.atI xs i) fun v => .ok v h
  | .scr xs, .int i => orStuck (L2.atI xs i) fun v => .ok v h
  | .str z, .int i => orStuck (L2.atI z.cps.toList i) fun c => .ok (.str ⟨#[c]⟩) h
  | .byt b, .int i => guardR (0 ≤ i ∧ i < b.size) (.ok (.int ((b.toList.getD i.toNat 0).toNat : Nat)) h)
  | .loc l, k => match h[l]?, keyOf k with
    | some (.dK kvs), some k => orStuck ((kvs.find? fun kv => decide (kv.1 = k)).map (·.2)) fun v => .ok v h
    | _, _ => .stuck
  | _, _ => .stuck

def cutL (xs : List PV) (lo hi : Option Int) : List PV := (xs.drop (HT.sIx xs.length 0 lo)).take (HT.sIx xs.length xs.length hi - HT.sIx xs.length 0 lo)
def slcOp (mu : Bool) (v : PV) (lo hi : Option Int) (h : PHeap) : Res PV := match deref h v with
  | .tup xs => .ok (.tup (cutL xs lo hi)) h
  | .lst xs => mkL mu (cutL xs lo hi) h
  | .scr xs => mkL mu (cutL xs lo hi) h
  | .str z => .ok (.str (L2.cutS z lo hi)) h
  | .byt b => .ok (.byt (PySem.W.KBy.picked b lo hi)) h
  | _ => .stuck
/-- [::-1] -/
def revOp (mu : Bool) (v : PV) (h : PHeap) : Res PV := match deref h v with
  | .tup xs => .ok (.tup xs.reverse) h
  | .lst xs => mkL mu xs.reverse h
  | .scr xs => mkL mu xs.reverse h
  | _ => .stuck
def putD {κ : Type} [DecidableEq κ] (kvs : List (κ × PV)) (k : κ) (v : PV) : List (κ × PV) :=
  if (kvs.any fun kv => decide (kv.1 = k)) = true then kvs.map (fun kv => if kv.1 = k then (kv.1, v) else kv) else kvs ++ [(k, v)]
/-- o[i] = x -/
def setOp (o i x : PV) (h : PHeap) : Option PHeap := match o, i with
  | .loc l, k => match h[l]?, k with
    | some (.lst xs), .int i => (L2.ixN xs.length i).map fun j => h.set l (.lst (xs.set j x))
    | some (.dK kvs), k => (keyOf k).bind fun k => if kvs.length < szB then some (h.set l (.dK (putD kvs k x))) else none
    | _, _ => none
  | _, _ => none
/-- the kind of the object whose method is called -/
def mthPre (m : Me) (h : PHeap) (v : PV) : Bool := match m, v with
  | .append, .loc l => match h[l]? with | some (.lst _) => true | _ => false
  | .pop, .loc l => match h[l]? with | some (.lst _) => true | _ => false
  | .extend, .loc l => match h[l]? with | some (.lst _) => true | _ => false
  | .join, .str _ => true
  | .partition, .str _ => true
  | .split, .str _ => true
  | .upper, .str _ => true
  | .get, .loc l => match h[l]? with | some (.dK _) => true | _ => false
  | _, _ => false
def mthOp (m : Me) (v : PV) (vs : List PV) (h : PHeap) : Res PV := match m, v, vs with
  | .append, .loc l, [x] => match h[l]? with
    | some (.lst xs) => guardR (xs.length < szB) (.ok .non (h.set l (.lst (xs ++ [x]))))
    | _ => .stuck
  | .pop, .loc l, [] => match h[l]? with
    | some (.lst xs) => orStuck xs[xs.length - 1]? fun y => .ok y (h.set l (.lst xs.dropLast))
    | _ => .stuck
  | .pop, .loc l, [.int i] => match h[l]? with
    | some (.lst xs) => guardR (-(2 ^ 63) ≤ i ∧ i < 2 ^ 63) (orStuck (L2.ixN xs.length i) fun k => orStuck xs[k]? fun y => .ok y (h.set l (.lst (xs.eraseIdx k))))
    | _ => .stuck
  | .extend, .loc l, [w] => match h[l]?, deref h w with
    | some (.lst xs), .lst ys => guardR (xs.length + ys.length ≤ szB) (.ok .non (h.set l (.lst (xs ++ ys))))
    | _, _ => .stuck
  | .join, .str z, [w] => orStuck ((seqOf h w).bind (allOf strOf)) fun ys => guardR ((ys.map (·.length)).sum + ys.length * z.length ≤ szB) (.ok (.str (Txt.join z ys)) h)
  | .partition, .str a, [.str b] => guardR ((b.length == 0) = false) (.ok (.tup [.str (Txt.partition a b).1, .str (Txt.partition a b).2.1, .str (Txt.partition a b).2.2]) h)
  | .split, .str a, [.str b] => guardR ((b.length == 0) = false ∧ a.length + 2 ≤ szB) (.ok (.lst ((Txt.split a b).map .str)) h)
  | .upper, .str a, [] => guardR (a.length ≤ 5592405) (.ok (.str (Txt.upper a)) h)
  | .get, .loc l, [k, d] => match h[l]?, keyOf k with
    | some (.dK kvs), some k => .ok (((kvs.find? fun kv => decide (kv.1 = k)).map (·.2)).getD d) h
    | _, _ => .stuck
  | _, _, _ => .stuck
/-- a + b of lists -/
def catOp (mu : Bool) (v w : PV) (h : PHeap) : Res PV := match deref h v, deref h w with
  | .lst xs, .lst ys => guardR (xs.length + ys.length ≤ szB) (mkL mu (xs ++ ys) h)
  | _, _ => .stuck
/-! ### what is walked -/
inductive Src where | fixT (xs : List PV) | fixL (xs : List PV) | live (l : Nat)
def Src.next (c : Src) (i : Nat) (h : PHeap) : Option (Option PV) := match c with
  | .fixT xs => some xs[i]?
  | .fixL xs => some xs[i]?
  | .live l => match h[l]? with
    | some (.lst xs) => some xs[i]?
    | _ => none
def Src.len (c : Src) (h : PHeap) : Nat := match c with
  | .fixT xs => xs.length
  | .fixL xs => xs.length
  | .live l => match h[l]? with
    | some (.lst xs) => xs.length
    | _ => 0
def Src.isT : Src → Bool
  | .fixT _ => true
  | _ => false
def srcOf (h : PHeap) (v : PV) : Option Src := match v with
  | .tup xs => some (.fixT xs)
  | .lst xs => some (.fixL xs)
  | .scr xs => some (.fixL xs)
  | .loc l => match h[l]? with
    | some (.lst _) => some (.live l)
    | _ => none
  | _ => none
inductive Walk where | one (c : Src) | enm (c : Src) | enmS (x : Str) | zip (c d : Src) | rng (lo : Int) (n : Nat) | str (x : Str) | byt (b : Array UInt8)
def Walk.next (w : Walk) (i : Nat) (h : PHeap) : Option (Option PV) := match w with
  | .one c => c.next i h
  | .enm c => (c.next i h).map fun o => o.map fun x => .tup [.int (i : Int), x]
  | .enmS x => some (x.cps[i]?.map fun c => .tup [.int (i : Int), .str ⟨#[c]⟩])
  | .zip c d => match c.next i h, d.next i h with
    | some (some x), some (some y) => some (some (.tup [x, y]))
    | some none, some _ => some none
    | some _, some none => some none
    | _, _ => none
  | .rng lo n => some (if i < n then some (.int (lo + i)) else none)
  | .str x => some (x.cps[i]?.map fun c => .str ⟨#[c]⟩)
  | .byt b => some (b[i]?.map fun c => .int ((c.toNat : Nat) : Int))
def Walk.len (w : Walk) (h : PHeap) : Nat := match w with
  | .one c => c.len h
  | .enm c => c.len h
  | .enmS x => x.cps.size
  | .zip c _ => c.len h
  | .rng _ n => n
  | .str x => x.cps.size
  | .byt b => b.size
def RngB (i : Int) : Prop := -(2 ^ 62) ≤ i ∧ i < 2 ^ 62
instance (i : Int) : Decidable (RngB i) := by unfold RngB; infer_instance
def walkOf (ik : IK) (vs : List PV) (h : PHeap) : Option Walk := match ik, vs with
  | .seq, [.str x] => some (.str x)
  | .seq, [.byt b] => some (.byt b)
  | .seq, [v] => (srcOf h v).map .one
  | .rng, [.int j] => if RngB j then some (.rng 0 j.toNat) else none
  | .rng, [.int i, .int j] => if RngB i ∧ RngB j then some (.rng i (j - i).toNat) else none
  | .enm, [.str x] => some (.enmS x)
  | .enm, [v] => (srcOf h v).bind fun c => if c.isT = true then none else some (.enm c)
  | .zip, [v, w] => (srcOf h v).bind fun c => (srcOf h w).bind fun d => if c.isT = d.isT then some (.zip c d) else none
  | _, _ => none
/-- the items of range(lo, hi) -/
def rngV (lo hi : Int) : List PV := (List.range (hi - lo).toNat).map fun k => .int (lo + (k : Nat))
/-- list(range(..)) -/
def lrngOp (mu : Bool) (vs : List PV) (h : PHeap) : Res PV := match vs with
  | [.int j] => guardR (RngB j ∧ j ≤ szB) (mkL mu (rngV 0 j) h)
  | [.int i, .int j] => guardR (RngB i ∧ RngB j ∧ j - i ≤ szB) (mkL mu (rngV i j) h)
  | _ => .stuck
/-! ### running -/
mutual
def bindT (h : PHeap) : T → PV → PSt → Option PSt
  | .nm i, v, ρ => some (ρ.set i (some v))
  | .tp ts, v, ρ => match seqOf h v with
    | some xs => bindTs h ts xs ρ
    | none => none
  | .tps ts i, v, ρ => match deref h v with
    | .lst xs => match bindTs h ts (xs.take ts.length) ρ with
      | some ρ' => some (ρ'.set i (some (.lst (xs.drop ts.length))))
      | none => none
    | _ => none
def bindTs (h : PHeap) : List T → List PV → PSt → Option PSt
  | [], [], ρ => some ρ
  | t :: ts, x :: xs, ρ => match bindT h t x ρ with
    | some ρ' => bindTs h ts xs ρ'
    | none => none
  | _, _, _ => none
end
def wipeP (ρ : PSt) : List Nat → PSt
  | [] => ρ
  | v :: vs => (wipeP ρ vs).set v none
abbrev Call := Nat → List PV → PHeap → Res PV
def evT (h : PHeap) (v : PV) : Res Bool := orStuck (truth h v) fun b => .ok b h
def compN (w : Walk) (turn : PV → PHeap → Res (Option PV)) : Nat → Nat → PHeap → Res (List PV)
  | 0, _, _ => .stuck
  | n + 1, i, h => match w.next i h with
    | none => .stuck
    | some none => .ok [] h
    | some (some x) => (turn x h).bind fun o h1 => (compN w turn n (i + 1) h1).bind fun vs h2 => .ok (o.toList ++ vs) h2
def noExc {α : Type} (r : Res α) : Res α := match r with
  | .exc _ _ => .stuck
  | r => r
/-- may an exception leave a comprehension -/
def nxc {α : Type} (ex : Bool) (r : Res α) : Res α := if ex = true then r else noExc r
/-- a sorted list of the different ints -/
def ddI : List Int → List Int
  | [] => []
  | x :: r => if x ∈ r then ddI r else x :: ddI r
def sortU (ns : List Int) : List Int := (ddI ns).mergeSort fun a b => decide (a ≤ b)
/-- an exception of class j: is it one of class k -/
def subX (sups : List (List Nat)) (j k : Nat) : Bool := (sups.getD j []).contains k
def evQ (sups : List (List Nat)) (j : Nat) : Qx → Option PV
  | .is k => if k < sups.length then some (.bl (subX sups j k)) else none
  | .cst v => some v
  | .not q => match evQ sups j q with
    | some (.bl b) => some (.bl (!b))
    | _ => none
  | .and p q => match evQ sups j p with
    | some (.bl true) => evQ sups j q
    | some (.bl false) => some (.bl false)
    | _ => none
  | .ite t p q => match evQ sups j t with
    | some (.bl true) => evQ sups j p
    | some (.bl false) => evQ sups j q
    | _ => none
def isNop : E → Bool
  | .nop => true
  | _ => false
mutual
def evalE (c : Call) : E → PSt → PHeap → Res PV
  | .nop, _, _ => .stuck
  | .var i, ρ, h => match ρ[i]? with
    | some (some v) => .ok v h
    | _ => .stuck
  | .cst v, _, h => .ok v h
  | .glb _ v, _, h => .ok v h
  | .tyn _ n, _, h => .ok (.ty n) h
  | .bin o a b, ρ, h => (evalE c a ρ h).bind fun v h1 => (evalE c b ρ h1).bind fun w h2 => binOp o v w h2
  | .neg a, ρ, h => (evalE c a ρ h).bind fun v h1 => match v with
    | .int i => .ok (.int (-i)) h1
    | _ => .stuck
  | .not a, ρ, h => (evalE c a ρ h).bind fun v h1 => orStuck (truth h1 v) fun b => .ok (.bl (!b)) h1
  | .and a b, ρ, h => (evalE c a ρ h).bind fun v h1 => orStuck (truth h1 v) fun k => if k = true then evalE c b ρ h1 else .ok v h1
  | .or a b, ρ, h => (evalE c a ρ h).bind fun v h1 => orStuck (truth h1 v) fun k => if k = true then .ok v h1 else evalE c b ρ h1
  | .ite t a b, ρ, h => (evalE c t ρ h).bind fun v h1 => orStuck (truth h1 v) fun k => if k = true then evalE c a ρ h1 else evalE c b ρ h1
  | .cmp o a b, ρ, h => (evalE c a ρ h).bind fun v h1 => (evalE c b ρ h1).bind fun w h2 => orStuck (cmpP o h2 v w) fun k => .ok (.bl k) h2
  | .chn o o' a b d, ρ, h => (evalE c a ρ h).bind fun v h1 => (evalE c b ρ h1).bind fun w h2 => orStuck (cmpP o h2 v w) fun k =>
      if k = true then (evalE c d ρ h2).bind fun z h3 => orStuck (cmpP o' h3 w z) fun k' => .ok (.bl k') h3 else .ok (.bl false) h2
  | .call f es, ρ, h => (evalEs c es ρ h).bind fun vs h1 => c f vs h1
  | .bi b mu es, ρ, h => (evalEs c es ρ h).bind fun vs h1 => biOp b mu vs h1
  | .mth m o es, ρ, h => (evalE c o ρ h).bind fun v h1 => guardR (mthPre m h1 v = true) ((evalEs c es ρ h1).bind fun vs h2 => mthOp m v vs h2)
  | .tup es, ρ, h => (evalEs c es ρ h).bind fun vs h1 => guardR (vs.length ≤ szB) (.ok (.tup vs) h1)
  | .lst mu es, ρ, h => (evalEs c es ρ h).bind fun vs h1 => guardR (vs.length ≤ szB) (mkL mu vs h1)
  | .dnew t, _, h => .ok (.loc h.length) (h ++ [if t then .dT [] else .dK []])
  | .idx a i, ρ, h => (evalE c a ρ h).bind fun v h1 => (evalE c i ρ h1).bind fun w h2 => idxOp v w h2
  | .slc mu a lo hi, ρ, h => (evalE c a ρ h).bind fun v h1 =>
      (if isNop lo = true then .ok none h1 else (evalE c lo ρ h1).bind fun i h2 => orStuck (intOf i) fun i => .ok (some i) h2 : Res (Option Int)).bind fun l h2 =>
      (if isNop hi = true then .ok none h2 else (evalE c hi ρ h2).bind fun i h3 => orStuck (intOf i) fun i => .ok (some i) h3 : Res (Option Int)).bind fun u h3 => slcOp mu v l u h3
  | .cat mu a b, ρ, h => (evalE c a ρ h).bind fun v h1 => (evalE c b ρ h1).bind fun w h2 => catOp mu v w h2
  | .lrng mu es, ρ, h => (evalEs c es ρ h).bind fun vs h1 => lrngOp mu vs h1
  | .rev mu a, ρ, h => (evalE c a ρ h).bind fun v h1 => revOp mu v h1
  | .cmpr mu ex own ik its tg cd elt, ρ, h => (evalEs c its ρ h).bind fun vs h1 => orStuck (walkOf ik vs h1) fun w =>
      guardR (w.len h1 ≤ szB) ((compN w (fun x h2 => match bindT h2 tg x (wipeP ρ own) with
        | none => .stuck
        | some ρ' => if isNop cd = true then nxc ex ((evalE c elt ρ' h2).bind fun v h3 => .ok (some v) h3)
          else nxc ex ((evalE c cd ρ' h2).bind fun b h3 => orStuck (truth h3 b) fun k => if k = true then (evalE c elt ρ' h3).bind fun v h4 => .ok (some v) h4 else .ok none h3))
        (w.len h1 + 1) 0 h1).bind fun vs h2 => mkL mu vs h2)
  | .ssrt mu e, ρ, h => (evalE c e ρ h).bind fun v h1 => orStuck ((lstOf h1 v).bind (allOf intOf)) fun ns => guardR (ns.length < 4000 ∧ (sortU ns).length < 60) (mkL mu ((sortU ns).map .int) h1)
  | .d1 k e, ρ, h => (evalE c k ρ (h ++ [.dK []])).bind fun kv h1 => (evalE c e ρ h1).bind fun v h2 => orStuck (keyOf kv) fun x => match h2[h.length]? with
    | some (.dK []) => .ok (.loc h.length) (h2.set h.length (.dK [(x, v)]))
    | _ => .stuck
  | .fld e, ρ, h => (evalE c e ρ h).bind fun v h1 => orStuck (fmt v) fun x => .ok (.str x) h1
  | .fst ps, ρ, h => (evalJ c ps Str.empty ρ h).bind fun x h1 => .ok (.str x) h1
def evalEs (c : Call) : List E → PSt → PHeap → Res (List PV)
  | [], _, h => .ok [] h
  | e :: es, ρ, h => (evalE c e ρ h).bind fun v h1 => (evalEs c es ρ h1).bind fun vs h2 => .ok (v :: vs) h2
/-- the texts one behind the other -/
def evalJ (c : Call) : List E → Str → PSt → PHeap → Res Str
  | [], acc, _, h => .ok acc h
  | e :: es, acc, ρ, h => (evalE c e ρ h).bind fun v h1 => orStuck (strOf v) fun y => guardR ((acc ++ y).length ≤ szB) (evalJ c es (acc ++ y) ρ h1)
end
def Res.fl (r : Res PV) (ρ : PSt) (k : PV → PHeap → Fl) : Fl := match r with
  | .ok v h => k v h
  | .exc e h => .exc e ρ h
  | .stuck => .stuck
def Fl.seq (f : Fl) (k : PSt → PHeap → Fl) : Fl := match f with
  | .nx ρ h => k ρ h
  | f => f
def orStuckF {α : Type} (o : Option α) (k : α → Fl) : Fl := match o with
  | some a => k a
  | none => .stuck
def loopN (w : Walk) (body : PV → PSt → PHeap → Fl) : Nat → Nat → PSt → PHeap → Fl
  | 0, _, _, _ => .stuck
  | n + 1, i, ρ, h => match w.next i h with
    | none => .stuck
    | some none => .nx ρ h
    | some (some x) => match body x ρ h with
      | .nx ρ' h' => loopN w body n (i + 1) ρ' h'
      | .ct ρ' h' => loopN w body n (i + 1) ρ' h'
      | .bk ρ' h' => .nx ρ' h'
      | f => f
/-- the turns that a while may take -/
def fuelW : Nat := 1000000
def whileN (test : PSt → PHeap → Res PV) (body : PSt → PHeap → Fl) : Nat → PSt → PHeap → Fl
  | 0, _, _ => .stuck
  | n + 1, ρ, h => (test ρ h).fl ρ fun v h1 => orStuckF (truth h1 v) fun k => if k = true then match body ρ h1 with
      | .nx ρ' h' => whileN test body n ρ' h'
      | .ct ρ' h' => whileN test body n ρ' h'
      | .bk ρ' h' => .nx ρ' h'
      | f => f
    else .nx ρ h1
/-- a try with one clause of one return -/
def tryF (f : Fl) (k : Nat) (sups : List (List Nat)) (q : Qx) : Fl := match f with
  | .exc x ρ h => if x.cls < sups.length ∧ x.fs.isNone = true then
      if subX sups x.cls k = true then match evQ sups x.cls q with
        | some v => .rt v h
        | none => .stuck
      else .exc x ρ h
    else .stuck
  | f => f
def Res.evs (r : Res (List PV)) (ρ : PSt) (k : List PV → PHeap → Fl) : Fl := match r with
  | .ok v h => k v h
  | .exc e h => .exc e ρ h
  | .stuck => .stuck
mutual
def evalS (c : Call) : S → PSt → PHeap → Fl
  | .set i e, ρ, h => (evalE c e ρ h).fl ρ fun v h1 => .nx (ρ.set i (some v)) h1
  | .setc i e, ρ, h => (evalE c e ρ h).fl ρ fun v h1 => .nx (ρ.set i (some v)) h1
  | .unp tg e, ρ, h => (evalE c e ρ h).fl ρ fun v h1 => orStuckF (bindT h1 tg v ρ) fun ρ' => .nx ρ' h1
  | .par i j a b, ρ, h => (evalE c a ρ h).fl ρ fun v h1 => (evalE c b ρ h1).fl ρ fun w h2 => .nx ((ρ.set i (some v)).set j (some w)) h2
  | .seti o i e, ρ, h => (evalE c e ρ h).fl ρ fun x h1 => (evalE c o ρ h1).fl ρ fun v h2 => (evalE c i ρ h2).fl ρ fun w h3 => orStuckF (setOp v w x h3) fun h4 => .nx ρ h4
  | .aug i o e, ρ, h => match ρ[i]? with
    | some (some x) => (evalE c e ρ h).fl ρ fun y h1 => (augOp o x y h1).fl ρ fun z h2 => .nx (ρ.set i (some z)) h2
    | _ => .stuck
  | .ex e, ρ, h => (evalE c e ρ h).fl ρ fun _ h1 => .nx ρ h1
  | .ret e, ρ, h => (evalE c e ρ h).fl ρ fun v h1 => .rt v h1
  | .ret0, _, h => .rt .non h
  | .ifs t a b, ρ, h => (evalE c t ρ h).fl ρ fun v h1 => orStuckF (truth h1 v) fun k => if k = true then evalSs c a ρ h1 else evalSs c b ρ h1
  | .for_ tg ik its b, ρ, h => (evalEs c its ρ h).evs ρ fun vs h1 => orStuckF (walkOf ik vs h1) fun w =>
      loopN w (fun x ρ2 h2 => orStuckF (bindT h2 tg x ρ2) fun ρ3 => evalSs c b ρ3 h2) (w.len h1 + 1) 0 ρ h1
  | .whl t b, ρ, h => whileN (evalE c t) (evalSs c b) fuelW ρ h
  | .rs k, ρ, h => .exc ⟨k, none⟩ ρ h
  | .tryq b k _ sups q, ρ, h => tryF (evalSs c b ρ h) k sups q
  | .pas, ρ, h => .nx ρ h
  | .brk, ρ, h => .bk ρ h
  | .cnt, ρ, h => .ct ρ h
  | .nvr, _, _ => .stuck
def evalSs (c : Call) : List S → PSt → PHeap → Fl
  | [], ρ, h => .nx ρ h
  | s :: r, ρ, h => (evalS c s ρ h).seq fun ρ1 h1 => evalSs c r ρ1 h1
end
/-- a def: its parameters' number, its names' number, its body -/
structure Def where
  ar : Nat
  sl : Nat
  body : List S
def Fl.res (f : Fl) : Res PV := match f with
  | .nx _ h => .ok .non h
  | .rt v h => .ok v h
  | .exc e _ h => .exc e h
  | _ => .stuck
def startP (n : Nat) (vs : List PV) : PSt := vs.map some ++ List.replicate (n - vs.length) none
def runD (d : Def) (c : Call) (vs : List PV) (h : PHeap) : Res PV := if vs.length = d.ar then (evalSs c d.body (startP d.sl vs) h).res else .stuck
def callN (tb : Nat → Option Def) : Nat → Call
  | 0 => fun _ _ _ => .stuck
  | n + 1 => fun f vs h => match tb f with
    | some d => runD d (callN tb n) vs h
    | none => .stuck
end Rf
end

section
set_option Elab.async false
set_option linter.all false
set_option maxRecDepth 100000
set_option maxHeartbeats 4000000
namespace Rf
open PySem PySem.Spec L2

/-- where the plain program's classes stand -/
structure Lk where
  K : PySem.W.Frag
  cA : Nat → Addr

/-- a tuple of the written part -/
def KT (K : PySem.W.Frag) (a : Addr) (xs : List V) : Prop :=
  ∃ (o : Obj) (its : Array Value) (n : Nat), K.lookup a = some o ∧ o.cls = .type "tuple" ∧ o.data = .seq its n ∧ its.size ≤ sizeLine ∧ Vals xs its.toList

/-- a list of the written part -/
def KLs (K : PySem.W.Frag) (a : Addr) (xs : List V) : Prop :=
  ∃ (o : Obj) (its : Array Value) (n : Nat), K.lookup a = some o ∧ o.cls = .type "list" ∧ o.dict = none ∧ o.data = .seq its n ∧ its.size ≤ sizeLine ∧ Vals xs its.toList

mutual
/-- v stands for the plain value; ι: where the plain heap's places lie -/
def RV (L : Lk) (ι : List Addr) (H : Hp) : PV → V → Prop
  | .non, u => u = .non
  | .bl b, u => u = .bl b
  | .int i, u => u = .int i
  | .str x, u => u = .str x ∧ x.length ≤ sizeLine
  | .byt b, u => u = .byt b ∧ b.size ≤ sizeLine
  | .ty n, u => u = .ty n
  | .tup xs, u => ∃ p vs, u = .ref p ∧ ((p ∉ ι ∧ Rd H p (.tup vs)) ∨ KT L.K p vs) ∧ vs.length ≤ sizeLine ∧ RVs L ι H xs vs
  | .lst xs, u => ∃ p vs, u = .ref p ∧ p ∉ ι ∧ H p = some (.lst vs) ∧ vs.length ≤ sizeLine ∧ RVs L ι H xs vs
  | .scr xs, u => ∃ p vs, u = .ref p ∧ ((p ∉ ι ∧ Rd H p (.lst vs)) ∨ KLs L.K p vs) ∧ vs.length ≤ sizeLine ∧ RVs L ι H xs vs
  | .loc l, u => ∃ p, u = .ref p ∧ ι[l]? = some p
def RVs (L : Lk) (ι : List Addr) (H : Hp) : List PV → List V → Prop
  | [], vs => vs = []
  | x :: xs, vs => ∃ v r, vs = v :: r ∧ RV L ι H x v ∧ RVs L ι H xs r
end
def KeyZ : Key → Prop
  | .inl _ => True
  | .inr x => x.length ≤ sizeLine
/-- the object at a place -/
def RO (L : Lk) (ι : List Addr) (H : Hp) : PO → HO → Prop
  | .lst xs, o => ∃ vs, o = .lst vs ∧ vs.length ≤ sizeLine ∧ RVs L ι H xs vs
  | .dK kvs, o => ∃ vs, o = .dK vs ∧ Paired (fun (p : Key × PV) (q : Key × V) => p.1 = q.1 ∧ RV L ι H p.2 q.2) kvs vs ∧ ∀ p ∈ kvs, KeyZ p.1
  | .dT kvs, o => ∃ vs, o = .dT vs ∧ Paired (fun (p : List Key × PV) (q : List Key × V) => p.1 = q.1 ∧ RV L ι H p.2 q.2) kvs vs
  | .ins c fs, o => ∃ dx vs, o = .ins (L.cA c) dx vs ∧ Paired (fun (p : Str × PV) (q : Str × V) => p.1 = q.1 ∧ RV L ι H p.2 q.2) fs vs
structure RH (L : Lk) (ι : List Addr) (H : Hp) (h : PHeap) : Prop where
  len : ι.length = h.length
  nd : ι.Nodup
  ob : ∀ (l : Nat) (o : PO), h[l]? = some o → ∃ p u, ι[l]? = some p ∧ H p = some u ∧ RO L ι H o u
/-- more places, what is not a place stands -/
structure Ext (ι : List Addr) (H : Hp) (ι' : List Addr) (H' : Hp) : Prop where
  more : ∃ κ, ι' = ι ++ κ ∧ ∀ p ∈ κ, H p = none
  keep : ∀ p o, p ∉ ι → H p = some o → H' p = some o
  there : ∀ p o, H p = some o → ∃ o', H' p = some o'
def RSt (L : Lk) (ι : List Addr) (H : Hp) (ρ : PSt) (σ : St) : Prop :=
  ρ.length = σ.length ∧ ∀ (i : Nat) v, ρ[i]? = some (some v) → ∃ u, σ[i]? = some (some u) ∧ RV L ι H v u
def RX (L : Lk) (ι : List Addr) (H : Hp) (e : PX) (c : Value) (d : Option Addr) : Prop :=
  c = .ref (L.cA e.cls) ∧ match e.fs with
    | none => d = none
    | some fs => ∃ dd vs, d = some dd ∧ H dd = some (.xd vs) ∧ Paired (fun (p : Str × PV) (q : Str × V) => p.1 = q.1 ∧ RV L ι H p.2 q.2) fs vs

theorem Ext.refl (ι : List Addr) (H : Hp) : Ext ι H ι H := ⟨⟨[], by simp⟩, fun _ _ _ e => e, fun _ o e => ⟨o, e⟩⟩
theorem Ext.old {ι ι' : List Addr} {H H' : Hp} (e : Ext ι H ι' H') {p : Addr} {o : HO} (hp : p ∉ ι) (h : H p = some o) : p ∉ ι' := by
  obtain ⟨κ, rfl, hκ⟩ := e.more
  intro hm
  rcases List.mem_append.mp hm with z | z
  · exact hp z
  · rw [hκ p z] at h; cases h
theorem Ext.trans {ι ι1 ι2 : List Addr} {H H1 H2 : Hp} (a : Ext ι H ι1 H1) (b : Ext ι1 H1 ι2 H2) : Ext ι H ι2 H2 := by
  obtain ⟨κ, rfl, hκ⟩ := id a.more
  obtain ⟨κ2, rfl, hκ2⟩ := id b.more
  refine ⟨⟨κ ++ κ2, by rw [List.append_assoc], fun p hp => ?_⟩, fun p o hp h => ?_, fun p o h => ?_⟩
  · rcases List.mem_append.mp hp with z | z
    · exact hκ p z
    · cases q : H p with
      | none => rfl
      | some o =>
        obtain ⟨o', q'⟩ := a.there p o q
        rw [hκ2 p z] at q'; cases q'
  · exact b.keep p o (a.old hp h) (a.keep p o hp h)
  · obtain ⟨o', q⟩ := a.there p o h
    exact b.there p o' q
theorem Ext.loc {ι ι' : List Addr} {H H' : Hp} (e : Ext ι H ι' H') {l : Nat} {p : Addr} (h : ι[l]? = some p) : ι'[l]? = some p := by
  obtain ⟨κ, rfl, _⟩ := e.more
  rw [List.getElem?_append_left (List.getElem?_eq_some_iff.mp h).1]
  exact h
theorem Rd.ext {ι ι' : List Addr} {H H' : Hp} (e : Ext ι H ι' H') {p : Addr} {u : HO} (hp : p ∉ ι) (h : Rd H p u) : p ∉ ι' ∧ Rd H' p u := by
  rcases h with h | ⟨o, h⟩
  · exact ⟨e.old hp h, .inl (e.keep p _ hp h)⟩
  · exact ⟨e.old hp h, .inr ⟨o, e.keep p _ hp h⟩⟩
mutual
theorem RV.ext {L : Lk} {ι ι' : List Addr} {H H' : Hp} (e : Ext ι H ι' H') : ∀ (v : PV) (u : V), RV L ι H v u → RV L ι' H' v u
  | .non, _, h => h
  | .bl _, _, h => h
  | .int _, _, h => h
  | .str _, _, h => h
  | .byt _, _, h => h
  | .ty _, _, h => h
  | .tup xs, _, h => by
    simp only [RV] at h ⊢
    obtain ⟨p, vs, rfl, hp, hz, r⟩ := h
    refine ⟨p, vs, rfl, ?_, hz, RVs.ext e xs vs r⟩
    rcases hp with ⟨h1, h2⟩ | h
    · exact .inl (Rd.ext e h1 h2)
    · exact .inr h
  | .lst xs, _, h => by
    simp only [RV] at h ⊢
    obtain ⟨p, vs, rfl, h1, h2, hz, r⟩ := h
    exact ⟨p, vs, rfl, e.old h1 h2, e.keep _ _ h1 h2, hz, RVs.ext e xs vs r⟩
  | .scr xs, _, h => by
    simp only [RV] at h ⊢
    obtain ⟨p, vs, rfl, hp, hz, r⟩ := h
    refine ⟨p, vs, rfl, ?_, hz, RVs.ext e xs vs r⟩
    rcases hp with ⟨h1, h2⟩ | h
    · exact .inl (Rd.ext e h1 h2)
    · exact .inr h
  | .loc l, _, h => by
    simp only [RV] at h ⊢
    obtain ⟨p, rfl, q⟩ := h
    exact ⟨p, rfl, e.loc q⟩
theorem RVs.ext {L : Lk} {ι ι' : List Addr} {H H' : Hp} (e : Ext ι H ι' H') : ∀ (xs : List PV) (vs : List V), RVs L ι H xs vs → RVs L ι' H' xs vs
  | [], _, h => h
  | x :: xs, _, h => by
    simp only [RVs] at h ⊢
    obtain ⟨v, r, rfl, h1, h2⟩ := h
    exact ⟨v, r, rfl, RV.ext e x v h1, RVs.ext e xs r h2⟩
end
theorem pairedExt {κ : Type} {L : Lk} {ι ι' : List Addr} {H H' : Hp} (e : Ext ι H ι' H') {ks : List (κ × PV)} {vs : List (κ × V)} (h : Paired (fun (p : κ × PV) (q : κ × V) => p.1 = q.1 ∧ RV L ι H p.2 q.2) ks vs) :
    Paired (fun (p : κ × PV) (q : κ × V) => p.1 = q.1 ∧ RV L ι' H' p.2 q.2) ks vs := Paired.mapP h fun _ _ q => ⟨q.1, RV.ext e _ _ q.2⟩
theorem RO.ext {L : Lk} {ι ι' : List Addr} {H H' : Hp} (e : Ext ι H ι' H') {o : PO} {u : HO} (h : RO L ι H o u) : RO L ι' H' o u := by
  cases o with
  | lst xs => obtain ⟨vs, rfl, z, r⟩ := h; exact ⟨vs, rfl, z, RVs.ext e _ _ r⟩
  | dK kvs => obtain ⟨vs, rfl, r, z⟩ := h; exact ⟨vs, rfl, pairedExt e r, z⟩
  | dT kvs => obtain ⟨vs, rfl, r⟩ := h; exact ⟨vs, rfl, pairedExt e r⟩
  | ins c fs => obtain ⟨dx, vs, rfl, r⟩ := h; exact ⟨dx, vs, rfl, pairedExt e r⟩
theorem RSt.ext {L : Lk} {ι ι' : List Addr} {H H' : Hp} (e : Ext ι H ι' H') {ρ : PSt} {σ : St} (h : RSt L ι H ρ σ) : RSt L ι' H' ρ σ :=
  ⟨h.1, fun i v q => let ⟨u, k1, k2⟩ := h.2 i v q; ⟨u, k1, RV.ext e _ _ k2⟩⟩
theorem RSt.set {L : Lk} {ι : List Addr} {H : Hp} {ρ : PSt} {σ : St} (h : RSt L ι H ρ σ) {v : PV} {u : V} (r : RV L ι H v u) (i : Nat) : RSt L ι H (ρ.set i (some v)) (σ.set i (some u)) := by
  refine ⟨by rw [List.length_set, List.length_set]; exact h.1, fun j w q => ?_⟩
  by_cases hj : i = j
  · subst hj
    have hi : i < ρ.length := by
      have := (List.getElem?_eq_some_iff.mp q).1
      rwa [List.length_set] at this
    rw [List.getElem?_set_self hi] at q
    cases q
    exact ⟨u, List.getElem?_set_self (by rw [← h.1]; exact hi), r⟩
  · rw [List.getElem?_set_ne hj] at q
    rw [List.getElem?_set_ne hj]
    exact h.2 j w q
theorem RVs.length {L : Lk} {ι : List Addr} {H : Hp} : ∀ {xs : List PV} {vs : List V}, RVs L ι H xs vs → xs.length = vs.length
  | [], _, h => by simp only [RVs] at h; subst h; rfl
  | x :: xs, _, h => by
    simp only [RVs] at h
    obtain ⟨v, r, rfl, _, h2⟩ := h
    rw [List.length_cons, List.length_cons, RVs.length h2]
theorem RVs.get {L : Lk} {ι : List Addr} {H : Hp} : ∀ {xs : List PV} {vs : List V} {i : Nat} {x : PV}, RVs L ι H xs vs → xs[i]? = some x → ∃ u, vs[i]? = some u ∧ RV L ι H x u
  | [], _, _, _, _, e => by simp at e
  | y :: xs, _, 0, x, h, e => by
    simp only [RVs] at h
    obtain ⟨v, r, rfl, h1, _⟩ := h
    simp at e; subst e
    exact ⟨v, rfl, h1⟩
  | y :: xs, _, i + 1, x, h, e => by
    simp only [RVs] at h
    obtain ⟨v, r, rfl, _, h2⟩ := h
    obtain ⟨u, k1, k2⟩ := RVs.get (i := i) (x := x) h2 (by simpa using e)
    exact ⟨u, by simpa using k1, k2⟩
theorem RVs.get' {L : Lk} {ι : List Addr} {H : Hp} {xs : List PV} {vs : List V} {i : Nat} {u : V} (h : RVs L ι H xs vs) (e : vs[i]? = some u) : ∃ x, xs[i]? = some x ∧ RV L ι H x u := by
  have hl := h.length
  have hi : i < xs.length := by rw [hl]; exact (List.getElem?_eq_some_iff.mp e).1
  obtain ⟨u', k1, k2⟩ := RVs.get h (List.getElem?_eq_getElem hi)
  rw [e] at k1; cases k1
  exact ⟨_, List.getElem?_eq_getElem hi, k2⟩
theorem RVs.append {L : Lk} {ι : List Addr} {H : Hp} : ∀ {xs ys : List PV} {vs ws : List V}, RVs L ι H xs vs → RVs L ι H ys ws → RVs L ι H (xs ++ ys) (vs ++ ws)
  | [], _, _, _, h, k => by simp only [RVs] at h; subst h; exact k
  | x :: xs, ys, _, ws, h, k => by
    simp only [RVs] at h
    obtain ⟨v, r, rfl, h1, h2⟩ := h
    simp only [List.cons_append, RVs]
    exact ⟨v, r ++ ws, rfl, h1, RVs.append h2 k⟩
theorem RVs.of_get {L : Lk} {ι : List Addr} {H : Hp} : ∀ {xs : List PV} {vs : List V}, xs.length = vs.length → (∀ (i : Nat) x u, xs[i]? = some x → vs[i]? = some u → RV L ι H x u) → RVs L ι H xs vs
  | [], [], _, _ => by simp only [RVs]
  | x :: xs, v :: vs, hl, h => by
    simp only [RVs]
    exact ⟨v, vs, rfl, h 0 x v rfl rfl, RVs.of_get (by simpa using hl) fun i y u h1 h2 => h (i + 1) y u (by simpa using h1) (by simpa using h2)⟩
  | [], _ :: _, hl, _ => by simp at hl
  | _ :: _, [], hl, _ => by simp at hl
theorem RVs.take {L : Lk} {ι : List Addr} {H : Hp} : ∀ {xs : List PV} {vs : List V} (n : Nat), RVs L ι H xs vs → RVs L ι H (xs.take n) (vs.take n)
  | _, _, 0, _ => by simp [RVs]
  | [], _, n + 1, h => by simp only [RVs] at h; subst h; simp [RVs]
  | x :: xs, _, n + 1, h => by
    simp only [RVs] at h
    obtain ⟨v, r, rfl, h1, h2⟩ := h
    simp only [List.take_succ_cons, RVs]
    exact ⟨v, _, rfl, h1, RVs.take n h2⟩
theorem RVs.drop {L : Lk} {ι : List Addr} {H : Hp} : ∀ {xs : List PV} {vs : List V} (n : Nat), RVs L ι H xs vs → RVs L ι H (xs.drop n) (vs.drop n)
  | _, _, 0, h => by simpa using h
  | [], _, n + 1, h => by simp only [RVs] at h; subst h; simp [RVs]
  | x :: xs, _, n + 1, h => by
    simp only [RVs] at h
    obtain ⟨v, r, rfl, h1, h2⟩ := h
    simpa using RVs.drop n h2
theorem RVs.reverse {L : Lk} {ι : List Addr} {H : Hp} : ∀ {xs : List PV} {vs : List V}, RVs L ι H xs vs → RVs L ι H xs.reverse vs.reverse
  | [], _, h => by simp only [RVs] at h; subst h; simp [RVs]
  | x :: xs, _, h => by
    simp only [RVs] at h
    obtain ⟨v, r, rfl, h1, h2⟩ := h
    rw [List.reverse_cons, List.reverse_cons]
    exact RVs.append (RVs.reverse h2) (by simp only [RVs]; exact ⟨v, [], rfl, h1, rfl⟩)

/-! ### the ends -/
def okA {α β : Type} (L : Lk) (R : List Addr → Hp → α → β → Prop) (ι : List Addr) (H : Hp) (r : Res α) (Q : β → Hp → Prop) (W : Value → Option Addr → Hp → Prop) : Prop := match r with
  | .ok v h' => ∀ ι' H' u, Ext ι H ι' H' → RH L ι' H' h' → R ι' H' v u → Q u H'
  | .exc x h' => ∀ ι' H' c d, Ext ι H ι' H' → RH L ι' H' h' → RX L ι' H' x c d → W c d H'
  | .stuck => False
abbrev okV (L : Lk) := okA (α := PV) (β := V) L (RV L)
abbrev okB (L : Lk) := okA (α := Bool) (β := Bool) L (fun _ _ a b => a = b)
abbrev okVs (L : Lk) := okA (α := List PV) (β := List V) L (RVs L)
theorem okA.ext {α β : Type} {L : Lk} {R : List Addr → Hp → α → β → Prop} {ι ι1 : List Addr} {H H1 : Hp} {r : Res α} {Q : β → Hp → Prop} {W : Value → Option Addr → Hp → Prop} (e : Ext ι H ι1 H1) (h : okA L R ι H r Q W) : okA L R ι1 H1 r Q W := by
  cases r with
  | ok v h' => exact fun ι' H' u x k1 k2 => h ι' H' u (e.trans x) k1 k2
  | exc v h' => exact fun ι' H' c d x k1 k2 => h ι' H' c d (e.trans x) k1 k2
  | stuck => exact h
theorem okA.mono {α β : Type} {L : Lk} {R : List Addr → Hp → α → β → Prop} {ι : List Addr} {H : Hp} {r : Res α} {Q Q' : β → Hp → Prop} {W W' : Value → Option Addr → Hp → Prop} (h : okA L R ι H r Q W) (hq : ∀ u H, Q u H → Q' u H) (hw : ∀ c d H, W c d H → W' c d H) : okA L R ι H r Q' W' := by
  cases r with
  | ok v h' => exact fun ι' H' u x k1 k2 => hq _ _ (h ι' H' u x k1 k2)
  | exc v h' => exact fun ι' H' c d x k1 k2 => hw _ _ _ (h ι' H' c d x k1 k2)
  | stuck => exact h
/-- the first part of a run, then the rest -/
theorem okA.bind {α β γ δ : Type} {L : Lk} {R : List Addr → Hp → α → β → Prop} {R2 : List Addr → Hp → γ → δ → Prop} {ι : List Addr} {H : Hp} {r : Res α} {k : α → PHeap → Res γ} {Q : δ → Hp → Prop} {W : Value → Option Addr → Hp → Prop}
    (h : okA L R2 ι H (r.bind k) Q W) {Q1 : β → Hp → Prop} (hq : ∀ ι1 H1 h1 v u, r = .ok v h1 → Ext ι H ι1 H1 → RH L ι1 H1 h1 → R ι1 H1 v u → okA L R2 ι1 H1 (k v h1) Q W → Q1 u H1) : okA L R ι H r Q1 W := by
  cases r with
  | ok v h' => exact fun ι' H' u x k1 k2 => hq ι' H' h' v u rfl x k1 k2 (okA.ext x h)
  | exc v h' => exact h
  | stuck => exact h
theorem okA.guard {α β : Type} {L : Lk} {R : List Addr → Hp → α → β → Prop} {ι : List Addr} {H : Hp} {c : Prop} [Decidable c] {r : Res α} {Q : β → Hp → Prop} {W : Value → Option Addr → Hp → Prop} (h : okA L R ι H (guardR c r) Q W) : c ∧ okA L R ι H r Q W := by
  unfold guardR at h
  split at h
  · exact ⟨by assumption, h⟩
  · exact h.elim
theorem okA.got {α β γ : Type} {L : Lk} {R : List Addr → Hp → α → β → Prop} {ι : List Addr} {H : Hp} {o : Option γ} {k : γ → Res α} {Q : β → Hp → Prop} {W : Value → Option Addr → Hp → Prop} (h : okA L R ι H (orStuck o k) Q W) : ∃ a, o = some a ∧ okA L R ι H (k a) Q W := by
  cases o with
  | none => exact h.elim
  | some a => exact ⟨a, rfl, h⟩
def okF (L : Lk) (ι : List Addr) (H : Hp) (f : Fl) (D : Ends) (W : WX) : Prop := match f with
  | .nx ρ h => ∀ ι' H' σ, Ext ι H ι' H' → RH L ι' H' h → RSt L ι' H' ρ σ → D.nx σ H'
  | .bk ρ h => ∀ ι' H' σ, Ext ι H ι' H' → RH L ι' H' h → RSt L ι' H' ρ σ → D.bk σ H'
  | .ct ρ h => ∀ ι' H' σ, Ext ι H ι' H' → RH L ι' H' h → RSt L ι' H' ρ σ → D.ct σ H'
  | .rt v h => ∀ ι' H' u, Ext ι H ι' H' → RH L ι' H' h → RV L ι' H' v u → D.rt u H'
  | .exc x ρ h => ∀ ι' H' σ c d, Ext ι H ι' H' → RH L ι' H' h → RSt L ι' H' ρ σ → RX L ι' H' x c d → W c d σ H'
  | .stuck => False
theorem okF.ext {L : Lk} {ι ι1 : List Addr} {H H1 : Hp} {f : Fl} {D : Ends} {W : WX} (e : Ext ι H ι1 H1) (h : okF L ι H f D W) : okF L ι1 H1 f D W := by
  cases f with
  | nx ρ h' => exact fun ι' H' u x k1 k2 => h ι' H' u (e.trans x) k1 k2
  | bk ρ h' => exact fun ι' H' u x k1 k2 => h ι' H' u (e.trans x) k1 k2
  | ct ρ h' => exact fun ι' H' u x k1 k2 => h ι' H' u (e.trans x) k1 k2
  | rt ρ h' => exact fun ι' H' u x k1 k2 => h ι' H' u (e.trans x) k1 k2
  | exc v ρ h' => exact fun ι' H' σ c d x k1 k2 => h ι' H' σ c d (e.trans x) k1 k2
  | stuck => exact h
theorem okF.got {γ : Type} {L : Lk} {ι : List Addr} {H : Hp} {o : Option γ} {k : γ → Fl} {D : Ends} {W : WX} (h : okF L ι H (orStuckF o k) D W) : ∃ a, o = some a ∧ okF L ι H (k a) D W := by
  cases o with
  | none => exact h.elim
  | some a => exact ⟨a, rfl, h⟩
/-- readings by an evaluator -/
def tE (L : Lk) (W : WX) (ev : PSt → PHeap → Res PV) : TE := fun σ H Q => ∃ ι ρ h, RSt L ι H ρ σ ∧ RH L ι H h ∧ okV L ι H (ev ρ h) Q fun c d H' => W c d σ H'
def tT (L : Lk) (W : WX) (ev : PSt → PHeap → Res Bool) : TT := fun σ H Q => ∃ ι ρ h, RSt L ι H ρ σ ∧ RH L ι H h ∧ okB L ι H (ev ρ h) Q fun c d H' => W c d σ H'
def tA (L : Lk) (W : WX) (ev : PSt → PHeap → Res (List PV)) : TA := fun σ H Q => ∃ ι ρ h, RSt L ι H ρ σ ∧ RH L ι H h ∧ okVs L ι H (ev ρ h) Q fun c d H' => W c d σ H'
def tS (L : Lk) (W : WX) (ev : PSt → PHeap → Fl) : TS := fun D σ H => ∃ ι ρ h, RSt L ι H ρ σ ∧ RH L ι H h ∧ okF L ι H (ev ρ h) D W
theorem okF.fl {L : Lk} {ι : List Addr} {H : Hp} {r : Res PV} {ρ : PSt} {σ : St} {k : PV → PHeap → Fl} {D : Ends} {W : WX} {Q1 : VK} (hσ : RSt L ι H ρ σ) (h : okF L ι H (r.fl ρ k) D W)
    (hq : ∀ ι1 H1 h1 v u, r = .ok v h1 → Ext ι H ι1 H1 → RH L ι1 H1 h1 → RV L ι1 H1 v u → okF L ι1 H1 (k v h1) D W → Q1 u H1) : okV L ι H r Q1 fun c d H' => W c d σ H' := by
  cases r with
  | ok v h' => exact fun ι' H' u x k1 k2 => hq ι' H' h' v u rfl x k1 k2 (okF.ext x h)
  | exc v h' => exact fun ι' H' c d x k1 k2 => h ι' H' σ c d x k1 (hσ.ext x) k2
  | stuck => exact h

/-! ### new objects, changed objects -/
theorem RVs.none_new {H : Hp} {p : Addr} {o : HO} (hp : H p = none) : Ext [] H [] (upd H p o) := ⟨⟨[], rfl, fun _ z => nomatch z⟩, fun q u _ e => by rw [upd_ne (ne_of_none e hp)]; exact e, fun q u e => ⟨u, by rw [upd_ne (ne_of_none e hp)]; exact e⟩⟩
/-- a new object that is no place -/
theorem Ext.new {ι : List Addr} {H : Hp} {p : Addr} {o : HO} (hp : H p = none) : Ext ι H ι (upd H p o) := ⟨⟨[], by simp, fun _ z => nomatch z⟩, fun q u _ e => by rw [upd_ne (ne_of_none e hp)]; exact e, fun q u e => ⟨u, by rw [upd_ne (ne_of_none e hp)]; exact e⟩⟩
/-- a new object at a new place -/
theorem Ext.newLoc {ι : List Addr} {H : Hp} {p : Addr} {o : HO} (hp : H p = none) : Ext ι H (ι ++ [p]) (upd H p o) := ⟨⟨[p], rfl, fun q z => by rw [List.mem_singleton.mp z]; exact hp⟩, fun q u _ e => by rw [upd_ne (ne_of_none e hp)]; exact e, fun q u e => ⟨u, by rw [upd_ne (ne_of_none e hp)]; exact e⟩⟩
/-- the object at a place is another -/
theorem Ext.write {ι : List Addr} {H : Hp} {p : Addr} {o : HO} (hp : p ∈ ι) : Ext ι H ι (upd H p o) := ⟨⟨[], by simp, fun _ z => nomatch z⟩, fun q u hq e => by rw [upd_ne (fun z => hq (by rw [z]; exact hp))]; exact e, fun q u e => by
  by_cases z : q = p
  · exact ⟨o, by rw [z, upd_same]⟩
  · exact ⟨u, by rw [upd_ne z]; exact e⟩⟩
theorem RH.at_ {L : Lk} {ι : List Addr} {H : Hp} {h : PHeap} (r : RH L ι H h) {p : Addr} (hp : p ∈ ι) : ∃ u, H p = some u := by
  obtain ⟨l, hl, e⟩ := List.getElem_of_mem hp
  have hl' : l < h.length := by rw [← r.len]; exact hl
  obtain ⟨p', u, h1, h2, _⟩ := r.ob l _ (List.getElem?_eq_getElem hl')
  rw [List.getElem?_eq_getElem hl] at h1
  cases h1
  rw [e] at h2
  exact ⟨u, h2⟩
theorem RH.new {L : Lk} {ι : List Addr} {H : Hp} {h : PHeap} (r : RH L ι H h) {p : Addr} {o : HO} (hp : H p = none) : RH L ι (upd H p o) h := by
  refine ⟨r.len, r.nd, fun l u e => ?_⟩
  obtain ⟨q, v, h1, h2, h3⟩ := r.ob l u e
  exact ⟨q, v, h1, by rw [upd_ne (ne_of_none h2 hp)]; exact h2, h3.ext (Ext.new hp)⟩
theorem RH.newLoc {L : Lk} {ι : List Addr} {H : Hp} {h : PHeap} (r : RH L ι H h) {p : Addr} {o : HO} {u : PO} (hp : H p = none) (ho : RO L (ι ++ [p]) (upd H p o) u o) : RH L (ι ++ [p]) (upd H p o) (h ++ [u]) := by
  have hn : p ∉ ι := fun z => by obtain ⟨w, e⟩ := r.at_ z; rw [hp] at e; cases e
  refine ⟨by rw [List.length_append, List.length_append, r.len]; rfl, ?_, fun l v e => ?_⟩
  · rw [List.nodup_append]
    exact ⟨r.nd, List.pairwise_singleton _ p, fun a ha b hb z => hn (by rw [List.mem_singleton.mp hb] at z; exact z ▸ ha)⟩
  · by_cases hl : l < h.length
    · rw [List.getElem?_append_left hl] at e
      obtain ⟨q, w, h1, h2, h3⟩ := r.ob l v e
      exact ⟨q, w, (Ext.newLoc (o := o) hp).loc h1, by rw [upd_ne (ne_of_none h2 hp)]; exact h2, h3.ext (Ext.newLoc hp)⟩
    · have hl2 : l = h.length := by
        have := (List.getElem?_eq_some_iff.mp e).1
        rw [List.length_append] at this
        simp only [List.length_cons, List.length_nil] at this
        omega
      subst hl2
      rw [List.getElem?_append_right (Nat.le_refl _), Nat.sub_self] at e
      cases e
      refine ⟨p, o, ?_, upd_same, ho⟩
      rw [← r.len, List.getElem?_append_right (Nat.le_refl _), Nat.sub_self]
      rfl
theorem RH.write {L : Lk} {ι : List Addr} {H : Hp} {h : PHeap} (r : RH L ι H h) {l : Nat} {p : Addr} {o : HO} {u : PO} (hl : ι[l]? = some p) (ho : RO L ι (upd H p o) u o) : RH L ι (upd H p o) (h.set l u) := by
  have hp : p ∈ ι := List.mem_of_getElem? hl
  refine ⟨by rw [List.length_set]; exact r.len, r.nd, fun j v e => ?_⟩
  by_cases hj : l = j
  · subst hj
    have hlt : l < h.length := by rw [← r.len]; exact (List.getElem?_eq_some_iff.mp hl).1
    rw [List.getElem?_set_self hlt] at e
    cases e
    exact ⟨p, o, hl, upd_same, ho⟩
  · rw [List.getElem?_set_ne hj] at e
    obtain ⟨q, w, h1, h2, h3⟩ := r.ob j v e
    have hne : q ≠ p := fun z => hj (by
      obtain ⟨i1, e1⟩ := List.getElem?_eq_some_iff.mp hl
      obtain ⟨i2, e2⟩ := List.getElem?_eq_some_iff.mp h1
      exact (List.getElem_inj r.nd).mp (e1.trans (z ▸ e2.symm)))
    exact ⟨q, w, h1, by rw [upd_ne hne]; exact h2, h3.ext (Ext.write hp)⟩
/-- a new list, as a value or at a new place -/
theorem okV.mkL {L : Lk} {ι : List Addr} {H : Hp} {h : PHeap} {mu : Bool} {xs : List PV} {vs : List V} {Q : VK} {W : Value → Option Addr → Hp → Prop} (r : RH L ι H h) (hv : RVs L ι H xs vs) (hz : vs.length ≤ sizeLine) (hq : okV L ι H (mkL mu xs h) Q W) {p : Addr} (hp : H p = none) : Q (.ref p) (upd H p (.lst vs)) := by
  have hn : p ∉ ι := fun z => by obtain ⟨w, e⟩ := r.at_ z; rw [hp] at e; cases e
  unfold Rf.mkL at hq
  cases mu with
  | true =>
    rw [if_pos rfl] at hq
    refine hq (ι ++ [p]) (upd H p (.lst vs)) (.ref p) (Ext.newLoc hp) (r.newLoc hp ⟨vs, rfl, hz, RVs.ext (Ext.newLoc hp) _ _ hv⟩) ?_
    simp only [RV]
    exact ⟨p, rfl, by rw [← r.len, List.getElem?_append_right (Nat.le_refl _), Nat.sub_self]; rfl⟩
  | false =>
    rw [if_neg Bool.false_ne_true] at hq
    refine hq ι (upd H p (.lst vs)) (.ref p) (Ext.new hp) (r.new hp) ?_
    simp only [RV]
    exact ⟨p, vs, rfl, hn, upd_same, hz, RVs.ext (Ext.new hp) _ _ hv⟩
theorem okV.newTup {L : Lk} {ι : List Addr} {H : Hp} {h : PHeap} {xs : List PV} {vs : List V} {Q : VK} {W : Value → Option Addr → Hp → Prop} (r : RH L ι H h) (hv : RVs L ι H xs vs) (hz : vs.length ≤ sizeLine) (hq : okV L ι H (.ok (.tup xs) h) Q W) {p : Addr} (hp : H p = none) : Q (.ref p) (upd H p (.tup vs)) := by
  have hn : p ∉ ι := fun z => by obtain ⟨w, e⟩ := r.at_ z; rw [hp] at e; cases e
  refine hq ι (upd H p (.tup vs)) (.ref p) (Ext.new hp) (r.new hp) ?_
  simp only [RV]
  exact ⟨p, vs, rfl, .inl ⟨hn, .inl upd_same⟩, hz, RVs.ext (Ext.new hp) _ _ hv⟩
end Rf
end

section
set_option Elab.async false
set_option linter.all false
set_option maxRecDepth 100000
set_option maxHeartbeats 4000000
namespace Rf
open PySem PySem.Spec L2

theorem szB_eq : szB = sizeLine := by rw [sizeLine_eq]; rfl
/-- by values -/
def rOf (L : Lk) (op : PV → PV → PHeap → Res PV) : R2 := fun x y H Q => ∃ ι v w h W, RV L ι H v x ∧ RV L ι H w y ∧ RH L ι H h ∧ okV L ι H (op v w h) Q W
def rBi (L : Lk) (op : List PV → PHeap → Res PV) : List V → Hp → VK → Prop := fun xs H Q => ∃ ι vs h W, RVs L ι H vs xs ∧ RH L ι H h ∧ okV L ι H (op vs h) Q W
def rMt (L : Lk) (op : PV → List PV → PHeap → Res PV) : V → List V → Hp → VK → Prop := fun x xs H Q => ∃ ι v vs h W, RV L ι H v x ∧ RVs L ι H vs xs ∧ RH L ι H h ∧ okV L ι H (op v vs h) Q W
theorem okV.here {L : Lk} {ι : List Addr} {H : Hp} {h : PHeap} {v : PV} {u : V} {Q : VK} {W : Value → Option Addr → Hp → Prop} (hq : okV L ι H (.ok v h) Q W) (rh : RH L ι H h) (r : RV L ι H v u) : Q u H := hq ι H u (Ext.refl ι H) rh r
theorem rv_int {L : Lk} {ι : List Addr} {H : Hp} (i : Int) : RV L ι H (.int i) (.int i) := by simp only [RV]
theorem rv_bl {L : Lk} {ι : List Addr} {H : Hp} (i : Bool) : RV L ι H (.bl i) (.bl i) := by simp only [RV]
theorem rv_non {L : Lk} {ι : List Addr} {H : Hp} : RV L ι H .non .non := by simp only [RV]
theorem rv_str {L : Lk} {ι : List Addr} {H : Hp} {x : Str} (h : x.length ≤ sizeLine) : RV L ι H (.str x) (.str x) := by simp only [RV, true_and]; exact h
theorem rv_byt {L : Lk} {ι : List Addr} {H : Hp} {x : Array UInt8} (h : x.size ≤ sizeLine) : RV L ι H (.byt x) (.byt x) := by simp only [RV, true_and]; exact h
theorem RVs.one {L : Lk} {ι : List Addr} {H : Hp} {v : PV} {xs : List V} (h : RVs L ι H [v] xs) : ∃ x, xs = [x] ∧ RV L ι H v x := by
  simp only [RVs] at h
  obtain ⟨x, r, rfl, h1, rfl⟩ := h
  exact ⟨x, rfl, h1⟩
theorem RVs.two {L : Lk} {ι : List Addr} {H : Hp} {v w : PV} {xs : List V} (h : RVs L ι H [v, w] xs) : ∃ x y, xs = [x, y] ∧ RV L ι H v x ∧ RV L ι H w y := by
  simp only [RVs] at h
  obtain ⟨x, r, rfl, h1, y, r2, rfl, h2, rfl⟩ := h
  exact ⟨x, y, rfl, h1, h2⟩
theorem RVs.zero {L : Lk} {ι : List Addr} {H : Hp} {xs : List V} (h : RVs L ι H [] xs) : xs = [] := by simpa only [RVs] using h
/-- a list or tuple that deref gives, in the heap -/
theorem seq_tup {L : Lk} {ι : List Addr} {H : Hp} {p : Addr} {vs : List V} (h : (p ∉ ι ∧ Rd H p (.tup vs)) ∨ KT L.K p vs) : SqT L.K H p vs := by
  rcases h with ⟨_, h⟩ | h
  · exact .inl h
  · exact .inr h
theorem seq_lst {L : Lk} {ι : List Addr} {H : Hp} {p : Addr} {vs : List V} (h : (p ∉ ι ∧ Rd H p (.lst vs)) ∨ KLs L.K p vs) : SqL L.K H p vs := by
  rcases h with ⟨_, h⟩ | h
  · exact .inl h
  · exact .inr h
theorem deref_loc (h : PHeap) (l : Nat) : (∃ xs, h[l]? = some (.lst xs) ∧ deref h (.loc l) = .lst xs) ∨ deref h (.loc l) = .loc l := by
  simp only [deref]
  cases e : h[l]? with
  | none => exact .inr rfl
  | some o =>
    cases o with
    | lst xs => exact .inl ⟨xs, rfl, rfl⟩
    | _ => exact .inr rfl
theorem deref_tup {L : Lk} {ι : List Addr} {H : Hp} {h : PHeap} {v : PV} {x : V} {xs : List PV} (rh : RH L ι H h) (r : RV L ι H v x) (e : deref h v = .tup xs) : v = .tup xs := by
  cases v with
  | loc l =>
    rcases deref_loc h l with ⟨ys, _, e1⟩ | e1 <;> rw [e1] at e <;> cases e
  | _ => exact e
theorem deref_scr {L : Lk} {ι : List Addr} {H : Hp} {h : PHeap} {v : PV} {x : V} {xs : List PV} (rh : RH L ι H h) (r : RV L ι H v x) (e : deref h v = .scr xs) : v = .scr xs := by
  cases v with
  | loc l =>
    rcases deref_loc h l with ⟨ys, _, e1⟩ | e1 <;> rw [e1] at e <;> cases e
  | _ => exact e
theorem is_tup {L : Lk} {ι : List Addr} {H : Hp} {h : PHeap} {v : PV} {x : V} {xs : List PV} (rh : RH L ι H h) (r : RV L ι H v x) (e : deref h v = .tup xs) : ∃ p vs, x = .ref p ∧ SqT L.K H p vs ∧ vs.length ≤ sizeLine ∧ RVs L ι H xs vs := by
  cases deref_tup rh r e
  simp only [RV] at r
  obtain ⟨p, vs, rfl, hp, hz, r⟩ := r
  exact ⟨p, vs, rfl, seq_tup hp, hz, r⟩
theorem is_lst {L : Lk} {ι : List Addr} {H : Hp} {h : PHeap} {v : PV} {x : V} {xs : List PV} (rh : RH L ι H h) (r : RV L ι H v x) (e : deref h v = .lst xs) : ∃ p vs, x = .ref p ∧ H p = some (.lst vs) ∧ vs.length ≤ sizeLine ∧ RVs L ι H xs vs := by
  cases v with
  | loc l =>
    simp only [RV] at r
    obtain ⟨p, rfl, hp⟩ := r
    rcases deref_loc h l with ⟨ys, hl, e1⟩ | e1
    · rw [e1] at e
      cases e
      obtain ⟨q, u, h1, h2, vs, rfl, hz, r⟩ := rh.ob l _ hl
      rw [hp] at h1
      cases h1
      exact ⟨p, vs, rfl, h2, hz, r⟩
    · rw [e1] at e
      cases e
  | lst ys =>
    have e' : PV.lst ys = PV.lst xs := e
    cases e'
    simp only [RV] at r
    obtain ⟨p, vs, rfl, _, h2, hz, r⟩ := r
    exact ⟨p, vs, rfl, h2, hz, r⟩
  | non => exact nomatch (show PV.non = PV.lst xs from e)
  | bl b => exact nomatch (show PV.bl b = PV.lst xs from e)
  | int b => exact nomatch (show PV.int b = PV.lst xs from e)
  | str b => exact nomatch (show PV.str b = PV.lst xs from e)
  | byt b => exact nomatch (show PV.byt b = PV.lst xs from e)
  | ty b => exact nomatch (show PV.ty b = PV.lst xs from e)
  | tup b => exact nomatch (show PV.tup b = PV.lst xs from e)
  | scr b => exact nomatch (show PV.scr b = PV.lst xs from e)
theorem is_lstq {L : Lk} {ι : List Addr} {H : Hp} {h : PHeap} {v : PV} {x : V} {xs : List PV} (rh : RH L ι H h) (r : RV L ι H v x) (e : deref h v = .lst xs) : ∃ p vs, x = .ref p ∧ SqL L.K H p vs ∧ vs.length ≤ sizeLine ∧ RVs L ι H xs vs :=
  let ⟨p, vs, e1, h1, hz, r1⟩ := is_lst rh r e
  ⟨p, vs, e1, SqL.of h1, hz, r1⟩
theorem is_scr {L : Lk} {ι : List Addr} {H : Hp} {h : PHeap} {v : PV} {x : V} {xs : List PV} (rh : RH L ι H h) (r : RV L ι H v x) (e : deref h v = .scr xs) : ∃ p vs, x = .ref p ∧ SqL L.K H p vs ∧ vs.length ≤ sizeLine ∧ RVs L ι H xs vs := by
  cases deref_scr rh r e
  simp only [RV] at r
  obtain ⟨p, vs, rfl, hp, hz, r⟩ := r
  exact ⟨p, vs, rfl, seq_lst hp, hz, r⟩
theorem is_seq {L : Lk} {ι : List Addr} {H : Hp} {h : PHeap} {v : PV} {x : V} {xs : List PV} (rh : RH L ι H h) (r : RV L ι H v x) (e : seqOf h v = some xs) : ∃ p vs, x = .ref p ∧ (SqL L.K H p vs ∨ SqT L.K H p vs) ∧ vs.length ≤ sizeLine ∧ RVs L ι H xs vs := by
  unfold seqOf at e
  split at e
  · cases e; obtain ⟨p, vs, e1, h1, hz, r1⟩ := is_tup rh r (by assumption); exact ⟨p, vs, e1, .inr h1, hz, r1⟩
  · cases e; obtain ⟨p, vs, e1, h1, hz, r1⟩ := is_lstq rh r (by assumption); exact ⟨p, vs, e1, .inl h1, hz, r1⟩
  · cases e; obtain ⟨p, vs, e1, h1, hz, r1⟩ := is_scr rh r (by assumption); exact ⟨p, vs, e1, .inl h1, hz, r1⟩
  · cases e
theorem is_list {L : Lk} {ι : List Addr} {H : Hp} {h : PHeap} {v : PV} {x : V} {xs : List PV} (rh : RH L ι H h) (r : RV L ι H v x) (e : lstOf h v = some xs) : ∃ p vs, x = .ref p ∧ SqL L.K H p vs ∧ vs.length ≤ sizeLine ∧ RVs L ι H xs vs := by
  unfold lstOf at e
  split at e
  · cases e; exact is_lstq rh r (by assumption)
  · cases e; exact is_scr rh r (by assumption)
  · cases e
theorem ints_of {L : Lk} {ι : List Addr} {H : Hp} : ∀ {xs : List PV} {vs : List V} {ns : List Int}, RVs L ι H xs vs → allOf intOf xs = some ns → vs = ns.map V.int
  | [], _, ns, h, e => by cases h.zero; cases e; rfl
  | x :: xs, _, ns, h, e => by
    simp only [RVs] at h
    obtain ⟨v, r, rfl, h1, h2⟩ := h
    simp only [allOf] at e
    split at e
    · rename_i a ns' e1 e2
      cases e
      cases x with
      | int i =>
        cases e1
        simp only [RV] at h1
        subst h1
        rw [ints_of h2 e2]
        rfl
      | _ => cases e1
    · cases e
theorem bls_of {L : Lk} {ι : List Addr} {H : Hp} : ∀ {xs : List PV} {vs : List V} {ns : List Bool}, RVs L ι H xs vs → allOf blOf xs = some ns → vs = ns.map V.bl
  | [], _, ns, h, e => by cases h.zero; cases e; rfl
  | x :: xs, _, ns, h, e => by
    simp only [RVs] at h
    obtain ⟨v, r, rfl, h1, h2⟩ := h
    simp only [allOf] at e
    split at e
    · rename_i a ns' e1 e2
      cases e
      cases x with
      | bl i =>
        cases e1
        simp only [RV] at h1
        subst h1
        rw [bls_of h2 e2]
        rfl
      | _ => cases e1
    · cases e
theorem strs_of {L : Lk} {ι : List Addr} {H : Hp} : ∀ {xs : List PV} {vs : List V} {ns : List Str}, RVs L ι H xs vs → allOf strOf xs = some ns → vs = ns.map V.str
  | [], _, ns, h, e => by cases h.zero; cases e; rfl
  | x :: xs, _, ns, h, e => by
    simp only [RVs] at h
    obtain ⟨v, r, rfl, h1, h2⟩ := h
    simp only [allOf] at e
    split at e
    · rename_i a ns' e1 e2
      cases e
      cases x with
      | str i =>
        cases e1
        simp only [RV] at h1
        obtain ⟨rfl, _⟩ := h1
        rw [strs_of h2 e2]
        rfl
      | _ => cases e1
    · cases e
mutual
theorem toD_plain : ∀ (v : PV) (d : PyData), toD v = some d → d.plain = true
  | .non, _, e => by simp only [toD] at e; cases e; rfl
  | .bl _, _, e => by simp only [toD] at e; cases e; rfl
  | .int _, _, e => by simp only [toD] at e; cases e; rfl
  | .str _, _, e => by simp only [toD] at e; cases e; rfl
  | .tup xs, d, e => by
    simp only [toD, Option.map_eq_some_iff] at e
    obtain ⟨ds, e1, rfl⟩ := e
    simp only [PyData.plain]
    exact toDs_plain xs ds e1
  | .lst xs, d, e => by
    simp only [toD, Option.map_eq_some_iff] at e
    obtain ⟨ds, e1, rfl⟩ := e
    simp only [PyData.plain]
    exact toDs_plain xs ds e1
  | .scr xs, d, e => by
    simp only [toD, Option.map_eq_some_iff] at e
    obtain ⟨ds, e1, rfl⟩ := e
    simp only [PyData.plain]
    exact toDs_plain xs ds e1
  | .byt _, _, e => by simp only [toD] at e; cases e
  | .ty _, _, e => by simp only [toD] at e; cases e
  | .loc _, _, e => by simp only [toD] at e; cases e
theorem toDs_plain : ∀ (xs : List PV) (ds : List PyData), toDs xs = some ds → PyData.plainAll ds = true
  | [], _, e => by simp only [toDs] at e; cases e; rfl
  | x :: xs, _, e => by
    simp only [toDs] at e
    split at e
    · rename_i d ds e1 e2
      cases e
      simp only [PyData.plainAll, toD_plain x d e1, toDs_plain xs ds e2, Bool.and_self]
    · cases e
end
mutual
theorem dp_of {L : Lk} {ι : List Addr} {H : Hp} : ∀ (v : PV) (x : V) (d : PyData), RV L ι H v x → toD v = some d → Dp L.K H x d
  | .non, _, _, r, e => by simp only [toD] at e; cases e; simp only [RV] at r; subst r; exact .non
  | .bl _, _, _, r, e => by simp only [toD] at e; cases e; simp only [RV] at r; subst r; exact .bl _
  | .int _, _, _, r, e => by simp only [toD] at e; cases e; simp only [RV] at r; subst r; exact .int _
  | .str _, _, _, r, e => by simp only [toD] at e; cases e; simp only [RV] at r; obtain ⟨rfl, _⟩ := r; exact .str _
  | .tup xs, _, d, r, e => by
    simp only [toD, Option.map_eq_some_iff] at e
    obtain ⟨ds, e1, rfl⟩ := e
    simp only [RV] at r
    obtain ⟨p, vs, rfl, hp, _, r⟩ := r
    exact .tup (seq_tup hp) (dps_of xs vs ds r e1)
  | .lst xs, _, d, r, e => by
    simp only [toD, Option.map_eq_some_iff] at e
    obtain ⟨ds, e1, rfl⟩ := e
    simp only [RV] at r
    obtain ⟨p, vs, rfl, _, hp, _, r⟩ := r
    exact .lst (SqL.of hp) (dps_of xs vs ds r e1)
  | .scr xs, _, d, r, e => by
    simp only [toD, Option.map_eq_some_iff] at e
    obtain ⟨ds, e1, rfl⟩ := e
    simp only [RV] at r
    obtain ⟨p, vs, rfl, hp, _, r⟩ := r
    exact .lst (seq_lst hp) (dps_of xs vs ds r e1)
  | .byt _, _, _, _, e => by simp only [toD] at e; cases e
  | .ty _, _, _, _, e => by simp only [toD] at e; cases e
  | .loc _, _, _, _, e => by simp only [toD] at e; cases e
theorem dps_of {L : Lk} {ι : List Addr} {H : Hp} : ∀ (xs : List PV) (vs : List V) (ds : List PyData), RVs L ι H xs vs → toDs xs = some ds → DpAll L.K H vs ds
  | [], _, _, r, e => by simp only [toDs] at e; cases e; cases r.zero; exact .nil
  | x :: xs, _, _, r, e => by
    simp only [RVs] at r
    obtain ⟨v, vs, rfl, h1, h2⟩ := r
    simp only [toDs] at e
    split at e
    · rename_i d ds e1 e2
      cases e
      exact .cons (dp_of x v d h1 e1) (dps_of xs vs ds h2 e2)
    · cases e
end
/-- behind deref -/
theorem dp_deref {L : Lk} {ι : List Addr} {H : Hp} {h : PHeap} {v : PV} {x : V} {d : PyData} (rh : RH L ι H h) (r : RV L ι H v x) (e : toD (deref h v) = some d) : Dp L.K H x d := by
  cases v with
  | loc l =>
    rcases deref_loc h l with ⟨xs, e0, e1⟩ | e1
    · obtain ⟨p, vs, rfl, hp, hz, r1⟩ := is_lst rh r e1
      rw [e1] at e
      simp only [toD, Option.map_eq_some_iff] at e
      obtain ⟨ds, e2, rfl⟩ := e
      exact .lst (SqL.of hp) (dps_of xs vs ds r1 e2)
    · rw [e1] at e
      simp only [toD] at e
      cases e
  | _ => exact dp_of _ x d r e
/-- a place that is a dict -/
theorem at_dK {L : Lk} {ι : List Addr} {H : Hp} {h : PHeap} {l : Nat} {x : V} {kvs : List (Key × PV)} (rh : RH L ι H h) (r : RV L ι H (.loc l) x) (e : h[l]? = some (.dK kvs)) : ∃ p vs, x = .ref p ∧ ι[l]? = some p ∧ H p = some (.dK vs) ∧ Paired (fun (p : Key × PV) (q : Key × V) => p.1 = q.1 ∧ RV L ι H p.2 q.2) kvs vs ∧ ∀ p ∈ kvs, KeyZ p.1 := by
  simp only [RV] at r
  obtain ⟨p, rfl, hp⟩ := r
  obtain ⟨q, u, h1, h2, vs, rfl, r, z⟩ := rh.ob l _ e
  rw [hp] at h1
  cases h1
  exact ⟨p, vs, rfl, hp, h2, r, z⟩
theorem at_lst {L : Lk} {ι : List Addr} {H : Hp} {h : PHeap} {l : Nat} {x : V} {xs : List PV} (rh : RH L ι H h) (r : RV L ι H (.loc l) x) (e : h[l]? = some (.lst xs)) : ∃ p vs, x = .ref p ∧ ι[l]? = some p ∧ H p = some (.lst vs) ∧ vs.length ≤ sizeLine ∧ RVs L ι H xs vs := by
  simp only [RV] at r
  obtain ⟨p, rfl, hp⟩ := r
  obtain ⟨q, u, h1, h2, vs, rfl, hz, r⟩ := rh.ob l _ e
  rw [hp] at h1
  cases h1
  exact ⟨p, vs, rfl, hp, h2, hz, r⟩

/-! ### binary operators -/
section
variable {L : Lk} {X : Cx}
theorem op_powP : OpR X (binaryOp .Pow) (rI PowOk fun i j => .int (i ^ j.toNat)) := opI fun i j _ _ _ _ _ hc q => by
  refine PyProof.Rows.pow_int hc.1 ?_ q
  have h2 := hc.2
  have b : Builtin.Int.intBits i ≤ i.natAbs.log2 + 1 := by
    unfold Builtin.Int.intBits
    split <;> omega
  refine Int.le_trans (Int.mul_le_mul_of_nonneg_right ?_ hc.1) h2
  omega
/-- () * k -/
theorem tuple_mul0 (l : Addr) (n : Nat) (dd : Option Addr) (sl : Array (Option Value)) (x : Int) (u : Tok) (c0 : (decide (x < -(2 ^ 63)) || decide (x ≥ 2 ^ 63)) = false) :
    Meets (Builtin.«tuple.__mul__» ⟨[.ref l, .int x u], []⟩) (fun _ R s => s.heap.get? l = some { cls := .type "tuple", dict := dd, data := .seq #[] n, slots := sl } ∧
      R (.ok (.ret (Value.ref l))) s) :=
  .of_wp fun prog w A R s h => by
    obtain ⟨hp, g, d, tk, os⟩ := s
    obtain ⟨hl, h⟩ := h
    have f1 := AutoSeq1.idx_int
    have c1 : ((#[] : Array Value).isEmpty || x == 1) = true := rfl
    wp_walk using wpAny_loadPart' hl
    repeat (first
      | (refine wpAny_ite_false (decide_eq_false (by rw [c0]; exact Bool.false_ne_true)) ?_; wp_walk using wpAny_loadPart' hl)
      | (refine wpAny_ite_true (decide_eq_true c1) ?_; wp_walk using wpAny_loadPart' hl))
    exact ⟨_, rfl, h⟩
end
end Rf
end

section
set_option Elab.async false
set_option linter.all false
set_option maxRecDepth 100000
set_option maxHeartbeats 4000000
namespace Rf
open PySem PySem.Spec L2
section
variable {L : Lk} {X : Cx}
theorem ty_tuple_mul0 {l : Addr} {k : Int} {t : Tok} {s : Shared} {A : Around} {P : Program} {w : World} {E : Value → Shared → Prop} {Q : Value → Shared → Prop} (h : PyProof.Rows.IsTup s.heap l (#[] : Array Value)) (h1 : 2 ≤ k) (h2 : k ≤ 1000) (q : Q (.ref l) s) :
    wpAny (model P w) A (binaryOp .Mult (.ref l) (.int k t)) Q E s := by
  obtain ⟨⟨cls, dd, data, sl⟩, ho, hc, n, hd⟩ := h
  simp only at hc hd
  subst hc hd
  have c0 : (decide (k < -(2 ^ 63)) || decide (k ≥ 2 ^ 63)) = false := by
    rw [decide_eq_false (by omega), decide_eq_false (by omega)] <;> rfl
  exact wpAny_binaryOp_repeat_ref (T := "tuple") (U := "int") (by decide) ⟨_, ho, rfl⟩ (fun s' => typeIs_int s' k t) noFill_tuple_mul PySem.F.fills_int_mul PySem.F.slot_int_rmul repeat_tuple PySem.F.slot_int_index.lookup
    (call_meets PySem.F.slot_int_rmul (typeIs_int s k t) PySem.F.entry_int_rmul (PySem.F.args_int_rmul_2 _ _) (int_rmul_tuple k t l #[] n dd sl)
      ⟨ho, rfl, ⟨_, ho, rfl⟩, call_meets PySem.F.slot_tuple_mul ⟨_, ho, rfl⟩ PySem.F.entry_tuple_mul (PySem.F.args_tuple_mul_2 _ _) (tuple_mul0 l n dd sl k t c0) ⟨ho, q⟩⟩)
theorem opr_add (hK : X.K = L.K) : OpR X (binaryOp .Add) (rOf L (binOp .add)) := by
  obtain ⟨K, cA⟩ := L
  cases hK
  rintro pins s σ H x y v u Q I rx ry ⟨ι, a, b, h, W', ra, rb, rh, hq⟩
  cases a <;> cases b <;> try exact hq.elim
  · simp only [RV] at ra rb
    subst ra rb
    exact op_add pins s σ H _ _ v u Q I rx ry ⟨_, _, rfl, rfl, okV.here hq rh (rv_int _)⟩
  · obtain ⟨hc, hq⟩ := okA.guard hq
    simp only [RV] at ra rb
    obtain ⟨rfl, _⟩ := ra
    obtain ⟨rfl, _⟩ := rb
    rw [szB_eq] at hc
    exact op_add_str pins s σ H _ _ v u Q I rx ry ⟨_, _, rfl, rfl, hc, okV.here hq rh (rv_str (by rw [Str.length_append]; exact hc))⟩
  · rename_i xs ys
    obtain ⟨hc, hq⟩ := okA.guard hq
    obtain ⟨p, vs, rfl, h1, z1, r1⟩ := is_tup (xs := xs) rh ra rfl
    obtain ⟨q, ws, rfl, h2, z2, r2⟩ := is_tup (xs := ys) rh rb rfl
    rw [szB_eq] at hc
    have hc' : vs.length + ws.length ≤ sizeLine := by rw [← r1.length, ← r2.length]; exact hc
    refine op_catA pins s σ H _ _ v u Q I rx ry ⟨p, q, vs, ws, rfl, rfl, h1, h2, hc', fun e => ?_, fun e1 e2 => ?_, fun _ _ p' hp => okV.newTup rh (r1.append r2) (by rw [List.length_append]; exact hc') hq hp⟩
    · subst e
      cases xs with
      | nil => exact okV.here hq rh rb
      | cons x xs => exact absurd r1.length (by simp)
    · subst e2
      cases ys with
      | nil => exact okV.here hq rh (by rw [List.append_nil]; exact ra)
      | cons x xs => exact absurd r2.length (by simp)
theorem opr_sub : OpR X (binaryOp .Sub) (rOf L (binOp .sub)) := by
  rintro pins s σ H x y v u Q I rx ry ⟨ι, a, b, h, W', ra, rb, rh, hq⟩
  cases a <;> cases b <;> try exact hq.elim
  simp only [RV] at ra rb
  subst ra rb
  exact op_sub pins s σ H _ _ v u Q I rx ry ⟨_, _, rfl, rfl, okV.here hq rh (rv_int _)⟩
theorem RVs.rep {ι : List Addr} {H : Hp} {xs : List PV} {vs : List V} (h : RVs L ι H xs vs) : ∀ k : Nat, RVs L ι H (List.replicate k xs).flatten (List.replicate k vs).flatten
  | 0 => by simp [RVs]
  | k + 1 => by
    rw [List.replicate_succ, List.replicate_succ, List.flatten_cons, List.flatten_cons]
    exact h.append (RVs.rep h k)
theorem fold_app : ∀ (l : List (Array Nat)) (a : Array Nat), l.foldl (· ++ ·) a = a ++ l.foldl (· ++ ·) #[]
  | [], a => by simp
  | x :: l, a => by
    rw [List.foldl_cons, List.foldl_cons, fold_app l (a ++ x), fold_app l (#[] ++ x)]
    simp [Array.append_assoc]
theorem repS_succ (x : Str) (n : Nat) : repS x (n + 1) = x ++ repS x n := by
  show (⟨(List.replicate (n + 1) x.cps).foldl (· ++ ·) #[]⟩ : Str) = ⟨x.cps ++ (List.replicate n x.cps).foldl (· ++ ·) #[]⟩
  rw [List.replicate_succ, List.foldl_cons, fold_app]
  simp
theorem repS_zero (x : Str) : repS x 0 = Str.empty := rfl
theorem str_empty {x : Str} (h : x.length = 0) : x = Str.empty := by
  obtain ⟨c⟩ := x
  have h : c.size = 0 := h
  show (⟨c⟩ : Str) = ⟨#[]⟩
  rw [Array.eq_empty_of_size_eq_zero h]
theorem app_empty (y : Str) : y ++ Str.empty = y := by
  show (⟨y.cps ++ #[]⟩ : Str) = y
  simp
theorem repS_one (x : Str) : repS x 1 = x := by rw [repS_succ, repS_zero, app_empty]
theorem repS_nil {x : Str} (h : x.length = 0) : ∀ n, repS x n = x
  | 0 => (str_empty h).symm
  | n + 1 => by rw [repS_succ, repS_nil h n]; rw [str_empty h]; exact app_empty _
theorem repS_len (x : Str) : ∀ n, (repS x n).length = n * x.length
  | 0 => by rw [repS_zero]; simp; rfl
  | n + 1 => by rw [repS_succ, Str.length_append, repS_len x n, Nat.add_mul]; omega
theorem op_repS {pins : List (Addr × Obj)} {s : Shared} {σ : L2.St} {H : Hp} {x : Str} {k : Int} {v u : Value} {Q : VK} (I : Inv X pins σ H s) (rx : RelV (.str x) v) (ry : RelV (.int k) u) (h0 : 0 ≤ k) (h1 : k ≤ 1000) (h2 : x.length ≤ 1000) (q : Q (.str (repS x k.toNat)) H) :
    wpAny (model X.prog X.w) X.A (binaryOp .Mult v u) (EP X pins σ Q) X.xe s := by
  obtain ⟨t, rfl⟩ := rx
  obtain ⟨t', rfl⟩ := ry
  have e1 : (decide (k < -(2 ^ 63 : Int)) || decide (k ≥ 2 ^ 63)) = false := by rw [decide_eq_false (by omega), decide_eq_false (by omega)]; rfl
  have hm : x.length * k.toNat ≤ 1000 * 1000 := Nat.mul_le_mul h2 (by omega)
  refine P.mul_str e1 (fun hn hx => ?_) (fun hn hx => PyProof.Rows.short24 (by omega)) ?_
  · have hd : (2 ^ 63 - 1 : Int) / 1000 ≤ (2 ^ 63 - 1) / k := by
      have hk : 0 < k := by omega
      refine (Int.le_ediv_iff_mul_le hk).mpr ?_
      have e3 : (2 ^ 63 - 1 : Int) / 1000 = 9223372036854775 := by decide
      rw [e3]
      have : (9223372036854775 : Int) * k ≤ 9223372036854775 * 1000 := Int.mul_le_mul_of_nonneg_left h1 (by decide)
      omega
    have e3 : (2 ^ 63 - 1 : Int) / 1000 = 9223372036854775 := by decide
    omega
  · by_cases hn : k < 1
    · have : k = 0 := by omega
      subst this
      rw [if_pos hn]
      exact ⟨by decide, ⟨.str _, H, I.tok _, ⟨_, rfl⟩, q⟩⟩
    · rw [if_neg hn]
      by_cases hx : (k == 1 || x.length == 0) = true
      · rw [if_pos hx]
        have e : repS x k.toNat = x := by
          rw [Bool.or_eq_true] at hx
          rcases hx with z | z
          · rw [show k = 1 from by simpa using z]; exact repS_one x
          · exact repS_nil (by simpa using z) _
        rw [e] at q
        exact ⟨.str x, H, I, ⟨_, rfl⟩, q⟩
      · rw [if_neg hx]
        refine ⟨?_, ⟨.str _, H, I.tok _, ⟨_, rfl⟩, q⟩⟩
        show (repS x k.toNat).length ≤ sizeLine
        rw [repS_len, sizeLine_eq, Nat.mul_comm]
        omega
theorem opr_mul (hK : X.K = L.K) : OpR X (binaryOp .Mult) (rOf L (binOp .mul)) := by
  obtain ⟨K, cA⟩ := L
  cases hK
  rintro pins s σ H x y v u Q I rx ry ⟨ι, a, b, h, W', ra, rb, rh, hq⟩
  cases a <;> cases b <;> try exact hq.elim
  · obtain ⟨hc, hq⟩ := okA.guard hq
    simp only [RV] at ra rb
    subst ra rb
    rcases hc with hc | hc | hc
    · exact op_mul pins s σ H _ _ v u Q I rx ry ⟨_, _, rfl, rfl, .inl hc, okV.here hq rh (rv_int _)⟩
    · exact op_mul pins s σ H _ _ v u Q I rx ry ⟨_, _, rfl, rfl, .inr hc, okV.here hq rh (rv_int _)⟩
    · exact op_mulW pins s σ H _ _ v u Q I rx ry ⟨_, _, rfl, rfl, hc, okV.here hq rh (rv_int _)⟩
  · rename_i z k
    obtain ⟨hc, hq⟩ := okA.guard hq
    simp only [RV] at ra rb
    obtain ⟨rfl, hz⟩ := ra
    subst rb
    refine op_repS I rx ry hc.1 hc.2.1 hc.2.2 (okV.here hq rh (rv_str ?_))
    have hm : z.length * k.toNat ≤ 1000 * 1000 := Nat.mul_le_mul hc.2.2 (by omega)
    rw [repS_len, sizeLine_eq, Nat.mul_comm]
    omega
  · rename_i xs k
    obtain ⟨hc, hq⟩ := okA.guard hq
    obtain ⟨p, vs, rfl, h1, z1, r1⟩ := is_tup (xs := xs) rh ra rfl
    simp only [RV] at rb
    subst rb
    cases xs with
    | nil =>
      cases r1.zero
      cases rx
      obtain ⟨t, rfl⟩ := ry
      obtain ⟨its, r, ht, hs⟩ := I.tuple h1
      cases r
      exact ty_tuple_mul0 ht hc.1 hc.2.1 ⟨.ref p, H, I, rfl, okV.here hq rh (by rw [show (List.replicate k.toNat ([] : List PV)).flatten = [] by simp]; exact ra)⟩
    | cons x xs =>
      have hne : vs ≠ [] := fun e => by rw [e] at r1; exact absurd r1.length (by simp)
      have hl := r1.length
      refine op_repT pins s σ H _ _ v u Q I rx ry ⟨p, k, vs, rfl, rfl, h1, hne, hc.1, hc.2.1, by rw [← hl]; exact hc.2.2, fun p' hp => okV.newTup rh (RVs.rep r1 k.toNat) ?_ hq hp⟩
      rw [PyProof.Rows.lm_len_rep_flat, sizeLine_eq, ← hl]
      have a1 : k.toNat * (x :: xs).length ≤ 1000 * 1000 := Nat.mul_le_mul (by omega) hc.2.2
      omega
theorem opr_fdiv : OpR X (binaryOp .FloorDiv) (rOf L (binOp .fdiv)) := by
  rintro pins s σ H x y v u Q I rx ry ⟨ι, a, b, h, W', ra, rb, rh, hq⟩
  cases a <;> cases b <;> try exact hq.elim
  obtain ⟨hc, hq⟩ := okA.guard hq
  simp only [RV] at ra rb
  subst ra rb
  exact op_fdivW pins s σ H _ _ v u Q I rx ry ⟨_, _, rfl, rfl, hc, okV.here hq rh (rv_int _)⟩
theorem opr_mod : OpR X (binaryOp .Mod) (rOf L (binOp .mod)) := by
  rintro pins s σ H x y v u Q I rx ry ⟨ι, a, b, h, W', ra, rb, rh, hq⟩
  cases a <;> cases b <;> try exact hq.elim
  obtain ⟨hc, hq⟩ := okA.guard hq
  simp only [RV] at ra rb
  subst ra rb
  exact op_mod pins s σ H _ _ v u Q I rx ry ⟨_, _, rfl, rfl, hc, okV.here hq rh (rv_int _)⟩
theorem opr_pow : OpR X (binaryOp .Pow) (rOf L (binOp .pow)) := by
  rintro pins s σ H x y v u Q I rx ry ⟨ι, a, b, h, W', ra, rb, rh, hq⟩
  cases a <;> cases b <;> try exact hq.elim
  obtain ⟨hc, hq⟩ := okA.guard hq
  simp only [RV] at ra rb
  subst ra rb
  exact op_powP pins s σ H _ _ v u Q I rx ry ⟨_, _, rfl, rfl, hc, okV.here hq rh (rv_int _)⟩
def boO : BO → Operator
  | .add => .Add | .sub => .Sub | .mul => .Mult | .fdiv => .FloorDiv | .mod => .Mod | .pow => .Pow
theorem opr_bin (hK : X.K = L.K) : ∀ o, OpR X (binaryOp (boO o)) (rOf L (binOp o))
  | .add => opr_add hK | .sub => opr_sub | .mul => opr_mul hK | .fdiv => opr_fdiv | .mod => opr_mod | .pow => opr_pow
/-! ### comparisons -/
def coO : CO → CmpOp
  | .eq => .Eq | .ne => .NotEq | .lt => .Lt | .le => .LtE | .gt => .Gt | .ge => .GtE | .is_ => .Is | .isnot => .IsNot | .in_ => .In | .notin => .NotIn
def cmpR (o : CO) : PV → PV → PHeap → Res PV := fun v w h => orStuck (cmpP o h v w) fun k => .ok (.bl k) h
theorem reads_of {pins : List (Addr × Obj)} {σ : L2.St} {H : Hp} {s : Shared} {ι : List Addr} {h : PHeap} {v : PV} {x : V} {u : Value} {d : PyData} (hK : X.K = L.K) (I : Inv X pins σ H s) (rh : RH L ι H h) (ra : RV L ι H v x) (rx : RelV x u) (e : toD (deref h v) = some d) : ∃ as, Reads s.heap u d as := by
  have hd := dp_deref rh ra e
  rw [← hK] at hd
  exact Dp.reads I d x u hd rx
theorem deref_plain {h : PHeap} {v : PV} {d : PyData} (e : toD (deref h v) = some d) : d.plain = true := toD_plain _ _ e
theorem byt_deref {h : PHeap} {a : PV} {b : Array UInt8} (e : deref h a = .byt b) : a = .byt b := by
  cases a with
  | loc l => rcases deref_loc h l with ⟨ys, _, q⟩ | q <;> rw [q] at e <;> cases e
  | _ => exact e
theorem str_deref {h : PHeap} {a : PV} {b : Str} (e : deref h a = .str b) : a = .str b := by
  cases a with
  | loc l => rcases deref_loc h l with ⟨ys, _, q⟩ | q <;> rw [q] at e <;> cases e
  | _ => exact e
theorem loc_deref {h : PHeap} {a : PV} {b : Nat} (e : deref h a = .loc b) : a = .loc b := by
  cases a with
  | loc l => rcases deref_loc h l with ⟨ys, _, q⟩ | q <;> rw [q] at e <;> first | (cases e; done) | exact e
  | _ => exact e
theorem dec_byt' (a b : Array UInt8) : decide (V.byt a = V.byt b) = decide (a = b) := by
  by_cases q : a = b
  · subst q; simp
  · rw [decide_eq_false q, decide_eq_false (fun z => q (V.byt.inj z))]
/-- what == answers -/
theorem eqp_ok (hu : X.A.units + 64 < cLine) (hK : X.K = L.K) {pins : List (Addr × Obj)} {σ : L2.St} {H : Hp} {s : Shared} {ι : List Addr} {h : PHeap} {a b : PV} {x y : V} {v u : Value} {k : Bool} {Q : VK} (I : Inv X pins σ H s) (rx : RelV x v) (ry : RelV y u) (ra : RV L ι H a x) (rb : RV L ι H b y) (rh : RH L ι H h)
    (e : eqP h a b = some k) : (Q (.bl k) H → wpAny (model X.prog X.w) X.A (compareOp .Eq v u) (EP X pins σ Q) X.xe s) ∧ (Q (.bl (!k)) H → wpAny (model X.prog X.w) X.A (compareOp .NotEq v u) (EP X pins σ Q) X.xe s) := by
  unfold eqP at e
  split at e
  · rename_i b1 b2 e1 e2
    cases byt_deref e1
    cases byt_deref e2
    cases e
    simp only [RV] at ra rb
    obtain ⟨rfl, _⟩ := ra
    obtain ⟨rfl, _⟩ := rb
    exact ⟨fun q => op_eq pins s σ H _ _ v u Q I rx ry ⟨rfl, by rw [dec_byt']; exact q⟩, fun q => op_ne pins s σ H _ _ v u Q I rx ry ⟨rfl, by rw [dec_byt']; exact q⟩⟩
  · split at e
    · rename_i d e' h1 h2
      split at e
      · rename_i hc
        cases e
        obtain ⟨as, r1⟩ := reads_of hK I rh ra rx h1
        obtain ⟨bs, r2⟩ := reads_of hK I rh rb ry h2
        exact ⟨fun q => PySem.SeqAt.eq_plain r1 r2 (deref_plain h1) (deref_plain h2) (by omega) ⟨.bl _, H, I, rfl, q⟩, fun q => PySem.SeqAt.ne_plain r1 r2 (deref_plain h1) (deref_plain h2) (by omega) ⟨.bl _, H, I, rfl, q⟩⟩
      · cases e
    · cases e
theorem keyOf_V {ι : List Addr} {H : Hp} {a : PV} {x : V} {k : Key} (ra : RV L ι H a x) (e : keyOf a = some k) : x = kV k := by
  cases a <;> simp only [keyOf] at e <;> cases e <;> simp only [RV] at ra
  · exact ra
  · exact ra.1
theorem find_pair {κ : Type} [DecidableEq κ] {ι : List Addr} {H : Hp} {kvs : List (κ × PV)} {vs : List (κ × V)} (r : Paired (fun (p : κ × PV) (q : κ × V) => p.1 = q.1 ∧ RV L ι H p.2 q.2) kvs vs) (k : κ) :
    (∀ y, (kvs.find? fun kv => decide (kv.1 = k)).map (·.2) = some y → ∃ z, valV vs k = some z ∧ RV L ι H y z) ∧ ((kvs.find? fun kv => decide (kv.1 = k)) = none → valV vs k = none) := by
  induction r with
  | nil => exact ⟨fun y e => by simp at e, fun _ => rfl⟩
  | cons h t ih =>
    rename_i p q ps qs
    obtain ⟨h1, h2⟩ := h
    unfold valV at ih ⊢
    rw [List.find?_cons, List.find?_cons, ← h1]
    by_cases c : p.1 = k
    · rw [decide_eq_true c]
      exact ⟨fun y e => by
        simp only [Option.map_some, Option.some.injEq] at e
        subst e
        exact ⟨q.2, rfl, h2⟩, fun e => nomatch e⟩
    · rw [decide_eq_false c]
      exact ih
theorem find_some {κ : Type} [DecidableEq κ] {ι : List Addr} {H : Hp} {kvs : List (κ × PV)} {vs : List (κ × V)} (r : Paired (fun (p : κ × PV) (q : κ × V) => p.1 = q.1 ∧ RV L ι H p.2 q.2) kvs vs) (k : κ) :
    (kvs.find? fun kv => decide (kv.1 = k)).isSome = (valV vs k).isSome := by
  obtain ⟨h1, h2⟩ := find_pair r k
  cases e : kvs.find? fun kv => decide (kv.1 = k) with
  | none => rw [h2 e]; rfl
  | some p =>
    obtain ⟨z, hz, _⟩ := h1 p.2 (by rw [e]; rfl)
    rw [hz]; rfl
theorem dget_of {H : Hp} {p : Addr} {vs : List (Key × V)} (h : H p = some (.dK vs)) (k : Key) : DGet H p (kV k) (valV vs k) := DGet.k (k := k) h
theorem deref_self {h : PHeap} {a : PV} {d : PyData} (e : toD a = some d) : toD (deref h a) = some d := by
  cases a with
  | loc l => simp only [toD] at e; cases e
  | _ => exact e
/-- what in answers -/
theorem inp_ok (hu : X.A.units + 65 < cLine) (hK : X.K = L.K) {pins : List (Addr × Obj)} {σ : L2.St} {H : Hp} {s : Shared} {ι : List Addr} {h : PHeap} {a b : PV} {x y : V} {v u : Value} {k : Bool} {Q : VK} (I : Inv X pins σ H s) (rx : RelV x v) (ry : RelV y u) (ra : RV L ι H a x) (rb : RV L ι H b y) (rh : RH L ι H h)
    (e : inP h a b = some k) : (Q (.bl k) H → wpAny (model X.prog X.w) X.A (compareOp .In v u) (EP X pins σ Q) X.xe s) ∧ (Q (.bl (!k)) H → wpAny (model X.prog X.w) X.A (compareOp .NotIn v u) (EP X pins σ Q) X.xe s) := by
  unfold inP at e
  split at e
  · rename_i b1 b2 e2
    cases str_deref e2
    cases e
    simp only [RV] at ra rb
    obtain ⟨rfl, _⟩ := ra
    obtain ⟨rfl, _⟩ := rb
    exact ⟨fun q => op_in_str pins s σ H _ _ v u Q I rx ry ⟨_, _, rfl, rfl, q⟩, fun q => op_notin_str pins s σ H _ _ v u Q I rx ry ⟨_, _, rfl, rfl, q⟩⟩
  · split at e
    · rename_i l e2 _ kvs hl
      simp only [Option.map_eq_some_iff] at e
      obtain ⟨kk, e3, rfl⟩ := e
      cases loc_deref e2
      obtain ⟨p, vs, rfl, hp, h2, r, _⟩ := at_dK rh rb hl
      cases ry
      cases keyOf_V ra e3
      have g := dget_of h2 kk
      rw [find_some r kk]
      exact ⟨fun q => d_in (by omega) I g rx fun s3 I3 => ⟨.bl _, H, I3, rfl, q⟩, fun q => d_notIn (by omega) I g rx fun s3 I3 => ⟨.bl _, H, I3, rfl, q⟩⟩
    · cases e
  · split at e
    · rename_i d ds h1 h2
      split at e
      · rename_i hc
        cases e
        obtain ⟨as, r1⟩ := reads_of hK I rh ra rx (d := d) (deref_self h1)
        obtain ⟨bs, r2⟩ := reads_of hK I rh rb ry h2
        have p2 : PyData.plainAll ds = true := by have z := deref_plain h2; simpa only [PyData.plain] using z
        exact ⟨fun q => PySem.SeqAt.in_list_data r2 r1 p2 (toD_plain _ _ h1) (by omega) ⟨.bl _, H, I, rfl, q⟩, fun q => PySem.SeqAt.notIn_list_data r2 r1 p2 (toD_plain _ _ h1) (by omega) ⟨.bl _, H, I, rfl, q⟩⟩
      · cases e
    · rename_i d ds h1 h2
      split at e
      · rename_i hc
        cases e
        obtain ⟨as, r1⟩ := reads_of hK I rh ra rx (d := d) (deref_self h1)
        obtain ⟨bs, r2⟩ := reads_of hK I rh rb ry h2
        have p2 : PyData.plainAll ds = true := by have z := deref_plain h2; simpa only [PyData.plain] using z
        exact ⟨fun q => PySem.SeqAt.in_tuple_data r2 r1 p2 (toD_plain _ _ h1) (by omega) ⟨.bl _, H, I, rfl, q⟩, fun q => PySem.SeqAt.notIn_tuple_data r2 r1 p2 (toD_plain _ _ h1) (by omega) ⟨.bl _, H, I, rfl, q⟩⟩
      · cases e
    · cases e
theorem isnon_V {ι : List Addr} {H : Hp} {a : PV} {x : V} (ra : RV L ι H a x) : isNon a = decide (x = .non) := by
  cases a <;> simp only [RV] at ra <;> first
    | (subst ra; simp [isNon]; done)
    | (obtain ⟨rfl, _⟩ := ra; simp [isNon]; done)
    | (obtain ⟨p, rfl, _⟩ := ra; simp [isNon]; done)
    | (obtain ⟨p, vs, rfl, _⟩ := ra; simp [isNon]; done)
theorem opr_cmp (hu : X.A.units + 65 < cLine) (hK : X.K = L.K) : ∀ o, OpR X (compareOp (coO o)) (rOf L (cmpR o)) := by
  intro o
  rintro pins s σ H x y v u Q I rx ry ⟨ι, a, b, h, W', ra, rb, rh, hq⟩
  obtain ⟨k, e, hq⟩ := okA.got hq
  have q : Q (.bl k) H := okV.here hq rh (rv_bl k)
  cases o with
  | eq => exact (eqp_ok (by omega) hK I rx ry ra rb rh e).1 q
  | ne =>
    simp only [cmpP, Option.map_eq_some_iff] at e
    obtain ⟨k', e, rfl⟩ := e
    exact (eqp_ok (by omega) hK I rx ry ra rb rh e).2 q
  | in_ => exact (inp_ok hu hK I rx ry ra rb rh e).1 q
  | notin =>
    simp only [cmpP, Option.map_eq_some_iff] at e
    obtain ⟨k', e, rfl⟩ := e
    exact (inp_ok hu hK I rx ry ra rb rh e).2 q
  | is_ =>
    simp only [cmpP] at e
    split at e
    · rename_i hn
      cases e
      have hy : y = .non := by rw [isnon_V rb] at hn; exact of_decide_eq_true hn
      rw [isnon_V ra] at q
      exact op_isN pins s σ H _ _ v u Q I rx ry ⟨hy, q⟩
    · split at e
      · cases e
        simp only [RV] at ra rb
        subst ra rb
        exact op_isBl pins s σ H _ _ v u Q I rx ry ⟨_, _, rfl, rfl, q⟩
      · cases e
  | isnot =>
    simp only [cmpP] at e
    split at e
    · rename_i hn
      cases e
      have hy : y = .non := by rw [isnon_V rb] at hn; exact of_decide_eq_true hn
      rw [isnon_V ra] at q
      exact op_notN pins s σ H _ _ v u Q I rx ry ⟨hy, q⟩
    · split at e
      · cases e
        simp only [RV] at ra rb
        subst ra rb
        exact op_notBl pins s σ H _ _ v u Q I rx ry ⟨_, _, rfl, rfl, q⟩
      · cases e
  | lt =>
    simp only [cmpP] at e
    split at e
    · cases e
      simp only [RV] at ra rb
      subst ra rb
      exact op_lt pins s σ H _ _ v u Q I rx ry ⟨_, _, rfl, rfl, q⟩
    · cases e
      simp only [RV] at ra rb
      obtain ⟨rfl, _⟩ := ra
      obtain ⟨rfl, _⟩ := rb
      exact op_lt_str pins s σ H _ _ v u Q I rx ry ⟨_, _, rfl, rfl, q⟩
    · cases e
  | le =>
    simp only [cmpP] at e
    split at e
    · cases e
      simp only [RV] at ra rb
      subst ra rb
      exact op_le pins s σ H _ _ v u Q I rx ry ⟨_, _, rfl, rfl, q⟩
    · cases e
  | gt =>
    simp only [cmpP] at e
    split at e
    · cases e
      simp only [RV] at ra rb
      subst ra rb
      exact op_gt pins s σ H _ _ v u Q I rx ry ⟨_, _, rfl, rfl, q⟩
    · cases e
  | ge =>
    simp only [cmpP] at e
    split at e
    · cases e
      simp only [RV] at ra rb
      subst ra rb
      exact op_ge pins s σ H _ _ v u Q I rx ry ⟨_, _, rfl, rfl, q⟩
    · cases e
theorem tru_of (hK : X.K = L.K) {ι : List Addr} {H : Hp} {h : PHeap} {v : PV} {x : V} {k : Bool} (rh : RH L ι H h) (ra : RV L ι H v x) (e : truth h v = some k) : TruV X.K x H k := by
  rw [hK]
  unfold truth at e
  have emp : ∀ {xs : List PV} {vs : List V}, RVs L ι H xs vs → (!xs.isEmpty) = !vs.isEmpty := fun {xs vs} r => by
    have hl := r.length
    cases xs <;> cases vs <;> first | rfl | (simp at hl)
  split at e
  · rename_i e1
    cases e
    have : v = .non := by
      cases v with
      | loc l => rcases deref_loc h l with ⟨ys, _, q⟩ | q <;> rw [q] at e1 <;> cases e1
      | _ => exact e1
    subst this
    simp only [RV] at ra
    subst ra
    rfl
  · rename_i b e1
    cases e
    have : v = .bl k := by
      cases v with
      | loc l => rcases deref_loc h l with ⟨ys, _, q⟩ | q <;> rw [q] at e1 <;> cases e1
      | _ => exact e1
    subst this
    simp only [RV] at ra
    subst ra
    rfl
  · rename_i b e1
    cases e
    have : v = .int b := by
      cases v with
      | loc l => rcases deref_loc h l with ⟨ys, _, q⟩ | q <;> rw [q] at e1 <;> cases e1
      | _ => exact e1
    subst this
    simp only [RV] at ra
    subst ra
    rfl
  · rename_i z e1
    cases str_deref e1
    cases e
    simp only [RV] at ra
    obtain ⟨rfl, hz⟩ := ra
    exact ⟨hz, rfl⟩
  · rename_i z e1
    cases byt_deref e1
    cases e
    simp only [RV] at ra
    obtain ⟨rfl, hz⟩ := ra
    exact ⟨hz, rfl⟩
  · rename_i xs e1
    cases e
    obtain ⟨p, vs, rfl, h1, _, r⟩ := is_tup rh ra e1
    exact .inr (.inl ⟨vs, h1, emp r⟩)
  · rename_i xs e1
    cases e
    obtain ⟨p, vs, rfl, h1, _, r⟩ := is_lstq rh ra e1
    exact .inl ⟨vs, h1, emp r⟩
  · rename_i xs e1
    cases e
    obtain ⟨p, vs, rfl, h1, _, r⟩ := is_scr rh ra e1
    exact .inl ⟨vs, h1, emp r⟩
  · rename_i l e1
    cases loc_deref e1
    split at e
    · rename_i kvs hl
      cases e
      obtain ⟨p, vs, rfl, _, h2, r, _⟩ := at_dK rh ra hl
      refine .inr (.inr ⟨vs, h2, ?_⟩)
      cases r <;> rfl
    · cases e
  · cases e
/-! ### subscripts -/
theorem ixn_some {n : Nat} {i : Int} {j : Nat} (h : L2.ixN n i = some j) : j < n := (ixN_seq h).2.1
theorem at_of_rvs {ι : List Addr} {H : Hp} {xs : List PV} {vs : List V} {i : Int} {y : PV} (r : RVs L ι H xs vs) (e : L2.atI xs i = some y) : ∃ u, L2.atI vs i = some u ∧ RV L ι H y u := by
  unfold L2.atI at e ⊢
  rw [← r.length]
  cases hj : L2.ixN xs.length i with
  | none => rw [hj] at e; cases e
  | some j =>
    rw [hj] at e
    exact r.get e
end
end Rf
end

section
set_option Elab.async false
set_option linter.all false
set_option maxRecDepth 100000
set_option maxHeartbeats 4000000
namespace Rf
open PySem PySem.Spec L2
section
variable {L : Lk} {X : Cx}
theorem ixr_idx (hu : X.A.units + 1 < cLine) (hK : X.K = L.K) : IxR X (rOf L idxOp) := by
  obtain ⟨K, cA⟩ := L
  cases hK
  rintro value slice pins s σ H x y v u Q I rx ry ⟨ι, a, b, h, W', ra, rb, rh, hq⟩ hs
  unfold idxOp at hq
  split at hq
  · rename_i xs i e1
    obtain ⟨z, e2, hq⟩ := okA.got hq
    obtain ⟨p, vs, rfl, h1, _, r⟩ := is_tup rh ra e1
    obtain ⟨w, e3, rw'⟩ := at_of_rvs r e2
    simp only [RV] at rb
    subst rb
    exact ix_tup value slice pins s σ H _ _ v u Q I rx ry ⟨p, vs, i, w, rfl, rfl, h1, e3, okV.here hq rh rw'⟩ hs
  · rename_i xs i e1
    obtain ⟨z, e2, hq⟩ := okA.got hq
    obtain ⟨p, vs, rfl, h1, _, r⟩ := is_lstq rh ra e1
    obtain ⟨w, e3, rw'⟩ := at_of_rvs r e2
    simp only [RV] at rb
    subst rb
    exact ix_list value slice pins s σ H _ _ v u Q I rx ry ⟨p, vs, i, w, rfl, rfl, h1, e3, okV.here hq rh rw'⟩ hs
  · rename_i xs i e1
    obtain ⟨z, e2, hq⟩ := okA.got hq
    obtain ⟨p, vs, rfl, h1, _, r⟩ := is_scr rh ra e1
    obtain ⟨w, e3, rw'⟩ := at_of_rvs r e2
    simp only [RV] at rb
    subst rb
    exact ix_list value slice pins s σ H _ _ v u Q I rx ry ⟨p, vs, i, w, rfl, rfl, h1, e3, okV.here hq rh rw'⟩ hs
  · rename_i z i e1
    obtain ⟨c, e2, hq⟩ := okA.got hq
    cases str_deref e1
    simp only [RV] at ra rb
    obtain ⟨rfl, hz⟩ := ra
    subst rb
    exact ix_str value slice pins s σ H _ _ v u Q I rx ry ⟨z, i, c, rfl, rfl, hz, e2, okV.here hq rh (rv_str (by show 1 ≤ sizeLine; rw [sizeLine_eq]; decide))⟩ hs
  · rename_i b i e1
    obtain ⟨⟨h0, h1⟩, hq⟩ := okA.guard hq
    cases byt_deref e1
    simp only [RV] at ra rb
    obtain ⟨rfl, hz⟩ := ra
    subst rb
    obtain ⟨t, rfl⟩ := rx
    obtain ⟨t', rfl⟩ := ry
    have hl : sizeLine = 16777216 := sizeLine_eq
    have eb : b = b.toList.toArray := by simp
    have hz' : b.toList.length ≤ sizeLine := by simpa using hz
    rw [eb]
    exact PyProof.Rows.tail_any (PySem.W.typeIs_bytes s b.toList.toArray t) PySem.W.FB.slot_bytes_getitem.lookup (PySem.W.getItem_bytes (by omega) h0 (by simpa using h1) ⟨.int ((b.toList.getD i.toNat 0).toNat : Nat), H, I.tok _, ⟨_, rfl⟩, okV.here hq rh (rv_int _)⟩) hs
  · rename_i l k e1
    cases loc_deref e1
    split at hq
    · rename_i kvs kk hl hk
      obtain ⟨z, e2, hq⟩ := okA.got hq
      obtain ⟨p, vs, rfl, hp, h2, r, _⟩ := at_dK rh ra hl
      obtain ⟨w, e3, rw'⟩ := (find_pair r kk).1 z e2
      cases keyOf_V rb hk
      cases rx
      have g : DGet H p (kV kk) (some w) := by rw [← e3]; exact dget_of h2 kk
      exact PyProof.Rows.tail_any (dict_typeIs I g) PySem.F.slot_dict_getitem.lookup (d_getItem hu I g ry fun w' s3 I3 rw2 => ⟨w, H, I3, rw2, okV.here hq rh rw'⟩) hs
    · exact hq.elim
  · exact hq.elim
theorem RVs.cut {ι : List Addr} {H : Hp} {xs : List PV} {vs : List V} (r : RVs L ι H xs vs) (lo hi : Option Int) : RVs L ι H (cutL xs lo hi) (cutV vs lo hi) := by
  unfold cutL cutV
  rw [r.length]
  exact (r.drop _).take _
theorem cutL_length (xs : List PV) (lo hi : Option Int) : (cutL xs lo hi).length ≤ xs.length := by
  unfold cutL
  rw [List.length_take, List.length_drop]
  omega
theorem slr_slc (hK : X.K = L.K) (mu : Bool) : SlR X (fun x lo hi H Q => ∃ ι a h W', RV L ι H a x ∧ RH L ι H h ∧ okV L ι H (slcOp mu a lo hi h) Q W') := by
  obtain ⟨K, cA⟩ := L
  cases hK
  rintro pins s σ H x v vl vu lo hi sl Q I rx hs pl pu ⟨ι, a, h, W', ra, rh, hq⟩
  unfold slcOp at hq
  split at hq
  · rename_i xs e1
    cases deref_tup rh ra e1
    obtain ⟨p, vs, rfl, h1, hz, r⟩ := is_tup (xs := xs) rh ra rfl
    refine sl_tupA pins s σ H _ v vl vu lo hi sl Q I rx hs pl pu ⟨p, vs, rfl, h1, fun ⟨w1, w2⟩ => ?_, fun _ p' hp => okV.newTup rh (r.cut lo hi) (Nat.le_trans (cutV_length _ _ _) hz) hq hp⟩
    have e : cutL xs lo hi = xs := by
      unfold cutL
      rw [r.length, w1, w2, List.drop_zero, Nat.sub_zero, ← r.length, List.take_length]
    rw [e] at hq
    exact okV.here hq rh ra
  · rename_i xs e1
    obtain ⟨p, vs, rfl, h1, hz, r⟩ := is_lstq rh ra e1
    exact sl_list pins s σ H _ v vl vu lo hi sl Q I rx hs pl pu ⟨p, vs, rfl, h1, fun p' hp => okV.mkL rh (r.cut lo hi) (Nat.le_trans (cutV_length _ _ _) hz) hq hp⟩
  · rename_i xs e1
    obtain ⟨p, vs, rfl, h1, hz, r⟩ := is_scr rh ra e1
    exact sl_list pins s σ H _ v vl vu lo hi sl Q I rx hs pl pu ⟨p, vs, rfl, h1, fun p' hp => okV.mkL rh (r.cut lo hi) (Nat.le_trans (cutV_length _ _ _) hz) hq hp⟩
  · rename_i z e1
    cases str_deref e1
    simp only [RV] at ra
    obtain ⟨rfl, hz⟩ := ra
    exact sl_str pins s σ H _ v vl vu lo hi sl Q I rx hs pl pu ⟨z, rfl, hz, okV.here hq rh (rv_str (Nat.le_trans (cutS_length z _ _) hz))⟩
  · rename_i b e1
    cases byt_deref e1
    simp only [RV] at ra
    obtain ⟨rfl, hz⟩ := ra
    exact sl_byt pins s σ H _ v vl vu lo hi sl Q I rx hs pl pu ⟨b, rfl, by rw [← sizeLine_eq]; exact hz, okV.here hq rh (rv_byt (Nat.le_trans (PySem.W.KBc.size_picked_le b lo hi) hz))⟩
  · exact hq.elim
/-! ### [::-1] of a tuple -/
open HT PyProof.Rows in
theorem sliceApplied_rev {prog : Program} {w : World} {A : Around} {E : Value → Shared → Prop} {s : Shared} {sl : Addr} {vl vu vs : Value} {n : Nat} {Q : Int × Int × Nat → Shared → Prop} (hs : s.heap.IsSliceOf sl vl vu vs) (pl : IsPart vl none) (pu : IsPart vu none) (ps : IsPart vs (some (-1)))
    (h : Q ((n : Int) - 1, -1, n) s) : wpAny (model prog w) A (Builtin.Slice.sliceApplied (.ref sl) (pure (n : Int))) Q E s := by
  obtain ⟨os, hos, hcs, hds⟩ := id hs
  unfold Builtin.Slice.sliceApplied Builtin.Slice.sliceFields
  refine wpAny_bind (wpAny_bind (wpAny_field hos hds (x := vl) rfl (wpAny_bind (wpAny_field hos hds (x := vu) rfl (wpAny_bind (wpAny_field hos hds (x := vs) rfl (wpAny_pure ?_)))))))
  refine wpAny_bind (slicePart_ ps ?_)
  show wpAny _ _ (if ((-1 : Int) == 0) = true then _ else _) _ _ s
  rw [if_neg (by decide)]
  refine wpAny_bind (slicePart_ pl (wpAny_bind (slicePart_ pu (wpAny_bind (wpAny_pure ?_)))))
  show wpAny _ _ (match Builtin.Slice.sliceAdjust none none (-1) (n : Int) with | (lo, hi) => pure (lo, (-1 : Int), Builtin.Slice.slicePlaces lo hi (-1))) _ _ s
  have e1 : Builtin.Slice.sliceAdjust none none (-1) (n : Int) = ((n : Int) - 1, -1) := by
    unfold Builtin.Slice.sliceAdjust
    rfl
  have e2 : Builtin.Slice.slicePlaces ((n : Int) - 1) (-1) (-1) = n := by
    unfold Builtin.Slice.slicePlaces
    have h1 : ¬ ((-1 : Int) > 0) := by omega
    simp only [h1, if_false]
    have e3 : ((n : Int) - 1 - -1 - 1) / -(-1) = (n : Int) - 1 := by
      rw [show ((n : Int) - 1 - -1 - 1) = (n : Int) - 1 by omega, show (-(-1) : Int) = 1 by rfl, Int.ediv_one]
    rw [e3]
    split <;> omega
  rw [e1]
  show wpAny _ _ (pure ((n : Int) - 1, (-1 : Int), Builtin.Slice.slicePlaces ((n : Int) - 1) (-1) (-1))) _ _ s
  rw [e2]
  exact wpAny_pure h
theorem pick_rev (xs : Array Value) : ((List.range xs.size).filterMap fun (m : Nat) => xs[((xs.size : Int) - 1 + (m : Int) * (-1)).toNat]?).toArray = xs.toList.reverse.toArray := by
  have key : ∀ (l : List Value) (n : Nat), n = l.length → ((List.range n).filterMap fun (m : Nat) => l[((n : Int) - 1 + (m : Int) * (-1)).toNat]?) = l.reverse := by
    intro l
    induction l with
    | nil => intro n h; subst h; rfl
    | cons x l ih =>
      intro n h
      subst h
      rw [List.length_cons, List.range_succ, List.filterMap_append, List.reverse_cons]
      congr 1
      · rw [← ih l.length rfl]
        have hc : ∀ (ms : List Nat), (∀ m ∈ ms, m < l.length) → (ms.filterMap fun (m : Nat) => (x :: l)[(((l.length + 1 : Nat) : Int) - 1 + (m : Int) * (-1)).toNat]?) = ms.filterMap fun (m : Nat) => l[((l.length : Int) - 1 + (m : Int) * (-1)).toNat]? := by
          intro ms
          induction ms with
          | nil => intro _; rfl
          | cons m ms ihm =>
            intro hm
            have h1 := hm m List.mem_cons_self
            have e1 : (((l.length + 1 : Nat) : Int) - 1 + (m : Int) * (-1)).toNat = ((l.length : Int) - 1 + (m : Int) * (-1)).toNat + 1 := by omega
            rw [List.filterMap_cons, List.filterMap_cons, ihm fun m' h' => hm m' (List.mem_cons_of_mem _ h'), e1, List.getElem?_cons_succ]
        exact hc _ fun m hm => List.mem_range.mp hm
      · have e1 : (((l.length + 1 : Nat) : Int) - 1 + (l.length : Int) * (-1)).toNat = 0 := by omega
        rw [List.filterMap_cons, e1]
        rfl
  have h := key xs.toList xs.size (by simp)
  simp only [Array.getElem?_toList] at h
  rw [h]
open HT PyProof.Rows in
theorem getItem_tuple_rev {prog : Program} {w : World} {A : Around} {E : Value → Shared → Prop} {s : Shared} {t sl : Addr} {items : Array Value} {vl vu vs : Value} {Q : Value → Shared → Prop} (ht : IsTup s.heap t items) (hs : s.heap.IsSliceOf sl vl vu vs) (pl : IsPart vl none) (pu : IsPart vu none) (ps : IsPart vs (some (-1)))
    (h : Q (.ref s.heap.objs.size) { s with heap := s.heap.push { cls := .type "tuple", data := .seq items.toList.reverse.toArray } })
    (hsz : items.size ≤ sizeLine) : wpAny (model prog w) A (getItem (.ref t) (.ref sl)) Q E s := by
  have htake : sizeOk (.seq items.toList.reverse.toArray) := by
    show items.toList.reverse.toArray.size ≤ sizeLine
    simpa using hsz
  obtain ⟨os, hos, hcs, hds⟩ := id hs
  have hTs : s.TypeIs (.ref sl) "slice" := ⟨os, hos, hcs⟩
  unfold getItem
  try with_reducible refine wpAny_holding ?_
  first | refine wpAny_bind (wpAny_pure ?_) | skip
  refine wpAny_bind (wpAny_sequenceKey ht.typeIs (by decide) ?_)
  refine wpAny_bind (wpAny_callSpecial?_slot (name := Str.ofString "__getitem__") ht.typeIs PyProof.Rows.slot_tuple_getitem
    (wpAny_call_entry PyProof.Rows.slot_tuple_getitem ht.typeIs entry_tuple_getitem ?_ (args_tuple_getitem _ _)))
  show wpAny _ _ (Builtin.Tuple.tupleItemsOf (.ref t) >>= _) _ _ s
  refine wpAny_bind (tupleItemsOf_ ht ?_)
  refine wpAny_bind (wpAny_typeOf hTs ?_)
  rw [if_pos (by decide)]
  refine wpAny_bind (sliceApplied_rev hs pl pu ps ?_)
  have hno : ¬ ((((items.size : Int) - 1) == 0 && (-1 : Int) == 1 && items.size == items.size) = true) := by
    intro q
    rw [Bool.and_eq_true, Bool.and_eq_true] at q
    exact absurd q.1.2 (by decide)
  show wpAny _ _ (if (((items.size : Int) - 1) == 0 && (-1 : Int) == 1 && items.size == items.size) = true then _ else _) _ _ s
  rw [if_neg hno, pick_rev]
  first
    | exact wpAny_bind (m := Builtin.Tuple.tupleExact _) (wpAny_newObj_type (wpAny_pure ⟨_, rfl, wpAny_pure h⟩) htake)
    | exact wpAny_bind (m := Builtin.Tuple.tupleExact _) (wpAny_newObj_type (wpAny_bind (wpAny_pure (wpAny_pure ⟨_, rfl, wpAny_pure h⟩))) htake)
    | exact wpAny_bind (wpAny_bind (m := Builtin.Tuple.tupleExact _) (wpAny_newObj_type (wpAny_pure (wpAny_pure ⟨_, rfl, wpAny_pure h⟩)) htake))
    | exact wpAny_bind (wpAny_bind (m := Builtin.Tuple.tupleExact _) (wpAny_newObj_type (wpAny_pure ⟨_, rfl, wpAny_pure h⟩) htake))
/-- e[::-1] -/
theorem pe_rev {e : Expr} {te : TE} {k : Nat} {p1 p2 p3 pos : Pos} {mu : Bool} (hK : X.K = L.K) (he : PE X e te) : PE X (.Subscript e (.Slice none none (some (.UnaryOp .USub (.Constant (.int 1) k p1) p2)) p3) pos)
    (fun σ H Q => te σ H fun x H1 => ∃ ι a h W', RV L ι H1 a x ∧ RH L ι H1 h ∧ okV L ι H1 (revOp mu a h) Q W') := by
  obtain ⟨K, cA⟩ := L
  cases hK
  refine ⟨fun pins s σ H Q I h => ?_⟩
  refine PyProof.Rows.Subscript_ (thn (he.run pins s σ H _ I h) fun v s1 ⟨x, H1, I1, r1, q1⟩ => ?_)
  obtain ⟨ι, a, ph, W', ra, rh, hq⟩ := q1
  have hst : L2.PO X (some (.UnaryOp .USub (.Constant (.int 1) k p1) p2)) (tPart (tUn (rU fun i => .int (-i)) (tC (.int 1)))) := po_some (pe_un un_neg pe_int)
  refine wpAny_Slice (thn (po_none.run pins s1 σ H1 (fun o H2 => o = none ∧ H2 = H1) I1 ⟨rfl, rfl⟩) fun vl s2 ⟨l, H2, I2, pl, el, e2⟩ => ?_)
  subst el e2
  refine thn (po_none.run pins s2 σ H2 (fun o H3 => o = none ∧ H3 = H2) I2 ⟨rfl, rfl⟩) fun vu s3 ⟨u, H3, I3, pu, eu, e3⟩ => ?_
  subst eu e3
  refine thn (hst.run pins s3 σ H3 (fun o H4 => o = some (-1) ∧ H4 = H3) I3 ⟨1, rfl, -1, rfl, rfl, rfl⟩) fun vs s4 ⟨o, H4, I4, ps, eo, e4⟩ => ?_
  subst eo e4
  have I5 : Inv X pins σ H4 { s4 with heap := s4.heap.push { cls := .type "slice", data := .fields #[vl, vu, vs] } } := I4.kept (t' := s4.toks) fun b ob q => Heap.get?_push_of_some _ q
  show wpAny (model X.prog X.w) X.A (PyProof.Rows.subscriptTail e (.Slice none none (some (.UnaryOp .USub (.Constant (.int 1) k p1) p2)) p3) v (.ref s4.heap.objs.size)) (EP X pins σ Q) X.xe { s4 with heap := s4.heap.push { cls := .type "slice", data := .fields #[vl, vu, vs] } }
  have lst : ∀ {xs : List PV} {p : Addr} {ws : List V}, v = .ref p → SqL X.K H4 p ws → ws.length ≤ sizeLine → RVs ⟨X.K, cA⟩ ι H4 xs ws → okV ⟨X.K, cA⟩ ι H4 (mkL mu xs.reverse ph) Q W' → 
      wpAny (model X.prog X.w) X.A (PyProof.Rows.subscriptTail e (.Slice none none (some (.UnaryOp .USub (.Constant (.int 1) k p1) p2)) p3) v (.ref s4.heap.objs.size)) (EP X pins σ Q) X.xe { s4 with heap := s4.heap.push { cls := .type "slice", data := .fields #[vl, vu, vs] } } := by
    intro xs p ws ev hx hz r hq
    subst ev
    obtain ⟨its, r5, ht, hz5⟩ := I5.list hx
    have hlen := r5.length
    refine PyProof.Rows.tail_any (ops := [.ref p, .ref s4.heap.objs.size]) ht.isList.typeIs (PySem.slot_list_getitem.lookup) ?_ (by with_unfolding_all rfl)
    refine wpAny_getItem_list_slice ht.isList (Heap.IsSliceOf.new _ vl vu vs) pl pu ps (by decide) ?_ (by rw [List.size_toArray]; omega)
    rw [PySem.W.krv_pick]
    have hf := I5.hok.fresh (Nat.le_refl _)
    refine ⟨.ref _, _, I5.laid (t' := s4.toks) (o := .lst ws.reverse) (fun b ob q => Heap.get?_push_of_some _ q) (Nat.le_refl _) ?_, rfl, okV.mkL rh r.reverse (by rw [List.length_reverse]; exact hz) hq hf⟩
    exact ⟨by rw [List.length_reverse]; exact hz, _, 0, r5.reverse, Heap.get?_push_size _ rfl⟩
  unfold revOp at hq
  split at hq
  · rename_i xs e1
    obtain ⟨p, ws, rfl, h1, hz, r⟩ := is_tup rh ra e1
    cases r1
    obtain ⟨its, r5, ht, hz5⟩ := I5.tuple h1
    have hlen := r5.length
    refine PyProof.Rows.tail_any (ops := [.ref p, .ref s4.heap.objs.size]) ht.typeIs PyProof.Rows.slot_tuple_getitem.lookup ?_ (by with_unfolding_all rfl)
    refine getItem_tuple_rev ht (Heap.IsSliceOf.new _ vl vu vs) pl pu ps ?_ (by rw [List.size_toArray]; omega)
    have hf := I5.hok.fresh (Nat.le_refl _)
    refine ⟨.ref _, _, I5.laid (t' := s4.toks) (o := .tup ws.reverse) (fun b ob q => Heap.get?_push_of_some _ q) (Nat.le_refl _) ?_, rfl, okV.newTup rh r.reverse (by rw [List.length_reverse]; exact hz) hq hf⟩
    exact ⟨by rw [List.length_reverse]; exact hz, _, r5.reverse, PyProof.Rows.IsTup.new _ _⟩
  · rename_i xs e1
    obtain ⟨p, ws, rfl, h1, hz, r⟩ := is_lstq rh ra e1
    exact lst r1 h1 hz r hq
  · rename_i xs e1
    obtain ⟨p, ws, rfl, h1, hz, r⟩ := is_scr rh ra e1
    exact lst r1 h1 hz r hq
  · exact hq.elim
end
end Rf
end

section
set_option Elab.async false
set_option linter.all false
set_option maxRecDepth 100000
set_option maxHeartbeats 4000000
namespace Rf
open PySem PySem.Spec L2
section
variable {L : Lk} {X : Cx}
/-! ### sorted -/
theorem each_of_rvs {ι : List Addr} {H : Hp} : ∀ {xs : List PV} {vs : List V} {us : List Value}, RVs L ι H xs vs → Vals vs us → PySem.W.EachIs (fun u b => ∃ x, RV L ι H b x ∧ RelV x u) us xs
  | [], _, _, h, r => by cases h.zero; cases r; exact .nil
  | x :: xs, _, _, h, r => by
    simp only [RVs] at h
    obtain ⟨v, vs, rfl, h1, h2⟩ := h
    cases r with
    | cons r1 r2 => exact .cons ⟨v, h1, r1⟩ (each_of_rvs h2 r2)
theorem rvs_of_each {ι : List Addr} {H : Hp} : ∀ {xs : List PV} {us : List Value}, PySem.W.EachIs (fun u b => ∃ x, RV L ι H b x ∧ RelV x u) us xs → ∃ vs, RVs L ι H xs vs ∧ Vals vs us
  | _, _, .nil => ⟨[], by simp [RVs], .nil⟩
  | _, _, .cons ⟨x, h1, h2⟩ t => by
    obtain ⟨vs, k1, k2⟩ := rvs_of_each t
    exact ⟨x :: vs, by simp only [RVs]; exact ⟨x, vs, rfl, h1, k1⟩, .cons h2 k2⟩
theorem toDs_mem : ∀ {xs : List PV} {ds : List PyData}, toDs xs = some ds → ds = xs.map toDD ∧ ∀ x ∈ xs, toD x = some (toDD x)
  | [], _, e => by simp only [toDs] at e; cases e; exact ⟨rfl, fun _ z => nomatch z⟩
  | x :: xs, _, e => by
    simp only [toDs] at e
    split at e
    · rename_i d ds e1 e2
      cases e
      obtain ⟨h1, h2⟩ := toDs_mem e2
      have hx : toDD x = d := by unfold toDD; rw [e1]; rfl
      refine ⟨by rw [List.map_cons, hx, h1], fun y hy => ?_⟩
      rcases List.mem_cons.mp hy with rfl | hy
      · rw [hx, e1]
      · exact h2 y hy
    · cases e
theorem sortB_ok {ds : List PyData} (h : sortB ds = true) : PySem.W.Sortable ds := by
  unfold sortB at h
  rw [Bool.or_eq_true] at h
  rcases h with h | h
  · refine .inl fun d hd => ?_
    have q := List.all_eq_true.mp h d hd
    split at q
    · exact ⟨_, _, rfl⟩
    · cases q
  · refine .inr fun d hd => ?_
    have q := List.all_eq_true.mp h d hd
    exact ⟨fun e => (by rw [e] at q; cases q), fun xs e => (by rw [e] at q; cases q)⟩
theorem sortOk_of {xs : List PV} (h : sortOk xs = true) : (∀ x ∈ xs, toD x = some (toDD x)) ∧ PySem.W.AllAlike (xs.map toDD) ∧ PySem.W.Sortable (xs.map toDD) ∧ ∀ x ∈ xs, (toDD x).depth ≤ 60 := by
  unfold sortOk at h
  split at h
  · rename_i ds e
    obtain ⟨rfl, h2⟩ := toDs_mem e
    rw [Bool.and_eq_true] at h
    have q := fun d hd => List.all_eq_true.mp h.2 d hd
    refine ⟨h2, fun d hd d' hd' => ?_, sortB_ok h.1, fun x hx => ?_⟩
    · have z := q d hd
      rw [Bool.and_eq_true] at z
      exact List.all_eq_true.mp z.2 d' hd'
    · have z := q _ (List.mem_map.mpr ⟨x, hx, rfl⟩)
      rw [Bool.and_eq_true] at z
      exact of_decide_eq_true z.1
  · cases h
theorem sortPV_perm (xs : List PV) : (sortPV xs).Perm xs := List.mergeSort_perm xs _
open PyProof.Rows in
/-- sorted of what collect gives -/
theorem sorted_core (hu : X.A.units + 70 < cLine) {pins : List (Addr × Obj)} {σ : L2.St} {H : Hp} {s : Shared} {ι : List Addr} {h : PHeap} {mu : Bool} {xs : List PV} {G : List Value → Prop} {r : Addr} {Q : VK} {W' : Value → Option Addr → Hp → Prop} (hK : X.K = L.K) (I : L2.Inv X pins σ H s) (rh : RH L ι H h)
    (hcol : ∀ Q' : List Value → Shared → Prop, (∀ us h' tk, G us → (∀ b o, s.heap.get? b = some o → h'.get? b = some o) → Q' us { s with heap := h', toks := tk }) → wpAny (model X.prog X.w) X.A.in1 (collect (.ref r)) Q' X.xe s)
    (hG : ∀ us, G us → PySem.W.EachIs (fun u b => ∃ x, RV L ι H b x ∧ RelV x u) us xs ∧ us.length ≤ sizeLine) (hs : sortOk xs = true) (hq : okV L ι H (mkL mu (sortPV xs) h) Q W') :
    wpAny (model X.prog X.w) X.A (call (.builtin "sorted") [.ref r]) (EP X pins σ Q) X.xe s := by
  obtain ⟨g1, g2, g3, g4⟩ := sortOk_of hs
  refine Calls.call_function_entry PyProof.Rows.kind_sorted PyProof.Rows.plain_sorted PyProof.Rows.entry_sorted (PyProof.Rows.args_sorted1 _) ?_
  unfold Builtin.«sorted»
  refine wpAny_bind (m := checkCount "sorted" 1 1 _) (wpAny_pure ?_)
  refine wpAny_bind (hcol _ fun us h' tk hg hk => ?_)
  obtain ⟨e, hz⟩ := hG us hg
  have I1 : L2.Inv X pins σ H { s with heap := h', toks := tk } := I.kept hk
  refine wpAny_bind (wpAny_newList ?_ hz)
  have hoL : (h'.push (seqObj "list" us.toArray 0)).get? h'.objs.size = some (seqObj "list" us.toArray 0) := Heap.get?_push_size _ rfl
  show wpAny _ _ _ _ _ { s with heap := h'.push (seqObj "list" us.toArray 0), toks := tk }
  have er0 : PySem.W.EachIs (fun v b => ∃ as, Reads h' v (toDD b) as) us xs := by
    have z := PySem.W.each_mem e
    refine z.mono fun u b ⟨⟨x, h1, h2⟩, hb⟩ => ?_
    have hd := g1 b hb
    exact reads_of (s := { s with heap := h', toks := tk }) hK I1 rh h1 h2 (deref_self hd)
  have er : PySem.W.EachIs (fun v b => ∃ as, Reads (PySem.W.sortingHeap (h'.push (seqObj "list" us.toArray 0)) h'.objs.size us) v (toDD b) as) us xs :=
    er0.mono fun _ _ ⟨as, r⟩ => ⟨as, PyProof.Rows.Reads.keeps (fun b o q => PySem.W.sortingHeap_old (Nat.ne_of_lt (Heap.lt_size q)) (Heap.get?_push_of_some _ q)) r⟩
  refine wpAny_bind (wpAny_holding (wpAny_call_entry PyProof.Rows.slot_list_sort ⟨_, hoL, rfl⟩ PyProof.Rows.entry_list_sort
    (PySem.W.list_sort_vals (s := { s with heap := h'.push (seqObj "list" us.toArray 0), toks := tk }) hoL
      (PySem.W.SortsAt.data (s := { s with heap := PySem.W.sortingHeap (h'.push (seqObj "list" us.toArray 0)) h'.objs.size us, toks := tk }) (PySem.W.each_map (R := fun v d => ∃ as, Reads (PySem.W.sortingHeap (h'.push (seqObj "list" us.toArray 0)) h'.objs.size us) v d as) toDD er) g2 g3 (PySem.W.bound_map fun b hb => ?bnd)) hz ⟨_, rfl, ?fin⟩)
    (PyProof.Rows.args_list_sort _)))
  case bnd =>
    have := g4 b hb
    show X.A.units + 1 + 1 + (toDD b).depth < cLine
    omega
  case fin =>
    have eo := PySem.W.sortVals_data (h' := PySem.W.sortingHeap (h'.push (seqObj "list" us.toArray 0)) h'.objs.size us) false e er g2
    obtain ⟨vs, rvs, rel⟩ := rvs_of_each eo
    obtain ⟨e', he'⟩ := PyProof.Rows.sortedHeap_at (vs := us) (out := (PySem.W.sortVals (PySem.W.dataKind (PySem.W.sortingHeap (h'.push (seqObj "list" us.toArray 0)) h'.objs.size us) (xs.map toDD)) false us us).toArray) hoL
    have hlen : vs.length ≤ sizeLine := by
      rw [← rvs.length, (List.mergeSort_perm xs _).length_eq, ← e.length]
      exact hz
    refine wpAny_pure ⟨_, rfl, .ref h'.objs.size, upd H h'.objs.size (.lst vs), I1.laid (t' := tk) (fun b u q => ?_) (Nat.le_refl _)
      (show ObjOk X.prog X.w _ _ _ (.lst vs) from ⟨hlen, _, e', rel, he'⟩), rfl, okV.mkL rh rvs hlen hq (I1.hok.fresh (Nat.le_refl _))⟩
    have hb : b < h'.objs.size := Heap.lt_size q
    rw [PyProof.Rows.sortedHeap_old (Nat.ne_of_lt hb) (by rw [size_push']; exact Nat.lt_succ_of_lt hb)]
    exact Heap.get?_push_of_some _ q
/-! ### builtins -/
theorem rv_key {ι : List Addr} {H : Hp} {k : Key} (z : KeyZ k) : RV L ι H (keyPV k) (kV k) := by
  cases k with
  | inl i => exact rv_int i
  | inr x => exact rv_str z
theorem rvs_keys {ι : List Addr} {H : Hp} {kvs : List (Key × PV)} {ws : List (Key × V)} (r : Paired (fun (p : Key × PV) (q : Key × V) => p.1 = q.1 ∧ RV L ι H p.2 q.2) kvs ws) (z : ∀ p ∈ kvs, KeyZ p.1) : RVs L ι H (kvs.map fun kv => keyPV kv.1) (ws.map fun kv => kV kv.1) := by
  induction r with
  | nil => simp [RVs]
  | cons h t ih =>
    simp only [List.map_cons, RVs]
    exact ⟨_, _, rfl, by rw [← h.1]; exact rv_key (z _ List.mem_cons_self), ih fun p hp => z p (List.mem_cons_of_mem _ hp)⟩
theorem one_arg {α : Type} {ι : List Addr} {H : Hp} {h : PHeap} {op : List PV → PHeap → Res PV} {vs : List PV} {xs : List V} {us : List Value} {Q : VK} {W' : Value → Option Addr → Hp → Prop} (h0 : ∀ h, op [] h = .stuck) (h2 : ∀ a b c h, op (a :: b :: c) h = .stuck) (ra : RVs L ι H vs xs) (rx : Vals xs us) (hq : okV L ι H (op vs h) Q W') : ∃ v x u, vs = [v] ∧ xs = [x] ∧ us = [u] ∧ RV L ι H v x ∧ RelV x u := by
  cases vs with
  | nil => rw [h0] at hq; exact hq.elim
  | cons v r =>
    cases r with
    | cons v' r => rw [h2] at hq; exact hq.elim
    | nil =>
      obtain ⟨x, rfl, ra1⟩ := ra.one
      obtain ⟨u, rfl, rx1⟩ := vals1 rx
      exact ⟨v, x, u, rfl, rfl, rfl, ra1, rx1⟩
theorem call_sorted' (hu : X.A.units + 70 < cLine) (hc : X.calm = true) (hK : X.K = L.K) (mu : Bool) : CallR X (.builtin "sorted") (rBi L (biOp .sorted mu)) := by
  rintro pins s σ H xs us Q I rx0 ⟨ι, vs, h, W', ra0, rh, hq⟩
  obtain ⟨v, x, u, rfl, rfl, rfl, ra, rx⟩ := one_arg (α := Unit) (fun _ => rfl) (fun _ _ _ _ => rfl) ra0 rx0 hq
  simp only [biOp] at hq
  split at hq
  · rename_i xs e1
    obtain ⟨ho, hq⟩ := okA.guard hq
    obtain ⟨p, ws, rfl, h1, hz, r⟩ := is_tup rh ra e1
    cases rx
    have h1' : SqT X.K H p ws := by rw [hK]; exact h1
    obtain ⟨its, r5, ht, hz5⟩ := I.tuple h1'
    obtain ⟨o, g1, g2, n, g3⟩ := ht
    refine sorted_core hu hK I rh (G := fun us => us = its) (fun Q' k => ?_) (fun us e => by subst e; exact ⟨each_of_rvs r r5, by rw [← r5.length]; exact hz5⟩) ho hq
    exact wpAny_collect_seq (prog := X.prog) (w := X.w) (A := X.A.in1) (E := X.xe) (s := s) (Q := Q') p (.inr rfl) g1 g2 g3 (fun h' hk => k _ h' s.toks rfl hk) (by rw [List.size_toArray, ← r5.length]; exact hz5)
  · rename_i xs e1
    obtain ⟨ho, hq⟩ := okA.guard hq
    obtain ⟨p, ws, rfl, h1, hz, r⟩ := is_lstq rh ra e1
    cases rx
    have h1' : SqL X.K H p ws := by rw [hK]; exact h1
    obtain ⟨its, r5, ht, hz5⟩ := I.list h1'
    obtain ⟨o, n, g1, g2, g4, g3⟩ := ht
    refine sorted_core hu hK I rh (G := fun us => us = its) (fun Q' k => ?_) (fun us e => by subst e; exact ⟨each_of_rvs r r5, by rw [← r5.length]; exact hz5⟩) ho hq
    exact wpAny_collect_seq (prog := X.prog) (w := X.w) (A := X.A.in1) (E := X.xe) (s := s) (Q := Q') p (.inl rfl) g1 g2 g3 (fun h' hk => k _ h' s.toks rfl hk) (by rw [List.size_toArray, ← r5.length]; exact hz5)
  · rename_i l e1
    cases loc_deref e1
    split at hq
    · rename_i kvs hl
      obtain ⟨ho, hq⟩ := okA.guard hq
      obtain ⟨p, ws, rfl, hp, h2, r, zk⟩ := at_dK rh ra hl
      cases rx
      obtain ⟨z, lo, vs2, rel, dd⟩ := dk_rd I.hok (.inl h2)
      obtain ⟨ep, hat⟩ := dd.dictAt
      have h16 : vs2.length ≤ sizeLine := by rw [← rel.length]; exact z
      have ek : (ws.map fun kv => kV kv.1) = vs2.map fun p => kV p.1 := by
        have e := congrArg (List.map kV) rel.keys
        rw [List.map_map, List.map_map] at e
        exact e
      refine sorted_core hu hK I rh (G := fun us => Vals (vs2.map fun p => kV p.1) us) (fun Q' k => ?_) (fun us e => ?_) ho hq
      · exact PySem.W.kdu_collect (A := X.A.in1) (PySem.W.kdl_dict (knd := mixKind X.prog X.w) (kvs := vs2) (ep := ep) lo) (I.ok.hd hc) hat h16 fun h' tk acc hk hacc => k _ h' tk (keys_at (by rw [Array.length_toList]; exact hacc.1) fun j v e => hacc.2 j v (by rw [← Array.getElem?_toList]; exact e)) hk
      · refine ⟨each_of_rvs (rvs_keys r zk) (by rw [ek]; exact e), ?_⟩
        rw [← e.length, List.length_map]
        exact h16
    · exact hq.elim
  · exact hq.elim
end
end Rf
end

section
set_option Elab.async false
set_option linter.all false
set_option maxRecDepth 100000
set_option maxHeartbeats 4000000
namespace Rf
open PySem PySem.Spec L2
theorem isi_ok : (["NoneType", "bool", "int", "str", "bytes", "tuple", "list", "dict"].all fun t => ["int", "bool", "str", "bytes", "tuple", "list", "dict"].all fun T => kitB t T == some (t == T || (t == "bool" && T == "int"))) = true := by decide +kernel
theorem isi_kit {t T : String} {b : Bool} (ht : t ∈ ["NoneType", "bool", "int", "str", "bytes", "tuple", "list", "dict"]) (h : isiTab t T = some b) {K : PySem.W.Frag} : PySem.W.kitOne K (.type t) (.type T) = some b := by
  unfold isiTab at h
  split at h
  · rename_i hT
    cases h
    have q := List.all_eq_true.mp isi_ok t ht
    have q2 := List.all_eq_true.mp q T (List.contains_iff_mem.mp hT)
    exact kit_ty (eq_of_beq q2)
  · cases h
theorem kt_tup {K : PySem.W.Frag} {p : Addr} {vs : List V} (h : KT K p vs) : ∃ o, K.lookup p = some o ∧ o.cls = .type "tuple" := by
  obtain ⟨o, its, n, h1, h2, _⟩ := h
  exact ⟨o, h1, h2⟩
section
variable {L : Lk} {X : Cx}
theorem sc_deref {h : PHeap} {a b : PV} (e : deref h a = b) (hb : (∀ l, b ≠ .loc l) ∧ (∀ xs, b ≠ .lst xs)) : a = b := by
  cases a with
  | loc l =>
    rcases deref_loc h l with ⟨ys, _, q⟩ | q
    · rw [q] at e; exact absurd e.symm (hb.2 ys)
    · rw [q] at e; exact absurd e.symm (hb.1 l)
  | _ => exact e
theorem tyx_of {ι : List Addr} {H : Hp} {h : PHeap} {v : PV} {x : V} {t : String} (hK : X.K = L.K) (rh : RH L ι H h) (r : RV L ι H v x) (e : tyOf h v = some t) : TyX X.K H x (.type t) ∧ t ∈ ["NoneType", "bool", "int", "str", "bytes", "tuple", "list", "dict"] := by
  obtain ⟨K, cA⟩ := L
  cases hK
  unfold tyOf at e
  split at e
  · rename_i e1
    cases sc_deref e1 ⟨fun _ z => (nomatch z), fun _ z => (nomatch z)⟩
    cases e
    simp only [RV] at r
    subst r
    exact ⟨.base .non, by decide⟩
  · rename_i b e1
    cases sc_deref e1 ⟨fun _ z => (nomatch z), fun _ z => (nomatch z)⟩
    cases e
    simp only [RV] at r
    subst r
    exact ⟨.base (.bl _), by decide⟩
  · rename_i b e1
    cases sc_deref e1 ⟨fun _ z => (nomatch z), fun _ z => (nomatch z)⟩
    cases e
    simp only [RV] at r
    subst r
    exact ⟨.base (.int _), by decide⟩
  · rename_i b e1
    cases str_deref e1
    cases e
    simp only [RV] at r
    obtain ⟨rfl, _⟩ := r
    exact ⟨.base (.str _), by decide⟩
  · rename_i b e1
    cases byt_deref e1
    cases e
    simp only [RV] at r
    obtain ⟨rfl, _⟩ := r
    exact ⟨.byt _, by decide⟩
  · rename_i xs e1
    cases deref_tup rh r e1
    cases e
    simp only [RV] at r
    obtain ⟨p, vs, rfl, hp, _, _⟩ := r
    refine ⟨?_, by decide⟩
    rcases hp with ⟨_, hp | ⟨o, hp⟩⟩ | hp
    · exact .base (.tup hp)
    · exact .fTuple hp
    · obtain ⟨o, h1, h2⟩ := kt_tup hp
      exact .kTuple h1 h2
  · rename_i xs e1
    cases e
    obtain ⟨p, vs, rfl, hp, _, _⟩ := is_lst rh r e1
    exact ⟨.base (.lst hp), by decide⟩
  · rename_i xs e1
    cases deref_scr rh r e1
    cases e
    simp only [RV] at r
    obtain ⟨p, vs, rfl, hp, _, _⟩ := r
    refine ⟨?_, by decide⟩
    rcases hp with ⟨_, hp | ⟨o, hp⟩⟩ | ⟨o, _, _, h1, h2, _⟩
    · exact .base (.lst hp)
    · exact .base (.frz hp)
    · exact .kList h1 h2
  · rename_i l e1
    cases loc_deref e1
    split at e
    · rename_i kvs hl
      cases e
      obtain ⟨p, vs, rfl, _, h2, _⟩ := at_dK rh r hl
      exact ⟨.base (.dK h2), by decide⟩
    · rename_i kvs hl
      cases e
      simp only [RV] at r
      obtain ⟨p, rfl, hp⟩ := r
      obtain ⟨q, u, h1, h2, vs, rfl, r⟩ := rh.ob l _ hl
      rw [hp] at h1
      cases h1
      exact ⟨.base (.dT h2), by decide⟩
    · cases e
  · cases e
theorem len_of {ι : List Addr} {H : Hp} {h : PHeap} {v : PV} {x : V} {n : Nat} (hK : X.K = L.K) (rh : RH L ι H h) (r : RV L ι H v x) (e : lenOf h v = some n) : LenV X.K x H n ∨ ∃ a kvs, x = .ref a ∧ H a = some (.dK kvs) ∧ n = kvs.length := by
  obtain ⟨K, cA⟩ := L
  cases hK
  unfold lenOf at e
  split at e
  · rename_i z e1
    cases str_deref e1
    cases e
    simp only [RV] at r
    obtain ⟨rfl, hz⟩ := r
    exact .inl ⟨hz, rfl⟩
  · rename_i z e1
    cases byt_deref e1
    cases e
    simp only [RV] at r
    obtain ⟨rfl, hz⟩ := r
    exact .inl ⟨hz, rfl⟩
  · rename_i xs e1
    cases e
    obtain ⟨p, vs, rfl, h1, _, r⟩ := is_tup rh r e1
    exact .inl (.inr ⟨vs, h1, r.length⟩)
  · rename_i xs e1
    cases e
    obtain ⟨p, vs, rfl, h1, _, r⟩ := is_lstq rh r e1
    exact .inl (.inl ⟨vs, h1, r.length⟩)
  · rename_i xs e1
    cases e
    obtain ⟨p, vs, rfl, h1, _, r⟩ := is_scr rh r e1
    exact .inl (.inl ⟨vs, h1, r.length⟩)
  · rename_i l e1
    cases loc_deref e1
    split at e
    · rename_i kvs hl
      cases e
      obtain ⟨p, vs, rfl, _, h2, r, _⟩ := at_dK rh r hl
      exact .inr ⟨p, vs, rfl, h2, r.length⟩
    · cases e
  · cases e
theorem str_fits {i : Int} (h : i.natAbs.log2 < 1920) : ((toString i : String) : Str).length ≤ sizeLine := int_text_fits h
inductive BK where | fn (id : String) | ty (T : String)
def biK : Bi → BK
  | .len => .fn "len" | .abs => .fn "abs" | .max => .fn "max" | .min => .fn "min" | .int => .ty "int" | .str => .ty "str" | .repr => .fn "repr" | .isinst => .fn "isinstance"
  | .tuple => .ty "tuple" | .list => .ty "list" | .all => .fn "all" | .any => .fn "any" | .sum => .fn "sum" | .sorted => .fn "sorted" | .bytes => .ty "bytes"
def BK.val : BK → Value
  | .fn id => .builtin id
  | .ty T => .type T
def biN : Bi → Str
  | .len => "len" | .abs => "abs" | .max => "max" | .min => "min" | .int => "int" | .str => "str" | .repr => "repr" | .isinst => "isinstance"
  | .tuple => "tuple" | .list => "list" | .all => "all" | .any => "any" | .sum => "sum" | .sorted => "sorted" | .bytes => "bytes"
theorem boot_bi : ∀ b, bootBuiltins (biN b) = some (biK b).val := by intro b; cases b <;> decide +kernel
theorem bi_name : ∀ b, (biN b ≠ "__name__") ∧ ((biN b == ("__debug__" : Str)) = false) := by intro b; cases b <;> decide +kernel
theorem callr_bi (hu : X.A.units + 100 < cLine) (hg : X.A.guards = some []) (hc : X.calm = true) (hK : X.K = L.K) (mu : Bool) : ∀ b, CallR X (biK b).val (rBi L (biOp b mu)) := by
  intro b
  cases b with
  | sorted => exact call_sorted' (by omega) hc hK mu
  | len =>
    rintro pins s σ H xs us Q I rx0 ⟨ι, vs, h, W', ra0, rh, hq⟩
    obtain ⟨v, x, u, rfl, rfl, rfl, ra, rx⟩ := one_arg (α := Unit) (fun _ => rfl) (fun a _ _ _ => by cases a <;> rfl) ra0 rx0 hq
    obtain ⟨n, e, hq⟩ := okA.got hq
    rcases len_of hK rh ra e with hl | ⟨a, kvs, rfl, hl, rfl⟩
    · exact call_len pins s σ H _ _ Q I rx0 ⟨x, n, rfl, hl, okV.here hq rh (rv_int _)⟩
    · exact call_lenD pins s σ H _ _ Q I rx0 ⟨a, kvs, rfl, hl, okV.here hq rh (rv_int _)⟩
  | abs =>
    rintro pins s σ H xs us Q I rx0 ⟨ι, vs, h, W', ra0, rh, hq⟩
    obtain ⟨v, x, u, rfl, rfl, rfl, ra, rx⟩ := one_arg (α := Unit) (fun _ => rfl) (fun a _ _ _ => by cases a <;> rfl) ra0 rx0 hq
    cases v <;> try exact hq.elim
    simp only [RV] at ra
    subst ra
    exact call_abs pins s σ H _ _ Q I rx0 ⟨_, rfl, okV.here hq rh (rv_int _)⟩
  | max =>
    rintro pins s σ H xs us Q I rx0 ⟨ι, vs, h, W', ra0, rh, hq⟩
    unfold biOp at hq
    split at hq <;> first | contradiction | skip
    · rename_i i j _ _
      obtain ⟨x, y, rfl, r1, r2⟩ := ra0.two
      simp only [RV] at r1 r2
      subst r1 r2
      exact call_max2 hc pins s σ H _ _ Q I rx0 ⟨_, _, rfl, okV.here hq rh (rv_int _)⟩
  | min =>
    rintro pins s σ H xs us Q I rx0 ⟨ι, vs, h, W', ra0, rh, hq⟩
    unfold biOp at hq
    split at hq <;> first | contradiction | skip
    · rename_i i j _ _
      obtain ⟨x, y, rfl, r1, r2⟩ := ra0.two
      simp only [RV] at r1 r2
      subst r1 r2
      exact call_min2 hc pins s σ H _ _ Q I rx0 ⟨_, _, rfl, okV.here hq rh (rv_int _)⟩
  | int =>
    rintro pins s σ H xs us Q I rx0 ⟨ι, vs, h, W', ra0, rh, hq⟩
    obtain ⟨v, x, u, rfl, rfl, rfl, ra, rx⟩ := one_arg (α := Unit) (fun _ => rfl) (fun a _ _ _ => by cases a <;> rfl) ra0 rx0 hq
    cases v <;> try exact hq.elim
    · simp only [RV] at ra
      subst ra
      exact call_int1 pins s σ H _ _ Q I rx0 (.inr ⟨_, rfl, okV.here hq rh (rv_int _)⟩)
    · simp only [RV] at ra
      subst ra
      exact call_int1 pins s σ H _ _ Q I rx0 (.inl ⟨_, rfl, okV.here hq rh (rv_int _)⟩)
    · obtain ⟨n, e, hq⟩ := okA.got hq
      obtain ⟨hc', hq⟩ := okA.guard hq
      simp only [RV] at ra
      obtain ⟨rfl, _⟩ := ra
      exact call_int_str pins s σ H _ _ Q I rx0 ⟨_, n, rfl, e, hc', okV.here hq rh (rv_int _)⟩
  | str =>
    rintro pins s σ H xs us Q I rx0 ⟨ι, vs, h, W', ra0, rh, hq⟩
    obtain ⟨v, x, u, rfl, rfl, rfl, ra, rx⟩ := one_arg (α := Unit) (fun _ => rfl) (fun a _ _ _ => by cases a <;> rfl) ra0 rx0 hq
    cases v <;> try exact hq.elim
    · obtain ⟨hc', hq⟩ := okA.guard hq
      simp only [RV] at ra
      subst ra
      exact call_str_int pins s σ H _ _ Q I rx0 ⟨_, rfl, hc', okV.here hq rh (rv_str (str_fits hc'))⟩
    · simp only [RV] at ra
      obtain ⟨rfl, hz⟩ := ra
      exact SkE.call_str_str pins s σ H _ _ Q I rx0 ⟨_, rfl, okV.here hq rh (rv_str hz)⟩
  | repr =>
    rintro pins s σ H xs us Q I rx0 ⟨ι, vs, h, W', ra0, rh, hq⟩
    obtain ⟨v, x, u, rfl, rfl, rfl, ra, rx⟩ := one_arg (α := Unit) (fun _ => rfl) (fun a _ _ _ => by cases a <;> rfl) ra0 rx0 hq
    simp only [biOp] at hq
    split at hq
    · rename_i d e
      obtain ⟨⟨h1, h2, h3, h4⟩, hq⟩ := okA.guard hq
      rw [szB_eq] at h4
      have q := okV.here hq rh (rv_str h4)
      obtain ⟨as, rd⟩ := reads_of hK I rh ra rx (deref_self e)
      cases rd with
      | none => exact PySem.P.repr_of_none ⟨.str _, H, I.tok _, ⟨_, rfl⟩, q⟩
      | bool b => exact PySem.P.repr_of_bool ⟨.str _, H, I.tok _, ⟨_, rfl⟩, by cases b <;> exact q⟩
      | int i t => exact PySem.P.repr_of_int (by simpa [PyData.showable] using h1) ⟨.str _, H, I.tok _, ⟨_, rfl⟩, q⟩
      | str z t => exact PySem.P.repr_of_str ⟨.str _, H, I.tok _, ⟨_, rfl⟩, q⟩ h4
      | list k1 k2 k3 k4 => exact repr_of_reads' (.list k1 k2 k3 k4) h1 (PyData.noDict_hsm h2) hg (by omega) (fun _ _ z => z) (fun h' u tk hk => ⟨.str _, H, I.kept hk, ⟨_, rfl⟩, q⟩) h4
      | tuple k1 k2 k3 k4 => exact repr_of_reads' (.tuple k1 k2 k3 k4) h1 (PyData.noDict_hsm h2) hg (by omega) (fun _ _ z => z) (fun h' u tk hk => ⟨.str _, H, I.kept hk, ⟨_, rfl⟩, q⟩) h4
      | dict => have z := toD_plain _ _ e; simp only [PyData.plain] at z; cases z
    · exact hq.elim
  | isinst =>
    rintro pins s σ H xs us Q I rx0 ⟨ι, vs, h, W', ra0, rh, hq⟩
    rcases vs with _ | ⟨v, _ | ⟨w, _ | ⟨w', r⟩⟩⟩ <;> try exact hq.elim
    · cases w <;> try exact hq.elim
      rename_i T
      obtain ⟨x, y, rfl, r1, r2⟩ := ra0.two
      obtain ⟨b, e, hq⟩ := okA.got hq
      rw [Option.bind_eq_some_iff] at e
      obtain ⟨t, e1, e2⟩ := e
      obtain ⟨k1, k2⟩ := tyx_of hK rh r1 e1
      simp only [RV] at r2
      subst r2
      exact call_isi pins s σ H _ _ Q I rx0 ⟨x, .ty T, .type t, .type T, b, rfl, .ty T, k1, isi_kit k2 e2, okV.here hq rh (rv_bl _)⟩
    · cases w <;> exact hq.elim
  | tuple =>
    rintro pins s σ H xs us Q I rx0 ⟨ι, vs, h, W', ra0, rh, hq⟩
    obtain ⟨v, x, u, rfl, rfl, rfl, ra, rx⟩ := one_arg (α := Unit) (fun _ => rfl) (fun a _ _ _ => by cases a <;> rfl) ra0 rx0 hq
    simp only [biOp] at hq
    split at hq
    · rename_i xs e1
      cases deref_tup rh ra e1
      obtain ⟨p, ws, rfl, h1, hz, r⟩ := is_tup (xs := xs) rh ra rfl
      exact call_tuple_of pins s σ H _ _ Q I rx0 ⟨p, ws, rfl, .inr ⟨by rw [hK]; exact h1, okV.here hq rh ra⟩⟩
    · rename_i xs e1
      obtain ⟨p, ws, rfl, h1, hz, r⟩ := is_lstq rh ra e1
      exact call_tuple_of pins s σ H _ _ Q I rx0 ⟨p, ws, rfl, .inl ⟨by rw [hK]; exact h1, fun l hl => okV.newTup rh r hz hq hl⟩⟩
    · rename_i xs e1
      obtain ⟨p, ws, rfl, h1, hz, r⟩ := is_scr rh ra e1
      exact call_tuple_of pins s σ H _ _ Q I rx0 ⟨p, ws, rfl, .inl ⟨by rw [hK]; exact h1, fun l hl => okV.newTup rh r hz hq hl⟩⟩
    · exact hq.elim
  | list =>
    rintro pins s σ H xs us Q I rx0 ⟨ι, vs, h, W', ra0, rh, hq⟩
    obtain ⟨v, x, u, rfl, rfl, rfl, ra, rx⟩ := one_arg (α := Unit) (fun _ => rfl) (fun a _ _ _ => by cases a <;> rfl) ra0 rx0 hq
    simp only [biOp] at hq
    split at hq
    · rename_i xs e1
      obtain ⟨p, ws, rfl, h1, hz, r⟩ := is_tup rh ra e1
      exact call_list_of pins s σ H _ _ Q I rx0 ⟨p, ws, rfl, .inr (by rw [hK]; exact h1), fun l hl => okV.mkL rh r hz hq hl⟩
    · rename_i xs e1
      obtain ⟨p, ws, rfl, h1, hz, r⟩ := is_lstq rh ra e1
      exact call_list_of pins s σ H _ _ Q I rx0 ⟨p, ws, rfl, .inl (by rw [hK]; exact h1), fun l hl => okV.mkL rh r hz hq hl⟩
    · rename_i xs e1
      obtain ⟨p, ws, rfl, h1, hz, r⟩ := is_scr rh ra e1
      exact call_list_of pins s σ H _ _ Q I rx0 ⟨p, ws, rfl, .inl (by rw [hK]; exact h1), fun l hl => okV.mkL rh r hz hq hl⟩
    · rename_i b e1
      cases byt_deref e1
      simp only [RV] at ra
      obtain ⟨rfl, hz⟩ := ra
      have rvi : ∀ ns : List Int, RVs L ι H (ns.map .int) (ns.map V.int) := fun ns => by
        induction ns with
        | nil => simp [RVs]
        | cons n ns ih => simp only [List.map_cons, RVs]; exact ⟨_, _, rfl, rv_int _, ih⟩
      exact rl_listB hc pins s σ H _ u Q I rx ⟨b, rfl, hz, fun q hq' => okV.mkL rh (rvi _) (by rw [List.length_map, bi_len]; exact hz) hq hq'⟩
    · exact hq.elim
  | all =>
    rintro pins s σ H xs us Q I rx0 ⟨ι, vs, h, W', ra0, rh, hq⟩
    obtain ⟨v, x, u, rfl, rfl, rfl, ra, rx⟩ := one_arg (α := Unit) (fun _ => rfl) (fun a _ _ _ => by cases a <;> rfl) ra0 rx0 hq
    obtain ⟨bs, e, hq⟩ := okA.got hq
    rw [Option.bind_eq_some_iff] at e
    obtain ⟨ys, e1, e2⟩ := e
    obtain ⟨p, ws, rfl, h1, hz, r⟩ := is_list rh ra e1
    cases bls_of r e2
    exact cr_all hc pins s σ H _ _ Q I rx0 ⟨p, bs, rfl, by rw [hK]; exact h1, okV.here hq rh (rv_bl _)⟩
  | any =>
    rintro pins s σ H xs us Q I rx0 ⟨ι, vs, h, W', ra0, rh, hq⟩
    obtain ⟨v, x, u, rfl, rfl, rfl, ra, rx⟩ := one_arg (α := Unit) (fun _ => rfl) (fun a _ _ _ => by cases a <;> rfl) ra0 rx0 hq
    obtain ⟨bs, e, hq⟩ := okA.got hq
    rw [Option.bind_eq_some_iff] at e
    obtain ⟨ys, e1, e2⟩ := e
    obtain ⟨p, ws, rfl, h1, hz, r⟩ := is_list rh ra e1
    cases bls_of r e2
    exact cr_any hc pins s σ H _ _ Q I rx0 ⟨p, bs, rfl, by rw [hK]; exact h1, okV.here hq rh (rv_bl _)⟩
  | sum =>
    rintro pins s σ H xs us Q I rx0 ⟨ι, vs, h, W', ra0, rh, hq⟩
    obtain ⟨v, x, u, rfl, rfl, rfl, ra, rx⟩ := one_arg (α := Unit) (fun _ => rfl) (fun a _ _ _ => by cases a <;> rfl) ra0 rx0 hq
    obtain ⟨bs, e, hq⟩ := okA.got hq
    rw [Option.bind_eq_some_iff] at e
    obtain ⟨ys, e1, e2⟩ := e
    obtain ⟨p, ws, rfl, h1, hz, r⟩ := is_list rh ra e1
    cases ints_of r e2
    exact cr_sum hc pins s σ H _ _ Q I rx0 ⟨p, bs, rfl, by rw [hK]; exact h1, okV.here hq rh (rv_int _)⟩
  | bytes =>
    rintro pins s σ H xs us Q I rx0 ⟨ι, vs, h, W', ra0, rh, hq⟩
    obtain ⟨v, x, u, rfl, rfl, rfl, ra, rx⟩ := one_arg (α := Unit) (fun _ => rfl) (fun a _ _ _ => by cases a <;> rfl) ra0 rx0 hq
    obtain ⟨bs, e, hq⟩ := okA.got hq
    obtain ⟨hb, hq⟩ := okA.guard hq
    rw [Option.bind_eq_some_iff] at e
    obtain ⟨ys, e1, e2⟩ := e
    obtain ⟨p, ws, rfl, h1, hz, r⟩ := is_list rh ra e1
    cases ints_of r e2
    exact call_bytes_list hc pins s σ H _ _ Q I rx0 ⟨p, bs, rfl, by rw [hK]; exact h1, hb, okV.here hq rh (rv_byt (by rw [byteArr_size]; simpa using hz))⟩
end
end Rf
end

section
set_option Elab.async false
set_option linter.all false
set_option maxRecDepth 100000
set_option maxHeartbeats 4000000
namespace Rf
open PySem PySem.Spec L2
theorem len_sub (a : Str) (i j : Nat) : (Builtin.Str.strSub a i j).length ≤ a.length := by
  show (a.cps.extract i j).size ≤ a.cps.size
  rw [Array.size_extract]
  omega
theorem split_piece {a b p : Str} (h : p ∈ Txt.split a b) : p.length ≤ a.length := by
  unfold Txt.split at h
  split at h
  · rw [List.mem_singleton.mp h]; exact Nat.le_refl _
  · split at h
    · rw [List.mem_singleton.mp h]; exact Nat.le_refl _
    · unfold Builtin.Str.partsBetween at h
      obtain ⟨q, _, rfl⟩ := List.mem_map.mp h
      exact len_sub _ _ _
theorem part_piece (a b : Str) : (Txt.partition a b).1.length ≤ a.length ∧ (Txt.partition a b).2.1.length ≤ b.length ∧ (Txt.partition a b).2.2.length ≤ a.length := by
  unfold Txt.partition
  split
  · exact ⟨len_sub _ _ _, Nat.le_refl _, len_sub _ _ _⟩
  · exact ⟨Nat.le_refl _, Nat.zero_le _, Nat.zero_le _⟩
section
variable {L : Lk} {X : Cx}
def meT : Me → String
  | .append => "list" | .pop => "list" | .extend => "list" | .join => "str" | .partition => "str" | .split => "str" | .get => "dict" | .upper => "str"
def meId : Me → String
  | .append => "list.append" | .pop => "list.pop" | .extend => "list.extend" | .join => "str.join" | .partition => "str.partition" | .split => "str.split" | .get => "dict.get" | .upper => "str.upper"
def meN : Me → Str
  | .append => "append" | .pop => "pop" | .extend => "extend" | .join => "join" | .partition => "partition" | .split => "split" | .get => "get" | .upper => "upper"
theorem rvs_strs {ι : List Addr} {H : Hp} : ∀ {ys : List Str}, (∀ y ∈ ys, y.length ≤ sizeLine) → RVs L ι H (ys.map .str) (ys.map V.str)
  | [], _ => by simp [RVs]
  | y :: ys, h => by
    simp only [List.map_cons, RVs]
    exact ⟨_, _, rfl, rv_str (h y List.mem_cons_self), rvs_strs fun z hz => h z (List.mem_cons_of_mem _ hz)⟩
theorem rvs_dropLast {ι : List Addr} {H : Hp} {xs : List PV} {vs : List V} (r : RVs L ι H xs vs) : RVs L ι H xs.dropLast vs.dropLast := by
  rw [List.dropLast_eq_take, List.dropLast_eq_take, ← r.length]
  exact r.take _
theorem rvs_erase {ι : List Addr} {H : Hp} {xs : List PV} {vs : List V} (r : RVs L ι H xs vs) (k : Nat) : RVs L ι H (xs.eraseIdx k) (vs.eraseIdx k) := by
  rw [List.eraseIdx_eq_take_drop_succ, List.eraseIdx_eq_take_drop_succ]
  exact (r.take _).append (r.drop _)
theorem rvs_set {ι : List Addr} {H : Hp} {x : PV} {u : V} (hx : RV L ι H x u) : ∀ {xs : List PV} {vs : List V} (k : Nat), RVs L ι H xs vs → RVs L ι H (xs.set k x) (vs.set k u)
  | [], _, _, h => by cases h.zero; simp [RVs]
  | y :: xs, _, 0, h => by
    simp only [RVs] at h
    obtain ⟨v, r, rfl, h1, h2⟩ := h
    simp only [List.set_cons_zero, RVs]
    exact ⟨u, r, rfl, hx, h2⟩
  | y :: xs, _, k + 1, h => by
    simp only [RVs] at h
    obtain ⟨v, r, rfl, h1, h2⟩ := h
    simp only [List.set_cons_succ, RVs]
    exact ⟨v, _, rfl, h1, rvs_set hx k h2⟩
/-- a list at a place is another -/
theorem okV.put {ι : List Addr} {H : Hp} {h : PHeap} {l : Nat} {p : Addr} {xs : List PV} {vs : List V} {v : PV} {u : V} {Q : VK} {W : Value → Option Addr → Hp → Prop} (rh : RH L ι H h) (hp : ι[l]? = some p) (r : RVs L ι H xs vs) (hz : vs.length ≤ sizeLine) (rv : RV L ι H v u) (hq : okV L ι H (.ok v (h.set l (.lst xs))) Q W) :
    Q u (upd H p (.lst vs)) := by
  have hw := Ext.write (H := H) (o := .lst vs) (List.mem_of_getElem? hp)
  exact hq ι _ u hw (rh.write hp ⟨vs, rfl, hz, RVs.ext hw _ _ r⟩) (RV.ext hw _ _ rv)
theorem mtr_me (hu : X.A.units + 100 < cLine) (hc : X.calm = true) (hK : X.K = L.K) : ∀ m, MtR X (meId m) (rMt L (mthOp m)) := by
  intro m
  rintro pins s σ H x xs v us Q I rx rs ⟨ι, a, vs, h, W', ra, rv, rh, hq⟩
  cases m with
  | append =>
    unfold mthOp at hq
    split at hq <;> first | contradiction | skip
    · rename_i l y _
      obtain ⟨y', rfl, ry⟩ := rv.one
      split at hq
      · rename_i zs hl
        obtain ⟨hg, hq⟩ := okA.guard hq
        obtain ⟨p, ws, rfl, hp, h2, hz, r⟩ := at_lst rh ra hl
        have hlen : ws.length < sizeLine := by rw [← r.length, ← szB_eq]; exact hg
        exact mt_append pins s σ H _ _ v us Q I rx rs ⟨p, ws, y', rfl, rfl, h2, hlen, okV.put rh hp (r.append (by simp only [RVs]; exact ⟨y', [], rfl, ry, rfl⟩)) (by rw [List.length_append]; exact hlen) rv_non hq⟩
      · exact hq.elim
  | pop =>
    unfold mthOp at hq
    split at hq <;> first | contradiction | skip
    · rename_i l _
      cases rv.zero
      split at hq
      · rename_i zs hl
        obtain ⟨y, e, hq⟩ := okA.got hq
        obtain ⟨p, ws, rfl, hp, h2, hz, r⟩ := at_lst rh ra hl
        obtain ⟨y', e', ry⟩ := r.get e
        exact mt_pop pins s σ H _ _ v us Q I rx rs ⟨p, ws, y', rfl, rfl, h2, by rw [← r.length]; exact e', okV.put rh hp (rvs_dropLast r) (by rw [List.length_dropLast]; omega) ry hq⟩
      · exact hq.elim
    · rename_i l i _
      obtain ⟨y', rfl, ry⟩ := rv.one
      simp only [RV] at ry
      subst ry
      split at hq
      · rename_i zs hl
        obtain ⟨hg, hq⟩ := okA.guard hq
        obtain ⟨k, e, hq⟩ := okA.got hq
        obtain ⟨y, e2, hq⟩ := okA.got hq
        obtain ⟨p, ws, rfl, hp, h2, hz, r⟩ := at_lst rh ra hl
        obtain ⟨y', e', ry⟩ := r.get e2
        refine mt_popAt pins s σ H _ _ v us Q I rx rs ⟨p, ws, i, k, y', rfl, rfl, h2, hg.1, hg.2, by rw [← r.length]; exact (ixN_seq e).1, e', okV.put rh hp (rvs_erase r k) (Nat.le_trans (List.length_eraseIdx_le _ _) hz) ry hq⟩
      · exact hq.elim
  | extend =>
    unfold mthOp at hq
    split at hq <;> first | contradiction | skip
    · rename_i l w _
      obtain ⟨y', rfl, ry⟩ := rv.one
      split at hq
      · rename_i zs ys hl e2
        obtain ⟨hg, hq⟩ := okA.guard hq
        obtain ⟨p, ws, rfl, hp, h2, hz, r⟩ := at_lst rh ra hl
        obtain ⟨q, ws2, rfl, h3, hz2, r2⟩ := is_lst rh ry e2
        have hlen : ws.length + ws2.length ≤ sizeLine := by rw [← r.length, ← r2.length, ← szB_eq]; exact hg
        exact mt_extend pins s σ H _ _ v us Q I rx rs ⟨p, q, ws, ws2, rfl, rfl, h2, h3, hlen, okV.put rh hp (r.append r2) (by rw [List.length_append]; exact hlen) rv_non hq⟩
      · exact hq.elim
  | join =>
    unfold mthOp at hq
    split at hq <;> first | contradiction | skip
    · rename_i z w _
      obtain ⟨y', rfl, ry⟩ := rv.one
      obtain ⟨ys, e, hq⟩ := okA.got hq
      obtain ⟨hg, hq⟩ := okA.guard hq
      rw [Option.bind_eq_some_iff] at e
      obtain ⟨zs, e1, e2⟩ := e
      obtain ⟨p, ws, rfl, h1, hz, r⟩ := is_seq rh ry e1
      cases strs_of r e2
      simp only [RV] at ra
      obtain ⟨rfl, _⟩ := ra
      refine mt_join pins s σ H _ _ v us Q I rx rs ⟨z, p, ys, rfl, rfl, by rw [hK]; exact h1, hg, okV.here hq rh (rv_str ?_)⟩
      unfold Txt.join
      rw [StrLaws.glued_eq_join, ← szB_eq]
      exact Nat.le_trans (StrLaws.join_length_le _ _) hg
  | partition =>
    unfold mthOp at hq
    split at hq <;> first | contradiction | skip
    · rename_i a b _
      obtain ⟨y', rfl, ry⟩ := rv.one
      obtain ⟨hg, hq⟩ := okA.guard hq
      simp only [RV] at ra ry
      obtain ⟨rfl, hz⟩ := ra
      obtain ⟨rfl, hz2⟩ := ry
      obtain ⟨q1, q2, q3⟩ := part_piece a b
      exact mt_partition pins s σ H _ _ v us Q I rx rs ⟨a, b, rfl, rfl, hg, hz, fun p hp => okV.newTup rh (rvs_strs (ys := [(Txt.partition a b).1, (Txt.partition a b).2.1, (Txt.partition a b).2.2]) (fun y hy => by
        simp only [List.mem_cons, List.not_mem_nil, or_false] at hy
        rcases hy with rfl | rfl | rfl <;> omega)) (by show 3 ≤ sizeLine; rw [sizeLine_eq]; decide) hq hp⟩
  | split =>
    unfold mthOp at hq
    split at hq <;> first | contradiction | skip
    · rename_i a b _
      obtain ⟨y', rfl, ry⟩ := rv.one
      obtain ⟨⟨hg, hg2⟩, hq⟩ := okA.guard hq
      simp only [RV] at ra ry
      obtain ⟨rfl, hz⟩ := ra
      obtain ⟨rfl, hz2⟩ := ry
      rw [szB_eq] at hg2
      exact mt_split pins s σ H _ _ v us Q I rx rs ⟨a, b, rfl, rfl, hg, hg2, fun p hp => okV.mkL (mu := false) rh (rvs_strs fun y hy => Nat.le_trans (split_piece hy) hz) (by rw [List.length_map]; exact Nat.le_trans (PyProof.Rows.split_le a b) hg2) hq hp⟩
  | upper =>
    unfold mthOp at hq
    split at hq <;> first | contradiction | skip
    · rename_i a _
      have e := rv.length
      obtain rfl : xs = [] := by
        cases xs with
        | nil => rfl
        | cons _ _ => simp at e
      obtain ⟨hg, hq⟩ := okA.guard hq
      simp only [RV] at ra
      obtain ⟨rfl, hz⟩ := ra
      refine mt_upper pins s σ H _ _ v us Q I rx rs ⟨a, rfl, rfl, hg, okV.here hq rh (rv_str ?_)⟩
      have := PyProof.Rows.len_upper a
      rw [sizeLine_eq]
      omega
  | get =>
    unfold mthOp at hq
    split at hq <;> first | contradiction | skip
    · rename_i l k d _
      obtain ⟨x1, x2, rfl, r1, r2⟩ := rv.two
      split at hq
      · rename_i kvs kk hl hk
        obtain ⟨p, ws, rfl, hp, h2, r, _⟩ := at_dK rh ra hl
        cases keyOf_V r1 hk
        cases rx
        obtain ⟨u1, u2, rfl, q1, q2⟩ := vals2 rs
        refine d_get2 (by omega) I (dget_of h2 kk) q1 q2 fun w' s' I' rw' => ⟨_, H, I', rw', okV.here hq rh ?_⟩
        cases e : (kvs.find? fun kv => decide (kv.1 = kk)) with
        | none =>
          rw [(find_pair r kk).2 e]
          exact r2
        | some z =>
          obtain ⟨z', e', rz⟩ := (find_pair r kk).1 z.2 (by rw [e]; rfl)
          rw [e']
          exact rz
      · exact hq.elim
/-- the receiver's type -/
theorem ty_me {ι : List Addr} {H : Hp} {h : PHeap} {m : Me} {a : PV} {x : V} (hK : X.K = L.K) (rh : RH L ι H h) (ra : RV L ι H a x) (e : mthPre m h a = true) : tyV X.K (meT m) x H := by
  have lst : ∀ l, a = .loc l → (match h[l]? with | some (.lst _) => true | _ => false) = true → tyV X.K "list" x H := fun l ea e1 => by
    subst ea
    split at e1
    · rename_i zs hl
      obtain ⟨p, ws, rfl, hp, h2, hz, r⟩ := at_lst rh ra hl
      exact .inl ⟨rfl, ws, SqL.of h2⟩
    · cases e1
  cases m <;> cases a <;> first
    | (cases e; done)
    | exact lst _ rfl e
    | (simp only [RV] at ra; obtain ⟨rfl, _⟩ := ra; rfl)
    | (unfold mthPre at e
       simp only at e
       split at e
       · rename_i kvs hl
         obtain ⟨p, ws, rfl, hp, h2, r, _⟩ := at_dK rh ra hl
         exact .inr (.inr (.inl ⟨rfl, .inl ⟨ws, h2⟩⟩))
       · cases e)
/-! ### o[i] = x -/
theorem paired_any {κ : Type} [DecidableEq κ] {ι : List Addr} {H : Hp} {kvs : List (κ × PV)} {vs : List (κ × V)} (r : Paired (fun (p : κ × PV) (q : κ × V) => p.1 = q.1 ∧ RV L ι H p.2 q.2) kvs vs) (k : κ) : (kvs.any fun kv => decide (kv.1 = k)) = (vs.any fun kv => decide (kv.1 = k)) := by
  induction r with
  | nil => rfl
  | cons h t ih => rw [List.any_cons, List.any_cons, ih, h.1]
theorem paired_put {κ : Type} [DecidableEq κ] {ι : List Addr} {H : Hp} {kvs : List (κ × PV)} {vs : List (κ × V)} (r : Paired (fun (p : κ × PV) (q : κ × V) => p.1 = q.1 ∧ RV L ι H p.2 q.2) kvs vs) (k : κ) {y : PV} {u : V} (ry : RV L ι H y u) :
    Paired (fun (p : κ × PV) (q : κ × V) => p.1 = q.1 ∧ RV L ι H p.2 q.2) (putD kvs k y) (putK vs k u) := by
  unfold putD putK
  rw [paired_any r k]
  by_cases c : (vs.any fun kv => decide (kv.1 = k)) = true
  · rw [if_pos c, if_pos c]
    clear c
    induction r with
    | nil => exact .nil
    | cons h t ih =>
      rw [List.map_cons, List.map_cons]
      refine .cons ?_ ih
      rename_i p q ps qs
      rw [h.1]
      by_cases e : q.1 = k
      · rw [if_pos e, if_pos e]; exact ⟨rfl, ry⟩
      · rw [if_neg e, if_neg e]; exact h
  · rw [if_neg c, if_neg c]
    clear c
    induction r with
    | nil => exact .cons ⟨rfl, ry⟩ .nil
    | cons h t ih => exact .cons h ih
theorem putD_mem {κ : Type} [DecidableEq κ] {kvs : List (κ × PV)} {k : κ} {y : PV} {p : κ × PV} (h : p ∈ putD kvs k y) : p.1 = k ∨ ∃ q ∈ kvs, p.1 = q.1 := by
  unfold putD at h
  split at h
  · obtain ⟨q, hq, e⟩ := List.mem_map.mp h
    refine .inr ⟨q, hq, ?_⟩
    rw [← e]
    split <;> rfl
  · rcases List.mem_append.mp h with z | z
    · exact .inr ⟨p, z, rfl⟩
    · rw [List.mem_singleton.mp z]; exact .inl rfl
theorem keyZ_of {ι : List Addr} {H : Hp} {a : PV} {x : V} {k : Key} (ra : RV L ι H a x) (e : keyOf a = some k) : KeyZ k := by
  cases a <;> simp only [keyOf] at e <;> cases e
  · trivial
  · simp only [RV] at ra; exact ra.2
def rSetO (L : Lk) : V → V → V → Hp → (Hp → Prop) → Prop := fun o i x H Q => ∃ ι a b c h h', RV L ι H a o ∧ RV L ι H b i ∧ RV L ι H c x ∧ RH L ι H h ∧ setOp a b c h = some h' ∧ ∀ ι' H', Ext ι H ι' H' → RH L ι' H' h' → Q H'
theorem pset_o (hu : X.A.units + 1 < cLine) : PSet X (rSetO L) := by
  rintro pins s σ H o i x ov iv u Q I ro ri rx ⟨ι, a, b, c, h, h', ra, rb, rc, rh, e, hq⟩
  unfold setOp at e
  split at e
  · rename_i l k
    split at e
    · rename_i xs j hl
      simp only [Option.map_eq_some_iff] at e
      obtain ⟨n, e1, rfl⟩ := e
      obtain ⟨p, ws, rfl, hp, h2, hz, r⟩ := at_lst rh ra hl
      simp only [RV] at rb
      subst rb
      have hw := Ext.write (H := H) (o := .lst (ws.set n x)) (List.mem_of_getElem? hp)
      exact set_list pins s σ H _ _ x ov iv u Q I ro ri rx ⟨p, ws, j, n, rfl, rfl, h2, by rw [← r.length]; exact e1, hq ι _ hw (rh.write hp ⟨_, rfl, by rw [List.length_set]; exact hz, RVs.ext hw _ _ (rvs_set rc n r)⟩)⟩
    · rename_i kvs k' hl
      rw [Option.bind_eq_some_iff] at e
      obtain ⟨kk, hk, e⟩ := e
      split at e
      · rename_i hz
        cases e
        obtain ⟨p, ws, rfl, hp, h2, r, zk⟩ := at_dK rh ra hl
        cases keyOf_V rb hk
        cases ro
        have hlen : ws.length < sizeLine := by rw [← r.length, ← szB_eq]; exact hz
        have hw := Ext.write (H := H) (o := .dK (putK ws kk x)) (List.mem_of_getElem? hp)
        refine d_setItem hu I (DPut.k (k := kk) h2 hlen) ri rx fun s' I' => ⟨_, I', hq ι _ hw (rh.write hp ⟨_, rfl, pairedExt hw (paired_put r kk rc), fun q hq' => ?_⟩)⟩
        rcases putD_mem hq' with z | ⟨q', z1, z2⟩
        · rw [z]; exact keyZ_of rb hk
        · rw [z2]; exact zk q' z1
      · cases e
    · cases e
  · cases e
/-! ### list + list -/
theorem opr_cat (hK : X.K = L.K) (mu : Bool) : OpR X (binaryOp .Add) (rOf L (catOp mu)) := by
  obtain ⟨K, cA⟩ := L
  cases hK
  rintro pins s σ H x y v u Q I rx ry ⟨ι, a, b, h, W', ra, rb, rh, hq⟩
  unfold catOp at hq
  split at hq <;> first | exact hq.elim | skip
  rename_i xs ys e1 e2
  obtain ⟨hc, hq⟩ := okA.guard hq
  obtain ⟨p, ws, rfl, h1, hz, r⟩ := is_lst rh ra e1
  obtain ⟨q, zs, rfl, h2, hz2, r2⟩ := is_lst rh rb e2
  have hlen : ws.length + zs.length ≤ sizeLine := by rw [← r.length, ← r2.length, ← szB_eq]; exact hc
  exact op_cat pins s σ H _ _ v u Q I rx ry ⟨p, q, ws, zs, rfl, rfl, h1, h2, hlen, fun p' hp => okV.mkL rh (r.append r2) (by rw [List.length_append]; exact hlen) hq hp⟩
end
end Rf
end

section
set_option Elab.async false
set_option linter.all false
set_option maxRecDepth 100000
set_option maxHeartbeats 4000000
namespace Rf
open PySem PySem.Spec L2
/-! ### a list that is not seen -/
def hid (d : Addr) (H : Hp) : Hp := fun a => if a = d then none else H a
theorem hid_same {d : Addr} {H : Hp} : hid d H d = none := if_pos rfl
theorem hid_ne {d a : Addr} {H : Hp} (h : a ≠ d) : hid d H a = H a := if_neg h
theorem hid_upd {d p : Addr} {H : Hp} {o : HO} (h : p ≠ d) : hid d (upd H p o) = upd (hid d H) p o := by
  funext a
  by_cases e : a = d
  · subst e
    rw [hid_same, upd_ne (Ne.symm h), hid_same]
  · rw [hid_ne e]
    by_cases e2 : a = p
    · subst e2; rw [upd_same, upd_same]
    · rw [upd_ne e2, upd_ne e2, hid_ne e]
theorem upd_hid {d : Addr} {H : Hp} {o : HO} (h : H d = some o) : upd (hid d H) d o = H := by
  funext a
  by_cases e : a = d
  · subst e; rw [upd_same, h]
  · rw [upd_ne e, hid_ne e]
theorem hid_upd_same {d : Addr} {H : Hp} {o : HO} (h : H d = none) : hid d (upd H d o) = H := by
  funext a
  by_cases e : a = d
  · subst e; rw [hid_same, h]
  · rw [hid_ne e, upd_ne e]
section
variable {X : Cx} {pins : List (Addr × Obj)} {σ σ' : L2.St} {H H' : Hp} {s s' : Shared}
theorem Inv.nofree (I : Inv X pins σ H s) {d : Addr} {u : HO} (hd : H d = some u) : d ≠ X.env.locals ∧ d ∉ X.fs ∧ (∀ p ∈ X.pn ++ pins, p.1 ≠ d) ∧ (∀ x c, X.env.cells.lookup x = some c → c ≠ d) ∧ (∀ b o, X.s_0.heap.get? b = some o → X.H_0 b = none → b ∉ X.ex → b ≠ d) := by
  refine ⟨fun z => (by rw [z, I.free] at hd; cases hd), fun z => ?_, fun p hp z => ?_, fun x c e z => ?_, fun b o e n hx z => ?_⟩
  · obtain ⟨_, o, ho, _⟩ := I.ok.funs.mem z
    have := I.base.free d o ho (I.ok.frf d z) fun q => I.ok.exfs d q z
    rw [this] at hd; cases hd
  · have := (I.pin p hp).2.1
    rw [z, hd] at this; cases this
  · have := I.freeC x c e
    rw [z, hd] at this; cases this
  · have := I.base.free b o e n hx
    rw [z, hd] at this; cases this
theorem ObjOk.hide {P : Program} {w : World} {h : Heap} {d a : Addr} {xs : List V} {o : HO} (hd : H d = some (.lst xs)) (x : ObjOk P w H h a o) : ObjOk P w (hid d H) h a o :=
  x.stay (fun _ _ _ e => e) (fun b e => by rw [hid_ne fun z => by rw [z, hd] at e; cases e]; exact e) (fun b ys e => by rw [hid_ne fun z => by rw [z, hd] at e; cases e]; exact e)
theorem ObjOk.unhide {P : Program} {w : World} {h : Heap} {d a : Addr} {xs : List V} {o : HO} (hd : H d = none) (x : ObjOk P w H h a o) : ObjOk P w (upd H d (.lst xs)) h a o :=
  x.stay (fun _ _ _ e => e) (fun b e => by rw [upd_ne fun z => by rw [z, hd] at e; cases e]; exact e) (fun b ys e => by rw [upd_ne fun z => by rw [z, hd] at e; cases e]; exact e)
theorem Inv.hide (I : Inv X pins σ H s) {d : Addr} {xs : List V} (hd : H d = some (.lst xs)) : ∃ o, s.heap.get? d = some o ∧ ObjOk X.prog X.w (hid d H) s.heap d (.lst xs) ∧ Inv X (pins ++ [(d, o)]) σ (hid d H) s := by
  have hk := I.hok d _ hd
  obtain ⟨hz, its, n, rv, e⟩ := id hk
  obtain ⟨n1, n2, n3, n4, n5⟩ := Inv.nofree I hd
  refine ⟨_, e, ObjOk.hide hd hk, I.ok, I.os, I.bare, ⟨fun b o q nb nf nx => I.base.keep b o q nb nf nx, fun b o q nb nf nx => I.base.slot b o q nb nf nx, fun b o q nb nx => by rw [hid_ne (n5 b o q nb nx)]; exact I.base.free b o q nb nx, I.base.there,
    fun b ys q => ?_, fun b o u q => ?_, fun b ps q => ?_⟩, I.loc, I.cell, by rw [hid_ne (Ne.symm n1)]; exact I.free, fun x c q => by rw [hid_ne (n4 x c q)]; exact I.freeC x c q, fun p hp => ?_, fun a o q => ?_, I.len⟩
  · have z := I.base.tups b ys q
    rw [hid_ne fun y => by rw [y, hd] at z; cases z]; exact z
  · have z := I.base.frzs b o u q
    rw [hid_ne fun y => by rw [y, hd] at z; cases z]; exact z
  · obtain ⟨m, z⟩ := I.base.tbls b ps q
    exact ⟨m, by rw [hid_ne fun y => by rw [y, hd] at z; cases z]; exact z⟩
  · rw [← List.append_assoc] at hp
    rcases List.mem_append.mp hp with hp | hp
    · obtain ⟨q1, q2, q3⟩ := I.pin p hp
      exact ⟨q1, by rw [hid_ne (n3 p hp)]; exact q2, q3⟩
    · rw [List.mem_singleton.mp hp]
      exact ⟨e, hid_same, n1, n2, fun v z => by cases z⟩
  · by_cases y : a = d
    · subst y; rw [hid_same] at q; cases q
    · rw [hid_ne y] at q
      exact ObjOk.hide hd (I.hok a o q)
theorem Inv.unhide {d : Addr} {xs : List V} {o : Obj} (I0 : Inv X pins σ' H' s') (hd : H' d = some (.lst xs)) (e0 : s'.heap.get? d = some o) (I : Inv X (pins ++ [(d, o)]) σ H s) : H d = none ∧ Inv X pins σ (upd H d (.lst xs)) s := by
  obtain ⟨n1, n2, n3, n4, n5⟩ := Inv.nofree I0 hd
  obtain ⟨e1, hn, _⟩ := I.pin (d, o) (by simp)
  obtain ⟨hz, its, n, rv, e⟩ := I0.hok d _ hd
  rw [e0] at e
  cases e
  refine ⟨hn, I.ok, I.os, I.bare, ⟨fun b o q nb nf nx => I.base.keep b o q nb nf nx, fun b o q nb nf nx => I.base.slot b o q nb nf nx, fun b o q nb nx => by rw [upd_ne (n5 b o q nb nx)]; exact I.base.free b o q nb nx, I.base.there,
    fun b ys q => ?_, fun b o u q => ?_, fun b ps q => ?_⟩, I.loc, I.cell, by rw [upd_ne (Ne.symm n1)]; exact I.free, fun x c q => by rw [upd_ne (n4 x c q)]; exact I.freeC x c q, fun p hp => ?_, fun a o q => ?_, I.len⟩
  · have z := I.base.tups b ys q
    rw [upd_ne fun y => by rw [y, hn] at z; cases z]; exact z
  · have z := I.base.frzs b o u q
    rw [upd_ne fun y => by rw [y, hn] at z; cases z]; exact z
  · obtain ⟨m, z⟩ := I.base.tbls b ps q
    exact ⟨m, by rw [upd_ne fun y => by rw [y, hn] at z; cases z]; exact z⟩
  · obtain ⟨q1, q2, q3⟩ := I.pin p (by rw [← List.append_assoc]; exact List.mem_append_left _ hp)
    exact ⟨q1, by rw [upd_ne (n3 p hp)]; exact q2, q3⟩
  · by_cases y : a = d
    · subst y
      rw [upd_same] at q
      cases q
      exact ⟨hz, its, n, rv, e1⟩
    · rw [upd_ne y] at q
      exact ObjOk.unhide hn (I.hok a o q)
end
/-- a reading that does not see the list -/
def tHid (t : TE) : TE := fun σ H Q => ∃ d xs, H d = some (.lst xs) ∧ t σ (hid d H) fun u H' => H' d = none → Q u (upd H' d (.lst xs))
def tHidT (t : TT) : TT := fun σ H Q => ∃ d xs, H d = some (.lst xs) ∧ t σ (hid d H) fun u H' => H' d = none → Q u (upd H' d (.lst xs))
theorem PE.hid {X : Cx} {e : Expr} {t : TE} (h : PE X e t) : PE X e (tHid t) := by
  refine ⟨fun pins s σ H Q I ⟨d, xs, hd, q⟩ => ?_⟩
  obtain ⟨o, e, _, I1⟩ := Inv.hide I hd
  refine thn (h.run _ s σ _ _ I1 q) fun u s1 ⟨v, H1, I2, rv, q1⟩ => ?_
  obtain ⟨hn, I3⟩ := Inv.unhide I hd e I2
  exact ⟨v, _, I3, rv, q1 hn⟩
theorem PT.hid {X : Cx} {e : Expr} {t : TT} (h : PT X e t) : PT X e (tHidT t) := by
  refine ⟨fun pins s σ H Q I ⟨d, xs, hd, q⟩ => ?_⟩
  obtain ⟨o, e, _, I1⟩ := Inv.hide I hd
  refine thn (h.run _ s σ _ _ I1 q) fun u s1 ⟨H1, I2, q1⟩ => ?_
  obtain ⟨hn, I3⟩ := Inv.unhide I hd e I2
  exact ⟨_, I3, q1 hn⟩
/-! ### weaker readings -/
theorem PE.imp {X : Cx} {e : Expr} {t t' : TE} (h : PE X e t) (w : ∀ σ H Q, t' σ H Q → t σ H Q) : PE X e t' := ⟨fun pins s σ H Q I q => h.run pins s σ H Q I (w σ H Q q)⟩
theorem PT.imp {X : Cx} {e : Expr} {t t' : TT} (h : PT X e t) (w : ∀ σ H Q, t' σ H Q → t σ H Q) : PT X e t' := ⟨fun pins s σ H Q I q => h.run pins s σ H Q I (w σ H Q q)⟩
theorem PW.imp {X : Cx} {e : Expr} {t t' : TT} (h : PW X e t) (w : ∀ σ H Q, t' σ H Q → t σ H Q) : PW X e t' := ⟨fun wh pins s σ H Q I q => h.run wh pins s σ H Q I (w σ H Q q)⟩
theorem PA.imp {X : Cx} {e : List Expr} {t t' : TA} (h : PA X e t) (w : ∀ σ H Q, t' σ H Q → t σ H Q) : PA X e t' := ⟨fun pos pins s σ H Q I q => h.run pos pins s σ H Q I (w σ H Q q)⟩
theorem PS.imp {X : Cx} {e : Stmt} {t t' : TS} (h : PS X e t) (w : ∀ D σ H, t' D σ H → t D σ H) : PS X e t' := ⟨fun pins s σ H D I q => h.run pins s σ H D I (w D σ H q)⟩
theorem PSs.imp {X : Cx} {e : List Stmt} {t t' : TS} (h : PSs X e t) (w : ∀ D σ H, t' D σ H → t D σ H) : PSs X e t' := ⟨fun pins s σ H D I q => h.run pins s σ H D I (w D σ H q)⟩
theorem PG.imp {X : Cx} {e : Expr} {t t' : TG} (h : PG X e t) (w : ∀ v σ H Q, t' v σ H Q → t v σ H Q) : PG X e t' := ⟨fun pins s σ H v u Q I r q => h.run pins s σ H v u Q I r (w v σ H Q q)⟩
end Rf
end

section
set_option Elab.async false
set_option linter.all false
set_option maxRecDepth 100000
set_option maxHeartbeats 4000000
/-! An exception that leaves a list comprehension. -/
namespace Rf
open PySem PySem.Spec L2
open PySem.HandSPX (TracedZ HeldZ FlyingZ Steady)
theorem noteFrame_env {x : Value} {e1 e2 : Env} (h : e1.frame = e2.frame) : noteFrame x e1 = noteFrame x e2 := by
  unfold noteFrame frameOf
  rw [h]
section
variable {M : Model} {A : Around} {E : Value → Shared → Prop} {s : Shared} {env : Env}
/-- what stands at a comprehension's end -/
def endC (M : Model) (A : Around) (E : Value → Shared → Prop) (use : Option (Value → Sem Unit)) (Q : Value → Shared → Prop) (acc : Value) (ce : Env) (r : Result) (s' : Shared) : Prop := match r with
  | .ok f => compPost M A E use Q acc ce.locals (.ok f) s'
  | .error x => ∃ m, s'.heap.Ns ce.locals m ∧ ∀ h2, Heap.SameBut ce.locals s'.heap h2 → wpAny M A (passOn "comprehension.variables-let-go" x ce : Sem Value) (fun _ _ => False) E { s' with heap := h2 }
theorem comp_own {e : Expr} {scope : Scope} {pos : Pos} {newAcc first : Sem Value} {g : Comprehension} {gs : List Comprehension} {cl : List (Str × Addr)} {use : Option (Value → Sem Unit)} {Q : Value → Shared → Prop}
    (c1 : clausesOf e = g :: gs) (c2 : ∀ x, foldedSetIterable g.iter env x = pure x) (c3 : closureFor scope env = pure cl) (c4 : scope.kind = .function) (c5 : ∀ x ∈ scope.names, x.2 = .local → scope.names.lookup x.1 = some .local)
    (h : wpAny M A first (fun x s1 => wpAny M A (pyIter x) (fun it s2 => wpAny M A newAcc (fun acc s3 => wpAny M A (newFunctionEnv scope env.globals cl [] env.qual none .none (some env)) (fun cv s4 =>
      codeAny M A (.compStart e 0 it acc { cv with scope := relabel scope env }) (endC M A E use Q acc { cv with scope := relabel scope env }) s4) E s3) E s2) E s1) E s) :
    wpAny M A (comprehension e scope env pos newAcc false first use) Q E s := by
  unfold comprehension
  rw [c3, c1]
  refine wpAny_bind (wpAny_mono h (fun x s1 h1 => ?_) fun _ _ z => z)
  refine wpAny_bind (wpAny_standAt (wpAny_bind (wpAny_of_eq (c2 x) ?_)))
  refine wpAny_bind (wpAny_holding (wpAny_mono h1 (fun it s2 h2 => ?_) fun _ _ z => z))
  refine wpAny_standIf (wpAny_bind (wpAny_mono h2 (fun acc s3 h3 => ?_) fun _ _ z => z))
  refine wpAny_bind (wpAny_pure (wpAny_bind (wpAny_mono h3 (fun cv s4 h4 => ?_) fun _ _ z => z)))
  dsimp only
  have k1 : ∀ y ∈ (scope.names.filter fun y => (y.2 == .local || y.2 == .cell) && y.1 != (".0" : Str)), y.2 = .local → Env.kindOf { cv with scope := relabel scope env } y.1 = some .local :=
    fun y hy z => lookup_relabel_local (c5 y (List.mem_filter.mp hy).1 z)
  have k2 : ∀ y ∈ (scope.names.filter fun y => (y.2 == .local || y.2 == .cell) && y.1 != (".0" : Str)).reverse, y.2 = .local → Env.kindOf { cv with scope := relabel scope env } y.1 = some .local := fun y hy => k1 y (List.mem_reverse.mp hy)
  have k3 : ∀ y ∈ (scope.names.filter fun y => (y.2 == .local || y.2 == .cell) && y.1 != (".0" : Str)).reverse.drop 1 ++ (scope.names.filter fun y => (y.2 == .local || y.2 == .cell) && y.1 != (".0" : Str)).reverse.take 1, y.2 = .local → Env.kindOf { cv with scope := relabel scope env } y.1 = some .local := fun y hy =>
    (List.mem_append.mp hy).elim (fun z => k2 y (List.mem_of_mem_drop z)) fun z => k2 y (List.mem_of_mem_take z)
  refine wpAny_holding (wpAny_bind (wpAny_attempt (wpAny_holding (wpAny_run (codeAny_mono h4 fun r s5 hr => ?_)))))
  cases r with
  | error x =>
    obtain ⟨m, hn, hr⟩ := hr
    refine wpAny_bind (wpAny_holding (wpAny_comp_letGo (cenv := { cv with scope := relabel scope env }) c4 _ s5 m k2 hn fun h2 _ _ sb => ?_))
    exact wpAny_mono (hr h2 sb) (fun _ _ z => z.elim) fun _ _ z => z
  | ok f =>
    cases use with
    | none =>
      obtain ⟨m, hn, hr⟩ := hr
      refine wpAny_bind (wpAny_holding (wpAny_comp_letGo (cenv := { cv with scope := relabel scope env }) c4 _ s5 m k2 hn fun h2 _ _ sb => ?_))
      exact wpAny_pure (hr h2 sb)
    | some u =>
      refine wpAny_bind (wpAny_rule (wpAny_bind (wpAny_holding (wpAny_mono hr (fun _ s6 ⟨m, hn, hr⟩ => ?_) fun _ _ z => z))))
      refine wpAny_bind (wpAny_comp_letGo (cenv := { cv with scope := relabel scope env }) c4 _ s6 m k3 hn fun h2 _ _ sb => ?_)
      exact wpAny_pure (hr h2 sb)
/-- noted by another place: this frame notes it, too -/
theorem look_other {Z : Obj → Prop} {base : Heap} {outer : List Env} {L C e : Addr} {Q : Unit → Shared → Prop} (hZ : Steady Z) (hfr : A.frames = some (env :: outer)) (hf : env.frame = some L) (hne : C ≠ L)
    (hh : HeldZ base (env :: outer) e Z C s.heap) (hQ : ∀ h2, HeldZ base (env :: outer) e Z L h2 → s.heap.UpToSlots h2 → Q () { s with heap := h2 }) : wpAny M A (noteFrame (.ref e) env) Q E s := by
  obtain ⟨kb, en, ff, oe, vs, T, oT, ts, he, hz, hd, i1, nT, Te, hT, dT, i3⟩ := hh
  have nrec : ∀ b o, s.heap.get? b = some o → (∀ vs, o.data ≠ .fields vs) → b ≠ T := fun b o hb nf z => by
    rw [z, hT] at hb
    cases hb
    exact nf _ dT
  have off : ∀ b, b ≠ T → (s.heap.update T (Obj.mapFields (·.setIfInBounds 3 Value.none))).get? b = s.heap.get? b := fun b hb => Heap.get?_update_other _ _ fun z => hb z.symm
  unfold noteFrame
  simp only [hf]
  have i3' := (Array.getElem?_eq_some_iff.mp i3).1
  refine wpAny_bind (wpAny_field he hd i1 ?_)
  have t1 : (Value.ref T != Value.none) = true := by simp
  have t2 : ¬ (rawInt C == rawInt L) = true := by simp [rawInt]; exact fun z => hne (Int.ofNat.inj z)
  rw [if_pos t1]
  refine wpAny_bind (wpAny_field hT dT i3 ?_)
  rw [if_neg t2]
  refine wpAny_bind (wpAny_setField hT dT i3' ?_)
  have ff2 := ff.of_keeps (h' := s.heap.update T (Obj.mapFields (·.setIfInBounds 3 Value.none))) fun b o hb nf => ⟨o, (off b (nrec b o hb nf)).trans hb, rfl⟩
  have he2 := (off e fun z => Te z.symm).trans he
  have kb2 : base.StaysIn (s.heap.update T (Obj.mapFields (·.setIfInBounds 3 Value.none))) := fun b o e0 => (off b fun z => by rw [z, nT] at e0; cases e0).trans (kb b o e0)
  refine HandSPX.wpAny_entryZ hZ hfr ff2 hf he2 kb2 en hd (Array.getElem?_eq_some_iff.mp i1).1 hz fun h2 hN => ?_
  obtain ⟨x1, x2, x3, x4⟩ := hN
  exact hQ h2 ⟨x1, en, x2, x3⟩ fun b o hb nf => x4 b o ((off b (nrec b o hb nf)).trans hb) nf
end
/-- frames stand where an object that is none of them is another -/
theorem frames_but {B B' h h2 : Heap} {C : Addr} (off : ∀ b, b ≠ C → h2.get? b = h.get? b) (nb : ∀ b, B.get? b = none → B'.get? b = none) : ∀ {l : List Env}, h.FunFrames B l → C ∉ frs l → h2.FunFrames B' l
  | [], _, _ => trivial
  | env :: l, x, hn => by
    obtain ⟨k, ⟨L, o, hf, n, ho, hd⟩, r⟩ := x
    have hL : L ≠ C := fun z => hn (by rw [← z]; exact List.mem_filterMap.mpr ⟨env, List.mem_cons_self, hf⟩)
    refine ⟨k, ⟨L, o, hf, nb L n, (off L hL).trans ho, hd⟩, frames_but off nb r fun z => hn ?_⟩
    obtain ⟨e, he, q⟩ := List.mem_filterMap.mp z
    exact List.mem_filterMap.mpr ⟨e, List.mem_cons_of_mem _ he, q⟩
section
variable {X : Cx} {W : WX} {pins : List (Addr × Obj)} {σ : L2.St} {H3 : Hp} {s3 : Shared} {fp : List Addr} {scope : Scope} {ce : Env}
/-- the block's wish, from the def's -/
theorem takes_blk (tk : Takes X W) (hs : X.stack = X.env :: X.outer) (hf : X.env.frame = some X.env.locals) (I3 : Inv X pins σ H3 s3) (f3 : ∀ b ∈ fp, FpOk X pins H3 b ∧ b < s3.heap.objs.size) (hcf : ce.frame = X.env.frame) (hcL : ce.locals = s3.heap.objs.size)
    {use : Option (Value → Sem Unit)} {Qf : Value → Shared → Prop} {acc : Value} :
    Takes { X.blk s3 H3 scope ce fp with xe := notedBy (model X.prog X.w) X.A ce fun e s' => endC (model X.prog X.w) X.A X.xe use Qf acc ce (.error e) s' } (fun c d _ H' => W c d σ H') := by
  rintro u s' ⟨a, B, sI, pins', σ', H', cls, d, rfl, J, nb, up, sky, na, os, ag, w⟩
  have I7 : Inv X pins σ H' sI := I3.call' (ch := fp) J.os J.base J.hok J.bare fun b hb => ⟨(f3 b hb).1.2.2.2.1, (f3 b hb).1.2.1, (f3 b hb).1.2.2.2.2.1, (f3 b hb).1.2.2.2.2.2⟩
  have hfr : X.A.frames = some (X.env :: X.outer) := by rw [I3.ok.frames, hs]
  obtain ⟨mC, hC, _⟩ := J.loc
  have hC : sI.heap.Ns ce.locals mC := hC
  have nC : H' ce.locals = none := J.free
  have fC : FpOk X pins H' ce.locals := I3.fpOk (Nat.le_of_eq hcL.symm) nC
  obtain ⟨f0, f1, f2, g1, g2, g3⟩ := fC
  have nF : ce.locals ∉ frs (X.env :: X.outer) := fun z => by
    unfold frs at z
    rw [List.filterMap_cons, hf] at z
    rcases List.mem_cons.mp z with z | z
    · exact f1 z
    · exact f2 z
  have sky : Sky B X.stack a (Zc cls d) ce.locals s'.heap := sky
  have nb : ∀ b o, sI.heap.get? b = some o → b ∉ frs X.stack → B.get? b = some o := nb
  have up : sI.heap.UpToSlots s'.heap := up
  rw [hs] at sky nb
  have Cne : ce.locals ≠ X.env.locals := f1
  show wpAny (model X.prog X.w) X.A (noteFrame (.ref a) ce) _ _ s'
  rw [noteFrame_env hcf]
  have fin : ∀ h1, HeldZ B (X.env :: X.outer) a (Zc cls d) X.env.locals h1 → s'.heap.UpToSlots h1 → endC (model X.prog X.w) X.A X.xe use Qf acc ce (.error (.ref a)) { s' with heap := h1 } := by
    intro h1 hh up1
    obtain ⟨oC, esC, epC, hoC, hdC, hkC⟩ := hC
    have hnfC : ∀ vs, oC.data ≠ .fields vs := fun vs z => by rw [hdC] at z; cases z
    obtain ⟨sl, e1⟩ := (up.trans up1) ce.locals oC hoC hnfC
    refine ⟨mC, ⟨_, esC, epC, e1, hdC, hkC⟩, fun h2 sb => ?_⟩
    obtain ⟨kb, en, ff, oe, vs, T, oT, ts, he, hz, hd, i1, nT, Te, hT, dT, i3⟩ := hh
    have aC : a ≠ ce.locals := fun z => by
      rw [z, e1] at he
      cases he
      exact hnfC _ hd
    have TC : T ≠ ce.locals := fun z => by
      rw [z, e1] at hT
      cases hT
      exact hnfC _ dT
    obtain ⟨G, gy, gn⟩ := restrict sI.heap fun b => decide (b ≠ ce.locals)
    obtain ⟨B2, by2, bn2⟩ := restrict B fun b => decide (b ≠ ce.locals)
    have gy : ∀ b, b ≠ ce.locals → G.get? b = sI.heap.get? b := fun b hb => gy b (by simpa using hb)
    have by2 : ∀ b, b ≠ ce.locals → B2.get? b = B.get? b := fun b hb => by2 b (by simpa using hb)
    have gn : G.get? ce.locals = none := gn _ (by simp)
    have bn2 : B2.get? ce.locals = none := bn2 _ (by simp)
    have off : ∀ {P Q : Heap} {b : Addr} {o : Obj}, Q.get? ce.locals = none → Q.get? b = some o → b ≠ ce.locals := fun {P Q b o} n e z => by rw [z, n] at e; cases e
    have Bn : ∀ b, B.get? b = none → B2.get? b = none := fun b n => by
      by_cases z : b = ce.locals
      · rw [z]; exact bn2
      · rw [by2 b z]; exact n
    have H2 : HeldZ B2 (X.env :: X.outer) a (Zc cls d) X.env.locals h2 := by
      refine ⟨fun b o e => ?_, Bn a en, frames_but (fun b hb => sb.2 b hb) Bn ff nF, oe, vs, T, oT, ts, (sb.2 a aC).trans he, hz, hd, i1, Bn T nT, Te, (sb.2 T TC).trans hT, dT, i3⟩
      have z := off (P := B) bn2 e
      rw [by2 b z] at e
      exact (sb.2 b z).trans (kb b o e)
    have I8 : Inv X pins σ H' { sI with heap := G, toks := sI.toks } := I7.turned (fun b o hb e => (gy b hb).trans e) f0 f1 g1 g2 g3
    obtain ⟨_, _, _, _, _, _, _, _, he2, _, hd2, i2, _⟩ := id H2
    unfold PySem.passOn
    refine wpAny_bind (wpAny_field he2 hd2 i2 ?_)
    rw [if_neg (show ¬ ((Value.ref _ == Value.none) = true) from by simp)]
    have last : wpAny (model X.prog X.w) X.A (setFlight (.ref a) X.env.frame) (fun _ s4 => wpAny (model X.prog X.w) X.A (throw (.ref a) : Sem Value) (fun _ _ => False) X.xe s4) X.xe { s' with heap := h2 } := by
      rw [hf]
      refine HandSPX.setFlight_onZ H2 fun h3 hh3 up3 => wpAny_throw (tk _ _ ?_)
      refine ⟨a, B2, { sI with heap := G, toks := sI.toks }, pins, σ, H', cls, d, rfl, I8, fun b o e hb => ?_, fun b o e nf => ?_, by rw [hs]; exact .inr (.inr hh3), na, os, ag, w⟩
      · have z := off (P := B) gn e
        have e : G.get? b = some o := e
        rw [gy b z] at e
        rw [by2 b z]
        exact nb b o e (by rw [← hs]; exact hb)
      · have z := off (P := B) gn e
        have e : G.get? b = some o := e
        rw [gy b z] at e
        obtain ⟨sl1, q1⟩ := (up.trans up1) b o e nf
        obtain ⟨sl2, q2⟩ := up3 b _ ((sb.2 b z).trans q1) nf
        exact ⟨sl2, q2⟩
    rw [hcf]
    first
      | exact wpAny_bind (wpAny_pure (wpAny_bind last))
      | exact wpAny_bind last
  rcases sky with ⟨hB, hn, hl, oe, vs, he, hz, hd, h1⟩ | fl | hh
  · exact HandSPX.look_newZ Zc.steady hfr hl hf he hB hn hd h1 hz fin
  · exact HandSPX.looks_onZ Zc.steady hfr hf fl fin
  · exact look_other Zc.steady hfr hf Cne hh fin
end
end Rf
end

section
set_option Elab.async false
set_option linter.all false
set_option maxRecDepth 100000
set_option maxHeartbeats 4000000
/-! A list comprehension whose parts may raise. -/
namespace Rf
open PySem PySem.Spec L2
/-- the block, its wish told -/
abbrev blkW (X : Cx) (s : Shared) (H : Hp) (scope : Scope) (env : Env) (fp : List Addr) (xe : Value → Shared → Prop) : Cx := (X.blk s H scope env fp).wish xe
section
variable {X : Cx} {W : WX}
theorem lcx_core {pins : List (Addr × Obj)} {s : Shared} {σ : L2.St} {H : Hp} {Q : VK} {elt tg iter : Expr} {ifs : List Expr} {scope : Scope} {own : List (Str × Nat)} {pos pos' : Pos} {wi : TI} {g : TG} {tt : TT} {te : TE} {use : Option (Value → Sem Unit)} {Qf : Value → Shared → Prop}
    (hc : X.calm = true) (hN : X.N.Nodup) (tk : Takes X W) (hst : X.stack = X.env :: X.outer) (hf : X.env.frame = some X.env.locals) (I : Inv X pins σ H s) (hi : PI X tg iter wi) (ok : BlkOk X.N X.env.scope scope own)
    (hg : ∀ s1 H1 C cl fp, PG (X.blk s1 H1 scope (compEnvC scope cl C X.env) fp) tg g)
    (ht : ∀ s1 H1 C cl fp xe, Takes (blkW X s1 H1 scope (compEnvC scope cl C X.env) fp xe) (fun c d _ H' => W c d σ H') → PTs (blkW X s1 H1 scope (compEnvC scope cl C X.env) fp xe) ifs tt)
    (he : ∀ s1 H1 C cl fp xe, Takes (blkW X s1 H1 scope (compEnvC scope cl C X.env) fp xe) (fun c d _ H' => W c d σ H') → PE (blkW X s1 H1 scope (compEnvC scope cl C X.env) fp xe) elt te)
    (hs : ∀ x, foldedSetIterable iter X.env x = pure x) (h : tLc wi g tt te (own.map (·.2)) σ H Q)
    (hR : ∀ D C s' m H', Inv X pins σ H' s' → Q (.ref D) H' → s'.heap.Ns C m → FpOk X pins H' C → compPost (model X.prog X.w) X.A X.xe use Qf (.ref D) C (.ok .next) s') :
    wpAny (model X.prog X.w) X.A (comprehension (.ListComp elt [⟨tg, iter, ifs, 0⟩] scope pos) scope X.env pos' (newList []) false (eval iter X.env) use) Qf X.xe s := by
  have fr : ∀ y ∈ scope.names, y.2 = .free → ∃ c, X.env.cells.lookup y.1 = some c := fun y hy z => I.ok.has _ (ok.free y hy z)
  refine comp_own rfl hs (closure_ok fr) ok.kind (fun y hy z => (ok.uniq y hy).trans (by rw [z])) (thn (hi.run pins s σ H _ I h) fun xv s1 hx => thn hx fun itv s2 h2 => ?_)
  obtain ⟨it, fp, tn, J, H2, rfl, I2, T, st2, f2, q⟩ := h2
  refine wpAny_newObj_type (newEnv_comp ?_) (by show 0 ≤ sizeLine; decide)
  generalize hD : s2.heap.objs.size = D
  have nD : H2 D = none := I2.hok.fresh (Nat.le_of_eq hD)
  obtain ⟨Wv, ⟨m0, w0⟩, turn⟩ := q D nD
  generalize e3 : ({ s2 with heap := s2.heap.push { cls := .type "list", data := .seq ([] : List Value).toArray } } : Shared) = s3
  have hp3 : s3.heap = s2.heap.push { cls := .type "list", data := .seq ([] : List Value).toArray } := by rw [← e3]
  have I3 : Inv X pins σ (upd H2 D (.lst [])) s3 := by
    subst e3
    exact I2.laid (t' := s2.toks) (fun b o e => Heap.get?_push_of_some _ e) (Nat.le_of_eq hD) ⟨Nat.zero_le _, [], 0, .nil, by subst hD; exact Heap.get?_push_size _ rfl⟩
  have f3 : ∀ b ∈ fp, FpOk X pins (upd H2 D (.lst [])) b ∧ b < s3.heap.objs.size := fun b hb => by
    obtain ⟨o, e, _⟩ := T.obj _ _ st2 b hb
    have hlt : b < s2.heap.objs.size := Heap.lt_size e
    have hne : b ≠ D := by rw [← hD]; exact Nat.ne_of_lt hlt
    exact ⟨⟨(upd_ne hne).trans (f2 b hb).1, (f2 b hb).2⟩, by rw [hp3, Heap.size_push]; exact Nat.lt_succ_of_lt hlt⟩
  have st3 : tn 0 s3.heap := T.keep _ _ _ st2 fun b _ o e => by rw [hp3]; exact Heap.get?_push_of_some _ e
  have I4 := block_start I3 ok hN f3
  generalize hce : compEnvC scope (cellsFrom (s3.heap.objs.size + 1) scope.names (cloFrom X.env.cells scope.names [])) s3.heap.objs.size X.env = ce at I4
  have cL : ce.locals = s3.heap.objs.size := by rw [← hce]; rfl
  have cF : ce.frame = X.env.frame := by rw [← hce]; rfl
  generalize hH3 : upd H2 D (.lst []) = H3 at I3 I4 w0 f3
  have tkb := takes_blk (scope := scope) tk hst hf I3 f3 cF cL (use := use) (Qf := Qf) (acc := .ref D)
  have pg : PG (X.blk s3 H3 scope ce fp) tg g := by rw [← hce]; exact hg _ _ _ _ _
  have pt := ht s3 H3 s3.heap.objs.size (cellsFrom (s3.heap.objs.size + 1) scope.names (cloFrom X.env.cells scope.names [])) fp _ (by rw [hce]; exact tkb)
  have pe := he s3 H3 s3.heap.objs.size (cellsFrom (s3.heap.objs.size + 1) scope.names (cloFrom X.env.cells scope.names [])) fp _ (by rw [hce]; exact tkb)
  rw [hce] at pt pe
  have goal : codeAny (model X.prog X.w) X.A (.compStart (.ListComp elt [⟨tg, iter, ifs, 0⟩] scope pos) 0 (.ref it) (.ref D) ce) (endC (model X.prog X.w) X.A X.xe use Qf (.ref D) ce) { s3 with heap := pushCells (s3.heap.push { cls := .type "dict", data := .dict #[] }) scope.names } := by
    generalize e4 : ({ s3 with heap := pushCells (s3.heap.push { cls := .type "dict", data := .dict #[] }) scope.names } : Shared) = s4 at I4
    have nfp : ∀ b ∈ fp, H3 b = none := fun b hb => (f3 b hb).1.1
    have st4 : tn 0 s4.heap := T.keep _ _ _ st3 fun b _ o e => by rw [← e4]; exact pushCells_keeps _ _ _ _ (Heap.get?_push_of_some _ e)
    have fps : ∀ {σ1 : L2.St} {H1 : Hp} {s1 : Shared}, Inv (X.blk s3 H3 scope ce fp) [] σ1 H1 s1 → (∀ b ∈ fp, H1 b = none) → ∀ b ∈ fp, FpOk (X.blk s3 H3 scope ce fp) [] H1 b := fun {σ1 H1 s1} I1 n b hb => by
      obtain ⟨u1, u2⟩ := I1.ok.exf b hb
      exact ⟨n b hb, u1, I1.ok.exfs b hb, .inl hb, u2, fun p hp => nomatch hp⟩
    have lp : codeAny (model X.prog X.w) X.A (.compLoop (.ListComp elt [⟨tg, iter, ifs, 0⟩] scope pos) 0 (.ref it) (.ref D) ce) (endC (model X.prog X.w) X.A X.xe use Qf (.ref D) ce) s4 := by
      refine compLoop_any (fun n s5 => ∃ i H5, Inv (X.blk s3 H3 scope ce fp) [] (wipe σ (own.map (·.2))) H5 s5 ∧ tn i s5.heap ∧ (∀ b ∈ fp, H5 b = none) ∧ Wv i n H5) ?_ m0 ⟨0, H3, I4, st4, nfp, w0⟩
      rintro n s5 ⟨i, H5, I5, st5, n5, w5⟩
      rcases turn i n H5 w5 with ⟨stop, qq⟩ | ⟨go, Nx, hNx, step⟩
      · refine thnF (T.done (X.blk s3 H3 scope ce fp) rfl rfl rfl hc i [] s5 _ H5 (fun _ _ => False) I5 (fps I5 n5) st5 stop) fun r s6 ⟨hr, I6⟩ => ?_
        subst hr
        have I7 : Inv X pins σ H5 s6 := I3.call' (ch := fp) I6.os I6.base I6.hok I6.bare fun b hb => by
          obtain ⟨_, x1, _, x3, x4, x5⟩ := (f3 b hb).1
          exact ⟨x3, x1, x4, x5⟩
        obtain ⟨m, hn, _⟩ := I6.loc
        have nC : H5 ce.locals = none := I6.free
        exact hR D ce.locals s6 m H5 I7 qq hn (I3.fpOk (Nat.le_of_eq cL.symm) nC)
      · refine thnF (T.item (X.blk s3 H3 scope ce fp) rfl rfl rfl hc i [] s5 _ H5 (fun _ _ => False) I5 (fps I5 n5) st5 go) fun r s6 ⟨u, hr, h6⟩ => ?_
        subst hr
        refine thnF h6 fun _ s7 ⟨x, H7, I7, r7, y7, st7, n7⟩ => ?_
        have I7p := I7.pinned (fps I7 n7) (T.obj _ _ st7)
        refine thnF (pg.run _ s7 _ H7 x u _ I7p r7 (step x H7 y7)) fun _ s8 ⟨σ8, H8, I8, hw8, q8⟩ => ?_
        have l8 : (wipe σ (own.map (·.2))).length = σ8.length := by rw [← hw8, wipe_length]
        have back : ∀ {s9 : Shared} {H9 : Hp}, Inv (X.blk s3 H3 scope ce fp) ([] ++ pinsAt fp s7.heap) σ8 H9 s9 → Nx H9 → ∃ m, m < n ∧ ∃ i H5, Inv (X.blk s3 H3 scope ce fp) [] (wipe σ (own.map (·.2))) H5 s9 ∧ tn i s9.heap ∧ (∀ b ∈ fp, H5 b = none) ∧ Wv i m H5 := fun {s9 H9} I9 nx => by
          obtain ⟨m1, hm, w1⟩ := hNx H9 nx
          have pin1 : ∀ b ∈ fp, ∀ o, s7.heap.get? b = some o → s9.heap.get? b = some o ∧ H9 b = none := fun b hb o e =>
            have z := I9.pin (b, o) (by simpa using mem_pinsAt hb e)
            ⟨z.1, z.2.1⟩
          refine ⟨m1, hm, i + 1, H9, (I9.unpinned (pins := [])).weak l8 (fun j v e => ?_), T.keep _ _ _ st7 fun b hb o e => (pin1 b hb o e).1, fun b hb => ?_, w1⟩
          · rw [← hw8] at e; exact (wipe_some e).1
          · obtain ⟨o, e, _⟩ := T.obj _ _ st7 b hb
            exact (pin1 b hb o e).2
        refine wpAny_mono (pt.run _ s8 σ8 H8 _ (I8.wish _) q8) (fun b s9 ⟨H9, I9, q9⟩ => ?_) fun _ _ z => z
        cases b with
        | false =>
          rw [if_neg Bool.false_ne_true] at q9 ⊢
          exact back I9.unwish q9
        | true =>
          rw [if_pos rfl] at q9 ⊢
          refine wpAny_mono (pe.run _ s9 σ8 H9 _ I9 q9) (fun z s10 ⟨yv, H10, I10, r10, acc, hD10, hz10, nx⟩ => ?_) fun _ _ z => z
          exact app_ok (X := X.blk s3 H3 scope ce fp) I10.unwish hD10 hz10 r10 fun s11 I11 => back I11 nx
    exact codeAny_compStart_list lp (T.self X.A 0 _ _ _ st4 lp)
  rw [← hce] at goal
  exact goal
/-- as a value -/
theorem pe_lcx {elt tg iter : Expr} {ifs : List Expr} {scope : Scope} {own : List (Str × Nat)} {pos : Pos} {wi : TI} {g : TG} {tt : L2.St → TT} {te : L2.St → TE} (hc : X.calm = true) (hN : X.N.Nodup) (tk : Takes X W) (hst : X.stack = X.env :: X.outer) (hf : X.env.frame = some X.env.locals)
    (hi : PI X tg iter wi) (ok : BlkOk X.N X.env.scope scope own) (hg : ∀ s1 H1 C cl fp, PG (X.blk s1 H1 scope (compEnvC scope cl C X.env) fp) tg g)
    (ht : ∀ σ s1 H1 C cl fp xe, Takes (blkW X s1 H1 scope (compEnvC scope cl C X.env) fp xe) (fun c d _ H' => W c d σ H') → PTs (blkW X s1 H1 scope (compEnvC scope cl C X.env) fp xe) ifs (tt σ))
    (he : ∀ σ s1 H1 C cl fp xe, Takes (blkW X s1 H1 scope (compEnvC scope cl C X.env) fp xe) (fun c d _ H' => W c d σ H') → PE (blkW X s1 H1 scope (compEnvC scope cl C X.env) fp xe) elt (te σ)) (hs : ∀ x, foldedSetIterable iter X.env x = pure x) :
    PE X (.ListComp elt [⟨tg, iter, ifs, 0⟩] scope pos) (fun σ H Q => tLc wi g (tt σ) (te σ) (own.map (·.2)) σ H Q) := by
  refine ⟨fun pins s σ H Q I h => ?_⟩
  rw [eval_ListComp]
  refine lcx_core hc hN tk hst hf I hi ok hg (ht σ) (he σ) hs h fun D C s2 m H2 I2 q hn f => ⟨m, hn, fun h2 sb => ?_⟩
  obtain ⟨f0, f1, f2, f3, f4, f5⟩ := f
  have k : ∀ b o, b ≠ C → s2.heap.get? b = some o → h2.get? b = some o := fun b o hb e => by rw [sb.2 b hb]; exact e
  exact ⟨.ref D, H2, I2.turned (t' := s2.toks) k f0 f1 f3 f4 f5, rfl, q⟩
/-- name = [..] on one line, the name a local -/
theorem ps_setlcx {i : Nat} {y : Str} {py : Pos} {elt tg iter : Expr} {ifs : List Expr} {scope : Scope} {own : List (Str × Nat)} {pos spos : Pos} {wi : TI} {g : TG} {tt : L2.St → TT} {te : L2.St → TE} (hc : X.calm = true) (hN : X.N.Nodup) (tk : Takes X W) (hst : X.stack = X.env :: X.outer) (hf : X.env.frame = some X.env.locals)
    (hy : X.N[i]? = some y) (hyl : X.env.scope.names.lookup y = some .local) (hsw : swapsWith (.ListComp elt [⟨tg, iter, ifs, 0⟩] scope pos) (some (.Name y py)) spos.line X.env = pure true)
    (hi : PI X tg iter wi) (ok : BlkOk X.N X.env.scope scope own) (hg : ∀ s1 H1 C cl fp, PG (X.blk s1 H1 scope (compEnvC scope cl C X.env) fp) tg g)
    (ht : ∀ σ s1 H1 C cl fp xe, Takes (blkW X s1 H1 scope (compEnvC scope cl C X.env) fp xe) (fun c d _ H' => W c d σ H') → PTs (blkW X s1 H1 scope (compEnvC scope cl C X.env) fp xe) ifs (tt σ))
    (he : ∀ σ s1 H1 C cl fp xe, Takes (blkW X s1 H1 scope (compEnvC scope cl C X.env) fp xe) (fun c d _ H' => W c d σ H') → PE (blkW X s1 H1 scope (compEnvC scope cl C X.env) fp xe) elt (te σ)) (hs : ∀ x, foldedSetIterable iter X.env x = pure x) :
    PS X (.Assign [.Name y py] (.ListComp elt [⟨tg, iter, ifs, 0⟩] scope pos) spos) (tAsg (fun σ H Q => tLc wi g (tt σ) (te σ) (own.map (·.2)) σ H Q) (gName i)) := by
  refine ⟨fun pins s σ H D I h => ?_⟩
  rw [exec_Assign_Name_used _ _ _ _ hsw]
  refine wpAny_bind (wpAny_standAt (wpAny_bind ?_))
  show wpAny _ X.A (do let _ ← comprehension (.ListComp elt [⟨tg, iter, ifs, 0⟩] scope pos) scope X.env (firstIterPos [⟨tg, iter, ifs, 0⟩] pos) (newList []) false (eval iter X.env) (some (assign (.Name y py) X.env))) _ _ s
  have h1 : tLc wi g (tt σ) (te σ) (own.map (·.2)) σ H fun x H1 => gName i x σ H1 D.nx := h
  refine wpAny_bind (thn (lcx_core (Qf := fun _ s2 => SP X pins D .next s2) hc hN tk hst hf I hi ok hg (ht σ) (he σ) hs h1 fun L C s2 m H2 I2 q hn f => ?_) fun _ s2 hq => wpAny_pure (wpAny_pure hq))
  obtain ⟨f0, f1, f2, f3, f4, f5⟩ := f
  show wpAny _ _ (assign (.Name y py) X.env (.ref L)) _ _ _
  refine wpAny_assign_Name (store_ok2 (v := V.ref L) I2 hN hy (.inl hyl) rfl (fun s3 I3 ⟨a, sb, ha⟩ => ?_) (.inr hyl))
  have aC : C ≠ a := ha.elim (fun z => by rw [z]; exact f1) fun z e => f4 y a z e.symm
  refine ⟨m, hn.sameBut sb aC, fun h3 sb3 => ⟨_, H2, I3.turned (t' := s3.toks) (fun b o hb e => ?_) f0 f1 f3 f4 f5, q⟩⟩
  rw [sb3.2 b hb]; exact e
end
end Rf
end

section
set_option Elab.async false
set_option linter.all false
set_option maxRecDepth 100000
set_option maxHeartbeats 4000000
/-! set(a list of ints), enumerate(a text). -/
namespace Rf
open PySem PySem.Spec L2
open PyProof.Rows (IntsAre)
section
variable {P : Program} {w : World} {A : Around} {E : Value → Shared → Prop} {s : Shared}
/-- a new, empty set -/
abbrev emptySet (w : World) : Obj := { cls := .type "set", dict := none, data := .set #[] 0 (.fresh 0 0 (!w.params.followText "set-order")) }
set_option maxHeartbeats 3200000 in
theorem call_set_lstI {l : Addr} {items : Array Value} (ns : List Int) {Q : Value → Shared → Prop} (hh : A.handled = none) (hl : s.heap.IsList l items) (hit : IntsAre items.toList ns) (hb : ns.length + 1 < scanBound)
    (h : ∀ (h2 : Heap) (tk c : Nat), SetR w h2 s.heap.objs.size (fun j => decide (j ∈ ns)) c → c ≤ ns.length → (∀ b o, s.heap.get? b = some o → h2.get? b = some o) → Q (.ref s.heap.objs.size) { s with heap := h2, toks := tk }) :
    wpAny (model P w) A (call (.type "set") [.ref l]) Q E s := by
  have isz : items.size = ns.length := by have q := PyProof.Rows.IntsAre.length hit; rwa [Array.length_toList] at q
  obtain ⟨c, tl, hmro⟩ := PySem.F.called_set.mro
  have q1 := PySem.F.called_set.made
  have q2 := PySem.F.called_set.sub
  have q3 := PySem.F.called_set.notType
  have q4 := PySem.F.called_set.canCreate
  have q5 := PySem.F.typeCall_set_1 (.ref l)
  refine wpAny_call (codeAny_of_tree ?_)
  show wpAny _ _ (callAny (.type "set") _) _ _ _
  refine wpAny_pure ⟨Code.quiet_builtin _ (by decide +kernel), codeAny_builtin PySem.F.entry_type_call ?_⟩
  rw [Around.under_plain (weight_type_call_type "set" [.ref l] []) rfl]
  repeat (any_goals (first | assumption | wp_step))
  generalize hS0 : s.heap.objs.size = S at h ⊢
  have made : codeAny (model P w) A.in1 (.call (.builtin "set.__new__") ⟨[.type "set", .ref l], []⟩) (wants (fun obj s1 => obj = .ref S ∧ s1 = { s with heap := s.heap.push (emptySet w) }) E) s := code_set_led1 (.ref l) (by rw [← hS0]; exact ⟨rfl, rfl⟩)
  refine codeAny_mono made fun r s1 hr => ?_
  cases r with
  | error e => exact hr
  | ok fl =>
    cases fl with
    | next => exact hr.elim
    | brk => exact hr.elim
    | cont => exact hr.elim
    | ret obj =>
      obtain ⟨rfl, rfl⟩ := hr
      have gS : (s.heap.push (emptySet w)).get? S = some (emptySet w) := by rw [← hS0]; exact Heap.get?_push_size _ rfl
      have tS : Shared.TypeIs { s with heap := s.heap.push (emptySet w) } (.ref S) "set" := ⟨_, gS, rfl⟩
      have q6 := PySem.F.called_set.init.lookup
      have q7 := PySem.F.called_set.init.bind (.ref S)
      repeat (any_goals (first | assumption | wp_step))
      refine codeAny_mono (codeAny_call_builtin (R := wants (fun r s2 => r = .none ∧ ∃ h2 tk c, s2 = { s with heap := h2, toks := tk } ∧ SetR w h2 S (fun j => decide (j ∈ ns)) c ∧ c ≤ ns.length ∧ (∀ b o, s.heap.get? b = some o → h2.get? b = some o)) E) PySem.F.called_set.init.plain PySem.F.entry_set_init (check_set_init_1 tS ?_)) fun r2 s2 hr2 => ?_
      · obtain ⟨ol, hol, hcl, nl, hdl⟩ := hl
        obtain ⟨ocls, od, odata, osl⟩ := ol
        have hcl : ocls = .type "list" := hcl
        have hdl : odata = .seq items nl := hdl
        subst hcl hdl
        have hol2 : (s.heap.push (emptySet w)).get? l = some { cls := .type "list", dict := od, data := .seq items nl, slots := osl } := Heap.get?_push_of_some _ hol
        have q8 := PySem.F.sub_list_set
        have q9 := PySem.F.sub_list_frozenset
        have q10 : (Value.type "list" == Value.type "dict") = false := by decide
        have isL : (s.heap.push (emptySet w)).IsList l items := ⟨_, hol2, rfl, nl, rfl⟩
        unfold Builtin.«set.__init__» noKeywords Builtin.Frozenset.updateFrom
        generalize hPI : pyIter = PI
        wp_walk
        subst hPI
        refine wpAny_pyIter_list isL (wpAny_bind (wpAny_runValue ?_))
        have lS : l < S := by rw [← hS0]; exact Heap.lt_size hol
        have sz : (s.heap.push (emptySet w)).objs.size = S + 1 := by rw [Heap.size_push, hS0]
        have nI : l ≠ (s.heap.push (emptySet w)).objs.size := by rw [sz]; exact Nat.ne_of_lt (Nat.lt_succ_of_lt lS)
        have nS : S ∉ [(s.heap.push (emptySet w)).objs.size, l] := by
          rw [sz]
          intro z
          rcases List.mem_cons.mp z with z | z
          · exact absurd z (Nat.ne_of_lt (Nat.lt_succ_self _))
          · rcases List.mem_cons.mp z with z | z
            · exact absurd z (Nat.ne_of_gt lS)
            · cases z
        have val : ∀ (i : Nat) (v : Value), items[i]? = some v → ∃ k t, ns[i]? = some k ∧ v = .int k t := fun i v hv => by
          have hi : i < ns.length := by rw [← isz]; exact (Array.getElem?_eq_some_iff.mp hv).1
          obtain ⟨t, e⟩ := PyProof.Rows.IntsAre.int_at hit i v (by rw [Array.getElem?_toList]; exact hv)
          exact ⟨ns[i], t, List.getElem?_eq_getElem hi, by rw [e, List.getD_eq_getElem?_getD, List.getElem?_eq_getElem hi]; rfl⟩
        have hh3 : A.in1.in1.in1.handled = none := by simp [hh]
        refine set_update_ints ((Walks.list hh3 _ l nI items).toS) S nS ns isz hb val (items.size - 0) 0 _ (by omega) (Nat.zero_le _) ⟨⟨_, Heap.get?_push_size _ rfl, rfl, rfl⟩, (isL.push _)⟩ ?c1 ?c2
        case c1 => exact ⟨0, Nat.le_refl 0, setR_new_at (Heap.get?_push_of_some _ gS)⟩
        case c2 =>
          intro s3 c3 hm hc3 hR3
          have eg : s3.gens = s.gens := hm.gens
          have ed : s3.drawn = s.drawn := hm.drawn
          have eo : s3.os = s.os := hm.os
          rw [isz] at hc3
          show wpAny _ _ _ _ _ _
          refine wpAny_pure ?_
          show wpAny _ _ (ret Value.none) _ _ _
          refine wpAny_pure ⟨rfl, s3.heap, s3.toks, c3, ?_, hR3, hc3, fun b o e => hm.heap b o ?_ (Heap.get?_push_of_some _ (Heap.get?_push_of_some _ e))⟩
          · obtain ⟨a1, a2, a3, a4, a5⟩ := s3
            simp only at eg ed eo
            rw [eg, ed, eo]
          · have bS : b < S := by rw [← hS0]; exact Heap.lt_size e
            intro z
            rcases List.mem_cons.mp z with z | z
            · exact absurd z (Nat.ne_of_lt bS)
            · rcases List.mem_cons.mp z with z | z
              · rw [sz] at z; exact absurd z (Nat.ne_of_lt (Nat.lt_succ_of_lt bS))
              · cases z
      · cases r2 with
        | error e => exact hr2
        | ok fl2 =>
          cases fl2 with
          | next => exact hr2.elim
          | brk => exact hr2.elim
          | cont => exact hr2.elim
          | ret r =>
            obtain ⟨rfl, h2, tk, c2, rfl, hS2, hc2, hk2⟩ := hr2
            repeat (any_goals (first | assumption | wp_step))
            exact h _ _ _ hS2 hc2 hk2
end
section
variable {X : Cx}
def rSetL (K : PySem.W.Frag) (w : World) : List V → Hp → VK → Prop := fun xs H Q => ∃ (l : Addr) (ns : List Int), xs = [.ref l] ∧ SqL K H l (ns.map V.int) ∧ ns.length < 4000 ∧ ∀ p c (ks : List Int), ks.Nodup → (∀ k, k ∈ ks ↔ k ∈ ns) → ks.length = c → H p = none → Q (.ref p) (upd H p (SetO w p (fun j => decide (j ∈ ns)) c))
theorem cr_setL (hc : X.calm = true) : CallR X (.type "set") (rSetL X.K X.w) := by
  intro pins s σ H vs us Q I r h
  obtain ⟨l, ns, rfl, hl, hn, q⟩ := h
  rw [Vals.ref1 r]
  obtain ⟨its, rv, p, hz⟩ := I.list hl
  refine call_set_lstI ns (I.ok.hd hc) p.isList (by rw [List.toList_toArray]; exact ints_vals rv) (show ns.length + 1 < 4096 by omega) fun h2 tk c R hcn k => ?_
  exact ⟨.ref _, upd H s.heap.objs.size (SetO X.w s.heap.objs.size (fun j => decide (j ∈ ns)) c), I.laid (t' := tk) k (Nat.le_refl _) (setO_new R), rfl, (by
    obtain ⟨o, es, ep, t, ho, h1, h2, h3, h4, h5, h6, h7, h8, _⟩ := R
    exact q _ _ _ h4 (fun k => (h5 k).symm.trans decide_eq_true_iff) ((List.length_map _).trans h8) (I.hok.fresh (Nat.le_refl _)))⟩
end
end Rf
end

section
set_option Elab.async false
set_option linter.all false
set_option maxRecDepth 100000
set_option maxHeartbeats 4000000
/-! enumerate(a text). -/
namespace Rf
open PySem PySem.Spec L2
/-- the signs of a text, each in a new pair -/
def Itex (x : Str) : It := ⟨fun i _ => i < x.cps.size, fun i H v H2 => ∃ T c, v = .ref T ∧ H T = none ∧ H2 = upd H T (.tup [.int (i : Nat), .str ⟨#[c]⟩]) ∧ x.cps[i]? = some c, fun i _ => x.cps.size ≤ i⟩
theorem strIter_ty (x : Str) : strIterType x = "str_ascii_iterator" ∨ strIterType x = "str_iterator" := by
  unfold strIterType
  split
  · exact .inl rfl
  · exact .inr rfl
/-- a text's iterator, drawn from -/
theorem draws_str {P : Program} {w : World} {A : Around} (hh : A.handled = none) (it : Addr) (x : Str) (t : Tok) {ty : String} (h : ty = "str_ascii_iterator" ∨ ty = "str_iterator") :
    Draws P w A it [it] x.cps.size (fun i v => ∃ c u, x.cps[i]? = some c ∧ v = .str ⟨#[c]⟩ u) (fun i h => h.IsStrIter it ty x t i) := by
  rcases h with rfl | rfl
  · exact Draws.strAscii hh it x t
  · exact Draws.strWide hh it x t
theorem turn_enumS {P : Program} {w : World} {K : PySem.W.Frag} {elts : List Expr} {kk : Nat} {tpos : Pos} (e it : Addr) (x : Str) (t : Tok) {ty : String} (hty : ty = "str_ascii_iterator" ∨ ty = "str_iterator") :
    Turn P w K (.Tuple elts kk tpos) (Itex x) [e, it] e (fun i h => (∃ old, IsEnum h e it ((i : Nat) : Int) old) ∧ h.IsStrIter it ty x t i ∧ e ≠ it) where
  mem := List.mem_cons_self
  obj := fun i h st b hb => by
    obtain ⟨⟨old, he⟩, ⟨o, ho, _, hd⟩, _⟩ := st
    rcases List.mem_cons.mp hb with rfl | hb
    · exact ⟨_, he, fun v q => nomatch q⟩
    · rw [List.mem_singleton.mp hb]
      exact ⟨o, ho, fun v q => by rw [hd] at q; cases q⟩
  keep := fun i h h2 st k => by
    obtain ⟨⟨old, he⟩, ⟨o, ho, r⟩, hne⟩ := st
    exact ⟨⟨old, k e List.mem_cons_self _ he⟩, ⟨o, k it (List.mem_cons_of_mem _ List.mem_cons_self) o ho, r⟩, hne⟩
  item := by
    intro X hP hw hK hc i pins s σ H E I hf st hg
    subst hP hw hK
    obtain ⟨⟨old, he⟩, hit, hne⟩ := st
    have le : e < s.heap.objs.size := Heap.lt_size he
    have li : it < s.heap.objs.size := by obtain ⟨_, q, _⟩ := hit; exact Heap.lt_size q
    refine wpAny_pyNext_enum_itemD (draws_str (A := X.A.in1) (by simpa using I.ok.hd hc) it x t hty) he hit hg hne (by simpa using hne) fun v h1 tk hv ho hit1 hT hsz hk => ?_
    obtain ⟨c, u, hcx, rfl⟩ := hv
    refine ⟨_, rfl, wpAny_letOwnedTupleGo_enum (s := { s with heap := h1, toks := tk + 1 }) ho fun h2 he2 sb => ?_⟩
    have hT2 : h2.get? s.heap.objs.size = some { cls := .type "tuple", data := .seq #[.int i tk, .str ⟨#[c]⟩ u] } := (sb.2 _ (Nat.ne_of_gt le)).trans hT
    have new : ObjOk X.prog X.w (upd H s.heap.objs.size (.tup [.int (i : Nat), .str ⟨#[c]⟩])) h2 s.heap.objs.size (.tup [.int (i : Nat), .str ⟨#[c]⟩]) :=
      ⟨by show 2 ≤ sizeLine; decide, [.int i tk, .str ⟨#[c]⟩ u], .cons ⟨_, rfl⟩ (.cons ⟨_, rfl⟩ .nil), ⟨_, hT2, rfl, _, rfl⟩⟩
    have off : ∀ b ob, b ∉ [e, it] → s.heap.get? b = some ob → h2.get? b = some ob := fun b ob hb q => by
      have n1 : b ≠ e := fun z => hb (by rw [z]; exact List.mem_cons_self)
      have n2 : b ≠ it := fun z => hb (by rw [z]; exact List.mem_cons_of_mem _ List.mem_cons_self)
      exact (sb.2 b n1).trans (hk b ob n1 n2 q)
    have J : Inv X pins σ (upd H s.heap.objs.size (.tup [.int (i : Nat), .str ⟨#[c]⟩])) { s with heap := h2, toks := tk + 1 } := I.turnedNew (ch := [e, it]) off hf (Nat.le_refl _) new
    refine ⟨.ref s.heap.objs.size, _, J, rfl, ⟨_, c, rfl, I.hok.fresh (Nat.le_refl _), rfl, hcx⟩, ⟨⟨.str ⟨#[c]⟩ u, ?_⟩, ?_, hne⟩, fun b hb => ?_⟩
    · rw [show ((i + 1 : Nat) : Int) = (i : Int) + 1 by omega]
      exact he2
    · obtain ⟨o, q, r⟩ := hit1
      exact ⟨o, (sb.2 it (Ne.symm hne)).trans q, r⟩
    · have hb2 : b < s.heap.objs.size := by
        rcases List.mem_cons.mp hb with rfl | z
        · exact le
        · rw [List.mem_singleton.mp z]; exact li
      rw [upd_ne (Nat.ne_of_lt hb2)]
      exact (hf b hb).1
  done := by
    intro X hP hw hK hc i pins s σ H E I hf st hg
    subst hP hw hK
    obtain ⟨⟨old, he⟩, hit, hne⟩ := st
    obtain ⟨f0, f1, f2, f3, f4, f5⟩ := hf it (List.mem_cons_of_mem _ List.mem_cons_self)
    have hx : x.cps[i]? = none := Array.getElem?_eq_none hg
    have hh : X.A.in1.handled = none := by simpa using I.ok.hd hc
    have hT : s.TypeIs (.ref e) "enumerate" := ⟨_, he, rfl⟩
    unfold pyNext
    refine wpAny_bind (wpAny_attempt (wpAny_callSpecial?_slot (name := Str.ofString "__next__") hT PySem.F.slot_enumerate_next (wpAny_call_entry PySem.F.slot_enumerate_next hT PySem.F.entry_enumerate_next ?_ (PySem.F.args_enumerate_next_1 _))))
    show wpAny _ _ (field (.ref e) 2 >>= _) _ _ _
    refine wpAny_bind (wpAny_field he rfl (x := .ref it) rfl (wpAny_bind ?_))
    have fin : ∀ (h2 : Heap) (y : Addr), Heap.ExtBut it s.heap h2 → (∃ o, h2.get? y = some o ∧ o.cls = .type "StopIteration") → Inv X pins σ H { s with heap := h2 } := fun h2 y eb _ => I.turned (t' := s.toks) (fun b o hb q => eb b o hb q) f0 f1 f3 f4 f5
    rcases hty with rfl | rfl
    · refine wpAny_nextOf_ascii_end hh hit hx fun h2 y eb hy => ?_
      obtain ⟨o, ho, hc2⟩ := id hy
      exact wpAny_bind (wpAny_isInstance (T := "StopIteration") (b := true) ⟨o, ho, hc2⟩ isSubtype_stop (wpAny_pure ⟨rfl, fin h2 y eb hy⟩))
    · refine wpAny_nextOf_wide_end hh hit hx fun h2 y eb hy => ?_
      obtain ⟨o, ho, hc2⟩ := id hy
      exact wpAny_bind (wpAny_isInstance (T := "StopIteration") (b := true) ⟨o, ho, hc2⟩ isSubtype_stop (wpAny_pure ⟨rfl, fin h2 y eb hy⟩))
  self := fun A i s Q E st h => let ⟨⟨_, he⟩, _⟩ := st; wpAny_pyIter_enum he h
def iEnum2 (K : PySem.W.Frag) (ta : TA) : TI := fun σ H R => ta σ H fun vs H1 => (∃ a xs, vs = [.ref a] ∧ SqL K H1 a xs ∧ R (Ite K a) H1) ∨ ∃ x, vs = [.str x] ∧ R (Itex x) H1
theorem pi_enum2 {X : Cx} {e : Expr} {ta : TA} {p pos tpos : Pos} {elts : List Expr} {kk : Nat} (hg : Gl X "enumerate") (hm : X.mg "enumerate" = none) (ha : PA X [e] ta) (hs : starEach [e] X.env = [(false, eval e X.env)]) :
    PI X (.Tuple elts kk tpos) (.Call (.Name "enumerate" p) [e] [] pos) (iEnum2 X.K ta) := by
  refine ⟨fun pins s σ H R I h => ?_⟩
  refine PyProof.Rows.Call_ (ld_blt I hg hm PyProof.Rows.boot_enumerate (PyProof.Rows.callWith_type1 (thn (ha.run pos pins s σ H _ I h) fun us s1 ⟨vs, H1, I1, r1, q1⟩ => ?_) hs rfl))
  have places : ∀ b ∈ [s1.heap.objs.size + 1, s1.heap.objs.size], FpOk X pins H1 b := fun b hb => by
    have hle : s1.heap.objs.size ≤ b := by
      rcases List.mem_cons.mp hb with z | z
      · rw [z]; exact Nat.le_succ _
      · rw [List.mem_singleton.mp z]; exact Nat.le_refl _
    exact I1.fpOk hle (I1.hok.fresh hle)
  rcases q1 with ⟨a, xs, rfl, hq, q⟩ | ⟨x, rfl, q⟩
  · rw [Vals.ref1 r1]
    obtain ⟨its, rv, p2, hz⟩ := I1.list hq
    exact call_enumerate_list p2.isList fun h2 he hit hsz hk => wpAny_pyIter_enum he ⟨s1.heap.objs.size + 1, [s1.heap.objs.size + 1, s1.heap.objs.size], _, _, H1, rfl, I1.kept (t' := s1.toks) hk, turn_enum a _ _, ⟨⟨.none, he⟩, hit, Nat.succ_ne_self _⟩, places, q⟩
  · cases r1 with
    | cons r rr =>
      cases rr
      obtain ⟨t, rfl⟩ := r
      exact call_enumerate_str fun h2 he hit hsz hk => wpAny_pyIter_enum he ⟨s1.heap.objs.size + 1, [s1.heap.objs.size + 1, s1.heap.objs.size], _, _, H1, rfl, I1.kept (t' := s1.toks) hk, turn_enumS _ _ x t (strIter_ty x), ⟨⟨.none, he⟩, hit, Nat.succ_ne_self _⟩, places, q⟩
end Rf
end

section
set_option Elab.async false
set_option linter.all false
set_option maxRecDepth 100000
set_option maxHeartbeats 4000000
/-! The evaluator's code against the program's. -/
namespace Rf
open PySem PySem.Spec L2
mutual
def pvB : PV → PV → Bool
  | .non, .non => true
  | .bl a, .bl b => a == b
  | .int a, .int b => decide (a = b)
  | .str a, .str b => decide (a = b)
  | .byt a, .byt b => decide (a = b)
  | .ty a, .ty b => a == b
  | .tup a, .tup b => pvsB a b
  | .lst a, .lst b => pvsB a b
  | .scr a, .scr b => pvsB a b
  | .loc a, .loc b => a == b
  | _, _ => false
def pvsB : List PV → List PV → Bool
  | [], [] => true
  | a :: as, b :: bs => pvB a b && pvsB as bs
  | _, _ => false
end
mutual
theorem pvB_eq : ∀ (a b : PV), pvB a b = true → a = b
  | .non, b, h => by cases b <;> simp only [pvB] at h <;> first | rfl | cases h
  | .bl _, b, h => by cases b <;> simp only [pvB, beq_iff_eq] at h <;> first | (rw [h]; done) | cases h
  | .int _, b, h => by cases b <;> simp only [pvB, decide_eq_true_eq] at h <;> first | (rw [h]; done) | cases h
  | .str _, b, h => by cases b <;> simp only [pvB, decide_eq_true_eq] at h <;> first | (rw [h]; done) | cases h
  | .byt _, b, h => by cases b <;> simp only [pvB, decide_eq_true_eq] at h <;> first | (rw [h]; done) | cases h
  | .ty _, b, h => by cases b <;> simp only [pvB, beq_iff_eq] at h <;> first | (rw [h]; done) | cases h
  | .loc _, b, h => by cases b <;> simp only [pvB, beq_iff_eq] at h <;> first | (rw [h]; done) | cases h
  | .tup xs, b, h => by
    cases b with
    | tup ys => simp only [pvB] at h; rw [pvsB_eq xs ys h]
    | _ => simp only [pvB] at h; cases h
  | .lst xs, b, h => by
    cases b with
    | lst ys => simp only [pvB] at h; rw [pvsB_eq xs ys h]
    | _ => simp only [pvB] at h; cases h
  | .scr xs, b, h => by
    cases b with
    | scr ys => simp only [pvB] at h; rw [pvsB_eq xs ys h]
    | _ => simp only [pvB] at h; cases h
theorem pvsB_eq : ∀ (a b : List PV), pvsB a b = true → a = b
  | [], [], _ => rfl
  | a :: as, b :: bs, h => by
    simp only [pvsB, Bool.and_eq_true] at h
    rw [pvB_eq a b h.1, pvsB_eq as bs h.2]
  | [], _ :: _, h => by simp only [pvsB] at h; cases h
  | _ :: _, [], h => by simp only [pvsB] at h; cases h
end
/-- the module's names: its defs, its constants, the built-in names that it leaves alone -/
structure Tab where
  fns : List Str
  gls : List (Str × PV)
  bis : List Str
  exs : List (Str × List Nat)
/-- the exception classes' upper classes -/
def Tab.sups (T : Tab) : List (List Nat) := T.exs.map (·.2)
def exB (T : Tab) (k : Nat) (x : Str) : Bool := match T.exs[k]? with
  | some p => decide (p.1 = x)
  | none => false
/-- a block's names -/
structure Vw where
  N : List Str
  sc : Scope
  fn : Str → Bool
  top : Bool
def Vw.blk (v : Vw) (scope : Scope) : Vw := ⟨v.N, relS scope v.sc, fun x => scope.names.lookup x == some .cell, false⟩
def kdB (sc : Scope) (x : Str) (k : NameKind) : Bool := decide (sc.names.lookup x = some k)
def ldB (v : Vw) (i : Nat) (x : Str) : Bool := decide (v.N[i]? = some x) && (kdB v.sc x .local || kdB v.sc x .cell || kdB v.sc x .free) && !(x == ("__debug__" : Str)) && !(x == ("__classdict__" : Str))
def glB (v : Vw) (x : Str) : Bool := kdB v.sc x .globalImplicit && !(x == ("__debug__" : Str))
def stB (v : Vw) (i : Nat) (x : Str) : Bool := decide (v.N[i]? = some x) && (kdB v.sc x .local || (kdB v.sc x .cell && v.fn x))
def biB (T : Tab) (v : Vw) (x : Str) : Bool := glB v x && T.bis.contains x
def cstB : Const → PV → Bool
  | .none, .non => true
  | .bool b, .bl c => b == c
  | .int i, .int j => decide (i = j)
  | .str x, .str y => decide (x = y) && decide (x.length ≤ szB)
  | .bytes l, .byt b => decide (l.toArray = b) && decide (b.size ≤ szB)
  | _, _ => false
def tyTab : List (Str × String) := [("int", "int"), ("bool", "bool"), ("str", "str"), ("bytes", "bytes"), ("tuple", "tuple"), ("list", "list"), ("dict", "dict")]
def notComp : Expr → Bool
  | .ListComp .. => false
  | .SetComp .. => false
  | .DictComp .. => false
  | _ => true
def notSup : Expr → Bool
  | .Call (.Name _ _) [] [] _ => false
  | _ => true
def isTup : Expr → Bool
  | .Tuple .. => true
  | _ => false
def isStar : Expr → Bool
  | .Starred .. => true
  | _ => false
def isSet : Expr → Bool
  | .Set .. => true
  | _ => false
def isSlc : Expr → Bool
  | .Slice .. => true
  | _ => false
mutual
def chkT (v : Vw) : T → Expr → Bool
  | .nm i, a => match a with
    | .Name x _ => stB v i x
    | _ => false
  | .tp ts, a => match a with
    | .Tuple es _ _ => chkTs v ts es
    | _ => false
  | .tps ts i, a => match a with
    | .Tuple es _ _ => chkTr v ts i es
    | _ => false
def chkTs (v : Vw) : List T → List Expr → Bool
  | [], [] => true
  | t :: ts, a :: as => chkT v t a && chkTs v ts as
  | _, _ => false
def chkTr (v : Vw) : List T → Nat → List Expr → Bool
  | [], i, as => match as with
    | [.Starred (.Name x _) _] => stB v i x
    | _ => false
  | t :: ts, i, as => match as with
    | a :: as => chkT v t a && chkTr v ts i as
    | [] => false
end
mutual
def tIds : T → List Nat
  | .nm i => [i]
  | .tp ts => tIdss ts
  | .tps ts i => tIdss ts ++ [i]
def tIdss : List T → List Nat
  | [] => []
  | t :: ts => tIds t ++ tIdss ts
end
/-- what a loop's or a comprehension's iterable is made of -/
def itArgs (T : Tab) (v : Vw) (ik : IK) (tga ita : Expr) : Option (List Expr) := match ik with
  | .seq => if isSet ita then none else some [ita]
  | .rng => match ita with
    | .Call (.Name x _) [a] [] _ => if x = ("range" : Str) ∧ biB T v x = true then some [a] else none
    | .Call (.Name x _) [a, b] [] _ => if x = ("range" : Str) ∧ biB T v x = true then some [a, b] else none
    | _ => none
  | .enm => match ita with
    | .Call (.Name x _) [a] [] _ => if x = ("enumerate" : Str) ∧ biB T v x = true ∧ isTup tga = true then some [a] else none
    | _ => none
  | .zip => match ita with
    | .Call (.Name x _) [a, b] [] _ => if x = ("zip" : Str) ∧ biB T v x = true ∧ isTup tga = true then some [a, b] else none
    | _ => none
/-- list(range(..)) -/
def lrArgs (T : Tab) (v : Vw) (a : Expr) : Option (List Expr) := match a with
  | .Call (.Name x _) [.Call (.Name y _) [a] [] _] [] _ => if x = ("list" : Str) ∧ y = ("range" : Str) ∧ biB T v x = true ∧ biB T v y = true then some [a] else none
  | .Call (.Name x _) [.Call (.Name y _) [a, b] [] _] [] _ => if x = ("list" : Str) ∧ y = ("range" : Str) ∧ biB T v x = true ∧ biB T v y = true then some [a, b] else none
  | _ => none
mutual
def chkE (T : Tab) : E → Vw → Expr → Bool
  | .nop, _, _ => false
  | .var i, v, a => match a with
    | .Name x _ => ldB v i x
    | _ => false
  | .cst c, _, a => match a with
    | .Constant k _ _ => cstB k c
    | _ => false
  | .glb x c, v, a => match a with
    | .Name y _ => decide (x = y) && glB v x && T.gls.any fun p => decide (p.1 = x) && pvB p.2 c
    | _ => false
  | .tyn x n, v, a => match a with
    | .Name y _ => decide (x = y) && biB T v x && tyTab.contains (x, n)
    | _ => false
  | .bin o e f, v, a => match a with
    | .BinOp l op r _ => decide (op = boO o) && chkE T e v l && chkE T f v r
    | _ => false
  | .cat _ e f, v, a => match a with
    | .BinOp l op r _ => decide (op = .Add) && chkE T e v l && chkE T f v r
    | _ => false
  | .neg e, v, a => match a with
    | .UnaryOp op x _ => decide (op = .USub) && chkE T e v x
    | _ => false
  | .not e, v, a => match a with
    | .UnaryOp op x _ => decide (op = .Not) && chkE T e v x
    | _ => false
  | .and e f, v, a => match a with
    | .BoolOp op (x :: y :: r) p => decide (op = .And) && chkE T e v x && match r with
      | [] => chkE T f v y
      | z :: zs => chkE T f v (.BoolOp .And (y :: z :: zs) p)
    | _ => false
  | .or e f, v, a => match a with
    | .BoolOp op (x :: y :: r) p => decide (op = .Or) && chkE T e v x && match r with
      | [] => chkE T f v y
      | z :: zs => chkE T f v (.BoolOp .Or (y :: z :: zs) p)
    | _ => false
  | .ite t e f, v, a => match a with
    | .IfExp c x y _ => chkE T t v c && chkE T e v x && chkE T f v y
    | _ => false
  | .cmp o e f, v, a => match a with
    | .Compare x [op] [y] _ => decide (op = coO o) && !behindInMarks op y && chkE T e v x && chkE T f v y
    | _ => false
  | .chn o o' e f g, v, a => match a with
    | .Compare x [op, op'] [y, z] _ => decide (op = coO o) && decide (op' = coO o') && !lastMarks [op, op'] [y, z] && chkE T e v x && chkE T f v y && chkE T g v z
    | _ => false
  | .call f es, v, a => match a with
    | .Call (.Name x _) as [] _ => decide (T.fns[f]? = some x) && glB v x && chkEs T es v as
    | _ => false
  | .bi b _ es, v, a => match a with
    | .Call (.Name x _) (a1 :: as) [] _ => decide (x = biN b) && biB T v x && chkEs T es v (a1 :: as)
    | _ => false
  | .mth m e es, v, a => match a with
    | .Call (.Attribute o x ap) as [] cp => decide (x = meN m) && (ap.endLine == cp.line) && decide (as.length < 25) && notSup o && chkE T e v o && chkEs T es v as
    | _ => false
  | .tup es, v, a => match a with
    | .Tuple as _ _ => chkEs T es v as
    | _ => false
  | .lst _ es, v, a => match a with
    | .List as _ => chkEs T es v as
    | _ => false
  | .dnew _, _, a => match a with
    | .Dict [] [] _ => true
    | _ => false
  | .idx e i, v, a => match a with
    | .Subscript x y _ => !isSlc y && chkE T e v x && chkE T i v y
    | _ => false
  | .slc _ e lo hi, v, a => match a with
    | .Subscript x (.Slice l h none _) _ => chkE T e v x && (match l with
        | none => isNop lo
        | some l => !isNop lo && chkE T lo v l) && (match h with
        | none => isNop hi
        | some h => !isNop hi && chkE T hi v h)
    | _ => false
  | .rev _ e, v, a => match a with
    | .Subscript x (.Slice none none (some (.UnaryOp .USub (.Constant (.int 1) _ _) _)) _) _ => chkE T e v x
    | _ => false
  | .lrng _ es, v, a => match lrArgs T v a with
    | some as => chkEs T es v as
    | none => false
  | .ssrt _ e, v, a => match a with
    | .Call (.Name x _) [.Call (.Name y _) [b] [] _] [] _ => decide (x = ("sorted" : Str)) && decide (y = ("set" : Str)) && biB T v x && biB T v y && chkE T e v b
    | _ => false
  | .d1 k e, v, a => match a with
    | .Dict [some ka] [b] _ => chkE T k v ka && chkE T e v b
    | _ => false
  | .cmpr _ ex own ik its tg cd elt, v, a => match a with
    | .ListComp ea [⟨tga, ita, ifs, as⟩] scope _ => decide (as = 0) && (!ex || v.top) && blkC v.N v.sc scope (own.map fun i => (v.N.getD i "", i)) && (tIds tg).all (fun i => own.contains i) && chkT (v.blk scope) tg tga && (match itArgs T v ik tga ita with
        | some ys => chkEs T its v ys
        | none => false) && (match ifs with
        | [] => isNop cd
        | [c] => !isNop cd && chkE T cd (v.blk scope) c
        | _ => false) && chkE T elt (v.blk scope) ea
    | _ => false
  | .fld e, v, a => match a with
    | .FormattedValue x cv none _ => decide (cv = -1) && chkE T e v x
    | _ => false
  | .fst ps, v, a => match a with
    | .JoinedStr (a1 :: as) _ => chkEs T ps v (a1 :: as)
    | _ => false
def chkEs (T : Tab) : List E → Vw → List Expr → Bool
  | [], _, [] => true
  | e :: es, v, a :: as => chkE T e v a && chkEs T es v as
  | _, _, _ => false
end
/-- name = value is no swap -/
def swN (v : Vw) (y : Str) (py : Pos) (a : Expr) : Bool := match a with
  | .ListComp _ _ s p => !(kdB v.sc y .local && (py.line == p.line) && !(s.names.any fun (n, k) => n == y && (k == .local || k == .cell)))
  | .SetComp .. => false
  | .DictComp .. => false
  | _ => true
/-- a, b = x, y is no swap: a target that is no plain local name -/
def parN (v : Vw) (ts : List Expr) (a : Expr) : Bool := match a with
  | .Tuple .. => ts.any fun t => match t with
    | .Name x _ => !kdB v.sc x .local
    | _ => true
  | _ => true
/-- a constant of a suite -/
def flatB : PV → Bool
  | .non => true
  | .bl _ => true
  | .int _ => true
  | .str _ => true
  | _ => false
def chkQ (T : Tab) (v : Vw) (nm : Option Nat) : Qx → Expr → Bool
  | .is k, a => match a with
    | .Call (.Name f _) [.Name y _, .Name x _] [] _ => decide (f = ("isinstance" : Str)) && biB T v f && exB T k x && glB v x && (match nm with
      | some i => ldB v i y
      | none => false)
    | _ => false
  | .cst c, a => match a with
    | .Constant k _ _ => cstB k c && flatB c
    | _ => false
  | .not q, a => match a with
    | .UnaryOp .Not x _ => chkQ T v nm q x
    | _ => false
  | .and p q, a => match a with
    | .BoolOp .And [x, y] _ => chkQ T v nm p x && chkQ T v nm q y
    | _ => false
  | .ite t p q, a => match a with
    | .IfExp c x y _ => chkQ T v nm t c && chkQ T v nm p x && chkQ T v nm q y
    | _ => false
/-- an except clause's name -/
def nmB (v : Vw) (nm : Option Nat) (n : Option Str) : Bool := match nm, n with
  | none, none => true
  | some i, some y => decide (v.N[i]? = some y) && kdB v.sc y .local
  | _, _ => false
mutual
def chkS (T : Tab) : S → Vw → Stmt → Bool
  | .set i e, v, st => match st with
    | .Assign [.Name x p] a _ => stB v i x && swN v x p a && chkE T e v a
    | _ => false
  | .setc i e, v, st => match st with
    | .Assign [.Name y py] (.ListComp elt gs scope pos) _ => decide (v.N[i]? = some y) && kdB v.sc y .local && (py.line == pos.line) && !(scope.names.any fun (n, k) => n == y && (k == .local || k == .cell)) && chkE T e v (.ListComp elt gs scope pos)
    | _ => false
  | .unp tg e, v, st => match st with
    | .Assign [.Tuple es k p] a _ => notComp a && parN v es a && chkT v tg (.Tuple es k p) && chkE T e v a
    | _ => false
  | .par i j e f, v, st => match st with
    | .Assign [.Tuple [.Name x px, .Name y py] _ _] (.Tuple [a, b] _ _) _ => decide (v.N[i]? = some x) && decide (v.N[j]? = some y) && kdB v.sc x .local && kdB v.sc y .local && !decide (x = y) && (py.line == px.line) &&
        !([a, b].all (foldedForSure 8)) && !([a, b].all (constantsAlone 8)) && chkE T e v a && chkE T f v b
    | _ => false
  | .seti o i e, v, st => match st with
    | .Assign [.Subscript oa ia _] a _ => notComp a && !isTup a && !isSlc ia && chkE T e v a && chkE T o v oa && chkE T i v ia
    | _ => false
  | .aug i o e, v, st => match st with
    | .AugAssign (.Name x _) op a _ => stB v i x && decide (op = boO o) && chkE T e v a
    | _ => false
  | .ex e, v, st => match st with
    | .Expr a _ => notComp a && chkE T e v a
    | _ => false
  | .ret e, v, st => match st with
    | .Return (some a) _ => chkE T e v a
    | _ => false
  | .ret0, _, st => match st with
    | .Return none _ => true
    | _ => false
  | .ifs c p q, v, st => match st with
    | .If a b d _ => chkE T c v a && chkSs T p v b && chkSs T q v d
    | _ => false
  | .for_ tg ik its b, v, st => match st with
    | .For tga ita body [] _ => chkT v tg tga && (match itArgs T v ik tga ita with
        | some ys => chkEs T its v ys
        | none => false) && chkSs T b v body
    | _ => false
  | .whl c b, v, st => match st with
    | .While a body [] _ => chkE T c v a && chkSs T b v body
    | _ => false
  | .rs k, v, st => match st with
    | .Raise (some (.Call (.Name x _) [.Constant (.str _) _ _] [] _)) none _ => exB T k x && glB v x
    | _ => false
  | .tryq b k nm sups q, v, st => match st with
    | .Try body [.ExceptHandler (some (.Name x _)) n [.Return (some e) _] _] [] [] _ => v.top && decide (sups = T.sups) && exB T k x && glB v x && nmB v nm n && chkQ T v nm q e && chkSs T b v body
    | _ => false
  | .pas, _, st => match st with
    | .Pass _ => true
    | .Expr (.Constant (.str _) _ _) _ => true
    | _ => false
  | .brk, _, st => match st with
    | .Break _ => true
    | _ => false
  | .cnt, _, st => match st with
    | .Continue _ => true
    | _ => false
  | .nvr, _, _ => true
def chkSs (T : Tab) : List S → Vw → List Stmt → Bool
  | [], _, [] => true
  | e :: es, v, a :: as => chkS T e v a && chkSs T es v as
  | _, _, _ => false
end
/-- a def's scope -/
def scB (v : Vw) (ps : List Str) : Bool := (match v.sc.kind with | .function => true | _ => false) && !v.sc.isCoroutine && !v.sc.isGenerator && decide v.N.Nodup && decide (v.N.take ps.length = ps) && (ps.all fun x => kdB v.sc x .local || kdB v.sc x .cell) && (v.sc.names.all fun y => !decide (y.2 = .free))
def chkD (T : Tab) (d : Def) (N ps : List Str) (sc : Scope) (body : List Stmt) : Bool := scB ⟨N, sc, fun _ => true, true⟩ ps && decide (d.ar = ps.length) && decide (d.sl = N.length) && chkSs T d.body ⟨N, sc, fun _ => true, true⟩ body
end Rf
end

section
set_option Elab.async false
set_option linter.all false
set_option maxRecDepth 100000
set_option maxHeartbeats 4000000
namespace Rf
open PySem PySem.Spec L2
/-- the view is the context's -/
structure At (X : Cx) (v : Vw) : Prop where
  N : X.N = v.N
  sc : X.env.scope = v.sc
  fn : X.fn = v.fn
theorem kd_eq {sc : Scope} {x : Str} {k : NameKind} (h : kdB sc x k = true) : sc.names.lookup x = some k := of_decide_eq_true h
theorem nbeq {x y : Str} (h : (!(x == y)) = true) : (x == y) = false := by simpa using h
section
variable {X : Cx} {v : Vw}
theorem At.gl (A : At X v) {x : Str} (h : glB v x = true) : Gl X x ∧ (x == ("__debug__" : Str)) = false := by
  unfold glB at h
  rw [Bool.and_eq_true] at h
  refine ⟨?_, nbeq h.2⟩
  show X.env.scope.names.lookup x = _
  rw [A.sc]
  exact kd_eq h.1
theorem At.ld (A : At X v) {i : Nat} {x : Str} {pos : Pos} (h : ldB v i x = true) : PE X (.Name x pos) (tVar i) := by
  unfold ldB at h
  simp only [Bool.and_eq_true, Bool.or_eq_true] at h
  obtain ⟨⟨⟨h1, h2⟩, h3⟩, h4⟩ := h
  refine pe_var (by rw [A.N]; exact of_decide_eq_true h1) ?_ (nbeq h3) (nbeq h4)
  unfold Vis
  rw [A.sc]
  rcases h2 with (h2 | h2) | h2
  · exact .inl (kd_eq h2)
  · exact .inr (.inl (kd_eq h2))
  · exact .inr (.inr (kd_eq h2))
theorem At.st (A : At X v) {i : Nat} {x : Str} (h : stB v i x = true) : X.N[i]? = some x ∧ L2.Loc X.env.scope x ∧ (X.fn x = true ∨ X.env.scope.names.lookup x = some .local) := by
  unfold stB at h
  simp only [Bool.and_eq_true, Bool.or_eq_true] at h
  obtain ⟨h1, h2⟩ := h
  refine ⟨by rw [A.N]; exact of_decide_eq_true h1, ?_⟩
  unfold L2.Loc
  rw [A.sc, A.fn]
  rcases h2 with h2 | ⟨h2, h3⟩
  · exact ⟨.inl (kd_eq h2), .inr (kd_eq h2)⟩
  · exact ⟨.inr (kd_eq h2), .inl h3⟩
end
theorem tVar_of {L : Lk} {W : WX} {c : Call} {i : Nat} {σ : L2.St} {H : Hp} {Q : VK} (h : tE L W (evalE c (.var i)) σ H Q) : tVar i σ H Q := by
  obtain ⟨ι, ρ, h, rσ, rh, hq⟩ := h
  simp only [evalE] at hq
  split at hq
  · rename_i v e
    obtain ⟨u, e1, rv⟩ := rσ.2 i v e
    exact ⟨u, e1, okV.here hq rh rv⟩
  · exact hq.elim
/-! ### targets -/
/-- the slots outside ids are as they were -/
def Only (ids : List Nat) (σ σ' : L2.St) : Prop := σ'.length = σ.length ∧ ∀ i, i ∉ ids → σ'[i]? = σ[i]?
theorem Only.refl (ids : List Nat) (σ : L2.St) : Only ids σ σ := ⟨rfl, fun _ _ => rfl⟩
theorem Only.trans {a b : List Nat} {σ σ1 σ2 : L2.St} (h : Only a σ σ1) (k : Only b σ1 σ2) : Only (a ++ b) σ σ2 := ⟨k.1.trans h.1, fun i hi => by
  rw [List.mem_append, not_or] at hi
  exact (k.2 i hi.2).trans (h.2 i hi.1)⟩
theorem Only.mono {a b : List Nat} {σ σ1 : L2.St} (h : Only a σ σ1) (k : ∀ i ∈ a, i ∈ b) : Only b σ σ1 := ⟨h.1, fun i hi => h.2 i fun z => hi (k i z)⟩
/-- the heap that is seen -/
def hidO : Option Addr → Hp → Hp
  | none, H => H
  | some d, H => hid d H
def Kp (d : Option Addr) (H H' : Hp) : Prop := ∀ a, d = some a → H' a = H a
theorem hidO_some {d : Option Addr} {H : Hp} {p : Addr} {o : HO} (h : hidO d H p = some o) : H p = some o := by
  cases d with
  | none => exact h
  | some a =>
    show H p = some o
    have h : hid a H p = some o := h
    by_cases e : p = a
    · subst e; rw [hid_same] at h; cases h
    · rw [hid_ne e] at h; exact h
theorem hidO_upd {d : Option Addr} {H : Hp} {p : Addr} {o u : HO} (hp : H p = none) (hd : ∀ a, d = some a → H a = some u) : hidO d (upd H p o) = upd (hidO d H) p o ∧ hidO d H p = none ∧ Kp d H (upd H p o) := by
  cases d with
  | none => exact ⟨rfl, hp, fun a e => nomatch e⟩
  | some a =>
    have hne : p ≠ a := fun e => by rw [e, hd a rfl] at hp; cases hp
    exact ⟨hid_upd hne, by show hid a H p = none; rw [hid_ne hne]; exact hp, fun b e => by cases e; exact upd_ne (Ne.symm hne)⟩
theorem hidO_le {d : Option Addr} {H : Hp} {p : Addr} {u : HO} (h : Rd (hidO d H) p u) : Rd H p u := by
  rcases h with h | ⟨o, h⟩
  · exact .inl (hidO_some h)
  · exact .inr ⟨o, hidO_some h⟩
theorem sqL_le {d : Option Addr} {K : PySem.W.Frag} {H : Hp} {p : Addr} {xs : List V} (h : SqL K (hidO d H) p xs) : SqL K H p xs := by
  rcases h with h | h
  · exact .inl (hidO_le h)
  · exact .inr h
theorem sqT_le {d : Option Addr} {K : PySem.W.Frag} {H : Hp} {p : Addr} {xs : List V} (h : SqT K (hidO d H) p xs) : SqT K H p xs := by
  rcases h with h | h
  · exact .inl (hidO_le h)
  · exact .inr h
/-- what follows a binding -/
def aftT (L : Lk) (ι : List Addr) (d : Option Addr) (H : Hp) (h : PHeap) (ids : List Nat) (σ : L2.St) (ρ' : PSt) (Q : L2.St → Hp → Prop) : Prop :=
  ∀ σ' H', Ext ι (hidO d H) ι (hidO d H') → RH L ι (hidO d H') h → RSt L ι (hidO d H') ρ' σ' → Kp d H H' → Only ids σ σ' → Q σ' H'
def gT (L : Lk) (t : T) : TG := fun u σ H Q => ∃ ι h a ρ ρ' d xs, (∀ b, d = some b → H b = some (.lst xs)) ∧ RV L ι (hidO d H) a u ∧ RH L ι (hidO d H) h ∧ RSt L ι (hidO d H) ρ σ ∧ bindT h t a ρ = some ρ' ∧ aftT L ι d H h (tIds t) σ ρ' Q
def gTs (L : Lk) (ts : List T) : TGs := fun us σ H Q => ∃ ι h as ρ ρ' d xs, (∀ b, d = some b → H b = some (.lst xs)) ∧ RVs L ι (hidO d H) as us ∧ RH L ι (hidO d H) h ∧ RSt L ι (hidO d H) ρ σ ∧ bindTs h ts as ρ = some ρ' ∧ aftT L ι d H h (tIdss ts) σ ρ' Q
theorem aftT.here {L : Lk} {ι : List Addr} {d : Option Addr} {H : Hp} {h : PHeap} {ids : List Nat} {σ σ' : L2.St} {ρ' : PSt} {Q : L2.St → Hp → Prop} (q : aftT L ι d H h ids σ ρ' Q) (rh : RH L ι (hidO d H) h) (rσ : RSt L ι (hidO d H) ρ' σ') (o : Only ids σ σ') : Q σ' H :=
  q σ' H (Ext.refl _ _) rh rσ (fun _ _ => rfl) o
theorem Kp.trans {d : Option Addr} {H H1 H2 : Hp} (a : Kp d H H1) (b : Kp d H1 H2) : Kp d H H2 := fun x e => (b x e).trans (a x e)
theorem only_set (σ : L2.St) (i : Nat) (u : Option V) : Only [i] σ (σ.set i u) := ⟨List.length_set, fun j hj => List.getElem?_set_ne (Ne.symm (by simpa using hj))⟩
theorem aeach_cons {a : Expr} {as : List Expr} {env : Env} (h : isStar a = false) : assignEach (a :: as) env = (false, assign a env) :: assignEach as env := by
  cases a <;> first | rfl | (cases h; done)
theorem chkT_star {v : Vw} {t : T} {a : Expr} (h : chkT v t a = true) : isStar a = false := by
  cases a <;> first | rfl | (cases t <;> simp only [chkT] at h <;> cases h)
theorem aeach_len {v : Vw} {env : Env} : ∀ {ts : List T} {as : List Expr}, chkTs v ts as = true → (assignEach as env).length = ts.length ∧ (assignEach as env).findIdx? (·.1) = none
  | [], [], _ => ⟨rfl, rfl⟩
  | t :: ts, a :: as, h => by
    simp only [chkTs, Bool.and_eq_true] at h
    rw [aeach_cons (chkT_star h.1)]
    obtain ⟨h1, h2⟩ := aeach_len (env := env) h.2
    exact ⟨by rw [List.length_cons, List.length_cons, h1], by rw [List.findIdx?_cons]; simp [h2]⟩
  | [], _ :: _, h => by simp only [chkTs] at h; cases h
  | _ :: _, [], h => by simp only [chkTs] at h; cases h
theorem bindTs_len {h : PHeap} : ∀ {ts : List T} {xs : List PV} {ρ ρ' : PSt}, bindTs h ts xs ρ = some ρ' → xs.length = ts.length
  | [], [], _, _, _ => rfl
  | t :: ts, x :: xs, ρ, ρ', e => by
    simp only [bindTs] at e
    split at e
    · rw [List.length_cons, List.length_cons, bindTs_len e]
    · cases e
  | [], _ :: _, _, _, e => by simp only [bindTs] at e; cases e
  | _ :: _, [], _, _, e => by simp only [bindTs] at e; cases e
theorem pgs_cons' {X : Cx} {e : Expr} {es : List Expr} {t : TG} {u : TGs} (h1 : PG X e t) (h2 : PGs X es u) (hs : isStar e = false) : PGs X (e :: es) (gCons t u) := pgs_cons h1 h2 (by rw [aeach_cons hs]; rfl)
theorem gTs_cons {L : Lk} {t : T} {ts : List T} {us : List V} {σ : L2.St} {H : Hp} {Q : L2.St → Hp → Prop} (h : gTs L (t :: ts) us σ H Q) : gCons (gT L t) (gTs L ts) us σ H Q := by
  obtain ⟨ι, h, as, ρ, ρ', d, xs, hd, ra, rh, rσ, e, q⟩ := h
  cases as with
  | nil => simp only [bindTs] at e; cases e
  | cons a as =>
    simp only [bindTs] at e
    split at e
    · rename_i ρ1 e1
      simp only [RVs] at ra
      obtain ⟨u, us, rfl, r1, r2⟩ := ra
      refine ⟨u, us, rfl, ι, h, a, ρ, ρ1, d, xs, hd, r1, rh, rσ, e1, fun σ1 H1 x1 rh1 rσ1 k1 o1 => ?_⟩
      refine ⟨ι, h, as, ρ1, ρ', d, xs, fun b hb => by rw [k1 b hb]; exact hd b hb, RVs.ext x1 _ _ r2, rh1, rσ1, e, fun σ2 H2 x2 rh2 rσ2 k2 o2 => ?_⟩
      exact q σ2 H2 (x1.trans x2) rh2 rσ2 (k1.trans k2) (by simp only [tIdss]; exact o1.trans o2)
    · cases e
/-- several targets, then the rest as a list -/
def gRest (L : Lk) (ts : List T) (i : Nat) : TG := fun u σ H Q => ∃ p xs, u = .ref p ∧ SqL L.K H p xs ∧ ts.length ≤ xs.length ∧ xs.length ≤ sizeLine ∧ ∀ q, H q = none → (gTs L ts) (xs.take ts.length) σ (upd H q (.lst (xs.drop ts.length))) fun σ' H' => Q (σ'.set i (some (.ref q))) H'
theorem tr_each {v : Vw} {env : Env} : ∀ {ts : List T} {i : Nat} {as : List Expr}, chkTr v ts i as = true → ∃ (bs : List Expr) (x : Str) (p1 p2 : Pos), as = bs ++ [.Starred (.Name x p1) p2] ∧ chkTs v ts bs = true ∧ stB v i x = true ∧
    assignEach as env = assignEach bs env ++ [(true, assign (.Name x p1) env)]
  | [], i, as, h => by
    simp only [chkTr] at h
    split at h
    · rename_i x p1 p2
      exact ⟨[], x, p1, p2, rfl, rfl, h, rfl⟩
    · cases h
  | t :: ts, i, a :: as, h => by
    simp only [chkTr, Bool.and_eq_true] at h
    obtain ⟨bs, x, p1, p2, rfl, h2, h3, h4⟩ := tr_each (env := env) h.2
    refine ⟨a :: bs, x, p1, p2, rfl, by simp only [chkTs, Bool.and_eq_true]; exact ⟨h.1, h2⟩, h3, ?_⟩
    rw [aeach_cons (chkT_star h.1), aeach_cons (chkT_star h.1), h4]
    rfl
  | t :: ts, i, [], h => by simp only [chkTr] at h; cases h
end Rf
end

section
set_option Elab.async false
set_option linter.all false
set_option maxRecDepth 100000
set_option maxHeartbeats 4000000
namespace Rf
open PySem PySem.Spec L2
/-- the items of a list, the last target takes the rest -/
theorem unpack_rest {prog : Program} {w : World} {A : Around} {E : Value → Shared → Prop} {s : Shared} {l : Addr} {items : Array Value} {i : Nat} {Q : List Value → Shared → Prop} (hl : s.heap.IsList l items) (hh : A.handled = none) (hn : i ≤ items.size) (hz : items.size ≤ sizeLine)
    (h : ∀ (h' : Heap) (tk : Nat), (∀ b o, s.heap.get? b = some o → h'.get? b = some o) → Q (items.toList.take i ++ [.ref h'.objs.size]) { s with heap := h'.push { cls := .type "list", data := .seq (items.toList.drop i).toArray }, toks := tk }) :
    wpAny (model prog w) A (unpackItems (.ref l) (i + 1) (some i)) Q E s := by
  have hlt : l ≠ s.heap.objs.size := by obtain ⟨o, ho, _⟩ := hl; exact Nat.ne_of_lt (Heap.lt_size ho)
  have hll : l < s.heap.objs.size := by obtain ⟨o, ho, _⟩ := hl; exact Heap.lt_size ho
  unfold unpackItems
  refine wpAny_bind ?_
  unfold notIterableAtAll
  refine wpAny_bind (wpAny_specialOf hl.typeIs PySem.slot_list_iter.lookup ?_)
  refine wpAny_pure ?_
  simp only [Bool.false_eq_true, if_false]
  refine wpAny_bind (wpAny_holding (wpAny_pyIter_list hl ?_))
  refine wpAny_bind (wpAny_holding (PySem.W.kun_draw hlt i 0 _ _ ⟨_, Heap.get?_push_size _ rfl, rfl, rfl⟩ (hl.push _) (by omega) fun h₁ hit₁ hs₁ => ?_))
  have hl₁ : h₁.IsList l items := (hl.push _).extBut hs₁.extBut hlt
  rw [Nat.zero_add] at hit₁
  have hit₁' := hit₁
  obtain ⟨oi, hoi, _⟩ := hit₁'
  have hl₁' := hl₁
  obtain ⟨ol, hol, _⟩ := hl₁'
  rw [List.drop_zero]
  have hfl : (items.toList.take i).length = i := by rw [List.length_take, Array.length_toList]; omega
  rw [if_neg (show ¬ ((items.toList.take i).length < i) by rw [hfl]; omega)]
  refine wpAny_bind (wpAny_holding (PySem.W.kun_collect (s := { s with heap := h₁ }) (T := "list_iterator") (.inr (.inr (.inl rfl))) (Walks.list (A := A.in1) hh s.heap.objs.size l hlt items) (fun j u st => st.1.typeIs) (k := i) (by omega) ⟨hit₁, hl₁⟩ (Heap.lt_size hoi) (Heap.lt_size hol) (fun h₂ tk hk => ?_) hz))
  have hrl : (items.toList.drop i).length = items.size - i := by rw [List.length_drop, Array.length_toList]
  show wpAny _ _ (if (items.toList.drop i).length < i + 1 - 1 - i then _ else _) _ _ _
  rw [if_neg (by omega)]
  show wpAny _ _ (newList ((items.toList.drop i).take ((items.toList.drop i).length - (i + 1 - 1 - i))) >>= fun d => pure (items.toList.take i ++ [d] ++ (items.toList.drop i).drop ((items.toList.drop i).length - (i + 1 - 1 - i)))) _ _ _
  have e0 : (items.toList.drop i).length - (i + 1 - 1 - i) = (items.toList.drop i).length := by omega
  rw [e0, List.take_length, List.drop_length]
  have he : ∀ b o, s.heap.get? b = some o → h₂.get? b = some o := fun b o e => hk b o (Nat.ne_of_lt (Heap.lt_size e)) (hs₁.extBut b o (Nat.ne_of_lt (Heap.lt_size e)) (Heap.get?_push_of_some _ e))
  refine wpAny_bind (wpAny_newObj_type (wpAny_pure ?_) (by show (items.toList.drop i).toArray.size ≤ sizeLine; rw [List.size_toArray, hrl]; omega))
  have q := h h₂ tk he
  simpa using q
theorem vals_take {xs : List V} {us : List Value} (r : Vals xs us) (n : Nat) : Vals (xs.take n) (us.take n) := by
  induction r generalizing n with
  | nil => rw [List.take_nil, List.take_nil]; exact .nil
  | cons r t ih =>
    cases n with
    | zero => exact .nil
    | succ n => rw [List.take_succ_cons, List.take_succ_cons]; exact .cons r (ih n)
theorem vals_drop {xs : List V} {us : List Value} (r : Vals xs us) (n : Nat) : Vals (xs.drop n) (us.drop n) := by
  induction r generalizing n with
  | nil => rw [List.drop_nil, List.drop_nil]; exact .nil
  | cons r t ih =>
    cases n with
    | zero => exact .cons r t
    | succ n => rw [List.drop_succ_cons, List.drop_succ_cons]; exact ih n
def gTr (L : Lk) : List T → Nat → TGs
  | [], i => gCons (gName i) gNil
  | t :: ts, i => gCons (gT L t) (gTr L ts i)
theorem gTs_nil {L : Lk} {us : List V} {σ : L2.St} {H : Hp} {Q : L2.St → Hp → Prop} (h : gTs L [] us σ H Q) : us = [] ∧ Q σ H := by
  obtain ⟨ι, h, as, ρ, ρ', d, xs, hd, ra, rh, rσ, e, q⟩ := h
  cases as with
  | nil =>
    simp only [bindTs] at e
    cases e
    exact ⟨ra.zero, aftT.here q rh rσ (Only.refl _ _)⟩
  | cons a as => simp only [bindTs] at e; cases e
theorem gTr_of {L : Lk} {r : V} {i : Nat} {Q : L2.St → Hp → Prop} : ∀ {ts : List T} {us : List V} {σ : L2.St} {H : Hp}, gTs L ts us σ H (fun σ' H' => Q (σ'.set i (some r)) H') → gTr L ts i (us ++ [r]) σ H Q
  | [], us, σ, H, h => by
    obtain ⟨rfl, q⟩ := gTs_nil h
    exact ⟨r, [], rfl, rfl, q⟩
  | t :: ts, us, σ, H, h => by
    obtain ⟨u, us, rfl, ι, h, a, ρ, ρ', d, xs, hd, ra, rh, rσ, e, q⟩ := gTs_cons h
    exact ⟨u, us ++ [r], rfl, ι, h, a, ρ, ρ', d, xs, hd, ra, rh, rσ, e, fun σ' H' x1 x2 x3 x4 x5 => gTr_of (q σ' H' x1 x2 x3 x4 x5)⟩
section
variable {X : Cx} {L : Lk} {v : Vw}
theorem PG.or {a : Expr} {t u : TG} (h : PG X a t) (k : PG X a u) : PG X a (fun x σ H Q => t x σ H Q ∨ u x σ H Q) := ⟨fun pins s σ H x w Q I r q => q.elim (h.run pins s σ H x w Q I r) (k.run pins s σ H x w Q I r)⟩
theorem pgs_star1 {t : Expr} {p : Pos} {g : TG} (h1 : PG X t g) : PGs X [.Starred t p] (gCons g gNil) := by
  refine ⟨fun pins s σ H vs us Q I r h => ?_⟩
  obtain ⟨u, vr, e1, h⟩ := h
  subst e1
  cases r with
  | cons r rr =>
    show wpAny _ _ (assignInOrder (assign t X.env :: []) _) _ _ _
    refine PyProof.Rows.assignInOrder_cons (thn (h1.run pins s σ H _ _ _ I r h) fun _ s1 ⟨σ1, H1, I1, q1⟩ => ?_)
    obtain ⟨e, q1⟩ := q1
    subst e
    cases rr
    exact PyProof.Rows.assignInOrder_nil ⟨σ1, H1, I1, q1⟩
/-- several targets and the rest, from a list -/
theorem pg_rest {es : List Expr} {k n : Nat} {pos : Pos} {g : TGs} (hc : X.calm = true) (h : PGs X es g) (hn : (assignEach es X.env).length = n + 1) (hst : (assignEach es X.env).findIdx? (·.1) = some n) :
    PG X (.Tuple es k pos) (fun u σ H Q => ∃ p xs, u = .ref p ∧ SqL X.K H p xs ∧ n ≤ xs.length ∧ ∀ q, H q = none → g (xs.take n ++ [.ref q]) σ (upd H q (.lst (xs.drop n))) Q) := by
  refine ⟨fun pins s σ H v u Q I r hw => ?_⟩
  obtain ⟨p, xs, rfl, hq, hle, q⟩ := hw
  cases r
  obtain ⟨its, rv, pl, hz⟩ := I.list hq
  have hl := rv.length
  rw [PyProof.Rows.assign_Tuple]
  refine wpAny_bind (wpAny_standAt ?_)
  unfold unpack
  rw [hn, hst]
  refine wpAny_bind (wpAny_holding (unpack_rest pl.isList (I.ok.hd hc) (by rw [List.size_toArray]; omega) (by rw [List.size_toArray]; omega) fun h' tk hk => ?_))
  have I1 : Inv X pins σ H { s with heap := h', toks := tk } := I.kept hk
  have I2 : Inv X pins σ (upd H h'.objs.size (.lst (xs.drop n))) { s with heap := h'.push { cls := .type "list", data := .seq (its.drop n).toArray }, toks := tk } :=
    I1.laid (t' := tk) (fun b o e => Heap.get?_push_of_some _ e) (Nat.le_refl _) (show ObjOk X.prog X.w _ _ _ (.lst (xs.drop n)) from ⟨by rw [List.length_drop]; omega, its.drop n, 0, vals_drop rv n, Heap.get?_push_size _ rfl⟩)
  exact h.run pins _ σ _ _ _ Q I2 ((vals_take rv n).append (.cons (show RelV (V.ref h'.objs.size) (.ref h'.objs.size) from rfl) .nil)) (q _ (I1.hok.fresh (Nat.le_refl _)))
theorem tr_len {env : Env} {bs : List Expr} {ts : List T} {x : Str} {p1 p2 : Pos} (h : chkTs v ts bs = true) : (assignEach bs env ++ [(true, assign (.Name x p1) env)]).length = ts.length + 1 ∧ (assignEach bs env ++ [(true, assign (.Name x p1) env)]).findIdx? (·.1) = some ts.length := by
  obtain ⟨h1, h2⟩ := aeach_len (env := env) h
  refine ⟨by rw [List.length_append, h1]; rfl, ?_⟩
  rw [List.findIdx?_append, h2]
  simp [List.findIdx?_cons, h1]
mutual
theorem sndT (A : At X v) (hN : X.N.Nodup) (hc : X.calm = true) (hK : X.K = L.K) : ∀ (t : T) (a : Expr), chkT v t a = true → PG X a (gT L t)
  | .nm i, a, h => by
    simp only [chkT] at h
    split at h
    · rename_i x p
      obtain ⟨h1, h2, h3⟩ := A.st h
      refine PG.imp (pg_name hN h1 h2 h3) fun u σ H Q q => ?_
      obtain ⟨ι, h, a, ρ, ρ', d, xs, hd, ra, rh, rσ, e, q⟩ := q
      simp only [bindT] at e
      cases e
      exact aftT.here q rh (rσ.set ra i) (by simp only [tIds]; exact only_set _ _ _)
    · cases h
  | .tp ts, a, h => by
    simp only [chkT] at h
    split at h
    · rename_i es k p
      obtain ⟨l1, l2⟩ := aeach_len (env := X.env) h
      have hg := sndTs A hN hc hK ts es h
      refine PG.imp (PG.or (pg_unl hc hg l1 l2) (pg_tup hc hg l1 l2)) fun u σ H Q q => ?_
      obtain ⟨ι, h, a, ρ, ρ', d, xs, hd, ra, rh, rσ, e, q⟩ := q
      simp only [bindT] at e
      split at e
      · rename_i ys e1
        obtain ⟨p, vs, rfl, hq, hz, r⟩ := is_seq rh ra e1
        have hl : vs.length = ts.length := by rw [← r.length]; exact bindTs_len e
        have hgs : gTs L ts vs σ H Q := ⟨ι, h, ys, ρ, ρ', d, xs, hd, r, rh, rσ, e, by simpa only [tIds] using q⟩
        rw [← hK] at hq
        rcases hq with hq | hq
        · exact .inl ⟨p, vs, rfl, sqL_le hq, hl, hgs⟩
        · exact .inr ⟨p, vs, rfl, sqT_le hq, hl, hgs⟩
      · cases e
    · cases h
  | .tps ts i, a, h => by
    simp only [chkT] at h
    split at h
    · rename_i es k p
      obtain ⟨bs, x, p1, p2, rfl, h2, h3, h4⟩ := tr_each (env := X.env) h
      obtain ⟨l1, l2⟩ := tr_len (env := X.env) (x := x) (p1 := p1) (p2 := p2) h2
      refine PG.imp (pg_rest (n := ts.length) hc (sndTr A hN hc hK ts i _ h) (by rw [h4]; exact l1) (by rw [h4]; exact l2)) fun u σ H Q q => ?_
      obtain ⟨ι, h, a, ρ, ρ', d, xs, hd, ra, rh, rσ, e, q⟩ := q
      simp only [bindT] at e
      split at e
      · rename_i ys e1
        split at e
        · rename_i ρ1 e2
          cases e
          obtain ⟨p, vs, rfl, hq, hz, r⟩ := is_lstq rh ra e1
          rw [← hK] at hq
          have hle : ts.length ≤ vs.length := by
            have := bindTs_len e2
            rw [List.length_take] at this
            rw [← r.length]
            omega
          refine ⟨p, vs, rfl, sqL_le hq, hle, fun q' hq' => gTr_of ?_⟩
          obtain ⟨k1, k2, k3⟩ := hidO_upd (o := .lst (vs.drop ts.length)) hq' hd
          have xe : Ext ι (hidO d H) ι (hidO d (upd H q' (.lst (vs.drop ts.length)))) := by rw [k1]; exact Ext.new k2
          have rh1 : RH L ι (hidO d (upd H q' (.lst (vs.drop ts.length)))) h := by rw [k1]; exact rh.new k2
          refine ⟨ι, h, _, ρ, ρ1, d, xs, fun b hb => by rw [k3 b hb]; exact hd b hb, (r.take _).ext xe, rh1, rσ.ext xe, e2, fun σ2 H2 x2 rh2 rσ2 k4 o2 => ?_⟩
          refine q _ H2 (xe.trans x2) rh2 (rσ2.set ?_ i) (k3.trans k4) (by simp only [tIds]; exact o2.trans (only_set _ _ _))
          have hn : q' ∉ ι := fun z => by obtain ⟨w, e⟩ := rh.at_ z; rw [k2] at e; cases e
          have hh : hidO d (upd H q' (.lst (vs.drop ts.length))) q' = some (.lst (vs.drop ts.length)) := by rw [k1, upd_same]
          refine RV.ext x2 _ _ ?_
          simp only [RV]
          exact ⟨q', vs.drop ts.length, rfl, hn, hh, by rw [List.length_drop]; omega, (r.drop _).ext xe⟩
        · cases e
      · cases e
    · cases h
theorem sndTs (A : At X v) (hN : X.N.Nodup) (hc : X.calm = true) (hK : X.K = L.K) : ∀ (ts : List T) (as : List Expr), chkTs v ts as = true → PGs X as (gTs L ts)
  | [], [], _ => ⟨fun pins s σ H vs us Q I r h => by
    obtain ⟨e, q⟩ := gTs_nil h
    exact pgs_nil.run pins s σ H vs us Q I r ⟨e, q⟩⟩
  | t :: ts, a :: as, h => by
    simp only [chkTs, Bool.and_eq_true] at h
    have h1 := pgs_cons' (sndT A hN hc hK t a h.1) (sndTs A hN hc hK ts as h.2) (chkT_star h.1)
    exact ⟨fun pins s σ H vs us Q I r q => h1.run pins s σ H vs us Q I r (gTs_cons q)⟩
  | [], _ :: _, h => by simp only [chkTs] at h; cases h
  | _ :: _, [], h => by simp only [chkTs] at h; cases h
theorem sndTr (A : At X v) (hN : X.N.Nodup) (hc : X.calm = true) (hK : X.K = L.K) : ∀ (ts : List T) (i : Nat) (as : List Expr), chkTr v ts i as = true → PGs X as (gTr L ts i)
  | [], i, as, h => by
    simp only [chkTr] at h
    split at h
    · rename_i x p1 p2
      obtain ⟨h1, h2, h3⟩ := A.st h
      exact pgs_star1 (pg_name hN h1 h2 h3)
    · cases h
  | t :: ts, i, a :: as, h => by
    simp only [chkTr, Bool.and_eq_true] at h
    exact pgs_cons' (sndT A hN hc hK t a h.1) (sndTr A hN hc hK ts i as h.2) (chkT_star h.1)
  | t :: ts, i, [], h => by simp only [chkTr] at h; cases h
end
end
end Rf
end

section
set_option Elab.async false
set_option linter.all false
set_option maxRecDepth 100000
set_option maxHeartbeats 4000000
namespace Rf
open PySem PySem.Spec L2
/-- a def runs as the evaluator says -/
def FnRun (L : Lk) (P : Program) (w : World) (K : PySem.W.Frag) (mg : Str → Option Value) (base : Heap) (A : Around) (a : Addr) (cf : List PV → PHeap → Res PV) : Prop :=
  ∀ (outer : List Env) (s : Shared) (H : Hp) (us : List Value) (vs : List V) (Q : VK) (E : XK) (ι : List Addr) (pvs : List PV) (h : PHeap), Env0 P w K mg base A outer s H → Vals vs us → RVs L ι H pvs vs → RH L ι H h → okV L ι H (cf pvs h) Q E →
    codeAny (model P w) A (.call (.ref a) ⟨us, []⟩) (CR (L2.CX P w) outer P w H s Q E) s
/-- what is known of an exception class of the program: over ValueError, without __init__ -/
structure ExAt (T : Tab) (L : Lk) (mg : Str → Option Value) (k : Nat) (x : Str) (sups : List Nat) : Prop where
  g : mg x = some (.ref (L.cA k))
  q : PySem.W.excIn L.K (L.cA k) [.type "ValueError", .type "Exception", .type "BaseException", .type "object"] "ValueError.__new__" = true
  kp : PySem.W.keepIn L.K (.ref (L.cA k)) = true
  b : PySem.W.subIn L.K (.ref (L.cA k)) (.type "BaseException") = some true
  t : PySem.W.typeIn L.K (.ref (L.cA k)) = some (.type "type")
  ec : ExcC L.K (L.cA k)
  sub : ∀ j p, T.exs[j]? = some p → PySem.W.subIn L.K (.ref (L.cA k)) (.ref (L.cA j)) = some (sups.contains j) ∧ PySem.W.kitOne L.K (.ref (L.cA k)) (.ref (L.cA j)) = some (sups.contains j)
/-- what a context knows -/
structure Fx (T : Tab) (L : Lk) (c : Call) (X : Cx) : Prop where
  hK : X.K = L.K
  calm : X.calm = true
  nd : X.N.Nodup
  hu : X.A.units + 100 < cLine
  hg : X.A.guards = some []
  bis : ∀ x, x ∈ T.bis → X.mg x = none
  gls : ∀ p, p ∈ T.gls → ∃ w u, X.mg p.1 = some w ∧ RelV u w ∧ ∀ ι H, RV L ι H p.2 u
  fns : ∀ f x, T.fns[f]? = some x → ∃ a, X.mg x = some (.ref a) ∧ PySem.W.keepIn X.K (.ref a) = true ∧ FnRun L X.prog X.w X.K X.mg X.base X.A a (c f)
  exs : ∀ k p, T.exs[k]? = some p → ExAt T L X.mg k p.1 p.2
theorem Fx.blk {T : Tab} {L : Lk} {c : Call} {X : Cx} (F : Fx T L c X) (s : Shared) (H : Hp) (scope : Scope) (env : Env) (fp : List Addr) : Fx T L c (X.blk s H scope env fp) := ⟨F.hK, F.calm, F.nd, F.hu, F.hg, F.bis, F.gls, F.fns, F.exs⟩
theorem At.blk {X : Cx} {v : Vw} (A : At X v) (s : Shared) (H : Hp) (scope : Scope) (cl : List (Str × Addr)) (C : Addr) (fp : List Addr) : At (X.blk s H scope (compEnvC scope cl C X.env) fp) (v.blk scope) :=
  ⟨A.N, by show relS scope X.env.scope = relS scope v.sc; rw [A.sc], rfl⟩
theorem Fx.wish {T : Tab} {L : Lk} {c : Call} {X : Cx} (F : Fx T L c X) (E : Value → Shared → Prop) : Fx T L c (X.wish E) := ⟨F.hK, F.calm, F.nd, F.hu, F.hg, F.bis, F.gls, F.fns, F.exs⟩
theorem At.wish {X : Cx} {v : Vw} (A : At X v) (E : Value → Shared → Prop) : At (X.wish E) v := ⟨A.N, A.sc, A.fn⟩
/-! ### readings -/
section
variable {L : Lk} {W : WX}
theorem tE_two {ea eb : PSt → PHeap → Res PV} {op : PV → PV → PHeap → Res PV} {σ : L2.St} {H : Hp} {Q : VK} (h : tE L W (fun ρ h => (ea ρ h).bind fun v h1 => (eb ρ h1).bind fun w h2 => op v w h2) σ H Q) : tOp (rOf L op) (tE L W ea) (tE L W eb) σ H Q := by
  obtain ⟨ι, ρ, h, rσ, rh, hq⟩ := h
  refine ⟨ι, ρ, h, rσ, rh, okA.bind hq fun ι1 H1 h1 v x _ x1 rh1 rv1 q1 => ?_⟩
  refine ⟨ι1, ρ, h1, rσ.ext x1, rh1, okA.bind q1 fun ι2 H2 h2 w y _ x2 rh2 rv2 q2 => ?_⟩
  exact ⟨ι2, v, w, h2, _, RV.ext x2 _ _ rv1, rv2, rh2, q2⟩
theorem tE_one {ea : PSt → PHeap → Res PV} {op : PV → PHeap → Res PV} {σ : L2.St} {H : Hp} {Q : VK} (h : tE L W (fun ρ h => (ea ρ h).bind op) σ H Q) : tE L W ea σ H fun x H1 => ∃ ι v h, RV L ι H1 v x ∧ RH L ι H1 h ∧ okV L ι H1 (op v h) Q fun c d H' => W c d σ H' := by
  obtain ⟨ι, ρ, h, rσ, rh, hq⟩ := h
  exact ⟨ι, ρ, h, rσ, rh, okA.bind hq fun ι1 H1 h1 v x _ x1 rh1 rv1 q1 => ⟨ι1, v, h1, rv1, rh1, q1⟩⟩
theorem tE_onS {ea : PSt → PHeap → Res PV} {op : PV → PSt → PHeap → Res PV} {σ : L2.St} {H : Hp} {Q : VK} (h : tE L W (fun ρ h => (ea ρ h).bind fun v h1 => op v ρ h1) σ H Q) : tE L W ea σ H fun x H1 => ∃ ι v ρ h, RSt L ι H1 ρ σ ∧ RV L ι H1 v x ∧ RH L ι H1 h ∧ okV L ι H1 (op v ρ h) Q fun c d H' => W c d σ H' := by
  obtain ⟨ι, ρ, h, rσ, rh, hq⟩ := h
  exact ⟨ι, ρ, h, rσ, rh, okA.bind hq fun ι1 H1 h1 v x _ x1 rh1 rv1 q1 => ⟨ι1, v, ρ, h1, rσ.ext x1, rv1, rh1, q1⟩⟩
theorem tA_one {ea : PSt → PHeap → Res (List PV)} {op : List PV → PHeap → Res PV} {σ : L2.St} {H : Hp} {Q : VK} (h : tE L W (fun ρ h => (ea ρ h).bind op) σ H Q) : tA L W ea σ H fun xs H1 => ∃ ι vs h, RVs L ι H1 vs xs ∧ RH L ι H1 h ∧ okV L ι H1 (op vs h) Q fun c d H' => W c d σ H' := by
  obtain ⟨ι, ρ, h, rσ, rh, hq⟩ := h
  exact ⟨ι, ρ, h, rσ, rh, okA.bind hq fun ι1 H1 h1 v x _ x1 rh1 rv1 q1 => ⟨ι1, v, h1, rv1, rh1, q1⟩⟩
theorem tA_bi {ea : PSt → PHeap → Res (List PV)} {op : List PV → PHeap → Res PV} {σ : L2.St} {H : Hp} {Q : VK} (h : tE L W (fun ρ h => (ea ρ h).bind op) σ H Q) : tCB (rBi L op) (tA L W ea) σ H Q := by
  obtain ⟨ι, ρ, h, rσ, rh, hq⟩ := h
  exact ⟨ι, ρ, h, rσ, rh, okA.bind hq fun ι1 H1 h1 v x _ x1 rh1 rv1 q1 => ⟨ι1, v, h1, _, rv1, rh1, q1⟩⟩
/-- a test by a value's truth -/
theorem tT_val {X : Cx} (hK : X.K = L.K) {ea : PSt → PHeap → Res PV} {σ : L2.St} {H : Hp} {Q : Bool → Hp → Prop} (h : tT L W (fun ρ h => (ea ρ h).bind fun v h => evT h v) σ H Q) : tE L W ea σ H fun x H' => ∃ k, TruV X.K x H' k ∧ Q k H' := by
  obtain ⟨ι, ρ, h, rσ, rh, hq⟩ := h
  refine ⟨ι, ρ, h, rσ, rh, okA.bind hq fun ι1 H1 h1 v x _ x1 rh1 rv1 q1 => ?_⟩
  obtain ⟨k, e, q1⟩ := okA.got q1
  exact ⟨k, tru_of hK rh1 rv1 e, q1 ι1 H1 k (Ext.refl _ _) rh1 rfl⟩
theorem tT_bl {ea : PSt → PHeap → Res PV} (hb : ∀ ρ h v h1, ea ρ h = .ok v h1 → ∃ k, v = .bl k) {σ : L2.St} {H : Hp} {Q : Bool → Hp → Prop} (h : tT L W (fun ρ h => (ea ρ h).bind fun v h => evT h v) σ H Q) : tE L W ea σ H fun x H' => ∃ k, x = .bl k ∧ Q k H' := by
  obtain ⟨ι, ρ, h, rσ, rh, hq⟩ := h
  refine ⟨ι, ρ, h, rσ, rh, okA.bind hq fun ι1 H1 h1 v x e0 x1 rh1 rv1 q1 => ?_⟩
  obtain ⟨k, rfl⟩ := hb _ _ _ _ e0
  obtain ⟨k', e, q1⟩ := okA.got q1
  simp only [RV] at rv1
  have : k' = k := by
    have z : some k = some k' := e
    cases z; rfl
  subst this
  exact ⟨k', rv1, q1 ι1 H1 k' (Ext.refl _ _) rh1 rfl⟩
theorem tT_then {f : PSt → PHeap → Res Bool} {g : Bool → PSt → PHeap → Res Bool} {σ : L2.St} {H : Hp} {Q : Bool → Hp → Prop} (h : tT L W (fun ρ h => (f ρ h).bind fun b h1 => g b ρ h1) σ H Q) :
    tT L W f σ H fun b H1 => ∃ ι ρ h, RSt L ι H1 ρ σ ∧ RH L ι H1 h ∧ okB L ι H1 (g b ρ h) Q fun c d H' => W c d σ H' := by
  obtain ⟨ι, ρ, h, rσ, rh, hq⟩ := h
  refine ⟨ι, ρ, h, rσ, rh, okA.bind hq fun ι1 H1 h1 v x _ x1 rh1 rv1 q1 => ?_⟩
  subst rv1
  exact ⟨ι1, ρ, h1, rσ.ext x1, rh1, q1⟩
theorem tT_cong {f g : PSt → PHeap → Res Bool} (e : ∀ ρ h, f ρ h = g ρ h) {σ : L2.St} {H : Hp} {Q : Bool → Hp → Prop} (h : tT L W f σ H Q) : tT L W g σ H Q := by
  obtain ⟨ι, ρ, h, rσ, rh, hq⟩ := h
  exact ⟨ι, ρ, h, rσ, rh, by rw [← e]; exact hq⟩
theorem tE_cong {f g : PSt → PHeap → Res PV} (e : ∀ ρ h, f ρ h = g ρ h) {σ : L2.St} {H : Hp} {Q : VK} (h : tE L W f σ H Q) : tE L W g σ H Q := by
  obtain ⟨ι, ρ, h, rσ, rh, hq⟩ := h
  exact ⟨ι, ρ, h, rσ, rh, by rw [← e]; exact hq⟩
end
/-! ### the judgement -/
def isBool : Expr → Bool
  | .BoolOp .. => true
  | _ => false
def tst (c : Call) (e : E) : PSt → PHeap → Res Bool := fun ρ h => (evalE c e ρ h).bind fun v h => evT h v
structure Sd (L : Lk) (W : WX) (X : Cx) (c : Call) (e : E) (a : Expr) : Prop where
  pe : PE X a (tE L W (evalE c e))
  pt : PT X a (tT L W (tst c e))
  pw : isBool a = true → PW X a (tT L W (tst c e))
section
variable {T : Tab} {L : Lk} {W : WX} {X : Cx} {c : Call} {v : Vw}
theorem Sd.val {e : E} {a : Expr} (hK : X.K = L.K) (h : PE X a (tE L W (evalE c e))) (he : ∀ whole, isTrue a X.env whole = (do let v ← whole; standAt a.pos; holding [v] (truthy v))) (hb : isBool a = false) : Sd L W X c e a :=
  ⟨h, PT.imp (pt_truth h he) fun σ H Q q => tT_val hK q, fun z => by rw [hb] at z; cases z⟩
theorem star_cons {e : E} {a : Expr} (h : chkE T e v a = true) (as : List Expr) (env : Env) : starEach (a :: as) env = (false, eval a env) :: starEach as env := by
  cases a <;> first | rfl | (exfalso; cases e <;> simp only [chkE] at h <;> first | cases h | (unfold lrArgs at h; cases h))
theorem star_any : ∀ {es : List E} {as : List Expr} {pos : Pos} {env : Env}, chkEs T es v as = true → (backTo pos (starEach as env)).any (·.1) = false ∧ (backTo pos (starEach as env)).all (fun x => !x.1) = true ∧ as.length = es.length
  | [], [], _, _, _ => ⟨rfl, rfl, rfl⟩
  | e :: es, a :: as, pos, env, h => by
    simp only [chkEs, Bool.and_eq_true] at h
    obtain ⟨h1, h2, h3⟩ := star_any (pos := pos) (env := env) h.2
    rw [star_cons h.1]
    exact ⟨by show (false || (backTo pos (starEach as env)).any (·.1)) = false; rw [h1]; rfl, by show (true && (backTo pos (starEach as env)).all (fun x => !x.1)) = true; rw [h2]; rfl, by rw [List.length_cons, List.length_cons, h3]⟩
  | [], _ :: _, _, _, h => by simp only [chkEs] at h; cases h
  | _ :: _, [], _, _, h => by simp only [chkEs] at h; cases h
/-- the arguments' judgements -/
inductive Sds (T : Tab) (L : Lk) (W : WX) (X : Cx) (c : Call) (v : Vw) : List E → List Expr → Prop where
  | nil : Sds T L W X c v [] []
  | cons {e : E} {a : Expr} {es : List E} {as : List Expr} (k : chkE T e v a = true) (h : Sd L W X c e a) (r : Sds T L W X c v es as) : Sds T L W X c v (e :: es) (a :: as)
theorem Sds.chk {es : List E} {as : List Expr} (h : Sds T L W X c v es as) : chkEs T es v as = true := by
  induction h with
  | nil => rfl
  | cons k _ _ ih => simp only [chkEs, Bool.and_eq_true]; exact ⟨k, ih⟩
theorem Sds.pa {es : List E} {as : List Expr} (h : Sds T L W X c v es as) : PA X as (tA L W (evalEs c es)) := by
  induction h with
  | nil =>
    refine PA.imp pa_nil fun σ H Q q => ?_
    obtain ⟨ι, ρ, h, rσ, rh, hq⟩ := q
    simp only [evalEs] at hq
    exact hq ι H [] (Ext.refl _ _) rh (by simp [RVs])
  | cons k h r ih =>
    rename_i e a es as
    refine PA.imp (pa_cons h.pe ih (star_cons k _ _)) fun σ H Q q => ?_
    obtain ⟨ι, ρ, h, rσ, rh, hq⟩ := q
    simp only [evalEs] at hq
    refine ⟨ι, ρ, h, rσ, rh, okA.bind hq fun ι1 H1 h1 v x _ x1 rh1 rv1 q1 => ?_⟩
    refine ⟨ι1, ρ, h1, rσ.ext x1, rh1, okA.bind q1 fun ι2 H2 h2 vs xs _ x2 rh2 rv2 q2 => ?_⟩
    exact q2 ι2 H2 (x :: xs) (Ext.refl _ _) rh2 (by simp only [RVs]; exact ⟨x, xs, rfl, RV.ext x2 _ _ rv1, rv2⟩)
theorem At.bi (A : At X v) (F : Fx T L c X) {x : Str} (h : biB T v x = true) : Gl X x ∧ X.mg x = none ∧ (x == ("__debug__" : Str)) = false := by
  unfold biB at h
  rw [Bool.and_eq_true] at h
  exact ⟨(A.gl h.1).1, F.bis x (List.contains_iff_mem.mp h.2), (A.gl h.1).2⟩
/-! ### cases -/
theorem sd_var (A : At X v) (hK : X.K = L.K) {i : Nat} {a : Expr} (h : chkE T (.var i) v a = true) : Sd L W X c (.var i) a := by
  simp only [chkE] at h
  split at h
  · exact Sd.val hK (PE.imp (At.ld A h) fun σ H Q q => tVar_of q) (fun _ => rfl) rfl
  · cases h
theorem tC_of {p : PV} {u : V} {σ : L2.St} {H : Hp} {Q : VK} (hu : ∀ ι H, RV L ι H p u) (h : tE L W (fun _ h => .ok p h) σ H Q) : Q u H := by
  obtain ⟨ι, ρ, h, rσ, rh, hq⟩ := h
  exact okV.here hq rh (hu ι H)
theorem evalE_cst (c : Call) (k : PV) : evalE c (.cst k) = fun _ h => .ok k h := by funext ρ h; simp only [evalE]
theorem evalE_glb (c : Call) (x : Str) (k : PV) : evalE c (.glb x k) = fun _ h => .ok k h := by funext ρ h; simp only [evalE]
theorem evalE_tyn (c : Call) (x : Str) (n : String) : evalE c (.tyn x n) = fun _ h => .ok (.ty n) h := by funext ρ h; simp only [evalE]
theorem sd_cst (hK : X.K = L.K) {k : PV} {a : Expr} (h : chkE T (.cst k) v a = true) : Sd L W X c (.cst k) a := by
  simp only [chkE] at h
  split at h
  · rename_i k0 _ _
    refine Sd.val hK ?_ (fun _ => rfl) rfl
    rw [evalE_cst]
    unfold cstB at h
    split at h
    · exact PE.imp pe_non fun σ H Q q => tC_of (fun _ _ => rv_non) q
    · rename_i b b'
      have e := eq_of_beq h
      subst e
      exact PE.imp pe_bl fun σ H Q q => tC_of (fun _ _ => rv_bl _) q
    · rename_i b b'
      have e := of_decide_eq_true h
      subst e
      exact PE.imp pe_int fun σ H Q q => tC_of (fun _ _ => rv_int _) q
    · rename_i b b'
      rw [Bool.and_eq_true] at h
      have e := of_decide_eq_true h.1
      have z := of_decide_eq_true h.2
      subst e
      exact PE.imp pe_str fun σ H Q q => tC_of (fun _ _ => rv_str (by rw [← szB_eq]; exact z)) q
    · rename_i b b'
      rw [Bool.and_eq_true] at h
      have e := of_decide_eq_true h.1
      have z := of_decide_eq_true h.2
      subst e
      exact PE.imp pe_byt fun σ H Q q => tC_of (fun _ _ => rv_byt (by rw [← szB_eq]; exact z)) q
    · cases h
  · cases h
theorem sd_glb (A : At X v) (F : Fx T L c X) {x : Str} {k : PV} {a : Expr} (h : chkE T (.glb x k) v a = true) : Sd L W X c (.glb x k) a := by
  simp only [chkE] at h
  split at h
  · rename_i y p
    simp only [Bool.and_eq_true] at h
    obtain ⟨⟨h1, h2⟩, h3⟩ := h
    cases of_decide_eq_true h1
    obtain ⟨q, hq, h4⟩ := List.any_eq_true.mp h3
    rw [Bool.and_eq_true] at h4
    obtain ⟨w, u, e1, e2, e3⟩ := F.gls q hq
    rw [of_decide_eq_true h4.1] at e1
    rw [pvB_eq _ _ h4.2] at e3
    refine Sd.val F.hK ?_ (fun _ => rfl) rfl
    rw [evalE_glb]
    exact PE.imp (pe_glob (A.gl h2).1 e1 e2 (A.gl h2).2) fun σ H Q q => tC_of e3 q
  · cases h
theorem ty_ok : (tyTab.all fun p => match bootBuiltins p.1 with | some (.type n) => n == p.2 && !(p.1 == ("__debug__" : Str)) && !(p.1 == ("__name__" : Str)) | _ => false) = true := by decide +kernel
theorem ty_boot {x : Str} {n : String} (h : tyTab.contains (x, n) = true) : bootBuiltins x = some (.type n) ∧ x ≠ "__name__" := by
  have q := List.all_eq_true.mp ty_ok _ (List.contains_iff_mem.mp h)
  split at q
  · rename_i m e
    simp only [Bool.and_eq_true] at q
    rw [eq_of_beq q.1.1] at e
    exact ⟨e, fun z => by have z2 := nbeq q.2; rw [z] at z2; simp at z2⟩
  · cases q
theorem sd_tyn (A : At X v) (F : Fx T L c X) {x : Str} {n : String} {a : Expr} (h : chkE T (.tyn x n) v a = true) : Sd L W X c (.tyn x n) a := by
  simp only [chkE] at h
  split at h
  · rename_i y p
    simp only [Bool.and_eq_true] at h
    obtain ⟨⟨h1, h2⟩, h3⟩ := h
    cases of_decide_eq_true h1
    obtain ⟨g1, g2, g3⟩ := A.bi F h2
    obtain ⟨b1, b2⟩ := ty_boot h3
    refine Sd.val F.hK ?_ (fun _ => rfl) rfl
    rw [evalE_tyn]
    exact PE.imp (pe_bltn (v := .ty n) g1 g2 b1 rfl b2 g3) fun σ H Q q => tC_of (fun _ _ => by simp only [RV]) q
  · cases h
theorem sd_bin (F : Fx T L c X) {o : BO} {e f : E} {l r : Expr} {pos : Pos} (h1 : Sd L W X c e l) (h2 : Sd L W X c f r) : Sd L W X c (.bin o e f) (.BinOp l (boO o) r pos) :=
  Sd.val F.hK (PE.imp (pe_op (opr_bin F.hK o) h1.pe h2.pe) fun σ H Q q => tE_two (tE_cong (fun ρ h => by simp only [evalE]) q)) (fun _ => rfl) rfl
theorem sd_cat (F : Fx T L c X) {mu : Bool} {e f : E} {l r : Expr} {pos : Pos} (h1 : Sd L W X c e l) (h2 : Sd L W X c f r) : Sd L W X c (.cat mu e f) (.BinOp l .Add r pos) :=
  Sd.val F.hK (PE.imp (pe_op (opr_cat F.hK mu) h1.pe h2.pe) fun σ H Q q => tE_two (tE_cong (fun ρ h => by simp only [evalE]) q)) (fun _ => rfl) rfl
theorem sd_neg (F : Fx T L c X) {e : E} {a : Expr} {pos : Pos} (h1 : Sd L W X c e a) : Sd L W X c (.neg e) (.UnaryOp .USub a pos) := by
  refine Sd.val F.hK (PE.imp (pe_un un_neg h1.pe) fun σ H Q q => ?_) (fun _ => rfl) rfl
  have q := tE_one (tE_cong (fun ρ h => by simp only [evalE]; rfl) q)
  obtain ⟨ι, ρ, h, rσ, rh, hq⟩ := q
  refine ⟨ι, ρ, h, rσ, rh, okA.mono hq (fun x H1 ⟨ι1, v, h1, rv, rh1, q1⟩ => ?_) fun _ _ _ z => z⟩
  cases v <;> try exact q1.elim
  simp only [RV] at rv
  exact ⟨_, rv, okV.here q1 rh1 (rv_int _)⟩
theorem evb_bl {α : Type} {r : Res PV} {k : PV → PHeap → Res PV} {v : PV} {h1 : PHeap} (e : r.bind k = .ok v h1) : ∃ w h, r = .ok w h ∧ k w h = .ok v h1 := by
  cases r with
  | ok w h => exact ⟨w, h, rfl, e⟩
  | exc _ _ => cases e
  | stuck => cases e
theorem got_bl {α : Type} {o : Option α} {k : α → Res PV} {v : PV} {h1 : PHeap} (e : orStuck o k = .ok v h1) : ∃ w, o = some w ∧ k w = .ok v h1 := by
  cases o with
  | none => cases e
  | some w => exact ⟨w, rfl, e⟩
theorem tT_not {e : E} {σ : L2.St} {H : Hp} {Q : Bool → Hp → Prop} (q : tT L W (tst c (.not e)) σ H Q) : tNot (tT L W (tst c e)) σ H Q := by
  have q := tT_then (f := tst c e) (g := fun b ρ h1 => .ok (!b) h1) (tT_cong (fun ρ h => by
    simp only [tst, evalE]
    cases evalE c e ρ h with
    | ok w h1 =>
      simp only [Res.bind, evT]
      cases truth h1 w with
      | none => rfl
      | some b => rfl
    | exc _ _ => rfl
    | stuck => rfl) q)
  obtain ⟨ι, ρ, h, rσ, rh, hq⟩ := q
  refine ⟨ι, ρ, h, rσ, rh, okA.mono hq (fun b H1 ⟨ι1, ρ1, h1, rσ1, rh1, q1⟩ => ?_) fun _ _ _ z => z⟩
  exact q1 ι1 H1 _ (Ext.refl _ _) rh1 rfl
theorem sd_not (F : Fx T L c X) {e : E} {a : Expr} {pos : Pos} (h1 : Sd L W X c e a) : Sd L W X c (.not e) (.UnaryOp .Not a pos) := by
  refine ⟨PE.imp (pe_notT h1.pe) fun σ H Q q => ?_, PT.imp (pt_not h1.pt) fun σ H Q q => tT_not q, fun z => nomatch z⟩
  have q := tE_one (tE_cong (fun ρ h => by simp only [evalE]; rfl) q)
  obtain ⟨ι, ρ, h, rσ, rh, hq⟩ := q
  refine ⟨ι, ρ, h, rσ, rh, okA.mono hq (fun x H1 ⟨ι1, v, h1, rv, rh1, q1⟩ => ?_) fun _ _ _ z => z⟩
  obtain ⟨k, e, q1⟩ := okA.got q1
  exact ⟨k, tru_of F.hK rh1 rv e, okV.here q1 rh1 (rv_bl _)⟩
theorem and_tst {e f : E} (ρ : PSt) (h : PHeap) : tst c (.and e f) ρ h = (tst c e ρ h).bind fun k h1 => if k = true then tst c f ρ h1 else .ok false h1 := by
  simp only [tst, evalE]
  cases evalE c e ρ h with
  | ok w h1 =>
    simp only [Res.bind, evT]
    cases hk : truth h1 w with
    | none => rfl
    | some b =>
      cases b with
      | true => simp [orStuck]
      | false => simp [orStuck, hk]
  | exc _ _ => rfl
  | stuck => rfl
theorem or_tst {e f : E} (ρ : PSt) (h : PHeap) : tst c (.or e f) ρ h = (tst c e ρ h).bind fun k h1 => if k = true then .ok true h1 else tst c f ρ h1 := by
  simp only [tst, evalE]
  cases evalE c e ρ h with
  | ok w h1 =>
    simp only [Res.bind, evT]
    cases hk : truth h1 w with
    | none => rfl
    | some b =>
      cases b with
      | true => simp [orStuck, hk]
      | false => simp [orStuck]
  | exc _ _ => rfl
  | stuck => rfl
theorem ite_tst {t e f : E} (ρ : PSt) (h : PHeap) : tst c (.ite t e f) ρ h = (tst c t ρ h).bind fun k h1 => if k = true then tst c e ρ h1 else tst c f ρ h1 := by
  simp only [tst, evalE]
  cases evalE c t ρ h with
  | ok w h1 =>
    simp only [Res.bind, evT]
    cases hk : truth h1 w with
    | none => rfl
    | some b => cases b <;> simp [orStuck]
  | exc _ _ => rfl
  | stuck => rfl
theorem tT_and {e f : E} {σ : L2.St} {H : Hp} {Q : Bool → Hp → Prop} (q : tT L W (tst c (.and e f)) σ H Q) : tAnd (tT L W (tst c e)) (tT L W (tst c f)) σ H Q := by
  have q := tT_then (f := tst c e) (g := fun k ρ h1 => if k = true then tst c f ρ h1 else .ok false h1) (tT_cong and_tst q)
  obtain ⟨ι, ρ, h, rσ, rh, hq⟩ := q
  refine ⟨ι, ρ, h, rσ, rh, okA.mono hq (fun b H1 ⟨ι1, ρ1, h1, rσ1, rh1, q1⟩ => ?_) fun _ _ _ z => z⟩
  cases b with
  | true => exact ⟨ι1, ρ1, h1, rσ1, rh1, q1⟩
  | false => exact q1 ι1 H1 _ (Ext.refl _ _) rh1 rfl
theorem tT_or {e f : E} {σ : L2.St} {H : Hp} {Q : Bool → Hp → Prop} (q : tT L W (tst c (.or e f)) σ H Q) : tOr (tT L W (tst c e)) (tT L W (tst c f)) σ H Q := by
  have q := tT_then (f := tst c e) (g := fun k ρ h1 => if k = true then .ok true h1 else tst c f ρ h1) (tT_cong or_tst q)
  obtain ⟨ι, ρ, h, rσ, rh, hq⟩ := q
  refine ⟨ι, ρ, h, rσ, rh, okA.mono hq (fun b H1 ⟨ι1, ρ1, h1, rσ1, rh1, q1⟩ => ?_) fun _ _ _ z => z⟩
  cases b with
  | false => exact ⟨ι1, ρ1, h1, rσ1, rh1, q1⟩
  | true => exact q1 ι1 H1 _ (Ext.refl _ _) rh1 rfl
theorem tE_and {e f : E} (hK : X.K = L.K) {σ : L2.St} {H : Hp} {Q : VK} (q : tE L W (evalE c (.and e f)) σ H Q) : tAndT X.K (tE L W (evalE c e)) (tE L W (evalE c f)) σ H Q := by
  have q := tE_onS (ea := evalE c e) (op := fun v ρ h1 => orStuck (truth h1 v) fun k => if k = true then evalE c f ρ h1 else .ok v h1) (tE_cong (fun ρ h => by simp only [evalE]) q)
  obtain ⟨ι, ρ, h, rσ, rh, hq⟩ := q
  refine ⟨ι, ρ, h, rσ, rh, okA.mono hq (fun x H1 ⟨ι1, v, ρ1, h1, rσ1, rv, rh1, q1⟩ => ?_) fun _ _ _ z => z⟩
  obtain ⟨k, e, q1⟩ := okA.got q1
  refine ⟨k, tru_of hK rh1 rv e, ?_⟩
  cases k with
  | true => exact ⟨ι1, ρ1, h1, rσ1, rh1, q1⟩
  | false => exact okV.here q1 rh1 rv
theorem tE_or {e f : E} (hK : X.K = L.K) {σ : L2.St} {H : Hp} {Q : VK} (q : tE L W (evalE c (.or e f)) σ H Q) : tOrT X.K (tE L W (evalE c e)) (tE L W (evalE c f)) σ H Q := by
  have q := tE_onS (ea := evalE c e) (op := fun v ρ h1 => orStuck (truth h1 v) fun k => if k = true then .ok v h1 else evalE c f ρ h1) (tE_cong (fun ρ h => by simp only [evalE]) q)
  obtain ⟨ι, ρ, h, rσ, rh, hq⟩ := q
  refine ⟨ι, ρ, h, rσ, rh, okA.mono hq (fun x H1 ⟨ι1, v, ρ1, h1, rσ1, rv, rh1, q1⟩ => ?_) fun _ _ _ z => z⟩
  obtain ⟨k, e, q1⟩ := okA.got q1
  refine ⟨k, tru_of hK rh1 rv e, ?_⟩
  cases k with
  | false => exact ⟨ι1, ρ1, h1, rσ1, rh1, q1⟩
  | true => exact okV.here q1 rh1 rv
theorem sd_and1 (F : Fx T L c X) {e f : E} {a b : Expr} {pos : Pos} (h1 : Sd L W X c e a) (h2 : Sd L W X c f b) : Sd L W X c (.and e f) (.BoolOp .And [a, b] pos) :=
  have w := PW.imp (pw_and h1.pt (pw_and1 h2.pt)) fun σ H Q q => tT_and q
  ⟨PE.imp (pe_andT h1.pe (pe_one h2.pe)) fun σ H Q q => tE_and F.hK q, w.pt, fun _ => w⟩
theorem sd_and2 (F : Fx T L c X) {e f : E} {a b d : Expr} {r : List Expr} {pos : Pos} (h1 : Sd L W X c e a) (h2 : Sd L W X c f (.BoolOp .And (b :: d :: r) pos)) : Sd L W X c (.and e f) (.BoolOp .And (a :: b :: d :: r) pos) :=
  have w := PW.imp (pw_and h1.pt (h2.pw rfl)) fun σ H Q q => tT_and q
  ⟨PE.imp (pe_andT h1.pe h2.pe) fun σ H Q q => tE_and F.hK q, w.pt, fun _ => w⟩
theorem sd_or1 (F : Fx T L c X) {e f : E} {a b : Expr} {pos : Pos} (h1 : Sd L W X c e a) (h2 : Sd L W X c f b) : Sd L W X c (.or e f) (.BoolOp .Or [a, b] pos) :=
  have w := PW.imp (pw_or h1.pt (pw_or1 h2.pt)) fun σ H Q q => tT_or q
  ⟨PE.imp (pe_orT h1.pe (pe_one h2.pe)) fun σ H Q q => tE_or F.hK q, w.pt, fun _ => w⟩
theorem sd_or2 (F : Fx T L c X) {e f : E} {a b d : Expr} {r : List Expr} {pos : Pos} (h1 : Sd L W X c e a) (h2 : Sd L W X c f (.BoolOp .Or (b :: d :: r) pos)) : Sd L W X c (.or e f) (.BoolOp .Or (a :: b :: d :: r) pos) :=
  have w := PW.imp (pw_or h1.pt (h2.pw rfl)) fun σ H Q q => tT_or q
  ⟨PE.imp (pe_orT h1.pe h2.pe) fun σ H Q q => tE_or F.hK q, w.pt, fun _ => w⟩
theorem pt_ifExp' {t a b : Expr} {pos : Pos} {tA tB tC : TT} (hc : PT X t tA) (ha : PT X a tB) (hb : PT X b tC) : PT X (.IfExp t a b pos) (fun σ H Q => tA σ H fun k H1 => if k = true then tB σ H1 Q else tC σ H1 Q) := by
  refine ⟨fun pins s σ H Q I h => ?_⟩
  show wpAny _ _ (isTrue t X.env (eval t X.env) >>= fun k => if k = true then isTrue a X.env (eval a X.env) else isTrue b X.env (eval b X.env)) _ _ _
  refine wpAny_bind (thn (hc.run pins s σ H _ I h) fun k s1 ⟨H1, I1, q1⟩ => ?_)
  cases k with
  | true => exact ha.run pins s1 σ H1 Q I1 q1
  | false => exact hb.run pins s1 σ H1 Q I1 q1
theorem sd_ite (F : Fx T L c X) {t e f : E} {d a b : Expr} {pos : Pos} (h0 : Sd L W X c t d) (h1 : Sd L W X c e a) (h2 : Sd L W X c f b) : Sd L W X c (.ite t e f) (.IfExp d a b pos) := by
  refine ⟨PE.imp (pe_ifExp h0.pt h1.pe h2.pe) fun σ H Q q => ?_, PT.imp (pt_ifExp' h0.pt h1.pt h2.pt) fun σ H Q q => ?_, fun z => nomatch z⟩
  · obtain ⟨ι, ρ, h, rσ, rh, hq⟩ := q
    simp only [evalE] at hq
    refine ⟨ι, ρ, h, rσ, rh, ?_⟩
    have hq2 : okV L ι H ((tst c t ρ h).bind fun k h1 => if k = true then evalE c e ρ h1 else evalE c f ρ h1) Q fun c d H' => W c d σ H' := by
      unfold tst
      cases h3 : evalE c t ρ h with
      | ok w h1 =>
        rw [h3] at hq
        simp only [Res.bind, evT] at hq ⊢
        cases h4 : truth h1 w with
        | none => rw [h4] at hq; exact hq.elim
        | some b => rw [h4] at hq; exact hq
      | exc _ _ => rw [h3] at hq; exact hq
      | stuck => rw [h3] at hq; exact hq
    refine okA.bind hq2 fun ι1 H1 h1 k b _ x1 rh1 rv1 q1 => ?_
    subst rv1
    cases k with
    | true => exact ⟨ι1, ρ, h1, rσ.ext x1, rh1, q1⟩
    | false => exact ⟨ι1, ρ, h1, rσ.ext x1, rh1, q1⟩
  · have q := tT_then (f := tst c t) (g := fun k ρ h1 => if k = true then tst c e ρ h1 else tst c f ρ h1) (tT_cong ite_tst q)
    obtain ⟨ι, ρ, h, rσ, rh, hq⟩ := q
    refine ⟨ι, ρ, h, rσ, rh, okA.mono hq (fun b H1 ⟨ι1, ρ1, h1, rσ1, rh1, q1⟩ => ?_) fun _ _ _ z => z⟩
    cases b with
    | true => exact ⟨ι1, ρ1, h1, rσ1, rh1, q1⟩
    | false => exact ⟨ι1, ρ1, h1, rσ1, rh1, q1⟩
theorem tE_cmp {o : CO} {e f : E} {σ : L2.St} {H : Hp} {Q : VK} (q : tE L W (evalE c (.cmp o e f)) σ H Q) : tOp (rOf L (cmpR o)) (tE L W (evalE c e)) (tE L W (evalE c f)) σ H Q := tE_two (tE_cong (fun ρ h => by simp only [evalE, cmpR]) q)
theorem bl_cmp {o : CO} {e f : E} (ρ : PSt) (h : PHeap) (v : PV) (h1 : PHeap) (q : evalE c (.cmp o e f) ρ h = .ok v h1) : ∃ k, v = .bl k := by
  simp only [evalE] at q
  obtain ⟨w, h2, _, q⟩ := evb_bl (α := Unit) q
  obtain ⟨w', h3, _, q⟩ := evb_bl (α := Unit) q
  obtain ⟨k, _, q⟩ := got_bl q
  cases q
  exact ⟨k, rfl⟩
theorem sd_cmp (F : Fx T L c X) {o : CO} {e f : E} {a b : Expr} {pos : Pos} (hm : behindInMarks (coO o) b = false) (h1 : Sd L W X c e a) (h2 : Sd L W X c f b) : Sd L W X c (.cmp o e f) (.Compare a [coO o] [b] pos) :=
  ⟨PE.imp (pe_cmpR (opr_cmp (by have := F.hu; omega) F.hK o) h1.pe h2.pe hm) fun σ H Q q => tE_cmp q, PT.imp (pt_cmpR (opr_cmp (by have := F.hu; omega) F.hK o) h1.pe h2.pe hm) fun σ H Q q => tE_cmp (tT_bl bl_cmp q), fun z => nomatch z⟩
theorem tE_chn {o o' : CO} {e f g : E} {σ : L2.St} {H : Hp} {Q : VK} (q : tE L W (evalE c (.chn o o' e f g)) σ H Q) : tChain (rOf L (cmpR o)) (rOf L (cmpR o')) (tE L W (evalE c e)) (tE L W (evalE c f)) (tE L W (evalE c g)) σ H Q := by
  obtain ⟨ι, ρ, h, rσ, rh, hq⟩ := q
  simp only [evalE] at hq
  refine ⟨ι, ρ, h, rσ, rh, okA.bind hq fun ι1 H1 h1 v x _ x1 rh1 rv1 q1 => ?_⟩
  refine ⟨ι1, ρ, h1, rσ.ext x1, rh1, okA.bind q1 fun ι2 H2 h2 w y _ x2 rh2 rv2 q2 => ?_⟩
  obtain ⟨k, e0, q2⟩ := okA.got q2
  refine ⟨ι2, v, w, h2, fun c d H' => W c d σ H', RV.ext x2 _ _ rv1, rv2, rh2, ?_⟩
  simp only [cmpR, e0, orStuck]
  intro ι3 H3 z x3 rh3 rz
  simp only [RV] at rz
  refine ⟨k, rz, ?_⟩
  have q3 := okA.ext x3 q2
  cases k with
  | true =>
    refine ⟨ι3, ρ, h2, ((rσ.ext x1).ext x2).ext x3, rh3, okA.bind q3 fun ι4 H4 h4 w' y' _ x4 rh4 rv4 q4 => ?_⟩
    exact ⟨ι4, w, w', h4, _, RV.ext x4 _ _ (RV.ext x3 _ _ rv2), rv4, rh4, q4⟩
  | false => exact okV.here q3 rh3 (rv_bl _)
theorem bl_chn {o o' : CO} {e f g : E} (ρ : PSt) (h : PHeap) (v : PV) (h1 : PHeap) (q : evalE c (.chn o o' e f g) ρ h = .ok v h1) : ∃ k, v = .bl k := by
  simp only [evalE] at q
  obtain ⟨w, h2, _, q⟩ := evb_bl (α := Unit) q
  obtain ⟨w', h3, _, q⟩ := evb_bl (α := Unit) q
  obtain ⟨k, _, q⟩ := got_bl q
  split at q
  · obtain ⟨w', h3, _, q⟩ := evb_bl (α := Unit) q
    obtain ⟨k, _, q⟩ := got_bl q
    cases q
    exact ⟨_, rfl⟩
  · cases q
    exact ⟨_, rfl⟩
theorem sd_chn (F : Fx T L c X) {o o' : CO} {e f g : E} {a b d : Expr} {pos : Pos} (hm : lastMarks [coO o, coO o'] [b, d] = false) (h1 : Sd L W X c e a) (h2 : Sd L W X c f b) (h3 : Sd L W X c g d) : Sd L W X c (.chn o o' e f g) (.Compare a [coO o, coO o'] [b, d] pos) :=
  ⟨PE.imp (pe_chain (opr_cmp (by have := F.hu; omega) F.hK o) (opr_cmp (by have := F.hu; omega) F.hK o') h1.pe h2.pe h3.pe hm) fun σ H Q q => tE_chn q,
    PT.imp (pt_chain (opr_cmp (by have := F.hu; omega) F.hK o) (opr_cmp (by have := F.hu; omega) F.hK o') h1.pe h2.pe h3.pe hm) fun σ H Q q => tE_chn (tT_bl bl_chn q), fun z => nomatch z⟩
end
end Rf
end

section
set_option Elab.async false
set_option linter.all false
set_option maxRecDepth 100000
set_option maxHeartbeats 4000000
namespace Rf
open PySem PySem.Spec L2
section
variable {T : Tab} {L : Lk} {W : WX} {X : Cx} {c : Call} {v : Vw}
/-! ### calls of defs -/
theorem run_fnF {pins : List (Addr × Obj)} {σ : L2.St} {H : Hp} {s : Shared} {Q : VK} {a : Addr} {us : List Value} {vs : List V} {cf : List PV → PHeap → Res PV} (F : FnRun L X.prog X.w X.K X.mg X.base X.A a cf) (tk : Takes X W) (I : Inv X pins σ H s) (r : Vals vs us)
    (q : ∃ ι pvs h, RVs L ι H pvs vs ∧ RH L ι H h ∧ okV L ι H (cf pvs h) Q fun c d H' => W c d σ H') : wpAny (model X.prog X.w) X.A (call (.ref a) us) (EP X pins σ Q) X.xe s := by
  obtain ⟨ι, pvs, h, rv, rh, q⟩ := q
  refine wpAny_call (codeAny_mono (F X.stack s H us vs Q (WE W σ) ι pvs h I.env0 r rv rh q) fun r s' hq => ?_)
  cases r with
  | error e => exact passAt tk σ pins H s e s' I hq
  | ok fl =>
    cases fl with
    | ret u => exact I.after hq
    | next => exact False.elim hq
    | brk => exact False.elim hq
    | cont => exact False.elim hq
theorem sd_call (F : Fx T L c X) (tk : Takes X W) (A : At X v) {f : Nat} {es : List E} {x : Str} {as : List Expr} {p pos : Pos} (h1 : T.fns[f]? = some x) (h2 : glB v x = true) (h3 : Sds T L W X c v es as) : Sd L W X c (.call f es) (.Call (.Name x p) as [] pos) := by
  obtain ⟨a, e1, e2, fr⟩ := F.fns f x h1
  obtain ⟨g1, g2⟩ := A.gl h2
  refine Sd.val F.hK (PE.imp (t := fun σ H Q => tA L W (evalEs c es) σ H fun xs H1 => ∃ ι vs h, RVs L ι H1 vs xs ∧ RH L ι H1 h ∧ okV L ι H1 (c f vs h) Q fun c d H' => W c d σ H') ?_ fun σ H Q q => tA_one (tE_cong (fun ρ h => by simp only [evalE]) q)) (fun _ => rfl) rfl
  cases h3 with
  | nil =>
    refine ⟨fun pins s σ H Q I h => ?_⟩
    obtain ⟨ι, ρ, h, rσ, rh, hq⟩ := h
    simp only [evalEs] at hq
    have q := hq ι H [] (Ext.refl _ _) rh (by simp [RVs])
    refine wpAny_Call_Name_kw (ld_glob I g1 e1 ?_ g2)
    exact PySem.W.callWith_K0 I.kIn e2 (run_fnF fr tk I .nil q)
  | cons k hd tl =>
    rename_i e a' es as
    have pa := Sds.pa (Sds.cons k hd tl)
    refine ⟨fun pins s σ H Q I h => ?_⟩
    refine wpAny_Call_Name_kw (ld_glob I g1 e1 ?_ g2)
    refine PySem.W.callWith_K (h₀ := X.base) I.ok.mod.kin e2 (thn (pa.run pos pins s σ H _ I h) fun us s1 ⟨vs, H1, I1, r, q⟩ => ⟨I1.kIn, ?_⟩) (star_cons k _ _) (star_any tl.chk).1
    exact run_fnF fr tk I1 r q
/-! ### built-in functions, types, methods -/
theorem sd_bi (F : Fx T L c X) (A : At X v) {b : Bi} {mu : Bool} {es : List E} {as : List Expr} {a1 : Expr} {p pos : Pos} (h2 : biB T v (biN b) = true) (h3 : Sds T L W X c v es (a1 :: as)) : Sd L W X c (.bi b mu es) (.Call (.Name (biN b) p) (a1 :: as) [] pos) := by
  obtain ⟨g1, g2, g3⟩ := A.bi F h2
  have pa := h3.pa
  have hr := callr_bi F.hu F.hg F.calm F.hK mu b
  have hb := boot_bi b
  cases h3 with
  | cons k hd tl =>
    rename_i e0 es0
    refine Sd.val F.hK (PE.imp (t := tCB (rBi L (biOp b mu)) (tA L W (evalEs c (e0 :: es0)))) ?_ fun σ H Q q => tA_bi (tE_cong (fun ρ h => by simp only [evalE]) q)) (fun _ => rfl) rfl
    cases hk : biK b with
    | fn id =>
      rw [hk] at hr hb
      exact pe_callB hr g1 g2 hb pa (bi_name b).1 g3 (star_cons k _ _) (star_any tl.chk).1
    | ty n =>
      rw [hk] at hr hb
      exact pe_callTy hr g1 g2 hb pa (bi_name b).1 g3 (star_cons k _ _) (star_any tl.chk).1
theorem slot_me : ∀ m, Slot (meT m) (meN m) (meId m) := by
  intro m
  cases m
  · exact PySem.F.slot_list_append
  · exact PySem.F.slot_list_pop
  · exact PySem.F.slot_list_extend
  · exact PySem.F.slot_str_join
  · exact PySem.F.slot_str_partition
  · exact PySem.F.slot_str_split
  · exact PySem.F.slot_dict_get
  · exact PySem.F.slot_str_upper
theorem plain_me : ∀ m, PlainAttrs (meT m) := by
  intro m
  cases m
  · exact PySem.F.plainAttrs_list
  · exact PySem.F.plainAttrs_list
  · exact PySem.F.plainAttrs_list
  · exact PySem.F.plainAttrs_str
  · exact PySem.F.plainAttrs_str
  · exact PySem.F.plainAttrs_str
  · exact PySem.F.plainAttrs_dict
  · exact PySem.F.plainAttrs_str
theorem type_me : ∀ m, typeOf (.builtin (meId m)) = pure (.type "method_descriptor") := by
  intro m
  cases m
  · exact PySem.F.type_list_append
  · exact PySem.F.type_list_pop
  · exact PySem.F.type_list_extend
  · exact PySem.F.type_str_join
  · exact PySem.F.type_str_partition
  · exact PySem.F.type_str_split
  · exact PySem.F.type_dict_get
  · exact PySem.F.type_str_upper
theorem abase {o : Expr} {nm : Str} {env : Env} {whole : Sem Value} (h : notSup o = true) : attributeBase o nm env whole = whole := by
  unfold notSup at h
  split at h
  · cases h
  · rename_i hn
    unfold attributeBase
    split
    · exact absurd rfl (hn _ _ _)
    · rfl
theorem tE_mth (hK : X.K = L.K) {m : Me} {o : E} {es : List E} {σ : L2.St} {H : Hp} {Q : VK} (q : tE L W (evalE c (.mth m o es)) σ H Q) : tBM X.K (meT m) (rMt L (mthOp m)) (tE L W (evalE c o)) (tA L W (evalEs c es)) σ H Q := by
  have q := tE_onS (ea := evalE c o) (op := fun v ρ h1 => guardR (mthPre m h1 v = true) ((evalEs c es ρ h1).bind fun vs h2 => mthOp m v vs h2)) (tE_cong (fun ρ h => by simp only [evalE]) q)
  obtain ⟨ι, ρ, h, rσ, rh, hq⟩ := q
  refine ⟨ι, ρ, h, rσ, rh, okA.mono hq (fun x H1 ⟨ι1, v, ρ1, h1, rσ1, rv, rh1, q1⟩ => ?_) fun _ _ _ z => z⟩
  obtain ⟨g, q1⟩ := okA.guard q1
  refine ⟨ty_me hK rh1 rv g, ι1, ρ1, h1, rσ1, rh1, okA.bind q1 fun ι2 H2 h2 vs xs _ x2 rh2 rvs q2 => ?_⟩
  exact ⟨ι2, v, vs, h2, _, RV.ext x2 _ _ rv, rvs, rh2, q2⟩
theorem sd_mth (F : Fx T L c X) {m : Me} {o : E} {es : List E} {b : Expr} {as : List Expr} {ap cp : Pos} (hl : (ap.endLine == cp.line) = true) (hn : as.length < 25) (hs : notSup b = true) (h1 : Sd L W X c o b) (h3 : Sds T L W X c v es as) :
    Sd L W X c (.mth m o es) (.Call (.Attribute b (meN m) ap) as [] cp) := by
  refine Sd.val F.hK (PE.imp (t := tBM X.K (meT m) (rMt L (mthOp m)) (tE L W (evalE c o)) (tA L W (evalEs c es))) ?_ fun σ H Q q => tE_mth F.hK q) (fun _ => rfl) rfl
  have hr := mtr_me F.hu F.calm F.hK m
  cases h3 with
  | nil =>
    have z := pe_bm0 (apos := ap) (cpos := cp) (plain_me m) (slot_me m) (type_me m) hr h1.pe (abase hs) hl
    refine PE.imp z fun σ H Q q => ?_
    obtain ⟨ι, ρ, h, rσ, rh, hq⟩ := q
    refine ⟨ι, ρ, h, rσ, rh, okA.mono hq (fun x H1 ⟨ty, q1⟩ => ⟨ty, ?_⟩) fun _ _ _ z => z⟩
    obtain ⟨ι1, ρ1, h1, rσ1, rh1, q1⟩ := q1
    simp only [evalEs] at q1
    exact q1 ι1 H1 [] (Ext.refl _ _) rh1 (by simp [RVs])
  | cons k hd tl =>
    rename_i e0 a0 es0 as0
    have pa := Sds.pa (Sds.cons k hd tl)
    have sa := star_any (pos := cp) (env := X.env) (Sds.chk (Sds.cons k hd tl))
    refine pe_bm (plain_me m) (slot_me m) (type_me m) hr h1.pe pa (abase hs) ?_ hl (star_cons k _ _) (star_any tl.chk).1
    rw [sa.2.1]
    have e1 : decide ((a0 :: as0 : List Expr).length + ([] : List Keyword).length + (if ([] : List Keyword).isEmpty then 0 else 1) < 30) = true := decide_eq_true (by
      show (a0 :: as0).length + 0 + 0 < 30
      omega)
    exact Bool.and_eq_true_iff.mpr ⟨rfl, e1⟩
/-! ### tuples, lists, dicts -/
theorem sd_tup (F : Fx T L c X) {es : List E} {as : List Expr} {k : Nat} {pos : Pos} (h3 : Sds T L W X c v es as) : Sd L W X c (.tup es) (.Tuple as k pos) := by
  refine Sd.val F.hK (PE.imp (pe_tup h3.pa) fun σ H Q q => ?_) (fun _ => rfl) rfl
  have q := tA_one (tE_cong (fun ρ h => by simp only [evalE]; rfl) q)
  obtain ⟨ι, ρ, h, rσ, rh, hq⟩ := q
  refine ⟨ι, ρ, h, rσ, rh, okA.mono hq (fun xs H1 ⟨ι1, vs, h1, rv, rh1, q1⟩ => ?_) fun _ _ _ z => z⟩
  obtain ⟨g, q1⟩ := okA.guard q1
  have hz : xs.length ≤ sizeLine := by rw [← rv.length, ← szB_eq]; exact g
  exact ⟨hz, fun p hp => okV.newTup rh1 rv hz q1 hp⟩
theorem sd_lst (F : Fx T L c X) {mu : Bool} {es : List E} {as : List Expr} {pos : Pos} (h3 : Sds T L W X c v es as) : Sd L W X c (.lst mu es) (.List as pos) := by
  refine Sd.val F.hK (PE.imp (pe_lst h3.pa) fun σ H Q q => ?_) (fun _ => rfl) rfl
  have q := tA_one (tE_cong (fun ρ h => by simp only [evalE]; rfl) q)
  obtain ⟨ι, ρ, h, rσ, rh, hq⟩ := q
  refine ⟨ι, ρ, h, rσ, rh, okA.mono hq (fun xs H1 ⟨ι1, vs, h1, rv, rh1, q1⟩ => ?_) fun _ _ _ z => z⟩
  obtain ⟨g, q1⟩ := okA.guard q1
  have hz : xs.length ≤ sizeLine := by rw [← rv.length, ← szB_eq]; exact g
  exact ⟨hz, fun p hp => okV.mkL rh1 rv hz q1 hp⟩
theorem sd_dnew (F : Fx T L c X) {t : Bool} {pos : Pos} : Sd L W X c (.dnew t) (.Dict [] [] pos) := by
  have key : ∀ (o : PO) (u : HO), (∀ ι H, RO L ι H o u) → ∀ σ H Q, tE L W (fun _ h => .ok (.loc h.length) (h ++ [o])) σ H Q → ∀ p, H p = none → Q (.ref p) (upd H p u) := fun o u ho σ H Q q p hp => by
    obtain ⟨ι, ρ, h, rσ, rh, hq⟩ := q
    refine hq (ι ++ [p]) (upd H p u) (.ref p) (Ext.newLoc hp) (rh.newLoc hp (ho _ _)) ?_
    simp only [RV]
    exact ⟨p, rfl, by rw [← rh.len, List.getElem?_append_right (Nat.le_refl _), Nat.sub_self]; rfl⟩
  cases t with
  | false =>
    refine Sd.val F.hK (PE.imp pe_dnewK fun σ H Q q => key (.dK []) (.dK []) (fun _ _ => ⟨[], rfl, .nil, fun _ z => nomatch z⟩) σ H Q (tE_cong (fun ρ h => by simp only [evalE]; rfl) q)) (fun _ => rfl) rfl
  | true =>
    refine Sd.val F.hK (PE.imp pe_dnewT fun σ H Q q => key (.dT []) (.dT []) (fun _ _ => ⟨[], rfl, .nil⟩) σ H Q (tE_cong (fun ρ h => by simp only [evalE]; rfl) q)) (fun _ => rfl) rfl
theorem plainIx_of {b : Expr} (h : isSlc b = false) : PlainIx b := by
  intro o i
  cases b <;> first | rfl | (cases h; done)
theorem sd_idx (F : Fx T L c X) {e f : E} {a b : Expr} {pos : Pos} (hs : isSlc b = false) (h1 : Sd L W X c e a) (h2 : Sd L W X c f b) : Sd L W X c (.idx e f) (.Subscript a b pos) :=
  Sd.val F.hK (PE.imp (pe_ix (ixr_idx (by have := F.hu; omega) F.hK) h1.pe h2.pe (plainIx_of hs)) fun σ H Q q => tE_two (tE_cong (fun ρ h => by simp only [evalE]) q)) (fun _ => rfl) rfl
/-! ### slices -/
def partV (c : Call) (lo : E) (ρ : PSt) (h : PHeap) : Res (Option Int) := if isNop lo = true then .ok none h else (evalE c lo ρ h).bind fun i h2 => orStuck (intOf i) fun i => .ok (some i) h2
def tOp' (L : Lk) (W : WX) (c : Call) (lo : E) : TO := fun σ H Q => ∃ ι ρ h, RSt L ι H ρ σ ∧ RH L ι H h ∧ okA L (fun _ _ (a b : Option Int) => a = b) ι H (partV c lo ρ h) Q fun c d H' => W c d σ H'
theorem PO.imp {e : Option Expr} {t t' : TO} (h : L2.PO X e t) (w : ∀ σ H Q, t' σ H Q → t σ H Q) : L2.PO X e t' := ⟨fun pins s σ H Q I q => h.run pins s σ H Q I (w σ H Q q)⟩
theorem po_no {lo : E} (h : isNop lo = true) : L2.PO X none (tOp' L W c lo) := PO.imp po_none fun σ H Q q => by
  obtain ⟨ι, ρ, h', rσ, rh, hq⟩ := q
  unfold partV at hq
  rw [if_pos h] at hq
  exact hq ι H none (Ext.refl _ _) rh rfl
theorem po_so {lo : E} {a : Expr} (h : isNop lo = false) (h1 : Sd L W X c lo a) : L2.PO X (some a) (tOp' L W c lo) := PO.imp (po_some h1.pe) fun σ H Q q => by
  obtain ⟨ι, ρ, h', rσ, rh, hq⟩ := q
  unfold partV at hq
  rw [if_neg (by rw [h]; exact Bool.false_ne_true)] at hq
  refine ⟨ι, ρ, h', rσ, rh, okA.bind hq fun ι1 H1 h1 v x _ x1 rh1 rv1 q1 => ?_⟩
  obtain ⟨i, e, q1⟩ := okA.got q1
  cases v <;> cases e
  simp only [RV] at rv1
  exact ⟨_, rv1, q1 ι1 H1 _ (Ext.refl _ _) rh1 rfl⟩
theorem sd_slc (F : Fx T L c X) {mu : Bool} {e lo hi : E} {a : Expr} {l u : Option Expr} {p pos : Pos} (h1 : Sd L W X c e a) (h2 : L2.PO X l (tOp' L W c lo)) (h3 : L2.PO X u (tOp' L W c hi)) : Sd L W X c (.slc mu e lo hi) (.Subscript a (.Slice l u none p) pos) := by
  refine Sd.val F.hK (PE.imp (pe_slice (slr_slc F.hK mu) h1.pe h2 h3) fun σ H Q q => ?_) (fun _ => rfl) rfl
  obtain ⟨ι, ρ, h, rσ, rh, hq⟩ := q
  simp only [evalE] at hq
  refine ⟨ι, ρ, h, rσ, rh, okA.bind hq fun ι1 H1 h1 w x _ x1 rh1 rv1 q1 => ?_⟩
  refine ⟨ι1, ρ, h1, rσ.ext x1, rh1, okA.bind (r := partV c lo ρ h1) q1 fun ι2 H2 h2 l1 l2 _ x2 rh2 e2 q2 => ?_⟩
  subst e2
  refine ⟨ι2, ρ, h2, (rσ.ext x1).ext x2, rh2, okA.bind (r := partV c hi ρ h2) q2 fun ι3 H3 h3 u1 u2 _ x3 rh3 e3 q3 => ?_⟩
  subst e3
  exact ⟨ι3, w, h3, _, RV.ext x3 _ _ (RV.ext x2 _ _ rv1), rh3, q3⟩
theorem sd_rev (F : Fx T L c X) {mu : Bool} {e : E} {a : Expr} {k : Nat} {p1 p2 p3 pos : Pos} (h1 : Sd L W X c e a) : Sd L W X c (.rev mu e) (.Subscript a (.Slice none none (some (.UnaryOp .USub (.Constant (.int 1) k p1) p2)) p3) pos) := by
  refine Sd.val F.hK (PE.imp (pe_rev (mu := mu) F.hK h1.pe) fun σ H Q q => ?_) (fun _ => rfl) rfl
  have q := tE_one (tE_cong (fun ρ h => by simp only [evalE]; rfl) q)
  obtain ⟨ι, ρ, h, rσ, rh, hq⟩ := q
  exact ⟨ι, ρ, h, rσ, rh, okA.mono hq (fun x H1 ⟨ι1, v, h1, rv, rh1, q1⟩ => ⟨ι1, v, h1, _, rv, rh1, q1⟩) fun _ _ _ z => z⟩
/-! ### list(range(..)) -/
theorem rvs_rng {ι : List Addr} {H : Hp} (a b : Int) : RVs L ι H (rngV a b) (rgV a b) := by
  unfold rngV rgV
  generalize List.range (b - a).toNat = l
  induction l with
  | nil => simp [RVs]
  | cons n l ih => simp only [List.map_cons, RVs]; exact ⟨_, _, rfl, rv_int _, ih⟩
theorem rgV_le {a b : Int} (h : RgOk a b) : (rgV a b).length ≤ sizeLine := by
  rw [rgV_length, sizeLine_eq]
  exact h.2.2.2.2
theorem sd_lrng1 (F : Fx T L c X) (A : At X v) {mu : Bool} {e : E} {a : Expr} {p p2 pos pos2 : Pos} (g1 : biB T v "list" = true) (g2 : biB T v "range" = true) (k : chkE T e v a = true) (h1 : Sd L W X c e a) : Sd L W X c (.lrng mu [e]) (.Call (.Name "list" p) [.Call (.Name "range" p2) [a] [] pos2] [] pos) := by
  obtain ⟨b1, b2, _⟩ := A.bi F g1
  obtain ⟨b3, b4, _⟩ := A.bi F g2
  refine Sd.val F.hK (PE.imp (pe_listRg F.calm b1 b2 (prg_1 b3 b4 h1.pe (star_cons k _ _))) fun σ H Q q => ?_) (fun _ => rfl) rfl
  obtain ⟨ι, ρ, h, rσ, rh, hq⟩ := q
  simp only [evalE, evalEs] at hq
  have hq : okV L ι H ((evalE c e ρ h).bind fun w h1 => lrngOp mu [w] h1) Q fun c d H' => W c d σ H' := by
    cases h3 : evalE c e ρ h with
    | ok w h1 => rw [h3] at hq; exact hq
    | exc _ _ => rw [h3] at hq; exact hq
    | stuck => rw [h3] at hq; exact hq
  refine ⟨ι, ρ, h, rσ, rh, okA.bind hq fun ι1 H1 h1 w x _ x1 rh1 rv1 q1 => ?_⟩
  cases w <;> try exact q1.elim
  rename_i j _
  obtain ⟨g, q1⟩ := okA.guard q1
  simp only [RV] at rv1
  have hg : RgOk 0 j := by
    obtain ⟨⟨g1, g2⟩, g3⟩ := g
    unfold szB at g3
    exact ⟨by omega, by omega, g1, g2, by omega⟩
  exact ⟨j, rv1, hg, fun q hq => okV.mkL rh1 (rvs_rng 0 j) (rgV_le hg) q1 hq⟩
theorem sd_lrng2 (F : Fx T L c X) (A : At X v) {mu : Bool} {e f : E} {a b : Expr} {p p2 pos pos2 : Pos} (g1 : biB T v "list" = true) (g2 : biB T v "range" = true) (k : chkE T e v a = true) (k2 : chkE T f v b = true) (h1 : Sd L W X c e a) (h2 : Sd L W X c f b) :
    Sd L W X c (.lrng mu [e, f]) (.Call (.Name "list" p) [.Call (.Name "range" p2) [a, b] [] pos2] [] pos) := by
  obtain ⟨b1, b2, _⟩ := A.bi F g1
  obtain ⟨b3, b4, _⟩ := A.bi F g2
  have hp : (backTo pos2 (starEach [b] X.env)).any (·.1) = false := by rw [star_cons k2]; rfl
  refine Sd.val F.hK (PE.imp (pe_listRg F.calm b1 b2 (prg_2 b3 b4 h1.pe h2.pe (star_cons k _ _) (star_cons k2 _ _) hp)) fun σ H Q q => ?_) (fun _ => rfl) rfl
  obtain ⟨ι, ρ, h, rσ, rh, hq⟩ := q
  simp only [evalE, evalEs] at hq
  have hq : okV L ι H ((evalE c e ρ h).bind fun w h1 => (evalE c f ρ h1).bind fun w' h2 => lrngOp mu [w, w'] h2) Q fun c d H' => W c d σ H' := by
    cases h3 : evalE c e ρ h with
    | ok w h1 =>
      rw [h3] at hq
      simp only [Res.bind] at hq ⊢
      cases h4 : evalE c f ρ h1 with
      | ok w' h2 => rw [h4] at hq; exact hq
      | exc _ _ => rw [h4] at hq; exact hq
      | stuck => rw [h4] at hq; exact hq
    | exc _ _ => rw [h3] at hq; exact hq
    | stuck => rw [h3] at hq; exact hq
  refine ⟨ι, ρ, h, rσ, rh, okA.bind hq fun ι1 H1 h1 w x _ x1 rh1 rv1 q1 => ?_⟩
  refine ⟨ι1, ρ, h1, rσ.ext x1, rh1, okA.bind q1 fun ι2 H2 h2 w' y _ x2 rh2 rv2 q2 => ?_⟩
  cases w <;> try exact q2.elim
  cases w' <;> try exact q2.elim
  rename_i i _ j _
  obtain ⟨g, q2⟩ := okA.guard q2
  simp only [RV] at rv1 rv2
  have hg : RgOk i j := by
    obtain ⟨⟨g1, g2⟩, ⟨g4, g5⟩, g3⟩ := g
    unfold szB at g3
    exact ⟨by omega, by omega, g4, g5, by omega⟩
  exact ⟨i, j, rv1, rv2, hg, fun q hq => okV.mkL rh2 (rvs_rng i j) (rgV_le hg) q2 hq⟩
/-! ### f-strings -/
theorem sd_fld (F : Fx T L c X) {e : E} {a : Expr} {pos : Pos} (h1 : Sd L W X c e a) : Sd L W X c (.fld e) (.FormattedValue a (-1) none pos) := by
  refine Sd.val F.hK (PE.imp (pe_fmt h1.pe) fun σ H Q q => ?_) (fun _ => rfl) rfl
  have q := tE_one (tE_cong (fun ρ h => by simp only [evalE]; rfl) q)
  obtain ⟨ι, ρ, h, rσ, rh, hq⟩ := q
  refine ⟨ι, ρ, h, rσ, rh, okA.mono hq (fun x H1 ⟨ι1, v, h1, rv, rh1, q1⟩ => ?_) fun _ _ _ z => z⟩
  obtain ⟨y, e, q1⟩ := okA.got q1
  cases v <;> simp only [fmt] at e <;> try cases e
  · split at e
    · cases e
      simp only [RV] at rv
      rename_i hz
      exact .inr ⟨_, rv, hz, okV.here q1 rh1 (rv_str (str_fits hz))⟩
    · cases e
  · simp only [RV] at rv
    exact .inl ⟨_, rv.1, rv.2, okV.here q1 rh1 (rv_str rv.2)⟩
theorem Sds.pj {es : List E} {as : List Expr} (h : Sds T L W X c v es as) : PJ X as (es.map fun e => tE L W (evalE c e)) := by
  induction h with
  | nil => exact .nil
  | cons k h _ ih => exact .cons h.pe ih
theorem tJ_of : ∀ (es : List E) (acc : Str) {σ : L2.St} {H : Hp} {Q : Str → Hp → Prop}, (∃ ι ρ h, RSt L ι H ρ σ ∧ RH L ι H h ∧ okA L (fun _ _ (a b : Str) => a = b) ι H (evalJ c es acc ρ h) Q fun c d H' => W c d σ H') → tJs (es.map fun e => tE L W (evalE c e)) acc σ H Q
  | [], acc, σ, H, Q, q => by
    obtain ⟨ι, ρ, h, rσ, rh, hq⟩ := q
    simp only [evalJ] at hq
    exact hq ι H acc (Ext.refl _ _) rh rfl
  | e :: es, acc, σ, H, Q, q => by
    obtain ⟨ι, ρ, h, rσ, rh, hq⟩ := q
    simp only [evalJ] at hq
    refine ⟨ι, ρ, h, rσ, rh, okA.bind hq fun ι1 H1 h1 w x _ x1 rh1 rv1 q1 => ?_⟩
    obtain ⟨y, e', q2⟩ := okA.got q1
    obtain ⟨g, q3⟩ := okA.guard q2
    cases w <;> cases e'
    simp only [RV] at rv1
    rw [szB_eq] at g
    exact ⟨_, rv1.1, g, tJ_of es _ ⟨ι1, ρ, h1, rσ.ext x1, rh1, q3⟩⟩
theorem evalJ_len : ∀ (es : List E) (acc : Str) (ρ : PSt) (h : PHeap) (x : Str) (h1 : PHeap), evalJ c es acc ρ h = .ok x h1 → acc.length ≤ szB → x.length ≤ szB
  | [], acc, ρ, h, x, h1, e, z => by simp only [evalJ] at e; cases e; exact z
  | e :: es, acc, ρ, h, x, h1, q, z => by
    simp only [evalJ] at q
    cases h3 : evalE c e ρ h with
    | ok w h2 =>
      rw [h3] at q
      simp only [Res.bind] at q
      cases h4 : strOf w with
      | none => rw [h4] at q; cases q
      | some y =>
        rw [h4] at q
        simp only [orStuck, guardR] at q
        split at q
        · rename_i g
          exact evalJ_len es _ ρ h2 x h1 q g
        · cases q
    | exc _ _ => rw [h3] at q; cases q
    | stuck => rw [h3] at q; cases q
theorem empty_app (y : Str) : Str.empty ++ y = y := by
  cases y with
  | mk a =>
    show (⟨#[] ++ a⟩ : Str) = ⟨a⟩
    simp
theorem sd_fst (F : Fx T L c X) {es : List E} {a1 : Expr} {as : List Expr} {pos : Pos} (h3 : Sds T L W X c v es (a1 :: as)) : Sd L W X c (.fst es) (.JoinedStr (a1 :: as) pos) := by
  cases as with
  | nil =>
    cases h3 with
    | cons k h r =>
      cases r
      rename_i e
      refine Sd.val F.hK (PE.imp (pe_joined1 h.pe) fun σ H Q q => ?_) (fun _ => rfl) rfl
      obtain ⟨ι, ρ, h, rσ, rh, hq⟩ := q
      simp only [evalE, evalJ] at hq
      refine ⟨ι, ρ, h, rσ, rh, ?_⟩
      cases h3 : evalE c e ρ h with
      | ok w h2 =>
        rw [h3] at hq
        simp only [Res.bind] at hq
        have key : ∀ y : Str, okV L ι H (Res.bind (guardR ((Str.empty ++ y).length ≤ szB) (Res.ok (Str.empty ++ y) h2)) fun a h => .ok (.str a) h) Q (fun c d H' => W c d σ H') → okV L ι H (.ok (.str y) h2) Q (fun c d H' => W c d σ H') := fun y q => by
          rw [empty_app] at q
          by_cases g : y.length ≤ szB
          · unfold guardR at q
            rw [if_pos g] at q
            exact q
          · unfold guardR at q
            rw [if_neg g] at q
            exact q.elim
        cases w with
        | str y => exact key y hq
        | _ => exact (show False from hq).elim
      | exc _ _ => rw [h3] at hq; exact hq
      | stuck => rw [h3] at hq; exact hq
  | cons a2 as =>
    refine Sd.val F.hK (PE.imp (pe_joined h3.pj) fun σ H Q q => ?_) (fun _ => rfl) rfl
    obtain ⟨ι, ρ, h, rσ, rh, hq⟩ := q
    simp only [evalE] at hq
    refine tJ_of es Str.empty ⟨ι, ρ, h, rσ, rh, okA.bind hq fun ι1 H1 h1 x y e0 x1 rh1 rv1 q1 => ?_⟩
    subst rv1
    exact okV.here q1 rh1 (rv_str (by rw [← szB_eq]; exact evalJ_len es _ _ _ _ _ e0 (Nat.zero_le _)))
/-! ### sorted(set(..)), a display of one pair -/
theorem ddI_mem {k : Int} : ∀ {ns : List Int}, k ∈ ddI ns ↔ k ∈ ns
  | [] => Iff.rfl
  | x :: r => by
    unfold ddI
    split
    · rename_i hx
      rw [ddI_mem, List.mem_cons]
      exact ⟨.inr, fun h => h.elim (fun z => z ▸ hx) id⟩
    · rw [List.mem_cons, List.mem_cons, ddI_mem]
theorem nodup_dups : ∀ ns : List Int, (ddI ns).Nodup
  | [] => List.nodup_nil
  | x :: r => by
    unfold ddI
    split
    · exact nodup_dups r
    · rename_i hx
      exact List.nodup_cons.mpr ⟨fun z => hx (ddI_mem.mp z), nodup_dups r⟩
theorem rvs_ints {ι : List Addr} {H : Hp} : ∀ ns : List Int, RVs L ι H (ns.map .int) (ns.map V.int)
  | [] => by simp [RVs]
  | n :: ns => by
    simp only [List.map_cons, RVs]
    exact ⟨_, _, rfl, rv_int _, rvs_ints ns⟩
theorem sortU_nodup (ns : List Int) : (sortU ns).Pairwise (· < ·) := by
  unfold sortU
  have h1 : ((ddI ns).mergeSort fun a b => decide (a ≤ b)).Pairwise (fun a b => decide (a ≤ b) = true) := List.pairwise_mergeSort (fun a b c h1 h2 => by simp at *; omega) (fun a b => by simp; omega) _
  have h2 : ((ddI ns).mergeSort fun a b => decide (a ≤ b)).Nodup := (List.mergeSort_perm _ _).nodup_iff.mpr (nodup_dups ns)
  refine (h1.and h2).imp fun h => ?_
  have := h.1
  simp at this
  have h3 := h.2
  omega
theorem sortU_mem {ns : List Int} {k : Int} : k ∈ sortU ns ↔ k ∈ ns := by
  unfold sortU
  rw [(List.mergeSort_perm _ _).mem_iff, ddI_mem]
theorem asc_unique : ∀ {a b : List Int}, a.Pairwise (· < ·) → b.Pairwise (· < ·) → (∀ k, k ∈ a ↔ k ∈ b) → a = b
  | [], [], _, _, _ => rfl
  | [], y :: b, _, _, h => by have := (h y).mpr List.mem_cons_self; cases this
  | x :: a, [], _, _, h => by have := (h x).mp List.mem_cons_self; cases this
  | x :: a, y :: b, ha, hb, h => by
    rw [List.pairwise_cons] at ha hb
    have e : x = y := by
      rcases List.mem_cons.mp ((h x).mp List.mem_cons_self) with z | z
      · exact z
      · rcases List.mem_cons.mp ((h y).mpr List.mem_cons_self) with z2 | z2
        · exact z2.symm
        · have := hb.1 x z; have := ha.1 y z2; omega
    subst e
    rw [asc_unique ha.2 hb.2 fun k => ?_]
    constructor
    · intro hk
      rcases List.mem_cons.mp ((h k).mp (List.mem_cons_of_mem _ hk)) with z | z
      · have := ha.1 k hk; omega
      · exact z
    · intro hk
      rcases List.mem_cons.mp ((h k).mpr (List.mem_cons_of_mem _ hk)) with z | z
      · have := hb.1 k hk; omega
      · exact z
theorem sd_ssrt (F : Fx T L c X) (A : At X v) {mu : Bool} {e : E} {b : Expr} {p p2 pos pos2 : Pos} (g1 : biB T v "sorted" = true) (g2 : biB T v "set" = true) (k : chkE T e v b = true) (h1 : Sd L W X c e b) :
    Sd L W X c (.ssrt mu e) (.Call (.Name "sorted" p) [.Call (.Name "set" p2) [b] [] pos2] [] pos) := by
  obtain ⟨a1, a2, a3⟩ := A.bi F g1
  obtain ⟨b1, b2, b3⟩ := A.bi F g2
  have star0 : ∀ env : Env, starEach [Expr.Call (.Name "set" p2) [b] [] pos2] env = (false, eval (.Call (.Name "set" p2) [b] [] pos2) env) :: starEach [] env := fun _ => rfl
  have pset := pe_callTy (p := p2) (pos := pos2) (cr_setL F.calm) b1 b2 (by decide +kernel) (Sds.pa (.cons k h1 .nil)) (by decide) b3 (star_cons k _ _) rfl
  have psrt := pe_callB (p := p) (pos := pos) (cr_sortedSet F.calm) a1 a2 (by decide +kernel) (pa_cons pset pa_nil (star0 _)) (by decide) a3 (star0 _) rfl
  refine Sd.val F.hK (PE.imp psrt fun σ H Q q => ?_) (fun _ => rfl) rfl
  obtain ⟨ι, ρ, h, rσ, rh, hq⟩ := q
  simp only [evalE] at hq
  refine ⟨ι, ρ, h, rσ, rh, ?_⟩
  simp only [evalEs]
  cases h3 : evalE c e ρ h with
  | stuck => rw [h3] at hq; exact hq.elim
  | exc x h4 => rw [h3] at hq; exact hq
  | ok x h4 =>
    rw [h3] at hq
    simp only [Res.bind] at hq ⊢
    obtain ⟨ns, e1, q1⟩ := okA.got hq
    obtain ⟨hn, q1⟩ := okA.guard q1
    rw [Option.bind_eq_some_iff] at e1
    obtain ⟨zs, e1, e2⟩ := e1
    intro ι1 H1 us x1 rh1 rv
    obtain ⟨u, rfl, r1⟩ := rv.one
    obtain ⟨l, ws, rfl, h5, hz, r⟩ := is_list rh1 r1 e1
    have ew := ints_of r e2
    subst ew
    have hlen := hn.1
    refine ⟨l, ns, rfl, by rw [F.hK]; exact h5, hlen, fun a cnt ks knd kmem hcn na => ?_⟩
    have h60 := hn.2
    have hkl : ks.length ≤ (sortU ns).length := List.Nodup.length_le_of_subset knd fun k hk => sortU_mem.mpr ((kmem k).mp hk)
    refine ⟨a, _, cnt, rfl, upd_same, by omega, fun out p' hp hm hl np => ?_⟩
    have eo : out = sortU ns := asc_unique hp (sortU_nodup ns) fun k => by rw [hm k, sortU_mem]; simp
    subst eo
    have xa : Ext ι1 H1 ι1 (upd H1 a (SetO X.w a (fun j => decide (j ∈ ns)) cnt)) := Ext.new na
    have rints : RVs L ι1 (upd H1 a (SetO X.w a (fun j => decide (j ∈ ns)) cnt)) ((sortU ns).map .int) ((sortU ns).map V.int) := rvs_ints _
    refine okV.mkL (rh1.new na) rints ?_ (okA.ext (x1.trans xa) q1) np
    rw [List.length_map, hl, sizeLine_eq]
    omega
theorem sd_d1 (F : Fx T L c X) {k e : E} {a b : Expr} {pos : Pos} (h1 : Sd L W X c k a) (h2 : Sd L W X c e b) : Sd L W X c (.d1 k e) (.Dict [some a] [b] pos) := by
  refine Sd.val F.hK (PE.imp (pe_disp (pps_cons h1.pe h2.pe pps_nil) rfl rfl (by simp) (by show 1 ≤ 15; decide)) fun σ H Q q => ?_) (fun _ => rfl) rfl
  obtain ⟨ι, ρ, h, rσ, rh, hq⟩ := q
  simp only [evalE] at hq
  intro p np
  have x0 : Ext ι H (ι ++ [p]) (upd H p (.dK [])) := Ext.newLoc np
  have rh0 : RH L (ι ++ [p]) (upd H p (.dK [])) (h ++ [.dK []]) := rh.newLoc np ⟨[], rfl, .nil, fun _ z => nomatch z⟩
  have ip : (ι ++ [p])[h.length]? = some p := by rw [← rh.len, List.getElem?_append_right (Nat.le_refl _), Nat.sub_self]; rfl
  refine ⟨ι ++ [p], ρ, h ++ [.dK []], rσ.ext x0, rh0, okA.bind (okA.ext x0 hq) fun ι1 H1 h1 v x _ x1 rh1 rv1 q1 => ?_⟩
  refine ⟨ι1, ρ, h1, (rσ.ext x0).ext x1, rh1, okA.bind q1 fun ι2 H2 h2 w y _ x2 rh2 rv2 q2 => ?_⟩
  obtain ⟨z, e1, q2⟩ := okA.got q2
  have ip2 : ι2[h.length]? = some p := x2.loc (x1.loc ip)
  split at q2
  · rename_i e2
    obtain ⟨p', u, i1, i2, i3⟩ := rh2.ob _ _ e2
    rw [ip2] at i1
    cases i1
    obtain ⟨vs, rfl, pr, _⟩ := i3
    cases pr
    have kz := keyOf_V (RV.ext x2 _ _ rv1) e1
    refine ⟨i2, [(z, y)], by rw [kz]; rfl, by show 1 ≤ 15; decide, ?_⟩
    have xw : Ext ι2 H2 ι2 (upd H2 p (.dK (mergeK [] [(z, y)]))) := Ext.write (List.mem_of_getElem? ip2)
    have em : mergeK [] [(z, y)] = [(z, y)] := rfl
    refine q2 ι2 _ (.ref p) xw (rh2.write ip2 ?_) ?_
    · rw [em]
      refine ⟨[(z, y)], rfl, .cons ⟨rfl, RV.ext (by rw [← em]; exact xw) _ _ rv2⟩ .nil, fun q hq => ?_⟩
      rw [List.mem_singleton.mp hq]
      exact keyZ_of (RV.ext x2 _ _ rv1) e1
    · simp only [RV]
      exact ⟨p, rfl, ip2⟩
  · exact q2.elim
end
end Rf
end

section
set_option Elab.async false
set_option linter.all false
set_option maxRecDepth 100000
set_option maxHeartbeats 4000000
namespace Rf
open PySem PySem.Spec L2
/-! ### what is walked -/
def Le (G H : Hp) : Prop := ∀ p o, G p = some o → H p = some o
theorem Le.refl (H : Hp) : Le H H := fun _ _ e => e
theorem Le.hid (d : Addr) (H : Hp) : Le (hid d H) H := fun p o e => hidO_some (d := some d) e
theorem Le.none {G H : Hp} (l : Le G H) {p : Addr} (h : H p = none) : G p = none := by
  cases e : G p with
  | none => rfl
  | some o => rw [l p o e] at h; cases h
theorem Le.rd {G H : Hp} (l : Le G H) {p : Addr} {u : HO} (h : Rd G p u) : Rd H p u := by
  rcases h with h | ⟨o, h⟩
  · exact .inl (l _ _ h)
  · exact .inr ⟨o, l _ _ h⟩
theorem Le.sqL {G H : Hp} (l : Le G H) {K : PySem.W.Frag} {p : Addr} {xs : List V} (h : SqL K G p xs) : SqL K H p xs := h.elim (fun z => .inl (l.rd z)) .inr
theorem Le.sqT {G H : Hp} (l : Le G H) {K : PySem.W.Frag} {p : Addr} {xs : List V} (h : SqT K G p xs) : SqT K H p xs := h.elim (fun z => .inl (l.rd z)) .inr
def Src.cur (c : Src) (h : PHeap) : Option (List PV) := match c with
  | .fixT xs => some xs
  | .fixL xs => some xs
  | .live l => match h[l]? with
    | some (.lst xs) => some xs
    | _ => none
theorem src_next (c : Src) (i : Nat) (h : PHeap) : c.next i h = (c.cur h).map (·[i]?) := by
  cases c with
  | fixT xs => rfl
  | fixL xs => rfl
  | live l =>
    simp only [Src.next, Src.cur]
    cases h[l]? with
    | none => rfl
    | some o => cases o <;> rfl
/-- the source c lies at p -/
def SrcAt (L : Lk) (ι : List Addr) (G : Hp) (c : Src) (p : Addr) : Prop :=
  ∀ ι' G' h' xs, Ext ι G ι' G' → RH L ι' G' h' → c.cur h' = some xs → ∃ vs, RVs L ι' G' xs vs ∧ if c.isT = true then SqT L.K G' p vs else SqL L.K G' p vs
section
variable {L : Lk} {W : WX} {X : Cx} {c : Call}
theorem src_at {ι : List Addr} {H : Hp} {h : PHeap} {v : PV} {x : V} {s : Src} (rh : RH L ι H h) (r : RV L ι H v x) (e : srcOf h v = some s) : ∃ p, x = .ref p ∧ SrcAt L ι H s p ∧ ∃ xs, s.cur h = some xs := by
  unfold srcOf at e
  split at e
  · rename_i xs
    cases e
    simp only [RV] at r
    obtain ⟨p, vs, rfl, hp, hz, r⟩ := r
    refine ⟨p, rfl, fun ι' G' h' ys x1 rh1 e => ?_, xs, rfl⟩
    cases e
    refine ⟨vs, r.ext x1, ?_⟩
    rcases hp with ⟨hp, hr⟩ | hp
    · exact .inl (Rd.ext x1 hp hr).2
    · exact .inr hp
  · rename_i xs
    cases e
    simp only [RV] at r
    obtain ⟨p, vs, rfl, hp, hr, hz, r⟩ := r
    refine ⟨p, rfl, fun ι' G' h' ys x1 rh1 e => ?_, xs, rfl⟩
    cases e
    exact ⟨vs, r.ext x1, SqL.of (x1.keep _ _ hp hr)⟩
  · rename_i xs
    cases e
    simp only [RV] at r
    obtain ⟨p, vs, rfl, hp, hz, r⟩ := r
    refine ⟨p, rfl, fun ι' G' h' ys x1 rh1 e => ?_, xs, rfl⟩
    cases e
    refine ⟨vs, r.ext x1, ?_⟩
    rcases hp with ⟨hp, hr⟩ | hp
    · exact .inl (Rd.ext x1 hp hr).2
    · exact .inr hp
  · rename_i l
    split at e
    · rename_i ys hl
      cases e
      simp only [RV] at r
      obtain ⟨p, rfl, hp⟩ := r
      refine ⟨p, rfl, fun ι' G' h' zs x1 rh1 e => ?_, ys, by simp only [Src.cur, hl]⟩
      simp only [Src.cur] at e
      split at e
      · rename_i ws hw
        cases e
        have hp' := x1.loc hp
        obtain ⟨q, vs, e2, hq, h2, hz, r2⟩ := at_lst (x := .ref p) rh1 (by simp only [RV]; exact ⟨p, rfl, hp'⟩) hw
        cases e2
        exact ⟨vs, r2, SqL.of h2⟩
      · cases e
    · cases e
  · cases e
/-- what the iterator yields -/
def Yld (L : Lk) (ι : List Addr) (G H : Hp) (x : PV) (v : V) (H2 : Hp) : Prop := (H2 = H ∧ RV L ι G x v) ∨ (∃ p t, H p = none ∧ H2 = upd H p (.tup t) ∧ RV L ι (upd G p (.tup t)) x v)
def WIt (L : Lk) (ι : List Addr) (G : Hp) (w : Walk) (J : It) : Prop := ∀ ι' G' H' h', Ext ι G ι' G' → RH L ι' G' h' → Le G' H' → ∀ i,
  (w.next i h' = some none → J.stop i H') ∧ ∀ x, w.next i h' = some (some x) → J.go i H' ∧ ∀ v H2, J.yld i H' v H2 → Yld L ι' G' H' x v H2
theorem cur_next {s : Src} {i : Nat} {h : PHeap} {o : Option PV} (e : s.next i h = some o) : ∃ xs, s.cur h = some xs ∧ xs[i]? = o := by
  rw [src_next, Option.map_eq_some_iff] at e
  exact e
theorem wit_list {ι : List Addr} {G : Hp} {s : Src} {p : Addr} (h : SrcAt L ι G s p) (ht : s.isT = false) : WIt L ι G (.one s) (Itl L.K p) := by
  intro ι' G' H' h' x1 rh1 le i
  refine ⟨fun e => ?_, fun x e => ?_⟩
  · obtain ⟨xs, e1, e2⟩ := cur_next e
    obtain ⟨vs, r, hq⟩ := h ι' G' h' xs x1 rh1 e1
    rw [ht, if_neg Bool.false_ne_true] at hq
    exact ⟨vs, le.sqL hq, by rw [← r.length]; exact List.getElem?_eq_none_iff.mp e2⟩
  · obtain ⟨xs, e1, e2⟩ := cur_next e
    obtain ⟨vs, r, hq⟩ := h ι' G' h' xs x1 rh1 e1
    rw [ht, if_neg Bool.false_ne_true] at hq
    obtain ⟨u, e3, ru⟩ := r.get e2
    refine ⟨⟨vs, u, le.sqL hq, e3⟩, fun v H2 ⟨y1, y2⟩ => .inl ⟨y1, ?_⟩⟩
    have := y2 vs (le.sqL hq)
    rw [e3] at this
    cases this
    exact ru
theorem wit_tup {ι : List Addr} {G : Hp} {s : Src} {p : Addr} (h : SrcAt L ι G s p) (ht : s.isT = true) : WIt L ι G (.one s) (Itt L.K p) := by
  intro ι' G' H' h' x1 rh1 le i
  refine ⟨fun e => ?_, fun x e => ?_⟩
  · obtain ⟨xs, e1, e2⟩ := cur_next e
    obtain ⟨vs, r, hq⟩ := h ι' G' h' xs x1 rh1 e1
    rw [if_pos ht] at hq
    exact ⟨vs, le.sqT hq, by rw [← r.length]; exact List.getElem?_eq_none_iff.mp e2⟩
  · obtain ⟨xs, e1, e2⟩ := cur_next e
    obtain ⟨vs, r, hq⟩ := h ι' G' h' xs x1 rh1 e1
    rw [if_pos ht] at hq
    obtain ⟨u, e3, ru⟩ := r.get e2
    refine ⟨⟨vs, u, le.sqT hq, e3⟩, fun v H2 ⟨y1, y2⟩ => .inl ⟨y1, ?_⟩⟩
    have := y2 vs (le.sqT hq)
    rw [e3] at this
    cases this
    exact ru
theorem wit_str {ι : List Addr} {G : Hp} (z : Str) (hz : 1 ≤ sizeLine) : WIt L ι G (.str z) (Its z) := by
  intro ι' G' H' h' x1 rh1 le i
  refine ⟨fun e => ?_, fun x e => ?_⟩
  · have e : some (z.cps[i]?.map fun c => PV.str ⟨#[c]⟩) = some none := e
    cases hc : z.cps[i]? with
    | none => exact Array.getElem?_eq_none_iff.mp hc
    | some c => rw [hc] at e; cases e
  · have e : some (z.cps[i]?.map fun c => PV.str ⟨#[c]⟩) = some (some x) := e
    cases hc : z.cps[i]? with
    | none => rw [hc] at e; cases e
    | some c =>
      rw [hc] at e
      cases e
      refine ⟨(Array.getElem?_eq_some_iff.mp hc).1, fun v H2 ⟨y1, c', y2, y3⟩ => .inl ⟨y1, ?_⟩⟩
      rw [hc] at y2
      cases y2
      rw [y3]
      exact rv_str hz
theorem wit_byt {ι : List Addr} {G : Hp} (z : Array UInt8) : WIt L ι G (.byt z) (Itb z) := by
  intro ι' G' H' h' x1 rh1 le i
  refine ⟨fun e => ?_, fun x e => ?_⟩
  · have e : some (z[i]?.map fun c => PV.int ((c.toNat : Nat) : Int)) = some none := e
    cases hc : z[i]? with
    | none => exact Array.getElem?_eq_none_iff.mp hc
    | some c => rw [hc] at e; cases e
  · have e : some (z[i]?.map fun c => PV.int ((c.toNat : Nat) : Int)) = some (some x) := e
    cases hc : z[i]? with
    | none => rw [hc] at e; cases e
    | some c =>
      rw [hc] at e
      cases e
      refine ⟨(Array.getElem?_eq_some_iff.mp hc).1, fun v H2 ⟨y1, c', y2, y3⟩ => .inl ⟨y1, ?_⟩⟩
      rw [hc] at y2
      cases y2
      rw [y3]
      exact rv_int _
theorem wit_rng {ι : List Addr} {G : Hp} (lo : Int) (n : Nat) : WIt L ι G (.rng lo n) (Itr lo n) := by
  intro ι' G' H' h' x1 rh1 le i
  refine ⟨fun e => ?_, fun x e => ?_⟩
  · have e : some (if i < n then some (PV.int (lo + i)) else none) = some none := e
    split at e
    · cases e
    · show n ≤ i
      omega
  · have e : some (if i < n then some (PV.int (lo + i)) else none) = some (some x) := e
    split at e
    · cases e
      refine ⟨by assumption, fun v H2 ⟨y1, y2⟩ => .inl ⟨y1, by rw [y2]; exact rv_int _⟩⟩
    · cases e
/-- a new pair -/
theorem rv_pair {ι : List Addr} {G H : Hp} {h : PHeap} {x y : PV} {u w : V} {p : Addr} (rh : RH L ι G h) (hp : G p = none) (r1 : RV L ι G x u) (r2 : RV L ι G y w) : RV L ι (upd G p (.tup [u, w])) (.tup [x, y]) (.ref p) := by
  have hn : p ∉ ι := fun z => by obtain ⟨w, e⟩ := rh.at_ z; rw [hp] at e; cases e
  simp only [RV]
  refine ⟨p, [u, w], rfl, .inl ⟨hn, .inl upd_same⟩, by show 2 ≤ sizeLine; rw [sizeLine_eq]; decide, ?_⟩
  simp only [RVs]
  exact ⟨u, [w], rfl, RV.ext (Ext.new hp) _ _ r1, w, [], rfl, RV.ext (Ext.new hp) _ _ r2, rfl⟩
theorem wit_enm {ι : List Addr} {G : Hp} {s : Src} {p : Addr} (h : SrcAt L ι G s p) (ht : s.isT = false) : WIt L ι G (.enm s) (Ite L.K p) := by
  intro ι' G' H' h' x1 rh1 le i
  refine ⟨fun e => ?_, fun x e => ?_⟩
  · have e : (s.next i h').map (fun o => o.map fun x => PV.tup [.int (i : Int), x]) = some none := e
    cases hs : s.next i h' with
    | none => rw [hs] at e; cases e
    | some o =>
      rw [hs] at e
      cases o with
      | some y => cases e
      | none =>
        obtain ⟨xs, e1, e2⟩ := cur_next hs
        obtain ⟨vs, r, hq⟩ := h ι' G' h' xs x1 rh1 e1
        rw [ht, if_neg Bool.false_ne_true] at hq
        exact ⟨vs, le.sqL hq, by rw [← r.length]; exact List.getElem?_eq_none_iff.mp e2⟩
  · have e : (s.next i h').map (fun o => o.map fun x => PV.tup [.int (i : Int), x]) = some (some x) := e
    cases hs : s.next i h' with
    | none => rw [hs] at e; cases e
    | some o =>
      rw [hs] at e
      cases o with
      | none => cases e
      | some y =>
        cases e
        obtain ⟨xs, e1, e2⟩ := cur_next hs
        obtain ⟨vs, r, hq⟩ := h ι' G' h' xs x1 rh1 e1
        rw [ht, if_neg Bool.false_ne_true] at hq
        obtain ⟨u, e3, ru⟩ := r.get e2
        refine ⟨⟨vs, u, le.sqL hq, e3⟩, fun v H2 ⟨t, z, y1, y2, y3, y4⟩ => .inr ⟨t, _, y2, y3, ?_⟩⟩
        have := y4 vs (le.sqL hq)
        rw [e3] at this
        cases this
        rw [y1]
        exact rv_pair (H := H') rh1 (le.none y2) (rv_int _) ru
theorem wit_enmS {ι : List Addr} {G : Hp} (z : Str) : WIt L ι G (.enmS z) (Itex z) := by
  intro ι' G' H' h' x1 rh1 le i
  have sz1 : 1 ≤ sizeLine := by rw [sizeLine_eq]; decide
  refine ⟨fun e => ?_, fun x e => ?_⟩
  · have e : some (z.cps[i]?.map fun c => PV.tup [.int (i : Int), .str ⟨#[c]⟩]) = some none := e
    cases hc : z.cps[i]? with
    | none => exact Array.getElem?_eq_none_iff.mp hc
    | some c => rw [hc] at e; cases e
  · have e : some (z.cps[i]?.map fun c => PV.tup [.int (i : Int), .str ⟨#[c]⟩]) = some (some x) := e
    cases hc : z.cps[i]? with
    | none => rw [hc] at e; cases e
    | some c =>
      rw [hc] at e
      cases e
      refine ⟨(Array.getElem?_eq_some_iff.mp hc).1, fun v H2 ⟨t, c2, y1, y2, y3, y4⟩ => .inr ⟨t, _, y2, y3, ?_⟩⟩
      rw [hc] at y4
      cases y4
      rw [y1]
      exact rv_pair (H := H') rh1 (le.none y2) (rv_int _) (rv_str sz1)
theorem zip_next {s d : Src} {i : Nat} {h : PHeap} {o : Option PV} (e : (Walk.zip s d).next i h = some o) : ∃ xs ys, s.cur h = some xs ∧ d.cur h = some ys ∧ match o with
    | none => xs[i]? = none ∨ ys[i]? = none
    | some z => ∃ x y, xs[i]? = some x ∧ ys[i]? = some y ∧ z = .tup [x, y] := by
  unfold Walk.next at e
  simp only at e
  split at e
  · rename_i x y h1 h2
    cases e
    obtain ⟨xs, e1, e2⟩ := cur_next h1
    obtain ⟨ys, e3, e4⟩ := cur_next h2
    exact ⟨xs, ys, e1, e3, x, y, e2, e4, rfl⟩
  · rename_i o' h1 h2
    cases e
    obtain ⟨xs, e1, e2⟩ := cur_next h1
    obtain ⟨ys, e3, e4⟩ := cur_next h2
    exact ⟨xs, ys, e1, e3, .inl e2⟩
  · rename_i o' h1 h2
    cases e
    obtain ⟨xs, e1, e2⟩ := cur_next h1
    obtain ⟨ys, e3, e4⟩ := cur_next h2
    exact ⟨xs, ys, e1, e3, .inr e4⟩
  · cases e
theorem wit_zip {ι : List Addr} {G : Hp} {s d : Src} {p q : Addr} (h : SrcAt L ι G s p) (h2 : SrcAt L ι G d q) (ht : s.isT = d.isT) : WIt L ι G (.zip s d) (if s.isT = true then RZ.ItzT L.K p q else Itz L.K p q) := by
  intro ι' G' H' h' x1 rh1 le i
  by_cases hs : s.isT = true
  · rw [if_pos hs]
    have hd : d.isT = true := by rw [← ht]; exact hs
    refine ⟨fun e => ?_, fun x e => ?_⟩
    · obtain ⟨xs, ys, e1, e2, e3⟩ := zip_next e
      obtain ⟨vs, r, hq⟩ := h ι' G' h' xs x1 rh1 e1
      obtain ⟨ws, r2, hq2⟩ := h2 ι' G' h' ys x1 rh1 e2
      rw [if_pos hs] at hq
      rw [if_pos hd] at hq2
      refine ⟨vs, ws, le.sqT hq, le.sqT hq2, ?_⟩
      rw [← r.length, ← r2.length]
      exact e3.imp List.getElem?_eq_none_iff.mp List.getElem?_eq_none_iff.mp
    · obtain ⟨xs, ys, e1, e2, x', y', e3, e4, rfl⟩ := zip_next e
      obtain ⟨vs, r, hq⟩ := h ι' G' h' xs x1 rh1 e1
      obtain ⟨ws, r2, hq2⟩ := h2 ι' G' h' ys x1 rh1 e2
      rw [if_pos hs] at hq
      rw [if_pos hd] at hq2
      obtain ⟨u, e5, ru⟩ := r.get e3
      obtain ⟨w, e6, rw'⟩ := r2.get e4
      refine ⟨⟨vs, ws, u, w, le.sqT hq, le.sqT hq2, e5, e6⟩, fun v H2 ⟨t, a, b, y1, y2, y3, y4, y5⟩ => .inr ⟨t, _, y2, y3, ?_⟩⟩
      have z1 := y4 vs (le.sqT hq)
      have z2 := y5 ws (le.sqT hq2)
      rw [e5] at z1
      rw [e6] at z2
      cases z1
      cases z2
      rw [y1]
      exact rv_pair (H := H') rh1 (le.none y2) ru rw'
  · rw [if_neg hs]
    have hd : ¬ d.isT = true := by rw [← ht]; exact hs
    refine ⟨fun e => ?_, fun x e => ?_⟩
    · obtain ⟨xs, ys, e1, e2, e3⟩ := zip_next e
      obtain ⟨vs, r, hq⟩ := h ι' G' h' xs x1 rh1 e1
      obtain ⟨ws, r2, hq2⟩ := h2 ι' G' h' ys x1 rh1 e2
      rw [if_neg hs] at hq
      rw [if_neg hd] at hq2
      refine ⟨vs, ws, le.sqL hq, le.sqL hq2, ?_⟩
      rw [← r.length, ← r2.length]
      exact e3.imp List.getElem?_eq_none_iff.mp List.getElem?_eq_none_iff.mp
    · obtain ⟨xs, ys, e1, e2, x', y', e3, e4, rfl⟩ := zip_next e
      obtain ⟨vs, r, hq⟩ := h ι' G' h' xs x1 rh1 e1
      obtain ⟨ws, r2, hq2⟩ := h2 ι' G' h' ys x1 rh1 e2
      rw [if_neg hs] at hq
      rw [if_neg hd] at hq2
      obtain ⟨u, e5, ru⟩ := r.get e3
      obtain ⟨w, e6, rw'⟩ := r2.get e4
      refine ⟨⟨vs, ws, u, w, le.sqL hq, le.sqL hq2, e5, e6⟩, fun v H2 ⟨t, a, b, y1, y2, y3, y4, y5⟩ => .inr ⟨t, _, y2, y3, ?_⟩⟩
      have z1 := y4 vs (le.sqL hq)
      have z2 := y5 ws (le.sqL hq2)
      rw [e5] at z1
      rw [e6] at z2
      cases z1
      cases z2
      rw [y1]
      exact rv_pair (H := H') rh1 (le.none y2) ru rw'
/-! ### iterables -/
/-- an iterable by its value -/
def iAny (K : PySem.W.Frag) (tl : TE) : TI := fun σ H R => tl σ H fun x H1 => (∃ z, x = .str z ∧ R (Its z) H1) ∨ (∃ z, x = .byt z ∧ R (Itb z) H1) ∨ ∃ a, x = .ref a ∧ ((∃ xs, SqL K H1 a xs ∧ R (Itl K a) H1) ∨ ∃ xs, SqT K H1 a xs ∧ R (Itt K a) H1)
theorem pi_any {tg l : Expr} {tl : TE} (hl : PE X l tl) : PI X tg l (iAny X.K tl) := by
  refine ⟨fun pins s σ H R I h => ?_⟩
  refine thn (hl.run pins s σ H _ I h) fun v s1 ⟨x, H1, I1, r1, q1⟩ => ?_
  rcases q1 with ⟨z, rfl, q⟩ | ⟨z, rfl, q⟩ | ⟨a, rfl, ⟨xs, hq, q⟩ | ⟨xs, hq, q⟩⟩
  · obtain ⟨t, rfl⟩ := r1
    cases ha : z.cps.all (· < 128)
    · exact wpAny_pyIter_wide ha (pi_one (tk := s1.toks) I1 _ (turn_str _ z t "str_iterator" (.inr rfl)) ⟨_, Heap.get?_push_size _ rfl, rfl, rfl⟩ q)
    · exact wpAny_pyIter_ascii ha (pi_one (tk := s1.toks) I1 _ (turn_str _ z t "str_ascii_iterator" (.inl rfl)) ⟨_, Heap.get?_push_size _ rfl, rfl, rfl⟩ q)
  · obtain ⟨t, rfl⟩ := r1
    exact PySem.W.KBw.pyIter_bytes (pi_one (tk := s1.toks) I1 _ (turn_byt _ z t) ⟨_, Heap.get?_push_size _ rfl, rfl, rfl⟩ q)
  · cases r1
    obtain ⟨its, rv, p, hz⟩ := I1.list hq
    exact wpAny_pyIter_list p.isList (pi_one (tk := s1.toks) I1 _ (turn_list a _) ⟨_, Heap.get?_push_size _ rfl, rfl, rfl⟩ q)
  · cases r1
    obtain ⟨its, rv, p, hz⟩ := I1.tuple hq
    exact wpAny_pyIter_tuple (show s1.heap.IsTuple a its.toArray from p) (pi_one (tk := s1.toks) I1 _ (turn_tuple a _) ⟨_, Heap.get?_push_size _ rfl, rfl, rfl⟩ q)
theorem PI.imp {tg e : Expr} {t t' : TI} (h : PI X tg e t) (w : ∀ σ H R, t' σ H R → t σ H R) : PI X tg e t' := ⟨fun pins s σ H R I q => h.run pins s σ H R I (w σ H R q)⟩
def walkR (c : Call) (ik : IK) (its : List E) (ρ : PSt) (h : PHeap) : Res Walk := (evalEs c its ρ h).bind fun vs h1 => orStuck (walkOf ik vs h1) fun w => .ok w h1
def iW (L : Lk) (W : WX) (c : Call) (ik : IK) (its : List E) : TI := fun σ H R => ∃ ι ρ h, RSt L ι H ρ σ ∧ RH L ι H h ∧ okA L (WIt L) ι H (walkR c ik its ρ h) R fun c d H' => W c d σ H'
variable {T : Tab} {v : Vw}
theorem iter_any (hK : X.K = L.K) {e : E} {a tg : Expr} (h1 : Sd L W X c e a) : PI X tg a (iW L W c .seq [e]) := by
  obtain ⟨K, cA⟩ := L
  cases hK
  refine PI.imp (pi_any h1.pe) fun σ H R q => ?_
  obtain ⟨ι, ρ, h, rσ, rh, hq⟩ := q
  have hq : okA ⟨X.K, cA⟩ (WIt ⟨X.K, cA⟩) ι H ((evalE c e ρ h).bind fun v h1 => orStuck (walkOf .seq [v] h1) fun w => .ok w h1) R fun c d H' => W c d σ H' := by
    simp only [walkR, evalEs] at hq
    cases h3 : evalE c e ρ h with
    | ok w h1 => rw [h3] at hq; exact hq
    | exc _ _ => rw [h3] at hq; exact hq
    | stuck => rw [h3] at hq; exact hq
  refine ⟨ι, ρ, h, rσ, rh, okA.bind hq fun ι1 H1 h1 v x _ x1 rh1 rv1 q1 => ?_⟩
  obtain ⟨w, e1, q1⟩ := okA.got q1
  have go : ∀ J, WIt ⟨X.K, cA⟩ ι1 H1 w J → R J H1 := fun J hJ => q1 ι1 H1 J (Ext.refl _ _) rh1 hJ
  have seq : (srcOf h1 v).map .one = some w → ∃ a, x = .ref a ∧ ((∃ xs, SqL X.K H1 a xs ∧ R (Itl X.K a) H1) ∨ ∃ xs, SqT X.K H1 a xs ∧ R (Itt X.K a) H1) := fun e2 => by
    rw [Option.map_eq_some_iff] at e2
    obtain ⟨s, e2, rfl⟩ := e2
    obtain ⟨p, rfl, hs, xs, hc⟩ := src_at rh1 rv1 e2
    refine ⟨p, rfl, ?_⟩
    obtain ⟨vs, r, hq⟩ := hs ι1 H1 h1 xs (Ext.refl _ _) rh1 hc
    by_cases ht : s.isT = true
    · rw [if_pos ht] at hq
      exact .inr ⟨vs, hq, go _ (wit_tup hs ht)⟩
    · rw [if_neg ht] at hq
      exact .inl ⟨vs, hq, go _ (wit_list hs (by simpa using ht))⟩
  cases v with
  | str z =>
    cases e1
    simp only [RV] at rv1
    exact .inl ⟨z, rv1.1, go _ (wit_str z (by rw [sizeLine_eq]; decide))⟩
  | byt z =>
    cases e1
    simp only [RV] at rv1
    exact .inr (.inl ⟨z, rv1.1, go _ (wit_byt z)⟩)
  | _ => exact .inr (.inr (seq e1))
theorem evalEs_len : ∀ {es : List E} {ρ : PSt} {h : PHeap} {vs : List PV} {h1 : PHeap}, evalEs c es ρ h = .ok vs h1 → vs.length = es.length
  | [], ρ, h, vs, h1, e => by simp only [evalEs] at e; cases e; rfl
  | x :: es, ρ, h, vs, h1, e => by
    simp only [evalEs] at e
    cases h3 : evalE c x ρ h with
    | ok w h2 =>
      rw [h3] at e
      simp only [Res.bind] at e
      cases h4 : evalEs c es ρ h2 with
      | ok ws h3 =>
        rw [h4] at e
        cases e
        rw [List.length_cons, List.length_cons, evalEs_len h4]
      | exc _ _ => rw [h4] at e; cases e
      | stuck => rw [h4] at e; cases e
    | exc _ _ => rw [h3] at e; cases e
    | stuck => rw [h3] at e; cases e
theorem tA_walk {ik : IK} {its : List E} {σ : L2.St} {H : Hp} {R : It → Hp → Prop} (q : iW L W c ik its σ H R) : tA L W (evalEs c its) σ H fun xs H1 => ∃ ι vs h w, vs.length = its.length ∧ RVs L ι H1 vs xs ∧ RH L ι H1 h ∧ walkOf ik vs h = some w ∧ ∀ J, WIt L ι H1 w J → R J H1 := by
  obtain ⟨ι, ρ, h, rσ, rh, hq⟩ := q
  refine ⟨ι, ρ, h, rσ, rh, okA.bind hq fun ι1 H1 h1 vs xs e0 x1 rh1 rv1 q1 => ?_⟩
  obtain ⟨w, e1, q1⟩ := okA.got q1
  exact ⟨ι1, vs, h1, w, evalEs_len e0, rv1, rh1, e1, fun J hJ => q1 ι1 H1 J (Ext.refl _ _) rh1 hJ⟩
theorem tA_mono {ev : PSt → PHeap → Res (List PV)} {σ : L2.St} {H : Hp} {Q Q' : List V → Hp → Prop} (q : tA L W ev σ H Q) (w : ∀ xs H1, Q xs H1 → Q' xs H1) : tA L W ev σ H Q' := by
  obtain ⟨ι, ρ, h, rσ, rh, hq⟩ := q
  exact ⟨ι, ρ, h, rσ, rh, okA.mono hq w fun _ _ _ z => z⟩
theorem len1 {vs : List PV} (h : vs.length = 1) : ∃ a, vs = [a] := by
  match vs, h with
  | [a], _ => exact ⟨a, rfl⟩
theorem len2 {vs : List PV} (h : vs.length = 2) : ∃ a b, vs = [a, b] := by
  match vs, h with
  | [a, b], _ => exact ⟨a, b, rfl⟩
theorem iter_rng1 (F : Fx T L c X) (A : At X v) {its : List E} {a tg : Expr} {p pos : Pos} (g : biB T v "range" = true) (h3 : Sds T L W X c v its [a]) : PI X tg (.Call (.Name "range" p) [a] [] pos) (iW L W c .rng its) := by
  obtain ⟨b1, b2, _⟩ := A.bi F g
  have pa := h3.pa
  cases h3 with
  | cons k h r =>
    cases r
    refine PI.imp (pi_range1 b1 b2 pa (star_cons k _ _)) fun σ H R q => ?_
    refine tA_mono (tA_walk q) fun xs H1 ⟨ι, vs, h, w, hl, rv, rh, e, go⟩ => ?_
    obtain ⟨x, rfl⟩ := len1 hl
    obtain ⟨u, rfl, r1⟩ := rv.one
    cases x <;> try (cases e; done)
    simp only [walkOf] at e
    split at e
    · rename_i hj
      cases e
      simp only [RV] at r1
      exact ⟨_, by rw [r1], hj.1, hj.2, go _ (wit_rng _ _)⟩
    · cases e
theorem iter_rng2 (F : Fx T L c X) (A : At X v) {its : List E} {a b tg : Expr} {p pos : Pos} (g : biB T v "range" = true) (h3 : Sds T L W X c v its [a, b]) : PI X tg (.Call (.Name "range" p) [a, b] [] pos) (iW L W c .rng its) := by
  obtain ⟨b1, b2, _⟩ := A.bi F g
  have pa := h3.pa
  cases h3 with
  | cons k h r =>
    cases r with
    | cons k2 h2 r =>
      cases r
      have s2 : starEach [b] X.env = [(false, eval b X.env)] := star_cons k2 _ _
      refine PI.imp (pi_range2 b1 b2 pa (by rw [star_cons k, s2]) s2) fun σ H R q => ?_
      refine tA_mono (tA_walk q) fun xs H1 ⟨ι, vs, h, w, hl, rv, rh, e, go⟩ => ?_
      obtain ⟨x, y, rfl⟩ := len2 hl
      obtain ⟨u, w', rfl, r1, r2⟩ := rv.two
      cases x <;> try (cases e; done)
      cases y <;> try (cases e; done)
      simp only [walkOf] at e
      split at e
      · rename_i hj
        cases e
        simp only [RV] at r1 r2
        exact ⟨_, _, by rw [r1, r2], ⟨hj.1.1, hj.1.2, hj.2.1, hj.2.2⟩, go _ (wit_rng _ _)⟩
      · cases e
theorem iter_enm (F : Fx T L c X) (A : At X v) {its : List E} {a tg : Expr} {p pos : Pos} (g : biB T v "enumerate" = true) (ht : isTup tg = true) (h3 : Sds T L W X c v its [a]) : PI X tg (.Call (.Name "enumerate" p) [a] [] pos) (iW L W c .enm its) := by
  obtain ⟨b1, b2, _⟩ := A.bi F g
  have pa := h3.pa
  have hK := F.hK
  obtain ⟨K, cA⟩ := L
  cases hK
  cases h3 with
  | cons k h r =>
    cases r
    cases tg <;> first | (cases ht; done) | skip
    refine PI.imp (pi_enum2 b1 b2 pa (star_cons k _ _)) fun σ H R q => ?_
    refine tA_mono (tA_walk q) fun xs H1 ⟨ι, vs, h, w, hl, rv, rh, e, go⟩ => ?_
    obtain ⟨x, rfl⟩ := len1 hl
    obtain ⟨u, rfl, r1⟩ := rv.one
    by_cases hx : ∃ z, x = .str z
    · obtain ⟨z, rfl⟩ := hx
      simp only [walkOf] at e
      cases e
      simp only [RV] at r1
      exact .inr ⟨z, by rw [r1.1], go _ (wit_enmS z)⟩
    · have e : (srcOf h x).bind (fun c => if c.isT = true then none else some (.enm c)) = some w := by
        cases x <;> first | exact e | exact absurd ⟨_, rfl⟩ hx
      rw [Option.bind_eq_some_iff] at e
      obtain ⟨s, e1, e2⟩ := e
      split at e2
      · cases e2
      · rename_i hs
        cases e2
        obtain ⟨p, rfl, hs1, ys, hc⟩ := src_at rh r1 e1
        obtain ⟨ws, r, hq⟩ := hs1 ι H1 h ys (Ext.refl _ _) rh hc
        rw [if_neg hs] at hq
        exact .inl ⟨p, ws, rfl, hq, go _ (wit_enm hs1 (by simpa using hs))⟩
theorem iter_zip (F : Fx T L c X) (A : At X v) {its : List E} {a b tg : Expr} {p pos : Pos} (g : biB T v "zip" = true) (ht : isTup tg = true) (h3 : Sds T L W X c v its [a, b]) : PI X tg (.Call (.Name "zip" p) [a, b] [] pos) (iW L W c .zip its) := by
  obtain ⟨b1, b2, _⟩ := A.bi F g
  have pa := h3.pa
  have hK := F.hK
  obtain ⟨K, cA⟩ := L
  cases hK
  cases h3 with
  | cons k h r =>
    cases r with
    | cons k2 h2 r =>
      cases r
      have s2 : starEach [b] X.env = [(false, eval b X.env)] := star_cons k2 _ _
      cases tg <;> first | (cases ht; done) | skip
      refine PI.imp (RZ.pi_zipA b1 b2 pa (star_cons k _ _) (by rw [s2]; rfl)) fun σ H R q => ?_
      refine tA_mono (tA_walk q) fun xs H1 ⟨ι, vs, h, w, hl, rv, rh, e, go⟩ => ?_
      obtain ⟨x, y, rfl⟩ := len2 hl
      obtain ⟨u, w', rfl, r1, r2⟩ := rv.two
      simp only [walkOf, Option.bind_eq_some_iff] at e
      obtain ⟨s, e1, d, e2, e3⟩ := e
      split at e3
      · rename_i hs
        cases e3
        obtain ⟨p, rfl, hs1, ys, hc⟩ := src_at rh r1 e1
        obtain ⟨q, rfl, hs2, zs, hc2⟩ := src_at rh r2 e2
        obtain ⟨ws, r, hq⟩ := hs1 ι H1 h ys (Ext.refl _ _) rh hc
        obtain ⟨ws2, r', hq2⟩ := hs2 ι H1 h zs (Ext.refl _ _) rh hc2
        have gz := go _ (wit_zip hs1 hs2 hs)
        refine ⟨p, q, ws, ws2, rfl, ?_⟩
        by_cases ht : s.isT = true
        · rw [if_pos ht] at hq gz
          rw [if_pos (by rw [← hs]; exact ht)] at hq2
          exact .inr ⟨hq, hq2, gz⟩
        · rw [if_neg ht] at hq gz
          rw [if_neg (by rw [← hs]; exact ht)] at hq2
          exact .inl ⟨hq, hq2, gz⟩
      · cases e3
/-- an iterable that passes the check -/
theorem iter_ok (F : Fx T L c X) (A : At X v) {ik : IK} {its : List E} {tg it : Expr} {ys : List Expr} (e : itArgs T v ik tg it = some ys) (h3 : Sds T L W X c v its ys) : PI X tg it (iW L W c ik its) ∧ ∀ x, foldedSetIterable it X.env x = pure x := by
  unfold itArgs at e
  cases ik with
  | seq =>
    simp only at e
    split at e
    · cases e
    · rename_i hs
      cases e
      refine ⟨?_, fun x => ?_⟩
      · cases h3 with
        | cons k h r => cases r; exact iter_any F.hK h
      · cases it <;> first | rfl | (exact absurd rfl hs)
  | rng =>
    simp only at e
    split at e
    · split at e
      · rename_i hx
        cases e
        obtain ⟨rfl, hx⟩ := hx
        exact ⟨iter_rng1 F A hx h3, fun x => rfl⟩
      · cases e
    · split at e
      · rename_i hx
        cases e
        obtain ⟨rfl, hx⟩ := hx
        exact ⟨iter_rng2 F A hx h3, fun x => rfl⟩
      · cases e
    · cases e
  | enm =>
    simp only at e
    split at e
    · split at e
      · rename_i hx
        cases e
        obtain ⟨rfl, hx, ht⟩ := hx
        exact ⟨iter_enm F A hx ht h3, fun x => rfl⟩
      · cases e
    · cases e
  | zip =>
    simp only at e
    split at e
    · split at e
      · rename_i hx
        cases e
        obtain ⟨rfl, hx, ht⟩ := hx
        exact ⟨iter_zip F A hx ht h3, fun x => rfl⟩
      · cases e
    · cases e
end
end Rf
end

section
set_option Elab.async false
set_option linter.all false
set_option maxRecDepth 100000
set_option maxHeartbeats 4000000
namespace Rf
open PySem PySem.Spec L2
/-! ### comprehensions -/
/-- a turn of a comprehension -/
def turnC (c : Call) (ex : Bool) (own : List Nat) (tg : T) (cd elt : E) (ρ : PSt) : PV → PHeap → Res (Option PV) := fun x h2 => match bindT h2 tg x (wipeP ρ own) with
  | none => .stuck
  | some ρ' => if isNop cd = true then nxc ex ((evalE c elt ρ' h2).bind fun v h3 => .ok (some v) h3)
    else nxc ex ((evalE c cd ρ' h2).bind fun b h3 => orStuck (truth h3 b) fun k => if k = true then (evalE c elt ρ' h3).bind fun v h4 => .ok (some v) h4 else .ok none h3)
theorem evalE_cmpr (c : Call) (mu ex : Bool) (own : List Nat) (ik : IK) (its : List E) (tg : T) (cd elt : E) (ρ : PSt) (h : PHeap) :
    evalE c (.cmpr mu ex own ik its tg cd elt) ρ h = (walkR c ik its ρ h).bind fun w h1 => guardR (w.len h1 ≤ szB) ((compN w (turnC c ex own tg cd elt ρ) (w.len h1 + 1) 0 h1).bind fun vs h2 => mkL mu vs h2) := by
  simp only [evalE, walkR]
  cases evalEs c its ρ h with
  | ok vs h1 =>
    simp only [Res.bind]
    cases walkOf ik vs h1 with
    | none => rfl
    | some w => rfl
  | exc _ _ => rfl
  | stuck => rfl
section
variable {c : Call} {ex : Bool} {own : List Nat} {tg : T} {cd elt : E} {ρ : PSt}
theorem nxc_ok {α : Type} {r : Res α} {a : α} {h : PHeap} (e : nxc ex r = .ok a h) : r = .ok a h := by
  cases ex <;> cases r <;> first | exact e | cases e
theorem nxc_exc {α : Type} {r : Res α} {x : PX} {h : PHeap} (e : nxc ex r = .exc x h) : ex = true ∧ r = .exc x h := by
  cases ex <;> cases r <;> first | exact ⟨rfl, e⟩ | cases e
theorem bind_ok {α β : Type} {r : Res α} {k : α → PHeap → Res β} {b : β} {h : PHeap} (e : r.bind k = .ok b h) : ∃ a h1, r = .ok a h1 ∧ k a h1 = .ok b h := by
  cases r with
  | ok a h1 => exact ⟨a, h1, rfl, e⟩
  | exc _ _ => cases e
  | stuck => cases e
theorem bind_exc {α β : Type} {r : Res α} {k : α → PHeap → Res β} {x : PX} {h : PHeap} (e : r.bind k = .exc x h) : r = .exc x h ∨ ∃ a h1, r = .ok a h1 ∧ k a h1 = .exc x h := by
  cases r with
  | ok a h1 => exact .inr ⟨a, h1, rfl, e⟩
  | exc _ _ => cases e; exact .inl rfl
  | stuck => cases e
theorem got_ok {α β : Type} {o : Option α} {k : α → Res β} {b : β} {h : PHeap} (e : orStuck o k = .ok b h) : ∃ a, o = some a ∧ k a = .ok b h := by
  cases o with
  | none => cases e
  | some a => exact ⟨a, rfl, e⟩
theorem got_exc {α β : Type} {o : Option α} {k : α → Res β} {x : PX} {h : PHeap} (e : orStuck o k = .exc x h) : ∃ a, o = some a ∧ k a = .exc x h := by
  cases o with
  | none => cases e
  | some a => exact ⟨a, rfl, e⟩
theorem turnC_exc {x : PV} {h h1 : PHeap} {y : PX} (e : turnC c ex own tg cd elt ρ x h = .exc y h1) : ex = true ∧ ∃ ρ', bindT h tg x (wipeP ρ own) = some ρ' ∧
    ((isNop cd = true ∧ evalE c elt ρ' h = .exc y h1) ∨ (isNop cd = false ∧ (evalE c cd ρ' h = .exc y h1 ∨ ∃ b h3, evalE c cd ρ' h = .ok b h3 ∧ truth h3 b = some true ∧ evalE c elt ρ' h3 = .exc y h1))) := by
  unfold turnC at e
  split at e
  · cases e
  · rename_i ρ' e1
    split at e
    · rename_i hn
      obtain ⟨hx, e⟩ := nxc_exc e
      refine ⟨hx, ρ', e1, .inl ⟨hn, ?_⟩⟩
      rcases bind_exc e with z | ⟨a, h2, _, z⟩
      · exact z
      · cases z
    · rename_i hn
      obtain ⟨hx, e⟩ := nxc_exc e
      refine ⟨hx, ρ', e1, .inr ⟨by simpa using hn, ?_⟩⟩
      rcases bind_exc e with z | ⟨b, h3, e2, z⟩
      · exact .inl z
      · obtain ⟨k, e3, z⟩ := got_exc z
        split at z
        · rename_i hk
          subst hk
          rcases bind_exc z with z | ⟨a, h2, _, z⟩
          · exact .inr ⟨b, h3, e2, e3, z⟩
          · cases z
        · cases z
theorem turnC_ok {x : PV} {h h1 : PHeap} {o : Option PV} (e : turnC c ex own tg cd elt ρ x h = .ok o h1) : ∃ ρ', bindT h tg x (wipeP ρ own) = some ρ' ∧
    ((isNop cd = true ∧ ∃ v, evalE c elt ρ' h = .ok v h1 ∧ o = some v) ∨ (isNop cd = false ∧ ∃ b h3 k, evalE c cd ρ' h = .ok b h3 ∧ truth h3 b = some k ∧ ((k = true ∧ ∃ v, evalE c elt ρ' h3 = .ok v h1 ∧ o = some v) ∨ (k = false ∧ h1 = h3 ∧ o = none)))) := by
  unfold turnC at e
  split at e
  · cases e
  · rename_i ρ' e1
    refine ⟨ρ', e1, ?_⟩
    split at e
    · rename_i hn
      obtain ⟨v, h2, e2, e3⟩ := bind_ok (nxc_ok e)
      cases e3
      exact .inl ⟨hn, v, e2, rfl⟩
    · rename_i hn
      obtain ⟨b, h3, e2, e3⟩ := bind_ok (nxc_ok e)
      obtain ⟨k, e4, e5⟩ := got_ok e3
      refine .inr ⟨by simpa using hn, b, h3, k, e2, e4, ?_⟩
      split at e5
      · rename_i hk
        obtain ⟨v, h4, e6, e7⟩ := bind_ok e5
        cases e7
        exact .inl ⟨hk, v, e6, rfl⟩
      · rename_i hk
        cases e5
        exact .inr ⟨by simpa using hk, rfl, rfl⟩
end
theorem rst_wipe {L : Lk} {ι : List Addr} {H : Hp} {ρ : PSt} {σ : L2.St} (h : RSt L ι H ρ σ) : ∀ vs : List Nat, RSt L ι H (wipeP ρ vs) (wipe σ vs)
  | [] => h
  | v :: vs => by
    obtain ⟨h1, h2⟩ := rst_wipe h vs
    unfold wipeP wipe
    refine ⟨by rw [List.length_set, List.length_set]; exact h1, fun i x e => ?_⟩
    by_cases hi : v = i
    · subst hi
      by_cases hv : v < (wipeP ρ vs).length
      · rw [List.getElem?_set_self hv] at e; cases e
      · rw [List.getElem?_eq_none (by simpa using hv)] at e; cases e
    · rw [List.getElem?_set_ne hi] at e ⊢
      exact h2 i x e
theorem wipe_in {σ : L2.St} {i : Nat} : ∀ {vs : List Nat}, i ∈ vs → i < σ.length → (wipe σ vs)[i]? = some none
  | v :: vs, hi, hl => by
    unfold wipe
    by_cases e : v = i
    · subst e
      exact List.getElem?_set_self (by rw [wipe_length]; exact hl)
    · rw [List.getElem?_set_ne e]
      rcases List.mem_cons.mp hi with z | z
      · exact absurd z.symm e
      · exact wipe_in z hl
theorem wipe_out {σ : L2.St} {i : Nat} : ∀ {vs : List Nat}, i ∉ vs → (wipe σ vs)[i]? = σ[i]?
  | [], _ => rfl
  | v :: vs, hi => by
    unfold wipe
    rw [List.getElem?_set_ne (fun e => hi (by rw [e]; exact List.mem_cons_self))]
    exact wipe_out fun z => hi (List.mem_cons_of_mem _ z)
theorem wipe_only {σ σ2 : L2.St} {vs ids : List Nat} (h : Only ids (wipe σ vs) σ2) (hi : ∀ i ∈ ids, i ∈ vs) : wipe σ2 vs = wipe σ vs := by
  have hl : σ2.length = σ.length := by rw [h.1, wipe_length]
  apply List.ext_getElem?
  intro i
  by_cases hv : i ∈ vs
  · by_cases hb : i < σ.length
    · rw [wipe_in hv hb, wipe_in hv (by rw [hl]; exact hb)]
    · rw [List.getElem?_eq_none (by rw [wipe_length]; omega), List.getElem?_eq_none (by rw [wipe_length]; omega)]
  · rw [wipe_out hv, h.2 i fun z => hv (hi i z)]
section
variable {T : Tab} {L : Lk} {W : WX} {X : Cx} {c : Call} {v : Vw}
abbrev W0 : WX := fun _ _ _ _ => False
/-- the clause's test -/
def tCd (L : Lk) (W : WX) (c : Call) (cd : E) : TT := if isNop cd = true then tYes else tHidT (tT L W (tst c cd))
/-- the invariant of a comprehension's loop -/
def CInv (L : Lk) (ι1 : List Addr) (H1 : Hp) (D : Addr) (mu : Bool) (w : Walk) (tn : PV → PHeap → Res (Option PV)) (n0 : Nat) (Q : VK) (E : Value → Option Addr → Hp → Prop) (i m : Nat) (H : Hp) : Prop :=
  ∃ ι h xs acc, H D = some (.lst acc) ∧ Ext ι1 H1 ι (hid D H) ∧ RH L ι (hid D H) h ∧ RVs L ι (hid D H) xs acc ∧ acc.length ≤ i ∧ i + m = n0 + 1 ∧ okV L ι (hid D H) ((compN w tn m i h).bind fun vs h2 => mkL mu (xs ++ vs) h2) Q E
theorem comp_read (hc : X.calm = true) (hK : X.K = L.K) {mu ex : Bool} {own : List Nat} {ik : IK} {its : List E} {tg : Rf.T} {cd elt : E} {Wb : WX} (hids : ∀ i ∈ tIds tg, i ∈ own) {σ : L2.St} {H : Hp} {Q : VK} (hW : ex = true → ∀ c d σ' H', W c d σ H' → Wb c d σ' H') (q : tE L W (evalE c (.cmpr mu ex own ik its tg cd elt)) σ H Q) :
    tLc (iW L W c ik its) (gT L tg) (tCd L Wb c cd) (tHid (tE L Wb (evalE c elt))) own σ H Q := by
  obtain ⟨ι, ρ, h, rσ, rh, hq⟩ := q
  rw [evalE_cmpr] at hq
  refine ⟨ι, ρ, h, rσ, rh, okA.bind hq fun ι1 H1 h1 w J _ x1 rh1 wit q1 => ?_⟩
  obtain ⟨hlen, q1⟩ := okA.guard q1
  rw [szB_eq] at hlen
  intro D hD
  have rσ1 := rσ.ext x1
  refine ⟨CInv L ι1 H1 D mu w (turnC c ex own tg cd elt ρ) (w.len h1) Q (fun c d H' => W c d σ H'), ⟨w.len h1 + 1, ι1, h1, [], [], upd_same, ?_, ?_, ?_, Nat.zero_le _, by omega, ?_⟩, ?_⟩
  · rw [hid_upd_same hD]; exact Ext.refl _ _
  · rw [hid_upd_same hD]; exact rh1
  · simp [RVs]
  · rw [hid_upd_same hD]; exact q1
  rintro i m H2 ⟨ι2, h2, xs, acc, hacc, x2, rh2, rxs, hi, him, q2⟩
  cases m with
  | zero => exact q2.elim
  | succ m =>
    have ww := wit ι2 (hid D H2) H2 h2 x2 rh2 (Le.hid D H2) i
    simp only [compN] at q2
    cases hn : w.next i h2 with
    | none => rw [hn] at q2; exact q2.elim
    | some o =>
      rw [hn] at q2
      cases o with
      | none =>
        refine .inl ⟨ww.1 hn, ?_⟩
        have q3 : okV L ι2 (hid D H2) (mkL mu (xs ++ []) h2) Q fun c d H' => W c d σ H' := q2
        rw [List.append_nil] at q3
        have := okV.mkL rh2 rxs (by omega) q3 (p := D) hid_same
        rw [upd_hid hacc] at this
        exact this
      | some x =>
        obtain ⟨go, yl⟩ := ww.2 x hn
        simp only at q2
        cases ht : turnC c ex own tg cd elt ρ x h2 with
        | stuck => rw [ht] at q2; exact q2.elim
        | exc y h3 =>
          rw [ht] at q2
          have q3 : ∀ ι' H' c d, Ext ι2 (hid D H2) ι' H' → RH L ι' H' h3 → RX L ι' H' y c d → W c d σ H' := q2
          obtain ⟨hex, ρ', hb, hturn⟩ := turnC_exc ht
          refine .inr ⟨go, fun _ => False, fun _ z => z.elim, fun u H3 hy => ?_⟩
          obtain ⟨hacc3, x3, rh3, rv3⟩ : H3 D = some (.lst acc) ∧ Ext ι2 (hid D H2) ι2 (hid D H3) ∧ RH L ι2 (hid D H3) h2 ∧ RV L ι2 (hid D H3) x u := by
            rcases yl u H3 hy with ⟨rfl, rv⟩ | ⟨p, t, hp, rfl, rv⟩
            · exact ⟨hacc, Ext.refl _ _, rh2, rv⟩
            · have hne : p ≠ D := fun e => by rw [e, hacc] at hp; cases hp
              have hp' : hid D H2 p = none := by rw [hid_ne hne]; exact hp
              rw [hid_upd hne]
              exact ⟨by rw [upd_ne (Ne.symm hne)]; exact hacc, Ext.new hp', rh2.new hp', rv⟩
          refine ⟨ι2, h2, x, wipeP ρ own, ρ', some D, acc, fun b e => by cases e; exact hacc3, rv3, rh3, rst_wipe (((rσ1.ext x2).ext x3)) own, hb, fun σ4 H4 x4 rh4 rσ4 kp o4 => ?_⟩
          have hacc4 : H4 D = some (.lst acc) := by rw [kp D rfl]; exact hacc3
          have x4 : Ext ι2 (hid D H3) ι2 (hid D H4) := x4
          have rh4 : RH L ι2 (hid D H4) h2 := rh4
          have rσ4 : RSt L ι2 (hid D H4) ρ' σ4 := rσ4
          have x24 := x3.trans x4
          refine ⟨wipe_only o4 hids, ?_⟩
          have elem : ∀ {ι5 : List Addr} {H5 : Hp} {hh : PHeap} {Q5 : VK}, H5 D = some (.lst acc) → Ext ι2 (hid D H2) ι5 (hid D H5) → RH L ι5 (hid D H5) hh → RSt L ι5 (hid D H5) ρ' σ4 → evalE c elt ρ' hh = .exc y h3 → tHid (tE L Wb (evalE c elt)) σ4 H5 Q5 := fun {ι5 H5 hh Q5} ha5 x5 rh5 rσ5 he => by
            refine ⟨D, acc, ha5, ι5, ρ', hh, rσ5, rh5, ?_⟩
            rw [he]
            exact fun ι6 H6 cl d x6 rh6 rx => hW hex _ _ _ _ (q3 ι6 H6 cl d (x5.trans x6) rh6 rx)
          rcases hturn with ⟨hcd, he⟩ | ⟨hcd, hk⟩
          · unfold tCd
            rw [if_pos hcd]
            simp only [tYes, if_true]
            exact elem hacc4 x24 rh4 rσ4 he
          · unfold tCd
            rw [if_neg (by rw [hcd]; exact Bool.false_ne_true)]
            refine ⟨D, acc, hacc4, ι2, ρ', h2, rσ4, rh4, ?_⟩
            rcases hk with he | ⟨b, h5, he, htr, he2⟩
            · have et : tst c cd ρ' h2 = .exc y h3 := by
                unfold tst
                rw [he]
                rfl
              rw [et]
              exact fun ι6 H6 cl d x6 rh6 rx => hW hex _ _ _ _ (q3 ι6 H6 cl d (x24.trans x6) rh6 rx)
            · have et : tst c cd ρ' h2 = .ok true h5 := by
                unfold tst
                rw [he]
                simp only [Res.bind, evT, htr, orStuck]
              rw [et]
              intro ι5 H5 k' x5 rh5 ek hn5
              subst ek
              have hx5 : hid D (upd H5 D (.lst acc)) = H5 := hid_upd_same hn5
              rw [if_pos rfl]
              refine elem upd_same (ι5 := ι5) (hh := h5) ?_ ?_ ?_ he2
              · rw [hx5]; exact x24.trans x5
              · rw [hx5]; exact rh5
              · rw [hx5]; exact rσ4.ext x5
        | ok o h3 =>
          rw [ht] at q2
          have q3 : okV L ι2 (hid D H2) ((compN w (turnC c ex own tg cd elt ρ) m (i + 1) h3).bind fun vs h2 => mkL mu (xs ++ (o.toList ++ vs)) h2) Q fun c d H' => W c d σ H' := by
            have q2 : okV L ι2 (hid D H2) (((compN w (turnC c ex own tg cd elt ρ) m (i + 1) h3).bind fun vs h2 => .ok (o.toList ++ vs) h2).bind fun vs h2 => mkL mu (xs ++ vs) h2) Q fun c d H' => W c d σ H' := q2
            cases hh : compN w (turnC c ex own tg cd elt ρ) m (i + 1) h3 with
            | ok vs h4 => rw [hh] at q2; exact q2
            | exc _ _ => rw [hh] at q2; exact q2
            | stuck => rw [hh] at q2; exact q2
          have hm : 1 ≤ m := by
            cases m with
            | zero => exact q3.elim
            | succ m => omega
          refine .inr ⟨go, CInv L ι1 H1 D mu w (turnC c ex own tg cd elt ρ) (w.len h1) Q (fun c d H' => W c d σ H') (i + 1) m, fun H' hH => ⟨m, Nat.lt_succ_self _, hH⟩, fun u H3 hy => ?_⟩
          obtain ⟨ρ', hb, hturn⟩ := turnC_ok ht
          -- the item
          obtain ⟨hacc3, x3, rh3, rv3⟩ : H3 D = some (.lst acc) ∧ Ext ι2 (hid D H2) ι2 (hid D H3) ∧ RH L ι2 (hid D H3) h2 ∧ RV L ι2 (hid D H3) x u := by
            rcases yl u H3 hy with ⟨rfl, rv⟩ | ⟨p, t, hp, rfl, rv⟩
            · exact ⟨hacc, Ext.refl _ _, rh2, rv⟩
            · have hne : p ≠ D := fun e => by rw [e, hacc] at hp; cases hp
              have hp' : hid D H2 p = none := by rw [hid_ne hne]; exact hp
              rw [hid_upd hne]
              exact ⟨by rw [upd_ne (Ne.symm hne)]; exact hacc, Ext.new hp', rh2.new hp', rv⟩
          refine ⟨ι2, h2, x, wipeP ρ own, ρ', some D, acc, fun b e => by cases e; exact hacc3, rv3, rh3, rst_wipe (((rσ1.ext x2).ext x3)) own, hb, fun σ4 H4 x4 rh4 rσ4 kp o4 => ?_⟩
          have hacc4 : H4 D = some (.lst acc) := by rw [kp D rfl]; exact hacc3
          have x4 : Ext ι2 (hid D H3) ι2 (hid D H4) := x4
          have rh4 : RH L ι2 (hid D H4) h2 := rh4
          have rσ4 : RSt L ι2 (hid D H4) ρ' σ4 := rσ4
          have x24 := x3.trans x4
          refine ⟨wipe_only o4 hids, ?_⟩
          -- behind the element
          have elem : ∀ {ι5 : List Addr} {H5 : Hp} {hh : PHeap} {vv : PV}, H5 D = some (.lst acc) → Ext ι2 (hid D H2) ι5 (hid D H5) → RH L ι5 (hid D H5) hh → RSt L ι5 (hid D H5) ρ' σ4 → evalE c elt ρ' hh = .ok vv h3 → o = some vv →
              tHid (tE L Wb (evalE c elt)) σ4 H5 fun y H6 => ∃ acc, H6 D = some (.lst acc) ∧ acc.length < sizeLine ∧ CInv L ι1 H1 D mu w (turnC c ex own tg cd elt ρ) (w.len h1) Q (fun c d H' => W c d σ H') (i + 1) m (upd H6 D (.lst (acc ++ [y]))) := fun {ι5 H5 hh vv} ha5 x5 rh5 rσ5 he ho => by
            refine ⟨D, acc, ha5, ι5, ρ', hh, rσ5, rh5, ?_⟩
            rw [he]
            intro ι6 H6 y x6 rh6 rv6 hn6
            refine ⟨acc, upd_same, by omega, ι6, h3, xs ++ [vv], acc ++ [y], upd_same, ?_, ?_, ?_, by rw [List.length_append]; simp; omega, by omega, ?_⟩
            · rw [upd_upd, hid_upd_same hn6]; exact x2.trans (x5.trans x6)
            · rw [upd_upd, hid_upd_same hn6]; exact rh6
            · rw [upd_upd, hid_upd_same hn6]
              exact RVs.append (RVs.ext (x5.trans x6) _ _ rxs) (by simp only [RVs]; exact ⟨y, [], rfl, rv6, rfl⟩)
            · rw [upd_upd, hid_upd_same hn6]
              have q4 := okA.ext (x5.trans x6) q3
              rw [ho] at q4
              simpa [List.append_assoc] using q4
          rcases hturn with ⟨hcd, vv, he, ho⟩ | ⟨hcd, b, h5, k, he, htr, hk⟩
          · unfold tCd
            rw [if_pos hcd]
            simp only [tYes, if_true]
            exact elem hacc4 x24 rh4 rσ4 he ho
          · unfold tCd
            rw [if_neg (by rw [hcd]; exact Bool.false_ne_true)]
            refine ⟨D, acc, hacc4, ι2, ρ', h2, rσ4, rh4, ?_⟩
            have et : tst c cd ρ' h2 = .ok k h5 := by
              unfold tst
              rw [he]
              simp only [Res.bind, evT, htr, orStuck]
            rw [et]
            intro ι5 H5 k' x5 rh5 ek hn5
            subst ek
            have hx5 : hid D (upd H5 D (.lst acc)) = H5 := hid_upd_same hn5
            rcases hk with ⟨rfl, vv, he2, ho⟩ | ⟨rfl, rfl, ho⟩
            · rw [if_pos rfl]
              refine elem upd_same (ι5 := ι5) (hh := h5) (vv := vv) ?_ ?_ ?_ he2 ho
              · rw [hx5]; exact x24.trans x5
              · rw [hx5]; exact rh5
              · rw [hx5]; exact rσ4.ext x5
            · rw [if_neg Bool.false_ne_true]
              refine ⟨ι5, h3, xs, acc, upd_same, ?_, ?_, ?_, by omega, by omega, ?_⟩
              · rw [hx5]; exact x2.trans (x24.trans x5)
              · rw [hx5]; exact rh5
              · rw [hx5]; exact RVs.ext (x24.trans x5) _ _ rxs
              · rw [hx5]
                have q4 := okA.ext (x24.trans x5) q3
                rw [ho] at q4
                exact q4
end
end Rf
end

section
set_option Elab.async false
set_option linter.all false
set_option maxRecDepth 100000
set_option maxHeartbeats 4000000
namespace Rf
open PySem PySem.Spec L2
section
variable {T : Tab} {L : Lk} {W : WX} {X : Cx} {c : Call} {v : Vw}
def ownOf (v : Vw) (own : List Nat) : List (Str × Nat) := own.map fun i => (v.N.getD i "", i)
theorem ownOf_ix (v : Vw) (own : List Nat) : (ownOf v own).map (·.2) = own := by
  unfold ownOf
  rw [List.map_map]
  show own.map (fun i => i) = own
  simp
/-- the parts of a comprehension that passes the check -/
structure CmpOk (T : Tab) (L : Lk) (W : WX) (X : Cx) (c : Call) (v : Vw) (ex : Bool) (own : List Nat) (ik : IK) (its : List E) (tg : Rf.T) (cd elt : E) (ea tga ita : Expr) (ifs : List Expr) (scope : Scope) : Prop where
  hi : PI X tga ita (iW L W c ik its)
  hs : ∀ x, foldedSetIterable ita X.env x = pure x
  ok : BlkOk X.N X.env.scope scope (ownOf v own)
  ids : ∀ i ∈ tIds tg, i ∈ own
  hg : ∀ (s : Shared) (H : Hp) (C : Addr) (cl : List (Str × Addr)) (fp : List Addr), PG (X.blk s H scope (compEnvC scope cl C X.env) fp) tga (gT L tg)
  ht : ex = false → ∀ (s : Shared) (H : Hp) (C : Addr) (cl : List (Str × Addr)) (fp : List Addr), PTs (X.blk s H scope (compEnvC scope cl C X.env) fp) ifs (tCd L W0 c cd)
  he : ex = false → ∀ (s : Shared) (H : Hp) (C : Addr) (cl : List (Str × Addr)) (fp : List Addr), PE (X.blk s H scope (compEnvC scope cl C X.env) fp) ea (tHid (tE L W0 (evalE c elt)))
  lv : ex = true → X.stack = X.env :: X.outer ∧ X.env.frame = some X.env.locals
  htx : ex = true → ∀ (Wb : WX) s H C cl fp xe, Takes (blkW X s H scope (compEnvC scope cl C X.env) fp xe) Wb → PTs (blkW X s H scope (compEnvC scope cl C X.env) fp xe) ifs (tCd L Wb c cd)
  hex : ex = true → ∀ (Wb : WX) s H C cl fp xe, Takes (blkW X s H scope (compEnvC scope cl C X.env) fp xe) Wb → PE (blkW X s H scope (compEnvC scope cl C X.env) fp xe) ea (tHid (tE L Wb (evalE c elt)))
/-- a part's judgement in the block -/
def InBlk (L : Lk) (X : Cx) (c : Call) (scope : Scope) (ex : Bool) (e : E) (a : Expr) : Prop :=
  (ex = false → ∀ (s : Shared) (H : Hp) (C : Addr) (cl : List (Str × Addr)) (fp : List Addr), Sd L W0 (X.blk s H scope (compEnvC scope cl C X.env) fp) c e a) ∧
  (ex = true → ∀ (Wb : WX) s H C cl fp xe, Takes (blkW X s H scope (compEnvC scope cl C X.env) fp xe) Wb → Sd L Wb (blkW X s H scope (compEnvC scope cl C X.env) fp xe) c e a)
theorem cmp_ok (F : Fx T L c X) (A : At X v) {ex : Bool} {own : List Nat} {ik : IK} {its : List E} {tg : Rf.T} {cd elt : E} {ea tga ita : Expr} {ifs ys : List Expr} {scope : Scope}
    (h1 : blkC v.N v.sc scope (ownOf v own) = true) (h2 : ((tIds tg).all fun i => own.contains i) = true) (h3 : chkT (v.blk scope) tg tga = true) (h4 : itArgs T v ik tga ita = some ys) (h5 : Sds T L W X c v its ys)
    (hl : ex = true → X.stack = X.env :: X.outer ∧ X.env.frame = some X.env.locals)
    (h6 : (ifs = [] ∧ isNop cd = true) ∨ ∃ b, ifs = [b] ∧ isNop cd = false ∧ InBlk L X c scope ex cd b)
    (h7 : InBlk L X c scope ex elt ea) : CmpOk T L W X c v ex own ik its tg cd elt ea tga ita ifs scope := by
  obtain ⟨i1, i2⟩ := iter_ok F A h4 h5
  have tests : ∀ (Wb : WX) (Y : Cx), (∀ b, ifs = [b] → Sd L Wb Y c cd b) → PTs Y ifs (tCd L Wb c cd) := fun Wb Y hb => by
    unfold tCd
    rcases h6 with ⟨rfl, hn⟩ | ⟨b, rfl, hn, _⟩
    · rw [if_pos hn]; exact pts_nil
    · rw [if_neg (by rw [hn]; exact Bool.false_ne_true)]
      exact pts_one (PT.hid (hb b rfl).pt)
  have inb : ∀ b, ifs = [b] → InBlk L X c scope ex cd b := fun b e => by
    rcases h6 with ⟨rfl, _⟩ | ⟨b', rfl, _, q⟩
    · cases e
    · cases e; exact q
  exact ⟨i1, i2, by rw [A.N, A.sc]; exact blkOk_by h1, fun i hi => List.contains_iff_mem.mp (List.all_eq_true.mp h2 i hi), fun s H C cl fp => sndT (A.blk s H scope cl C fp) F.nd F.calm F.hK tg tga h3,
    fun z s H C cl fp => tests _ _ fun b e => (inb b e).1 z s H C cl fp, fun z s H C cl fp => PE.hid (h7.1 z s H C cl fp).pe, hl,
    fun z Wb s H C cl fp xe tk => tests _ _ fun b e => (inb b e).2 z Wb s H C cl fp xe tk, fun z Wb s H C cl fp xe tk => PE.hid (h7.2 z Wb s H C cl fp xe tk).pe⟩
theorem sd_cmpr (F : Fx T L c X) (tk : Takes X W) {mu ex : Bool} {own : List Nat} {ik : IK} {its : List E} {tg : Rf.T} {cd elt : E} {ea tga ita : Expr} {ifs : List Expr} {scope : Scope} {pos : Pos} (k : CmpOk T L W X c v ex own ik its tg cd elt ea tga ita ifs scope) :
    Sd L W X c (.cmpr mu ex own ik its tg cd elt) (.ListComp ea [⟨tga, ita, ifs, 0⟩] scope pos) := by
  refine Sd.val F.hK ?_ (fun _ => rfl) rfl
  cases ex with
  | false =>
    refine PE.imp (pe_lc F.calm F.nd k.hi k.ok k.hg (k.ht rfl) (k.he rfl) k.hs) fun σ H Q q => ?_
    rw [ownOf_ix]
    exact comp_read (ex := false) F.calm F.hK k.ids (fun z => Bool.noConfusion z) q
  | true =>
    obtain ⟨l1, l2⟩ := k.lv rfl
    refine PE.imp (pe_lcx (tt := fun σ => tCd L (fun c d _ H' => W c d σ H') c cd) (te := fun σ => tHid (tE L (fun c d _ H' => W c d σ H') (evalE c elt))) F.calm F.nd tk l1 l2 k.hi k.ok k.hg (fun σ s H C cl fp xe t => k.htx rfl _ s H C cl fp xe t) (fun σ s H C cl fp xe t => k.hex rfl _ s H C cl fp xe t) k.hs) fun σ H Q q => ?_
    rw [ownOf_ix]
    exact comp_read F.calm F.hK k.ids (fun _ _ _ _ _ w => w) q
end
/-- a check of several -/
theorem and3 {a b c : Bool} (h : (a && b && c) = true) : a = true ∧ b = true ∧ c = true := by
  simp only [Bool.and_eq_true] at h
  exact ⟨h.1.1, h.1.2, h.2⟩
section
variable {T : Tab} {L : Lk} {c : Call}
/-- the facts that all expressions share -/
structure Px (T : Tab) (L : Lk) (W : WX) (X : Cx) (c : Call) (v : Vw) : Prop where
  F : Fx T L c X
  A : At X v
  tk : Takes X W
  lv : v.top = true → X.stack = X.env :: X.outer ∧ X.env.frame = some X.env.locals
theorem Px.blk {W : WX} {X : Cx} {v : Vw} (P : Px T L W X c v) (s : Shared) (H : Hp) (scope : Scope) (cl : List (Str × Addr)) (C : Addr) (fp : List Addr) : Px T L W0 (X.blk s H scope (compEnvC scope cl C X.env) fp) c (v.blk scope) :=
  ⟨P.F.blk _ _ _ _ _, P.A.blk _ _ _ _ _ _, takes0, fun z => nomatch z⟩
theorem Px.blkW {W : WX} {X : Cx} {v : Vw} (P : Px T L W X c v) {Wb : WX} (s : Shared) (H : Hp) (scope : Scope) (cl : List (Str × Addr)) (C : Addr) (fp : List Addr) {xe : Value → Shared → Prop} (tk : Takes (Rf.blkW X s H scope (compEnvC scope cl C X.env) fp xe) Wb) : Px T L Wb (Rf.blkW X s H scope (compEnvC scope cl C X.env) fp xe) c (v.blk scope) :=
  ⟨(P.F.blk _ _ _ _ _).wish _, (P.A.blk _ _ _ _ _ _).wish _, tk, fun z => nomatch z⟩
mutual
theorem sndE : ∀ (e : E) {W : WX} {X : Cx} {v : Vw} {a : Expr}, Px T L W X c v → chkE T e v a = true → Sd L W X c e a
  | .nop, _, _, _, _, _, h => by simp only [chkE] at h; cases h
  | .var i, _, _, _, _, P, h => sd_var P.A P.F.hK h
  | .cst k, _, _, _, _, P, h => sd_cst P.F.hK h
  | .glb x k, _, _, _, _, P, h => sd_glb P.A P.F h
  | .tyn x n, _, _, _, _, P, h => sd_tyn P.A P.F h
  | .bin o e f, _, _, _, _, P, h => by
    simp only [chkE] at h
    split at h
    · obtain ⟨h1, h2, h3⟩ := and3 h
      rw [of_decide_eq_true h1]
      exact sd_bin P.F (sndE e P h2) (sndE f P h3)
    · cases h
  | .cat mu e f, _, _, _, _, P, h => by
    simp only [chkE] at h
    split at h
    · obtain ⟨h1, h2, h3⟩ := and3 h
      rw [of_decide_eq_true h1]
      exact sd_cat P.F (sndE e P h2) (sndE f P h3)
    · cases h
  | .neg e, _, _, _, _, P, h => by
    simp only [chkE] at h
    split at h
    · rw [Bool.and_eq_true] at h
      rw [of_decide_eq_true h.1]
      exact sd_neg P.F (sndE e P h.2)
    · cases h
  | .not e, _, _, _, _, P, h => by
    simp only [chkE] at h
    split at h
    · rw [Bool.and_eq_true] at h
      rw [of_decide_eq_true h.1]
      exact sd_not P.F (sndE e P h.2)
    · cases h
  | .and e f, _, _, _, _, P, h => by
    simp only [chkE] at h
    split at h
    · rename_i op x y r p
      obtain ⟨h1, h2, h3⟩ := and3 h
      rw [of_decide_eq_true h1]
      cases r with
      | nil => exact sd_and1 P.F (sndE e P h2) (sndE f P h3)
      | cons z zs => exact sd_and2 P.F (sndE e P h2) (sndE f P h3)
    · cases h
  | .or e f, _, _, _, _, P, h => by
    simp only [chkE] at h
    split at h
    · rename_i op x y r p
      obtain ⟨h1, h2, h3⟩ := and3 h
      rw [of_decide_eq_true h1]
      cases r with
      | nil => exact sd_or1 P.F (sndE e P h2) (sndE f P h3)
      | cons z zs => exact sd_or2 P.F (sndE e P h2) (sndE f P h3)
    · cases h
  | .ite t e f, _, _, _, _, P, h => by
    simp only [chkE] at h
    split at h
    · obtain ⟨h1, h2, h3⟩ := and3 h
      exact sd_ite P.F (sndE t P h1) (sndE e P h2) (sndE f P h3)
    · cases h
  | .cmp o e f, _, _, _, _, P, h => by
    simp only [chkE] at h
    split at h
    · simp only [Bool.and_eq_true] at h
      obtain ⟨⟨⟨h1, h2⟩, h3⟩, h4⟩ := h
      cases of_decide_eq_true h1
      exact sd_cmp P.F (by simpa using h2) (sndE e P h3) (sndE f P h4)
    · cases h
  | .chn o o' e f g, _, _, _, _, P, h => by
    simp only [chkE] at h
    split at h
    · simp only [Bool.and_eq_true] at h
      obtain ⟨⟨⟨⟨⟨h1, h2⟩, h3⟩, h4⟩, h5⟩, h6⟩ := h
      cases of_decide_eq_true h1
      cases of_decide_eq_true h2
      exact sd_chn P.F (by simpa using h3) (sndE e P h4) (sndE f P h5) (sndE g P h6)
    · cases h
  | .call f es, _, _, _, _, P, h => by
    simp only [chkE] at h
    split at h
    · obtain ⟨h1, h2, h3⟩ := and3 h
      exact sd_call P.F P.tk P.A (of_decide_eq_true h1) h2 (sndEs es P h3)
    · cases h
  | .bi b mu es, _, _, _, _, P, h => by
    simp only [chkE] at h
    split at h
    · obtain ⟨h1, h2, h3⟩ := and3 h
      have e := of_decide_eq_true h1
      subst e
      exact sd_bi P.F P.A h2 (sndEs es P h3)
    · cases h
  | .mth m o es, _, _, _, _, P, h => by
    simp only [chkE] at h
    split at h
    · simp only [Bool.and_eq_true] at h
      obtain ⟨⟨⟨⟨⟨h1, h2⟩, h3⟩, h4⟩, h5⟩, h6⟩ := h
      have e := of_decide_eq_true h1
      subst e
      exact sd_mth P.F h2 (of_decide_eq_true h3) h4 (sndE o P h5) (sndEs es P h6)
    · cases h
  | .tup es, _, _, _, _, P, h => by
    simp only [chkE] at h
    split at h
    · exact sd_tup P.F (sndEs es P h)
    · cases h
  | .lst mu es, _, _, _, _, P, h => by
    simp only [chkE] at h
    split at h
    · exact sd_lst P.F (sndEs es P h)
    · cases h
  | .dnew t, _, _, _, _, P, h => by
    simp only [chkE] at h
    split at h
    · exact sd_dnew P.F
    · cases h
  | .idx e i, _, _, _, _, P, h => by
    simp only [chkE] at h
    split at h
    · obtain ⟨h1, h2, h3⟩ := and3 h
      exact sd_idx P.F (by simpa using h1) (sndE e P h2) (sndE i P h3)
    · cases h
  | .slc mu e lo hi, _, _, _, _, P, h => by
    simp only [chkE] at h
    split at h
    · rename_i x l u p1 p2
      obtain ⟨h1, h2, h3⟩ := and3 h
      refine sd_slc P.F (sndE e P h1) ?_ ?_
      · cases l with
        | none => exact po_no h2
        | some l =>
          simp only [Bool.and_eq_true] at h2
          exact po_so (by simpa using h2.1) (sndE lo P h2.2)
      · cases u with
        | none => exact po_no h3
        | some u =>
          simp only [Bool.and_eq_true] at h3
          exact po_so (by simpa using h3.1) (sndE hi P h3.2)
    · cases h
  | .rev mu e, _, _, _, _, P, h => by
    simp only [chkE] at h
    split at h
    · exact sd_rev P.F (sndE e P h)
    · cases h
  | .lrng mu es, _, _, _, _, P, h => by
    simp only [chkE] at h
    split at h
    · rename_i as e
      have hs := sndEs es P h
      unfold lrArgs at e
      split at e
      · split at e
        · rename_i hx
          cases e
          obtain ⟨rfl, rfl, g1, g2⟩ := hx
          cases hs with
          | cons k hd r => cases r; exact sd_lrng1 P.F P.A g1 g2 k hd
        · cases e
      · split at e
        · rename_i hx
          cases e
          obtain ⟨rfl, rfl, g1, g2⟩ := hx
          cases hs with
          | cons k hd r =>
            cases r with
            | cons k2 hd2 r => cases r; exact sd_lrng2 P.F P.A g1 g2 k k2 hd hd2
        · cases e
      · cases e
    · cases h
  | .cmpr mu ex own ik its tg cd elt, _, _, _, _, P, h => by
    simp only [chkE] at h
    split at h
    · simp only [Bool.and_eq_true] at h
      obtain ⟨⟨⟨⟨⟨⟨⟨h0, hx⟩, h1⟩, h2⟩, h3⟩, h4⟩, h5⟩, h6⟩ := h
      rw [of_decide_eq_true h0]
      split at h4
      · rename_i ys e4
        refine sd_cmpr P.F P.tk (cmp_ok P.F P.A h1 h2 h3 e4 (sndEs its P h4) (fun z => P.lv (by rw [z] at hx; simpa using hx)) ?_ ⟨fun _ s H C cl fp => sndE elt (P.blk s H _ cl C fp) h6, fun _ Wb s H C cl fp xe tk => sndE elt (P.blkW s H _ cl C fp tk) h6⟩)
        split at h5
        · exact .inl ⟨rfl, h5⟩
        · rw [Bool.and_eq_true] at h5
          exact .inr ⟨_, rfl, by simpa using h5.1, fun _ s H C cl fp => sndE cd (P.blk s H _ cl C fp) h5.2, fun _ Wb s H C cl fp xe tk => sndE cd (P.blkW s H _ cl C fp tk) h5.2⟩
        · cases h5
      · cases h4
    · cases h
  | .ssrt mu e, _, _, _, _, P, h => by
    simp only [chkE] at h
    split at h
    · simp only [Bool.and_eq_true] at h
      obtain ⟨⟨⟨⟨h1, h2⟩, h3⟩, h4⟩, h5⟩ := h
      cases of_decide_eq_true h1
      cases of_decide_eq_true h2
      exact sd_ssrt P.F P.A h3 h4 h5 (sndE e P h5)
    · cases h
  | .d1 k e, _, _, _, _, P, h => by
    simp only [chkE] at h
    split at h
    · rw [Bool.and_eq_true] at h
      exact sd_d1 P.F (sndE k P h.1) (sndE e P h.2)
    · cases h
  | .fld e, _, _, _, _, P, h => by
    simp only [chkE] at h
    split at h
    · rw [Bool.and_eq_true] at h
      cases of_decide_eq_true h.1
      exact sd_fld P.F (sndE e P h.2)
    · cases h
  | .fst ps, _, _, _, _, P, h => by
    simp only [chkE] at h
    split at h
    · exact sd_fst P.F (sndEs ps P h)
    · cases h
theorem sndEs : ∀ (es : List E) {W : WX} {X : Cx} {v : Vw} {as : List Expr}, Px T L W X c v → chkEs T es v as = true → Sds T L W X c v es as
  | [], _, _, _, [], _, _ => .nil
  | e :: es, _, _, _, a :: as, P, h => by
    simp only [chkEs, Bool.and_eq_true] at h
    exact .cons h.1 (sndE e P h.1) (sndEs es P h.2)
  | [], _, _, _, _ :: _, _, h => by simp only [chkEs] at h; cases h
  | _ :: _, _, _, _, [], _, h => by simp only [chkEs] at h; cases h
end
end
end Rf
end

section
set_option Elab.async false
set_option linter.all false
set_option maxRecDepth 100000
set_option maxHeartbeats 4000000
namespace Rf
open PySem PySem.Spec L2
section
variable {T : Tab} {L : Lk} {W : WX} {X : Cx} {c : Call} {v : Vw}
theorem sw_no {a : Expr} {t : Option Expr} {l : Nat} {env : Env} (h : notComp a = true) : swapsWith a t l env = pure false := by
  cases a <;> first | rfl | (cases h; done)
theorem swapsole {a t : Expr} {l : Nat} {env : Env} (h : notComp a = true) : swapsWithSole [t] a l env = pure false := sw_no h
theorem ss_no {t a : Expr} {env : Env} (h : isTup a = false) : swappedStores [t] a env = pure none := by
  cases a <;> first | (cases t <;> rfl) | (cases h; done)
theorem sw_name (A : At X v) (hk : v.sc.kind = .function) {y : Str} {py : Pos} {a : Expr} {l : Nat} (h : swN v y py a = true) : swapsWith a (some (.Name y py)) l X.env = pure false := by
  unfold swN at h
  split at h
  · rename_i e gs s p
    have hb : X.env.blockKind = .function := by unfold Env.blockKind; rw [A.sc, hk]; rfl
    have ky : X.env.kindOf y = v.sc.names.lookup y := by show X.env.scope.names.lookup y = _; rw [A.sc]
    unfold swapsWith
    simp only [hb, ky, Expr.pos]
    have e2 : ((v.sc.names.lookup y == some NameKind.local) && (py.line == p.line) && !(s.names.any fun (n, k) => n == y && (k == .local || k == .cell))) = false := by
      unfold kdB at h
      rw [Bool.not_eq_true'] at h
      rw [Bool.beq_eq_decide_eq]
      exact h
    have e3 : ((ScopeKind.function == ScopeKind.function) && (v.sc.names.lookup y == some NameKind.local) && (py.line == p.line) && !(s.names.any fun (n, k) => n == y && (k == .local || k == .cell))) = false := by
      rw [show (ScopeKind.function == ScopeKind.function) = true from rfl, Bool.true_and]
      exact e2
    rw [e3]
  · cases h
  · cases h
  · cases a <;> first | rfl | (rename_i hn _ _; exact absurd rfl (hn _ _ _ _)) | skip
    all_goals (rename_i hn1 hn2 hn3; first | exact absurd rfl (hn1 _ _ _ _) | exact absurd rfl (hn2 _ _ _ _) | exact absurd rfl (hn3 _ _ _ _ _))
theorem fm_lt {α β : Type} {f : α → Option β} : ∀ {l : List α}, (∃ a ∈ l, f a = none) → (l.filterMap f).length < l.length
  | [], ⟨a, h, _⟩ => nomatch h
  | x :: l, ⟨a, h, e⟩ => by
    rw [List.filterMap_cons]
    have hle := List.length_filterMap_le f l
    cases hx : f x with
    | none => simp only [List.length_cons]; omega
    | some y =>
      simp only [List.length_cons]
      have : (l.filterMap f).length < l.length := fm_lt (by
        rcases List.mem_cons.mp h with rfl | h
        · rw [hx] at e; cases e
        · exact ⟨a, h, e⟩)
      omega
theorem ss_par (A : At X v) {ts : List Expr} {a : Expr} {k : Nat} {p : Pos} (h : parN v ts a = true) : swappedStores [.Tuple ts k p] a X.env = pure none := by
  unfold parN at h
  split at h
  · rename_i vs k2 p2
    unfold swappedStores
    simp only
    split
    · rfl
    · split
      · rfl
      · rename_i h1 h2
        rw [if_pos]
        obtain ⟨t, ht, e⟩ := List.any_eq_true.mp h
        have hlt := fm_lt (f := fun
          | .Name id pos => if X.env.kindOf id == some .local && pos.line == (ts.head?.map (·.pos.line)).getD 0 then some id else none
          | _ => none) (l := ts) ⟨t, ht, by
            cases t <;> first
              | rfl
              | (rename_i x px
                 simp only at e ⊢
                 have hx : (X.env.kindOf x == some NameKind.local) = false := by
                   show (X.env.scope.names.lookup x == some NameKind.local) = false
                   rw [A.sc, Bool.beq_eq_decide_eq]
                   unfold kdB at e
                   simpa using e
                 rw [hx]
                 rfl)⟩
        rw [Bool.or_eq_true]
        refine .inl (bne_iff_ne.mpr (Nat.ne_of_lt hlt))
  · cases a <;> first | rfl | (rename_i hn; exact absurd rfl (hn _ _ _))
theorem ss_sub {o i a : Expr} {p : Pos} {env : Env} : swappedStores [.Subscript o i p] a env = pure none := by
  cases a <;> rfl
/-- the ends here -/
theorem okF.nx {ι : List Addr} {H : Hp} {ρ : PSt} {h : PHeap} {D : Ends} {σ : L2.St} (q : okF L ι H (.nx ρ h) D W) (rh : RH L ι H h) (rσ : RSt L ι H ρ σ) : D.nx σ H := q ι H σ (Ext.refl _ _) rh rσ
theorem fl_read {e : E} {k : PV → PSt → PHeap → Fl} {σ : L2.St} {H : Hp} {D : Ends} (q : tS L W (fun ρ h => (evalE c e ρ h).fl ρ fun v h1 => k v ρ h1) D σ H) :
    tE L W (evalE c e) σ H fun x H1 => ∃ ι v ρ h, RSt L ι H1 ρ σ ∧ RH L ι H1 h ∧ RV L ι H1 v x ∧ okF L ι H1 (k v ρ h) D W := by
  obtain ⟨ι, ρ, h, rσ, rh, hq⟩ := q
  exact ⟨ι, ρ, h, rσ, rh, okF.fl rσ hq fun ι1 H1 h1 v u _ x1 rh1 rv1 q1 => ⟨ι1, v, ρ, h1, rσ.ext x1, rh1, rv1, q1⟩⟩
theorem tS_cong {f g : PSt → PHeap → Fl} (e : ∀ ρ h, f ρ h = g ρ h) {D : Ends} {σ : L2.St} {H : Hp} (h : tS L W f D σ H) : tS L W g D σ H := by
  obtain ⟨ι, ρ, h, rσ, rh, hq⟩ := h
  exact ⟨ι, ρ, h, rσ, rh, by rw [← e]; exact hq⟩
theorem tE_mono {ev : PSt → PHeap → Res PV} {σ : L2.St} {H : Hp} {Q Q' : VK} (q : tE L W ev σ H Q) (w : ∀ xs H1, Q xs H1 → Q' xs H1) : tE L W ev σ H Q' := by
  obtain ⟨ι, ρ, h, rσ, rh, hq⟩ := q
  exact ⟨ι, ρ, h, rσ, rh, okA.mono hq w fun _ _ _ z => z⟩
/-- a test, then a branch -/
theorem tst_read {e : E} {k : Bool → PSt → PHeap → Fl} {σ : L2.St} {H : Hp} {D : Ends} (q : tS L W (fun ρ h => (evalE c e ρ h).fl ρ fun v h1 => orStuckF (truth h1 v) fun b => k b ρ h1) D σ H) :
    tT L W (tst c e) σ H fun b H1 => ∃ ι ρ h, RSt L ι H1 ρ σ ∧ RH L ι H1 h ∧ okF L ι H1 (k b ρ h) D W := by
  obtain ⟨ι, ρ, h, rσ, rh, hq⟩ := q
  have hq : okF L ι H ((evalE c e ρ h).fl ρ fun v h1 => orStuckF (truth h1 v) fun b => k b ρ h1) D W := hq
  refine ⟨ι, ρ, h, rσ, rh, ?_⟩
  unfold tst
  cases h3 : evalE c e ρ h with
  | ok w h1 =>
    rw [h3] at hq
    simp only [Res.fl] at hq
    obtain ⟨b, e1, q1⟩ := okF.got hq
    simp only [Res.bind, evT, e1, orStuck]
    intro ι1 H1 b' x1 rh1 eb
    subst eb
    exact ⟨ι1, ρ, h1, rσ.ext x1, rh1, okF.ext x1 q1⟩
  | exc x h1 =>
    rw [h3] at hq
    exact fun ι1 H1 cl d x1 rh1 rx => hq ι1 H1 σ cl d x1 rh1 (rσ.ext x1) rx
  | stuck => rw [h3] at hq; exact hq.elim
/-! ### assignments -/
theorem st_set (P : Px T L W X c v) (hk : v.sc.kind = .function) {i : Nat} {x : Str} {e : E} {a : Expr} {p pos : Pos} (h1 : stB v i x = true) (h2 : swN v x p a = true) (h3 : Sd L W X c e a) : PS X (.Assign [.Name x p] a pos) (tS L W (evalS c (.set i e))) := by
  obtain ⟨g1, g2, g3⟩ := P.A.st h1
  refine PS.imp (ps_set P.F.nd g1 g2 h3.pe (sw_name P.A hk h2) g3) fun D σ H q => ?_
  refine tE_mono (fl_read (k := fun v ρ h1 => .nx (ρ.set i (some v)) h1) (tS_cong (fun ρ h => by simp only [evalS]) q)) fun x H1 ⟨ι, w, ρ, h, rσ, rh, rv, q⟩ => ?_
  exact okF.nx q rh (rσ.set rv i)
theorem cmpr_of (P : Px T L W X c v) {e : E} {ea : Expr} {gs : List Comprehension} {scope : Scope} {pos : Pos} (h : chkE T e v (.ListComp ea gs scope pos) = true) :
    ∃ mu ex own ik its tg cd elt tga ita ifs, e = .cmpr mu ex own ik its tg cd elt ∧ gs = [⟨tga, ita, ifs, 0⟩] ∧ CmpOk T L W X c v ex own ik its tg cd elt ea tga ita ifs scope := by
  cases e <;> simp only [chkE] at h <;> first
    | (cases h; done)
    | (unfold lrArgs at h; cases h; done)
    | skip
  rename_i mu ex own ik its tg cd elt
  split at h
  · rename_i e0
    cases e0
    simp only [Bool.and_eq_true] at h
    obtain ⟨⟨⟨⟨⟨⟨⟨h0, hx⟩, h1⟩, h2⟩, h3⟩, h4⟩, h5⟩, h6⟩ := h
    split at h4
    · rename_i ys e4
      refine ⟨mu, ex, own, ik, its, tg, cd, elt, _, _, _, rfl, by rw [of_decide_eq_true h0], cmp_ok P.F P.A h1 h2 h3 e4 (sndEs its P h4) (fun z => P.lv (by rw [z] at hx; simpa using hx)) ?_ ⟨fun _ s H C cl fp => sndE elt (P.blk s H _ cl C fp) h6, fun _ Wb s H C cl fp xe tk => sndE elt (P.blkW s H _ cl C fp tk) h6⟩⟩
      split at h5
      · exact .inl ⟨rfl, h5⟩
      · rw [Bool.and_eq_true] at h5
        exact .inr ⟨_, rfl, by simpa using h5.1, fun _ s H C cl fp => sndE cd (P.blk s H _ cl C fp) h5.2, fun _ Wb s H C cl fp xe tk => sndE cd (P.blkW s H _ cl C fp tk) h5.2⟩
      · cases h5
    · cases h4
  · cases h
theorem st_setc (P : Px T L W X c v) (hk : v.sc.kind = .function) {i : Nat} {y : Str} {e : E} {ea : Expr} {gs : List Comprehension} {scope : Scope} {py pos spos : Pos} (h1 : v.N[i]? = some y) (h2 : kdB v.sc y .local = true) (h3 : (py.line == pos.line) = true)
    (h4 : (scope.names.any fun (n, k) => n == y && (k == .local || k == .cell)) = false) (h5 : chkE T e v (.ListComp ea gs scope pos) = true) : PS X (.Assign [.Name y py] (.ListComp ea gs scope pos) spos) (tS L W (evalS c (.setc i e))) := by
  obtain ⟨mu, ex, own, ik, its, tg, cd, elt, tga, ita, ifs, rfl, rfl, k⟩ := cmpr_of P h5
  have hk' : X.env.scope.kind = .function := by rw [P.A.sc]; exact hk
  have hy : X.env.scope.names.lookup y = some .local := by rw [P.A.sc]; exact kd_eq h2
  have fin : ∀ {D : Ends} {σ : L2.St} {H : Hp}, tS L W (evalS c (.setc i (.cmpr mu ex own ik its tg cd elt))) D σ H → tE L W (evalE c (.cmpr mu ex own ik its tg cd elt)) σ H fun x H1 => gName i x σ H1 D.nx := fun {D σ H} q =>
    tE_mono (fl_read (k := fun v ρ h1 => .nx (ρ.set i (some v)) h1) (tS_cong (fun ρ h => by simp only [evalS]) q)) fun x H1 ⟨ι, w, ρ, h, rσ, rh, rv, q⟩ => okF.nx q rh (rσ.set rv i)
  cases ex with
  | false =>
    refine PS.imp (ps_setLc P.F.calm P.F.nd (by rw [P.A.N]; exact h1) hy (sw_true hk' hy h3 h4) k.hi k.ok k.hg (k.ht rfl) (k.he rfl) k.hs) fun D σ H q => ?_
    rw [ownOf_ix]
    exact comp_read (ex := false) P.F.calm P.F.hK (mu := mu) k.ids (fun z => Bool.noConfusion z) (fin q)
  | true =>
    obtain ⟨l1, l2⟩ := k.lv rfl
    refine PS.imp (ps_setlcx (tt := fun σ => tCd L (fun c d _ H' => W c d σ H') c cd) (te := fun σ => tHid (tE L (fun c d _ H' => W c d σ H') (evalE c elt))) P.F.calm P.F.nd P.tk l1 l2 (by rw [P.A.N]; exact h1) hy (sw_true hk' hy h3 h4) k.hi k.ok k.hg (fun σ s H C cl fp xe t => k.htx rfl _ s H C cl fp xe t) (fun σ s H C cl fp xe t => k.hex rfl _ s H C cl fp xe t) k.hs) fun D σ H q => ?_
    rw [ownOf_ix]
    exact comp_read P.F.calm P.F.hK (mu := mu) k.ids (fun _ _ _ _ _ w => w) (fin q)
theorem gT_of {ι : List Addr} {H : Hp} {h : PHeap} {a : PV} {u : V} {ρ ρ' : PSt} {σ : L2.St} {tg : Rf.T} {Q : L2.St → Hp → Prop} (rv : RV L ι H a u) (rh : RH L ι H h) (rσ : RSt L ι H ρ σ) (e : bindT h tg a ρ = some ρ') (q : ∀ σ' H', Ext ι H ι H' → RH L ι H' h → RSt L ι H' ρ' σ' → Q σ' H') : gT L tg u σ H Q :=
  ⟨ι, h, a, ρ, ρ', none, [], fun _ z => (nomatch z), rv, rh, rσ, e, fun σ' H' x1 r1 r2 _ _ => q σ' H' x1 r1 r2⟩
theorem st_unp (P : Px T L W X c v) {tg : Rf.T} {e : E} {es : List Expr} {a : Expr} {k : Nat} {p pos : Pos} (h1 : notComp a = true) (h2 : parN v es a = true) (h3 : chkT v tg (.Tuple es k p) = true) (h4 : Sd L W X c e a) : PS X (.Assign [.Tuple es k p] a pos) (tS L W (evalS c (.unp tg e))) := by
  refine PS.imp (ps_asg h4.pe (sndT P.A P.F.nd P.F.calm P.F.hK tg _ h3) (swapsole h1) (ss_par P.A h2) rfl) fun D σ H q => ?_
  refine tE_mono (fl_read (k := fun v ρ h1 => orStuckF (bindT h1 tg v ρ) fun ρ' => .nx ρ' h1) (tS_cong (fun ρ h => by simp only [evalS]) q)) fun x H1 ⟨ι, w, ρ, h, rσ, rh, rv, q⟩ => ?_
  obtain ⟨ρ', e1, q1⟩ := okF.got q
  exact gT_of rv rh rσ e1 fun σ' H' x1 r1 r2 => okF.nx (okF.ext x1 q1) r1 r2
theorem swapped2 {x y : Str} {a b : Expr} {px py pt pt2 : Pos} {kt k2 : Nat} {env : Env} (hk : env.scope.kind = .function) (hx : env.scope.names.lookup x = some .local) (hy : env.scope.names.lookup y = some .local) (hxy : x ≠ y) (hl : (py.line == px.line) = true)
    (na : isStar a = false) (nb : isStar b = false) (nf : [a, b].all (foldedForSure 8) = false) (nc : [a, b].all (constantsAlone 8) = false) : swappedStores [.Tuple [.Name x px, .Name y py] kt pt] (.Tuple [a, b] k2 pt2) env = pure (some [x, y]) := by
  have kx : env.kindOf x = some .local := hx
  have ky : env.kindOf y = some .local := hy
  have hb : env.blockKind = .function := by unfold Env.blockKind; rw [hk]; rfl
  have e : (x == y) = false := by simpa using hxy
  have e' : (y == x) = false := by simpa using Ne.symm hxy
  have hd : ([x, y] : List Str).eraseDups = [x, y] := by
    simp [List.eraseDups, List.eraseDupsBy, List.eraseDupsBy.loop, e, e', List.any]
  unfold swappedStores
  simp only [hb, List.length_cons, List.length_nil]
  rw [if_neg (by decide), if_neg]
  · have l1 : (px.line == px.line) = true := beq_self_eq_true _
    have k1 : (some NameKind.local == some NameKind.local) = true := beq_self_eq_true _
    simp only [List.head?_cons, Option.map_some, Option.getD_some, Expr.pos, List.filterMap_cons, List.filterMap_nil, kx, ky, hl, l1, k1, Bool.and_self, if_true, hd, nf, nc]
    rfl
  · intro h
    simp only [List.any_cons, List.any_nil, Bool.or_false, Bool.or_eq_true] at h
    rcases h with h | h
    · split at h
      · cases na
      · cases h
    · split at h
      · cases nb
      · cases h
theorem st_par (P : Px T L W X c v) (hk : v.sc.kind = .function) {i j : Nat} {x y : Str} {e f : E} {a b : Expr} {px py pt pt2 pos : Pos} {kt k2 : Nat} (h1 : v.N[i]? = some x) (h2 : v.N[j]? = some y) (h3 : kdB v.sc x .local = true) (h4 : kdB v.sc y .local = true) (hxy : x ≠ y) (hl : (py.line == px.line) = true)
    (nf : [a, b].all (foldedForSure 8) = false) (nc : [a, b].all (constantsAlone 8) = false) (c1 : chkE T e v a = true) (c2 : chkE T f v b = true) (s1 : Sd L W X c e a) (s2 : Sd L W X c f b) (na : isStar a = false) (nb : isStar b = false) :
    PS X (.Assign [.Tuple [.Name x px, .Name y py] kt pt] (.Tuple [a, b] k2 pt2) pos) (tS L W (evalS c (.par i j e f))) := by
  have hk' : X.env.scope.kind = .function := by rw [P.A.sc]; exact hk
  have hx : X.env.scope.names.lookup x = some .local := by rw [P.A.sc]; exact kd_eq h3
  have hy : X.env.scope.names.lookup y = some .local := by rw [P.A.sc]; exact kd_eq h4
  have hij : i ≠ j := fun z => by rw [z, h2] at h1; cases h1; exact hxy rfl
  have pa : PA X [a, b] (tA L W (evalEs c [e, f])) := Sds.pa (.cons c1 s1 (.cons c2 s2 .nil))
  refine PS.imp (ps_par P.F.calm P.F.nd (by rw [P.A.N]; exact h1) (by rw [P.A.N]; exact h2) hij hx hy pa (swapped2 hk' hx hy hxy hl na nb nf nc) rfl) fun D σ H q => ?_
  obtain ⟨ι, ρ, h, rσ, rh, hq⟩ := q
  simp only [evalS] at hq
  refine ⟨ι, ρ, h, rσ, rh, ?_⟩
  simp only [evalEs]
  cases h5 : evalE c e ρ h with
  | stuck => rw [h5] at hq; exact hq.elim
  | exc x h1 =>
    rw [h5] at hq
    exact fun ι1 H1 cl d x1 rh1 rx => hq ι1 H1 σ cl d x1 rh1 (rσ.ext x1) rx
  | ok w1 h1 =>
    rw [h5] at hq
    simp only [Res.fl, Res.bind] at hq ⊢
    cases h6 : evalE c f ρ h1 with
    | stuck => rw [h6] at hq; exact hq.elim
    | exc x h2 =>
      rw [h6] at hq
      exact fun ι1 H1 cl d x1 rh1 rx => hq ι1 H1 σ cl d x1 rh1 (rσ.ext x1) rx
    | ok w2 h2 =>
      rw [h6] at hq
      simp only [Res.fl, Res.bind] at hq ⊢
      intro ι1 H1 us x1 rh1 rv
      obtain ⟨u1, u2, rfl, r1, r2⟩ := rv.two
      exact ⟨u1, u2, rfl, okF.nx (okF.ext x1 hq) rh1 (((rσ.ext x1).set r1 i).set r2 j)⟩
theorem st_seti (P : Px T L W X c v) {o i e : E} {oa ia a : Expr} {p pos : Pos} (h1 : notComp a = true) (h2 : isSlc ia = false) (s1 : Sd L W X c e a) (s2 : Sd L W X c o oa) (s3 : Sd L W X c i ia) : PS X (.Assign [.Subscript oa ia p] a pos) (tS L W (evalS c (.seti o i e))) := by
  have ha : ∀ v, assign (.Subscript oa ia p) X.env v = (do
      let ov ← holding [v] (eval oa X.env)
      let iv ← holding [v, ov] (eval ia X.env)
      standAt p
      holding [v, ov, iv] (setItem ov iv v)
      release [v, ov, iv] []) := fun v => by cases ia <;> first | rfl | (cases h2; done)
  refine PS.imp (ps_asg s1.pe (pg_sub s2.pe s3.pe (pset_o (L := L) (by have := P.F.hu; omega)) ha) (swapsole h1) ss_sub rfl) fun D σ H q => ?_
  refine tE_mono (fl_read (k := fun x ρ h1 => (evalE c o ρ h1).fl ρ fun v h2 => (evalE c i ρ h2).fl ρ fun w h3 => orStuckF (setOp v w x h3) fun h4 => .nx ρ h4) (tS_cong (fun ρ h => by simp only [evalS]) q)) fun x H1 ⟨ι, w, ρ, h, rσ, rh, rv, q⟩ => ?_
  refine ⟨ι, ρ, h, rσ, rh, okF.fl rσ q fun ι1 H2 h1 w1 u1 _ x1 rh1 rv1 q1 => ?_⟩
  refine ⟨ι1, ρ, h1, rσ.ext x1, rh1, okF.fl (rσ.ext x1) q1 fun ι2 H3 h2 w2 u2 _ x2 rh2 rv2 q2 => ?_⟩
  obtain ⟨h3, e3, q3⟩ := okF.got q2
  exact ⟨ι2, w1, w2, w, h2, h3, RV.ext x2 _ _ rv1, rv2, RV.ext x2 _ _ (RV.ext x1 _ _ rv), rh2, e3, fun ι' H' x3 rh3 => okF.nx (okF.ext x3 q3) rh3 (((rσ.ext x1).ext x2).ext x3)⟩
theorem pip_aug : ∀ o, PIp X (boO o) (rOf L (augOp o)) := by
  intro o
  rintro pins s σ H x y v u Q I rx ry ⟨ι, a, b, h, W', ra, rb, rh, hq⟩
  unfold augOp at hq
  split at hq
  · simp only [RV] at ra rb
    subst ra rb
    exact iop_add pins s σ H _ _ v u Q I rx ry ⟨_, _, rfl, rfl, okV.here hq rh (rv_int _)⟩
  · simp only [RV] at ra rb
    subst ra rb
    exact iop_sub pins s σ H _ _ v u Q I rx ry ⟨_, _, rfl, rfl, okV.here hq rh (rv_int _)⟩
  · obtain ⟨g, hq⟩ := okA.guard hq
    rw [szB_eq] at g
    simp only [RV] at ra rb
    obtain ⟨rfl, _⟩ := ra
    obtain ⟨rfl, _⟩ := rb
    refine iop_add_str pins s σ H _ _ v u Q I rx ry ⟨_, _, rfl, rfl, g, okV.here hq rh (rv_str ?_)⟩
    rw [show ∀ a b : Str, (a ++ b).length = a.length + b.length from fun a b => by show (a.cps ++ b.cps).size = _; rw [Array.size_append]; rfl]
    exact g
  · exact hq.elim
theorem st_aug (P : Px T L W X c v) {i : Nat} {o : BO} {x : Str} {e : E} {a : Expr} {p pos : Pos} (h1 : stB v i x = true) (s1 : Sd L W X c e a) : PS X (.AugAssign (.Name x p) (boO o) a pos) (tS L W (evalS c (.aug i o e))) := by
  obtain ⟨g1, g2, g3⟩ := P.A.st h1
  refine PS.imp (ps_aug P.F.nd g1 g2 s1.pe (pip_aug (L := L) o) g3) fun D σ H q => ?_
  obtain ⟨ι, ρ, h, rσ, rh, hq⟩ := q
  simp only [evalS] at hq
  split at hq
  · rename_i x0 e0
    obtain ⟨u0, e1, r0⟩ := rσ.2 i x0 e0
    refine ⟨u0, e1, ι, ρ, h, rσ, rh, okF.fl rσ hq fun ι1 H1 h1 w1 u1 _ x1 rh1 rv1 q1 => ?_⟩
    exact ⟨ι1, x0, w1, h1, _, RV.ext x1 _ _ r0, rv1, rh1, okF.fl (rσ.ext x1) q1 fun ι2 H2 h2 w2 u2 _ x2 rh2 rv2 q2 => okF.nx q2 rh2 (((rσ.ext x1).ext x2).set rv2 i)⟩
  · exact hq.elim
/-! ### the others -/
theorem st_ex (P : Px T L W X c v) {e : E} {a : Expr} {pos : Pos} (h1 : notComp a = true) (s1 : Sd L W X c e a) : PS X (.Expr a pos) (tS L W (evalS c (.ex e))) := by
  refine PS.imp (ps_expr s1.pe (sw_no h1)) fun D σ H q => ?_
  exact tE_mono (fl_read (k := fun _ ρ h1 => .nx ρ h1) (tS_cong (fun ρ h => by simp only [evalS]) q)) fun x H1 ⟨ι, w, ρ, h, rσ, rh, rv, q⟩ => okF.nx q rh rσ
theorem st_ret {e : E} {a : Expr} {pos : Pos} (s1 : Sd L W X c e a) : PS X (.Return (some a) pos) (tS L W (evalS c (.ret e))) := by
  refine PS.imp (ps_ret s1.pe) fun D σ H q => ?_
  exact tE_mono (fl_read (k := fun v _ h1 => .rt v h1) (tS_cong (fun ρ h => by simp only [evalS]) q)) fun x H1 ⟨ι, w, ρ, h, rσ, rh, rv, q⟩ => q ι H1 x (Ext.refl _ _) rh rv
theorem st_ret0 {pos : Pos} : PS X (.Return none pos) (tS L W (evalS c .ret0)) := by
  refine PS.imp ps_retN fun D σ H q => ?_
  obtain ⟨ι, ρ, h, rσ, rh, hq⟩ := q
  simp only [evalS] at hq
  exact hq ι H .non (Ext.refl _ _) rh rv_non
theorem st_if {t : E} {a : Expr} {p q : List S} {b d : List Stmt} {pos : Pos} (s1 : Sd L W X c t a) (h1 : PSs X b (tS L W (evalSs c p))) (h2 : PSs X d (tS L W (evalSs c q))) : PS X (.If a b d pos) (tS L W (evalS c (.ifs t p q))) := by
  refine PS.imp (ps_if s1.pt h1 h2) fun D σ H q' => ?_
  have q1 := tst_read (c := c) (e := t) (k := fun b ρ h1 => if b = true then evalSs c p ρ h1 else evalSs c q ρ h1) (tS_cong (fun ρ h => by simp only [evalS]) q')
  obtain ⟨ι, ρ, h, rσ, rh, hq⟩ := q1
  refine ⟨ι, ρ, h, rσ, rh, okA.mono hq (fun b H1 ⟨ι1, ρ1, h1, rσ1, rh1, q1⟩ => ?_) fun _ _ _ z => z⟩
  cases b with
  | true => exact ⟨ι1, ρ1, h1, rσ1, rh1, q1⟩
  | false => exact ⟨ι1, ρ1, h1, rσ1, rh1, q1⟩
theorem evs_walk {ik : IK} {its : List E} {k : Walk → PSt → PHeap → Fl} {σ : L2.St} {H : Hp} {D : Ends} (q : tS L W (fun ρ h => (evalEs c its ρ h).evs ρ fun vs h1 => orStuckF (walkOf ik vs h1) fun w => k w ρ h1) D σ H) :
    iW L W c ik its σ H fun J H1 => ∃ ι ρ h w, RSt L ι H1 ρ σ ∧ RH L ι H1 h ∧ WIt L ι H1 w J ∧ okF L ι H1 (k w ρ h) D W := by
  obtain ⟨ι, ρ, h, rσ, rh, hq⟩ := q
  have hq : okF L ι H ((evalEs c its ρ h).evs ρ fun vs h1 => orStuckF (walkOf ik vs h1) fun w => k w ρ h1) D W := hq
  refine ⟨ι, ρ, h, rσ, rh, ?_⟩
  unfold walkR
  cases h3 : evalEs c its ρ h with
  | ok vs h1 =>
    rw [h3] at hq
    simp only [Res.evs] at hq
    obtain ⟨w, e1, q1⟩ := okF.got hq
    simp only [Res.bind, e1, orStuck]
    intro ι1 H1 J x1 rh1 wit
    exact ⟨ι1, ρ, h1, w, rσ.ext x1, rh1, wit, okF.ext x1 q1⟩
  | exc x h1 =>
    rw [h3] at hq
    exact fun ι1 H1 cl d x1 rh1 rx => hq ι1 H1 σ cl d x1 rh1 (rσ.ext x1) rx
  | stuck => rw [h3] at hq; exact hq.elim
theorem st_for (P : Px T L W X c v) (hp : PassesOwn (model X.prog X.w) X.A X.env X.xe) {tg : Rf.T} {ik : IK} {its : List E} {b : List S} {tga ita : Expr} {body : List Stmt} {pos : Pos} (hg : PG X tga (gT L tg)) (hi : PI X tga ita (iW L W c ik its)) (hs : ∀ x, foldedSetIterable ita X.env x = pure x)
    (hb : PSs X body (tS L W (evalSs c b))) : PS X (.For tga ita body [] pos) (tS L W (evalS c (.for_ tg ik its b))) := by
  refine PS.imp (ps_for hp P.F.calm hi hg hb hs) fun D σ H q => ?_
  have q1 := evs_walk (c := c) (ik := ik) (its := its) (k := fun w ρ h1 => loopN w (fun x ρ2 h2 => orStuckF (bindT h2 tg x ρ2) fun ρ3 => evalSs c b ρ3 h2) (w.len h1 + 1) 0 ρ h1) (tS_cong (fun ρ h => by simp only [evalS]) q)
  obtain ⟨ι, ρ, h, rσ, rh, hq⟩ := q1
  refine ⟨ι, ρ, h, rσ, rh, okA.mono hq (fun J H1 ⟨ι1, ρ1, h1, w, rσ1, rh1, wit, q1⟩ => ?_) fun _ _ _ z => z⟩
  refine ⟨fun i m σ H => ∃ ι ρ h, Ext ι1 H1 ι H ∧ RSt L ι H ρ σ ∧ RH L ι H h ∧ okF L ι H (loopN w (fun x ρ2 h2 => orStuckF (bindT h2 tg x ρ2) fun ρ3 => evalSs c b ρ3 h2) m i ρ h) D W, ⟨_, ι1, ρ1, h1, Ext.refl _ _, rσ1, rh1, q1⟩, ?_⟩
  rintro i m σ2 H2 ⟨ι2, ρ2, h2, x2, rσ2, rh2, q2⟩
  cases m with
  | zero => exact q2.elim
  | succ m =>
    have ww := wit ι2 H2 H2 h2 x2 rh2 (Le.refl H2) i
    simp only [loopN] at q2
    cases hn : w.next i h2 with
    | none => rw [hn] at q2; exact q2.elim
    | some o =>
      rw [hn] at q2
      cases o with
      | none => exact .inl ⟨ww.1 hn, okF.nx q2 rh2 rσ2⟩
      | some x =>
        obtain ⟨go, yl⟩ := ww.2 x hn
        simp only at q2
        refine .inr ⟨go, fun σ H => ∃ ι ρ h, Ext ι1 H1 ι H ∧ RSt L ι H ρ σ ∧ RH L ι H h ∧ okF L ι H (loopN w (fun x ρ2 h2 => orStuckF (bindT h2 tg x ρ2) fun ρ3 => evalSs c b ρ3 h2) m (i + 1) ρ h) D W, fun σ' H' hh => ⟨m, Nat.lt_succ_self _, hh⟩, fun u H3 hy => ?_⟩
        obtain ⟨x3, rh3, rv3⟩ : Ext ι2 H2 ι2 H3 ∧ RH L ι2 H3 h2 ∧ RV L ι2 H3 x u := by
          rcases yl u H3 hy with ⟨rfl, rv⟩ | ⟨p, t, hp, rfl, rv⟩
          · exact ⟨Ext.refl _ _, rh2, rv⟩
          · exact ⟨Ext.new hp, rh2.new hp, rv⟩
        cases hbt : bindT h2 tg x ρ2 with
        | none => rw [hbt] at q2; exact q2.elim
        | some ρ3 =>
          rw [hbt] at q2
          simp only [orStuckF] at q2
          refine gT_of rv3 rh3 (rσ2.ext x3) hbt fun σ4 H4 x4 rh4 rσ4 => ?_
          have x24 := x3.trans x4
          refine ⟨ι2, ρ3, h2, rσ4, rh4, ?_⟩
          cases hf : evalSs c b ρ3 h2 with
          | nx ρ5 h5 =>
            rw [hf] at q2
            exact fun ι5 H5 σ5 x5 rh5 rσ5 => ⟨ι5, ρ5, h5, x2.trans (x24.trans x5), rσ5, rh5, okF.ext (x24.trans x5) q2⟩
          | ct ρ5 h5 =>
            rw [hf] at q2
            exact fun ι5 H5 σ5 x5 rh5 rσ5 => ⟨ι5, ρ5, h5, x2.trans (x24.trans x5), rσ5, rh5, okF.ext (x24.trans x5) q2⟩
          | bk ρ5 h5 =>
            rw [hf] at q2
            exact fun ι5 H5 σ5 x5 rh5 rσ5 => okF.nx (okF.ext (x24.trans x5) q2) rh5 rσ5
          | rt vv h5 =>
            rw [hf] at q2
            exact fun ι5 H5 u5 x5 rh5 rv5 => q2 ι5 H5 u5 (x24.trans x5) rh5 rv5
          | exc xx ρ5 h5 =>
            rw [hf] at q2
            exact fun ι5 H5 σ5 cl d x5 rh5 rσ5 rx => q2 ι5 H5 σ5 cl d (x24.trans x5) rh5 rσ5 rx
          | stuck => rw [hf] at q2; exact q2.elim
/-- behind a turn of while -/
def aftW (again : PSt → PHeap → Fl) (f : Fl) : Fl := match f with
  | .nx ρ' h' => again ρ' h'
  | .ct ρ' h' => again ρ' h'
  | .bk ρ' h' => .nx ρ' h'
  | f => f
theorem st_whl (P : Px T L W X c v) (hp : PassesOwn (model X.prog X.w) X.A X.env X.xe) {t : E} {b : List S} {a : Expr} {body : List Stmt} {pos : Pos} (s1 : Sd L W X c t a) (hb : PSs X body (tS L W (evalSs c b))) : PS X (.While a body [] pos) (tS L W (evalS c (.whl t b))) := by
  refine PS.imp (ps_while hp s1.pt hb) fun D σ H q => ?_
  obtain ⟨ι, ρ, h, rσ, rh, hq⟩ := q
  simp only [evalS] at hq
  refine ⟨fun m σ H => ∃ ι ρ h, RSt L ι H ρ σ ∧ RH L ι H h ∧ okF L ι H (whileN (evalE c t) (evalSs c b) m ρ h) D W, ⟨_, ι, ρ, h, rσ, rh, hq⟩, ?_⟩
  rintro m σ2 H2 ⟨ι2, ρ2, h2, rσ2, rh2, q2⟩
  cases m with
  | zero => exact q2.elim
  | succ m =>
    have q3 := tst_read (c := c) (e := t) (σ := σ2) (H := H2) (D := D) (k := fun k ρ h1 => if k = true then aftW (whileN (evalE c t) (evalSs c b) m) (evalSs c b ρ h1) else .nx ρ h1) ⟨ι2, ρ2, h2, rσ2, rh2, q2⟩
    obtain ⟨ι3, ρ3, h3, rσ3, rh3, hq3⟩ := q3
    refine ⟨ι3, ρ3, h3, rσ3, rh3, okA.mono hq3 (fun k H4 ⟨ι4, ρ4, h4, rσ4, rh4, q4⟩ => ?_) fun _ _ _ z => z⟩
    cases k with
    | false =>
      rw [if_neg Bool.false_ne_true] at q4 ⊢
      exact okF.nx q4 rh4 rσ4
    | true =>
      rw [if_pos rfl] at q4 ⊢
      unfold aftW at q4
      refine ⟨fun σ H => ∃ ι ρ h, RSt L ι H ρ σ ∧ RH L ι H h ∧ okF L ι H (whileN (evalE c t) (evalSs c b) m ρ h) D W, fun σ' H' hh => ⟨m, Nat.lt_succ_self _, hh⟩, ι4, ρ4, h4, rσ4, rh4, ?_⟩
      cases hf : evalSs c b ρ4 h4 with
      | nx ρ5 h5 =>
        rw [hf] at q4
        exact fun ι5 H5 σ5 x5 rh5 rσ5 => ⟨ι5, ρ5, h5, rσ5, rh5, okF.ext x5 q4⟩
      | ct ρ5 h5 =>
        rw [hf] at q4
        exact fun ι5 H5 σ5 x5 rh5 rσ5 => ⟨ι5, ρ5, h5, rσ5, rh5, okF.ext x5 q4⟩
      | bk ρ5 h5 =>
        rw [hf] at q4
        exact fun ι5 H5 σ5 x5 rh5 rσ5 => okF.nx (okF.ext x5 q4) rh5 rσ5
      | rt vv h5 =>
        rw [hf] at q4
        exact fun ι5 H5 u5 x5 rh5 rv5 => q4 ι5 H5 u5 x5 rh5 rv5
      | exc xx ρ5 h5 =>
        rw [hf] at q4
        exact fun ι5 H5 σ5 cl d x5 rh5 rσ5 rx => q4 ι5 H5 σ5 cl d x5 rh5 rσ5 rx
      | stuck => rw [hf] at q4; exact q4.elim
end
/-! ### raise, try -/
section
variable {T : Tab} {L : Lk} {W : WX} {X : Cx} {c : Call} {v : Vw}
theorem exB_at (F : Fx T L c X) {k : Nat} {x : Str} (h : exB T k x = true) : ∃ sups, T.exs[k]? = some (x, sups) ∧ ExAt T L X.mg k x sups := by
  unfold exB at h
  split at h
  · rename_i p e
    obtain ⟨y, sups⟩ := p
    have e2 := of_decide_eq_true h
    simp only at e2
    subst e2
    exact ⟨sups, e, F.exs k _ e⟩
  · cases h
theorem sups_at {j : Nat} {y : Str} {sups : List Nat} (e : T.exs[j]? = some (y, sups)) (k : Nat) : subX T.sups j k = sups.contains k := by
  unfold subX Tab.sups
  rw [List.getD_eq_getElem?_getD, List.getElem?_map, e]
  rfl
theorem st_rs (P : Px T L W X c v) {k : Nat} {x m : Str} {j : Nat} {p p2 cpos pos : Pos} (h1 : exB T k x = true) (h2 : glB v x = true) : PS X (.Raise (some (.Call (.Name x p) [.Constant (.str m) j p2] [] cpos)) none pos) (tS L W (evalS c (.rs k))) := by
  obtain ⟨sups, e, A⟩ := exB_at P.F h1
  obtain ⟨g1, g2⟩ := P.A.gl h2
  have hK := P.F.hK
  refine PS.imp (ps_raise P.F.calm P.tk (pmk_own PySem.F.excBase_ValueError (by rw [hK]; exact A.q) A.g (by rw [hK]; exact A.kp) (raises_own (by rw [hK]; exact A.b) (by rw [hK]; exact A.t)) g1 g2)) fun D σ H q => ?_
  obtain ⟨ι, ρ, h, rσ, rh, hq⟩ := q
  simp only [evalS] at hq
  exact hq ι H σ _ none (Ext.refl _ _) rh rσ ⟨rfl, rfl⟩
/-- what a suite of one return says -/
def tQ (L : Lk) (T : Tab) (nm : Option Nat) (a : Addr) (cls : Value) (d : Option Addr) (q : Qx) : TE := fun σ H Q => d = none ∧ (∀ i, nm = some i → i < σ.length → σ[i]? = some (some (.ref a))) ∧ ∃ j w, cls = .ref (L.cA j) ∧ j < T.exs.length ∧ evQ T.sups j q = some w ∧ ∀ u, (∀ ι H, RV L ι H w u) → Q u H
/-- as a test -/
def tQT (L : Lk) (T : Tab) (nm : Option Nat) (a : Addr) (cls : Value) (d : Option Addr) (q : Qx) : TT := fun σ H Q => d = none ∧ (∀ i, nm = some i → i < σ.length → σ[i]? = some (some (.ref a))) ∧ ∃ j b, cls = .ref (L.cA j) ∧ j < T.exs.length ∧ evQ T.sups j q = some (.bl b) ∧ Q b H
theorem tQ_B {nm : Option Nat} {a : Addr} {cls : Value} {d : Option Addr} {q : Qx} {σ : L2.St} {H : Hp} {Q : Bool → Hp → Prop} (h : tQT L T nm a cls d q σ H Q) : tB (tQ L T nm a cls d q) σ H Q := by
  obtain ⟨hd, hs, j, b, hc, hj, e3, qq⟩ := h
  refine ⟨hd, hs, j, _, hc, hj, e3, fun u r => ?_⟩
  have := r [] H
  simp only [RV] at this
  exact ⟨b, this, qq⟩
theorem tQ_V {nm : Option Nat} {a : Addr} {cls : Value} {d : Option Addr} {q : Qx} {σ : L2.St} {H : Hp} {k : V → Hp → Prop} (hd : d = none) (hs : ∀ i, nm = some i → i < σ.length → σ[i]? = some (some (.ref a))) {j : Nat} {b : Bool} (hc : cls = .ref (L.cA j)) (hj : j < T.exs.length) (e3 : evQ T.sups j q = some (.bl b)) (h : k (.bl b) H) : tQ L T nm a cls d q σ H k := by
  refine ⟨hd, hs, j, _, hc, hj, e3, fun u r => ?_⟩
  have := r [] H
  simp only [RV] at this
  rw [this]
  exact h
theorem sndQ (P : Px T L W X c v) {nm : Option Nat} {a : Addr} {oe : Obj} {cls : Value} {d : Option Addr} {pn : List (Addr × Obj)} (hz : Zc cls d oe) (hf : ∃ vs, oe.data = .fields vs) : ∀ (q : Qx) (e : Expr), chkQ T v nm q e = true → PE (X.suite a ((a, oe) :: pn)) e (tQ L T nm a cls d q) ∧ PT (X.suite a ((a, oe) :: pn)) e (tQT L T nm a cls d q)
  | .cst w, e, h => by
    simp only [chkQ] at h
    split at h
    · rename_i k j0 p0
      rw [Bool.and_eq_true] at h
      have hc := h.1
      have val : PE (X.suite a ((a, oe) :: pn)) (.Constant k j0 p0) (tQ L T nm a cls d (.cst w)) := by
        unfold cstB at hc
        split at hc
        · refine PE.imp pe_non fun σ H Q ⟨_, _, j, w2, _, _, e3, q⟩ => ?_
          simp only [evQ] at e3; cases e3
          exact q _ fun _ _ => rv_non
        · cases eq_of_beq hc
          refine PE.imp pe_bl fun σ H Q ⟨_, _, j, w2, _, _, e3, q⟩ => ?_
          simp only [evQ] at e3; cases e3
          exact q _ fun _ _ => rv_bl _
        · cases of_decide_eq_true hc
          refine PE.imp pe_int fun σ H Q ⟨_, _, j, w2, _, _, e3, q⟩ => ?_
          simp only [evQ] at e3; cases e3
          exact q _ fun _ _ => rv_int _
        · rw [Bool.and_eq_true] at hc
          cases of_decide_eq_true hc.1
          refine PE.imp pe_str fun σ H Q ⟨_, _, j, w2, _, _, e3, q⟩ => ?_
          simp only [evQ] at e3; cases e3
          exact q _ fun _ _ => rv_str (by rw [← szB_eq]; exact of_decide_eq_true hc.2)
        · cases h.2
        · cases hc
      exact ⟨val, PT.imp (pt_val val (fun _ => rfl)) fun σ H Q q => tQ_B q⟩
    · cases h
  | .is k, e, h => by
    simp only [chkQ] at h
    split at h
    · rename_i f p1 y p2 x p3 p4
      simp only [Bool.and_eq_true] at h
      obtain ⟨⟨⟨⟨h1, h2⟩, h3⟩, h4⟩, h5⟩ := h
      cases of_decide_eq_true h1
      obtain ⟨b1, b2, b3⟩ := P.A.bi P.F h2
      obtain ⟨sups, ek, Ak⟩ := exB_at P.F h3
      obtain ⟨g1, g2⟩ := P.A.gl h4
      split at h5
      · rename_i i
        have hK := P.F.hK
        have pv : PE (X.suite a ((a, oe) :: pn)) (.Name y p2) (tVar i) := At.ld (X := X.suite a ((a, oe) :: pn)) ⟨P.A.N, P.A.sc, P.A.fn⟩ h5
        have val : PE (X.suite a ((a, oe) :: pn)) (.Call (.Name "isinstance" p1) [.Name y p2, .Name x p3] [] p4) (tQ L T (some i) a cls d (.is k)) := by
          refine ⟨fun pins s σ H Q I q => ?_⟩
          obtain ⟨rfl, hs, j, w, rfl, hj, e3, q⟩ := q
          have pg : PE (X.suite a ((a, oe) :: pn)) (.Name x p3) (tC (.ref (L.cA k))) := pe_glob (X := X.suite a ((a, oe) :: pn)) (u := .ref (L.cA k)) g1 Ak.g rfl g2
          have Aj := P.F.exs j _ (List.getElem?_eq_getElem hj)
          have cl := call_isE (X := X) (a := a) (D := L.cA j) (oe := oe) (pn := pn) (by rw [hK]; exact Aj.ec) hz hf
          refine (pe_callB cl b1 b2 (by decide +kernel) (pa_cons pv (pa_cons pg pa_nil)) (by decide) b3).run pins s σ H Q I ?_
          have hi : i < σ.length := by
            have hN : X.N[i]? = some y := by
              rw [P.A.N]
              unfold ldB at h5
              simp only [Bool.and_eq_true] at h5
              exact of_decide_eq_true h5.1.1.1
            have z := (List.getElem?_eq_some_iff.mp hN).1
            have z2 : σ.length = X.N.length := I.len
            omega
          refine ⟨.ref a, hs i rfl hi, .ref (L.cA k), .ref (L.cA k), subX T.sups j k, rfl, fun u r => by cases r; rfl, ?_, q (.bl (subX T.sups j k)) fun ι H => ?_⟩
          · show PySem.W.kitOne X.K _ _ = _
            rw [hK, sups_at (List.getElem?_eq_getElem hj)]; exact (Aj.sub k _ ek).2
          · simp only [evQ] at e3
            split at e3
            · cases e3
              exact rv_bl _
            · cases e3
        exact ⟨val, PT.imp (pt_val val (fun _ => rfl)) fun σ H Q q => tQ_B q⟩
      · cases h5
    · cases h
  | .not q, e, h => by
    simp only [chkQ] at h
    split at h
    · obtain ⟨i1, i2⟩ := sndQ P hz hf q _ h
      have inner : ∀ {j : Nat} {w : PV}, evQ T.sups j (.not q) = some w → ∃ b, evQ T.sups j q = some (.bl b) ∧ w = .bl (!b) := fun {j w} e3 => by
        simp only [evQ] at e3
        split at e3
        · rename_i b e4
          cases e3
          exact ⟨b, e4, rfl⟩
        · cases e3
      refine ⟨PE.imp (pe_not i1) fun σ H Q ⟨hd, hs, j, w, hc, hj, e3, qq⟩ => ?_, PT.imp (pt_not i2) fun σ H Q ⟨hd, hs, j, b, hc, hj, e3, qq⟩ => ?_⟩
      · obtain ⟨b, e4, rfl⟩ := inner e3
        exact tQ_V hd hs hc hj e4 ⟨b, rfl, qq _ fun _ _ => rv_bl _⟩
      · obtain ⟨b', e4, e5⟩ := inner e3
        cases e5
        exact ⟨hd, hs, j, b', hc, hj, e4, qq⟩
    · cases h
  | .and p q, e, h => by
    simp only [chkQ] at h
    split at h
    · rw [Bool.and_eq_true] at h
      obtain ⟨i1, i2⟩ := sndQ P hz hf p _ h.1
      obtain ⟨k1, k2⟩ := sndQ P hz hf q _ h.2
      have inner : ∀ {j : Nat} {w : PV}, evQ T.sups j (.and p q) = some w → (evQ T.sups j p = some (.bl true) ∧ evQ T.sups j q = some w) ∨ (evQ T.sups j p = some (.bl false) ∧ w = .bl false) := fun {j w} e3 => by
        simp only [evQ] at e3
        split at e3
        · rename_i e4; exact .inl ⟨e4, e3⟩
        · rename_i e4; cases e3; exact .inr ⟨e4, rfl⟩
        · cases e3
      refine ⟨PE.imp (pe_and i1 (pe_one k1)) fun σ H Q ⟨hd, hs, j, w, hc, hj, e3, qq⟩ => ?_, PT.imp (PW.pt (pw_and i2 (pw_and1 k2))) fun σ H Q ⟨hd, hs, j, b, hc, hj, e3, qq⟩ => ?_⟩
      · rcases inner e3 with ⟨e4, e5⟩ | ⟨e4, rfl⟩
        · exact tQ_V hd hs hc hj e4 ⟨true, rfl, by rw [if_pos rfl]; exact ⟨hd, hs, j, w, hc, hj, e5, qq⟩⟩
        · exact tQ_V hd hs hc hj e4 ⟨false, rfl, by rw [if_neg Bool.false_ne_true]; exact qq _ fun _ _ => rv_bl _⟩
      · rcases inner e3 with ⟨e4, e5⟩ | ⟨e4, e5⟩
        · exact ⟨hd, hs, j, true, hc, hj, e4, hd, hs, j, b, hc, hj, e5, qq⟩
        · cases e5
          exact ⟨hd, hs, j, false, hc, hj, e4, qq⟩
    · cases h
  | .ite t p q, e, h => by
    simp only [chkQ] at h
    split at h
    · simp only [Bool.and_eq_true] at h
      obtain ⟨⟨h1, h2⟩, h3⟩ := h
      obtain ⟨t1, t2⟩ := sndQ P hz hf t _ h1
      obtain ⟨i1, i2⟩ := sndQ P hz hf p _ h2
      obtain ⟨k1, k2⟩ := sndQ P hz hf q _ h3
      have inner : ∀ {j : Nat} {w : PV}, evQ T.sups j (.ite t p q) = some w → (evQ T.sups j t = some (.bl true) ∧ evQ T.sups j p = some w) ∨ (evQ T.sups j t = some (.bl false) ∧ evQ T.sups j q = some w) := fun {j w} e3 => by
        simp only [evQ] at e3
        split at e3
        · rename_i e4; exact .inl ⟨e4, e3⟩
        · rename_i e4; exact .inr ⟨e4, e3⟩
        · cases e3
      refine ⟨PE.imp (pe_ifExp t2 i1 k1) fun σ H Q ⟨hd, hs, j, w, hc, hj, e3, qq⟩ => ?_, PT.imp (pt_ifExp' t2 i2 k2) fun σ H Q ⟨hd, hs, j, b, hc, hj, e3, qq⟩ => ?_⟩
      · rcases inner e3 with ⟨e4, e5⟩ | ⟨e4, e5⟩
        · exact ⟨hd, hs, j, true, hc, hj, e4, hd, hs, j, w, hc, hj, e5, qq⟩
        · exact ⟨hd, hs, j, false, hc, hj, e4, hd, hs, j, w, hc, hj, e5, qq⟩
      · rcases inner e3 with ⟨e4, e5⟩ | ⟨e4, e5⟩
        · exact ⟨hd, hs, j, true, hc, hj, e4, hd, hs, j, b, hc, hj, e5, qq⟩
        · exact ⟨hd, hs, j, false, hc, hj, e4, hd, hs, j, b, hc, hj, e5, qq⟩
    · cases h
theorem exm_at {T : Tab} (P : Px T L W X c v) {k j : Nat} {x : Str} {sups : List Nat} (ek : T.exs[k]? = some (x, sups)) (hj : j < T.exs.length) : PySem.W.exmOne X.K (.ref (L.cA j)) (.ref (L.cA k)) = some (subX T.sups j k) := by
  have Aj := P.F.exs j _ (List.getElem?_eq_getElem hj)
  have Ak := P.F.exs k _ ek
  rw [P.F.hK, sups_at (List.getElem?_eq_getElem hj)]
  exact PySem.W.exm_ref Ak.b Ak.ec.hd Ak.t (Aj.sub k _ ek).1
theorem st_tryq (P : Px T L W X c v) (ht : v.top = true) (hk : v.sc.kind = .function) {b : List S} {k : Nat} {nm : Option Nat} {q : Qx} {x : Str} {n : Option Str} {e : Expr} {body : List Stmt} {p p2 p3 pos : Pos} (h1 : exB T k x = true) (h2 : glB v x = true) (h3 : nmB v nm n = true) (h4 : chkQ T v nm q e = true)
    (hb : ∀ (W2 : WX) (pn : List (Addr × Obj)) (xe : Value → Shared → Prop), Takes (X.tr pn xe) W2 → PassesOwn (model X.prog X.w) X.A X.env xe → PSs (X.tr pn xe) body (tS L W2 (evalSs c b))) :
    PS X (.Try body [.ExceptHandler (some (.Name x p)) n [.Return (some e) p2] p3] [] [] pos) (tS L W (evalS c (.tryq b k nm T.sups q))) := by
  obtain ⟨sups, ek, Ak⟩ := exB_at P.F h1
  obtain ⟨g1, g2⟩ := P.A.gl h2
  obtain ⟨l1, l2⟩ := P.lv ht
  have names : Names X x (.ref (L.cA k)) := ⟨g1, g2, .inl Ak.g⟩
  have hlen : T.sups.length = T.exs.length := by unfold Tab.sups; rw [List.length_map]
  have suite : ∀ (a : Addr) (oe : Obj) (cls : Value) (d : Option Addr) (pn : List (Addr × Obj)), Zc cls d oe → (∃ vs, oe.data = .fields vs) → PSs (X.suite a ((a, oe) :: pn)) [.Return (some e) p2] (tRet (tQ L T nm a cls d q)) := fun a oe cls d pn hz hf => pss_one (ps_ret (sndQ P hz hf q e h4).1)
  -- the body's end, from the whole's
  have body_of : ∀ {Wt : WX} {D : Ends} {σ : L2.St} {H : Hp}, tS L W (evalS c (.tryq b k nm T.sups q)) D σ H → (∀ ι' H' σ' cls d (x : PX), RX L ι' H' x cls d → x.fs.isNone = true → x.cls < T.exs.length →
        (subX T.sups x.cls k = true → ∃ w, evQ T.sups x.cls q = some w ∧ ∀ u, (∀ ι H, RV L ι H w u) → D.rt u H') → (subX T.sups x.cls k = false → W cls d σ' H') → Wt cls d σ' H') → tS L Wt (evalSs c b) D σ H := fun {Wt D σ H} hq hw => by
    obtain ⟨ι, ρ, h, rσ, rh, hq⟩ := hq
    simp only [evalS] at hq
    refine ⟨ι, ρ, h, rσ, rh, ?_⟩
    cases hf : evalSs c b ρ h with
    | nx ρ5 h5 => rw [hf] at hq; exact hq
    | bk ρ5 h5 => rw [hf] at hq; exact hq
    | ct ρ5 h5 => rw [hf] at hq; exact hq
    | rt vv h5 => rw [hf] at hq; exact hq
    | stuck => rw [hf] at hq; exact hq.elim
    | exc xx ρ5 h5 =>
      rw [hf] at hq
      unfold tryF at hq
      simp only at hq
      split at hq
      · rename_i hx
        intro ι5 H5 σ5 cl d x5 rh5 rσ5 rx
        refine hw ι5 H5 σ5 cl d xx rx hx.2 (by rw [← hlen]; exact hx.1) (fun hs => ?_) (fun hs => ?_)
        · rw [if_pos hs] at hq
          split at hq
          · rename_i w ew
            exact ⟨w, ew, fun u hu => hq ι5 H5 u x5 rh5 (hu _ _)⟩
          · exact hq.elim
        · rw [if_neg (by rw [hs]; exact Bool.false_ne_true)] at hq
          exact hq ι5 H5 σ5 cl d x5 rh5 rσ5 rx
      · exact hq.elim
  cases nm with
  | none =>
    cases n with
    | some _ => cases h3
    | none =>
      refine PS.imp (ps_try_only l1 l2 names P.tk hb suite) fun D σ H hq => ?_
      refine body_of hq fun ι' H' σ' cls d xx rx hn hl hy hno => ?_
      obtain ⟨rfl, rd⟩ := rx
      have dn : d = none := by
        cases hfs : xx.fs with
        | none => rw [hfs] at rd; exact rd
        | some _ => rw [hfs] at hn; cases hn
      refine ⟨_, exm_at P ek hl, fun hs a na => ?_, hno⟩
      obtain ⟨w, ew, hw⟩ := hy hs
      exact ⟨dn, (fun i z => by cases z), xx.cls, w, rfl, hl, ew, hw⟩
  | some i =>
    cases n with
    | none => cases h3
    | some y =>
      simp only [nmB, Bool.and_eq_true] at h3
      have hy : X.N[i]? = some y := by rw [P.A.N]; exact of_decide_eq_true h3.1
      have hl : X.env.kindOf y = some .local := by show X.env.scope.names.lookup y = _; rw [P.A.sc]; exact kd_eq h3.2
      refine PS.imp (ps_try_as l1 l2 P.F.nd hy hl names P.tk hb suite) fun D σ H hq => ?_
      refine body_of hq fun ι' H' σ' cls d xx rx hn hlt hyy hno => ?_
      obtain ⟨rfl, rd⟩ := rx
      have dn : d = none := by
        cases hfs : xx.fs with
        | none => rw [hfs] at rd; exact rd
        | some _ => rw [hfs] at hn; cases hn
      refine ⟨_, exm_at P ek hlt, fun hs a na => ?_, hno⟩
      obtain ⟨w, ew, hw⟩ := hyy hs
      refine ⟨dn, fun i2 z hl2 => ?_, xx.cls, w, rfl, hlt, ew, hw⟩
      cases z
      rw [List.length_set] at hl2
      exact List.getElem?_set_self hl2
end
/-- no star where the check passes -/
theorem chk_star {T : Tab} {v : Vw} {e : E} {a : Expr} (h : chkE T e v a = true) : isStar a = false := by
  cases a <;> first | rfl | (exfalso; cases e <;> simp only [chkE] at h <;> first | cases h | (unfold lrArgs at h; cases h))
section
variable {T : Tab} {L : Lk} {c : Call} {v : Vw}
mutual
theorem sndS {W : WX} {X : Cx} (P : Px T L W X c v) (hk : v.sc.kind = .function) (hp : PassesOwn (model X.prog X.w) X.A X.env X.xe) : ∀ (s : S) (st : Stmt), chkS T s v st = true → PS X st (tS L W (evalS c s))
  | .set i e, st, h => by
    simp only [chkS] at h
    split at h
    · obtain ⟨h1, h2, h3⟩ := and3 h
      exact st_set P hk h1 h2 (sndE e P h3)
    · cases h
  | .setc i e, st, h => by
    simp only [chkS] at h
    split at h
    · simp only [Bool.and_eq_true] at h
      obtain ⟨⟨⟨⟨h1, h2⟩, h3⟩, h4⟩, h5⟩ := h
      exact st_setc P hk (of_decide_eq_true h1) h2 h3 (by simpa using h4) h5
    · cases h
  | .unp tg e, st, h => by
    simp only [chkS] at h
    split at h
    · simp only [Bool.and_eq_true] at h
      obtain ⟨⟨⟨h1, h2⟩, h3⟩, h4⟩ := h
      exact st_unp P h1 h2 h3 (sndE e P h4)
    · cases h
  | .par i j e f, st, h => by
    simp only [chkS] at h
    split at h
    · simp only [Bool.and_eq_true] at h
      obtain ⟨⟨⟨⟨⟨⟨⟨⟨⟨h1, h2⟩, h3⟩, h4⟩, h5⟩, h6⟩, h7⟩, h8⟩, h9⟩, h10⟩ := h
      exact st_par P hk (of_decide_eq_true h1) (of_decide_eq_true h2) h3 h4 (by simpa using h5) h6 (by rw [← Bool.not_eq_true']; exact h7) (by rw [← Bool.not_eq_true']; exact h8) h9 h10 (sndE e P h9) (sndE f P h10) (chk_star h9) (chk_star h10)
    · cases h
  | .seti o i e, st, h => by
    simp only [chkS] at h
    split at h
    · simp only [Bool.and_eq_true] at h
      obtain ⟨⟨⟨⟨⟨h1, h2⟩, h3⟩, h4⟩, h5⟩, h6⟩ := h
      exact st_seti P h1 (by simpa using h3) (sndE e P h4) (sndE o P h5) (sndE i P h6)
    · cases h
  | .aug i o e, st, h => by
    simp only [chkS] at h
    split at h
    · obtain ⟨h1, h2, h3⟩ := and3 h
      rw [of_decide_eq_true h2]
      exact st_aug P h1 (sndE e P h3)
    · cases h
  | .ex e, st, h => by
    simp only [chkS] at h
    split at h
    · rw [Bool.and_eq_true] at h
      exact st_ex P h.1 (sndE e P h.2)
    · cases h
  | .ret e, st, h => by
    simp only [chkS] at h
    split at h
    · exact st_ret (sndE e P h)
    · cases h
  | .ret0, st, h => by
    simp only [chkS] at h
    split at h
    · exact st_ret0
    · cases h
  | .ifs t p q, st, h => by
    simp only [chkS] at h
    split at h
    · obtain ⟨h1, h2, h3⟩ := and3 h
      exact st_if (sndE t P h1) (sndSs P hk hp p _ h2) (sndSs P hk hp q _ h3)
    · cases h
  | .for_ tg ik its b, st, h => by
    simp only [chkS] at h
    split at h
    · obtain ⟨h1, h2, h3⟩ := and3 h
      split at h2
      · rename_i ys e4
        obtain ⟨i1, i2⟩ := iter_ok P.F P.A e4 (sndEs its P h2)
        exact st_for P hp (sndT P.A P.F.nd P.F.calm P.F.hK tg _ h1) i1 i2 (sndSs P hk hp b _ h3)
      · cases h2
    · cases h
  | .whl t b, st, h => by
    simp only [chkS] at h
    split at h
    · rw [Bool.and_eq_true] at h
      exact st_whl P hp (sndE t P h.1) (sndSs P hk hp b _ h.2)
    · cases h
  | .pas, st, h => by
    simp only [chkS] at h
    split at h
    · exact PS.imp ps_pass fun D σ H ⟨ι, ρ, h, rσ, rh, hq⟩ => okF.nx (by simpa only [evalS] using hq) rh rσ
    · exact PS.imp ps_doc fun D σ H ⟨ι, ρ, h, rσ, rh, hq⟩ => okF.nx (by simpa only [evalS] using hq) rh rσ
    · cases h
  | .brk, st, h => by
    simp only [chkS] at h
    split at h
    · refine PS.imp ps_break fun D σ H ⟨ι, ρ, h, rσ, rh, hq⟩ => ?_
      simp only [evalS] at hq
      exact hq ι H σ (Ext.refl _ _) rh rσ
    · cases h
  | .cnt, st, h => by
    simp only [chkS] at h
    split at h
    · refine PS.imp ps_continue fun D σ H ⟨ι, ρ, h, rσ, rh, hq⟩ => ?_
      simp only [evalS] at hq
      exact hq ι H σ (Ext.refl _ _) rh rσ
    · cases h
  | .rs k, st, h => by
    simp only [chkS] at h
    split at h
    · rw [Bool.and_eq_true] at h
      exact st_rs P h.1 h.2
    · cases h
  | .tryq b k nm sups q, st, h => by
    simp only [chkS] at h
    split at h
    · simp only [Bool.and_eq_true] at h
      obtain ⟨⟨⟨⟨⟨⟨h0, h1⟩, h2⟩, h3⟩, h4⟩, h5⟩, h6⟩ := h
      cases of_decide_eq_true h1
      exact st_tryq P h0 hk h2 h3 h4 h5 fun W2 pn xe tk hp2 => sndSs (X := X.tr pn xe) ⟨⟨P.F.hK, P.F.calm, P.F.nd, P.F.hu, P.F.hg, P.F.bis, P.F.gls, P.F.fns, P.F.exs⟩, ⟨P.A.N, P.A.sc, P.A.fn⟩, tk, P.lv⟩ hk hp2 b _ h6
    · cases h
  | .nvr, st, h => PS.imp ps_never fun D σ H ⟨ι, ρ, h, rσ, rh, hq⟩ => by
    simp only [evalS] at hq
    exact hq
theorem sndSs {W : WX} {X : Cx} (P : Px T L W X c v) (hk : v.sc.kind = .function) (hp : PassesOwn (model X.prog X.w) X.A X.env X.xe) : ∀ (ss : List S) (sts : List Stmt), chkSs T ss v sts = true → PSs X sts (tS L W (evalSs c ss))
  | [], [], _ => PSs.imp pss_nil fun D σ H ⟨ι, ρ, h, rσ, rh, hq⟩ => okF.nx (by simpa only [evalSs] using hq) rh rσ
  | s :: ss, st :: sts, h => by
    simp only [chkSs, Bool.and_eq_true] at h
    refine PSs.imp (pss_cons (sndS P hk hp s st h.1) (sndSs P hk hp ss sts h.2)) fun D σ H q => ?_
    obtain ⟨ι, ρ, h, rσ, rh, hq⟩ := q
    simp only [evalSs] at hq
    refine ⟨ι, ρ, h, rσ, rh, ?_⟩
    cases hf : evalS c s ρ h with
    | nx ρ5 h5 =>
      rw [hf] at hq
      exact fun ι5 H5 σ5 x5 rh5 rσ5 => ⟨ι5, ρ5, h5, rσ5, rh5, okF.ext x5 hq⟩
    | ct ρ5 h5 => rw [hf] at hq; exact hq
    | bk ρ5 h5 => rw [hf] at hq; exact hq
    | rt vv h5 => rw [hf] at hq; exact hq
    | exc xx ρ5 h5 => rw [hf] at hq; exact hq
    | stuck => rw [hf] at hq; exact hq.elim
  | [], _ :: _, h => by simp only [chkSs] at h; cases h
  | _ :: _, [], h => by simp only [chkSs] at h; cases h
end
end
end Rf
end

section
set_option Elab.async false
set_option linter.all false
set_option maxRecDepth 100000
set_option maxHeartbeats 4000000
namespace Rf
open PySem PySem.Spec L2
open PyProof.Rows (envOfC AllBare IntsAre)
/-- what the head finds of a def -/
def DefAt (T : Tab) (K : PySem.W.Frag) (mg : Str → Option Value) (tb : Nat → Option Def) (f : Nat) (x : Str) : Prop :=
  ∃ (a : Addr) (qual : Str) (st : Stmt) (fd : FuncData) (N ps : List Str) (d : Def), mg x = some (.ref a) ∧ Fun K x qual st a fd ∧ Binds K fd ps [] ∧ tb f = some d ∧ chkD T d N ps (defScope st) (defBody st) = true
structure Prog (T : Tab) (L : Lk) (mg : Str → Option Value) (tb : Nat → Option Def) : Prop where
  bis : ∀ x, x ∈ T.bis → mg x = none
  gls : ∀ p, p ∈ T.gls → ∃ w u, mg p.1 = some w ∧ RelV u w ∧ ∀ ι H, RV L ι H p.2 u
  fns : ∀ f x, T.fns[f]? = some x → DefAt T L.K mg tb f x
  exs : ∀ k p, T.exs[k]? = some p → ExAt T L mg k p.1 p.2
theorem scB_ok {v : Vw} {ps : List Str} (h : scB v ps = true) : FnScope v.N ps v.sc := by
  unfold scB at h
  simp only [Bool.and_eq_true] at h
  obtain ⟨⟨⟨⟨⟨⟨h1, h2⟩, h3⟩, h4⟩, h5⟩, h6⟩, h7⟩ := h
  refine ⟨?_, by simpa using h2, by simpa using h3, of_decide_eq_true h4, of_decide_eq_true h5, fun x hx => ?_, fun y hy => ?_⟩
  · split at h1
    · assumption
    · cases h1
  · have q := List.all_eq_true.mp h6 x hx
    rw [Bool.or_eq_true] at q
    exact q.imp kd_eq kd_eq
  · have q := List.all_eq_true.mp h7 y hy
    simpa using q
theorem rst_start {L : Lk} {ι : List Addr} {H : Hp} {N : List Str} {pvs : List PV} {vs : List V} (r : RVs L ι H pvs vs) : RSt L ι H (startP N.length pvs) (L2.start N vs) := by
  unfold startP L2.start
  have hl := r.length
  refine ⟨by rw [List.length_append, List.length_append, List.length_map, List.length_map, List.length_replicate, List.length_replicate, hl], fun i v e => ?_⟩
  by_cases hi : i < pvs.length
  · rw [List.getElem?_append_left (by simpa using hi), List.getElem?_map] at e
    cases e2 : pvs[i]? with
    | none => rw [e2] at e; cases e
    | some w =>
      rw [e2] at e
      cases e
      obtain ⟨u, e3, rv⟩ := r.get e2
      exact ⟨u, by rw [List.getElem?_append_left (by rw [List.length_map, ← hl]; exact hi), List.getElem?_map, e3]; rfl, rv⟩
  · rw [List.getElem?_append_right (by simpa using hi), List.getElem?_replicate] at e
    split at e <;> cases e
theorem okF_res {L : Lk} {ι : List Addr} {H : Hp} {f : Fl} {Q : VK} {E : XK} (h : okV L ι H f.res Q E) : okF L ι H f { nx := fun _ H' => Q .non H', rt := Q } fun cls d _ H' => E cls d H' := by
  cases f with
  | nx ρ h' => exact fun ι' H' σ x rh rσ => h ι' H' .non x rh rv_non
  | rt v h' => exact h
  | bk ρ h' => exact h.elim
  | ct ρ h' => exact h.elim
  | exc x ρ h' => exact fun ι' H' σ c d x rh _ rx => h ι' H' c d x rh rx
  | stuck => exact h.elim
theorem guards_deeper {A : Around} {env : Env} (h : A.guards = some []) : (A.deeper env).guards = some [] := h
theorem fn_all {T : Tab} {L : Lk} {mg : Str → Option Value} {tb : Nat → Option Def} (Pg : Prog T L mg tb) {P : Program} {w : World} {base : Heap} : ∀ (n f : Nat) (x : Str) (a : Addr), T.fns[f]? = some x → mg x = some (.ref a) →
    ∀ A : Around, Room n A → A.guards = some [] → FnRun L P w L.K mg base A a (callN tb n f)
  | 0, f, x, a, hf, hm, A, hr, hg => by
    intro outer s H us vs Q E ι pvs h e0 r rv rh hq
    exact hq.elim
  | n + 1, f, x, a, hf, hm, A, hr, hg => by
    intro outer s H us vs Q E ι pvs h e0 r rv rh hq
    obtain ⟨a', qual, st, fd, N, ps, d, hm', F, hb, htb, hchk⟩ := Pg.fns f x hf
    rw [hm] at hm'
    cases hm'
    obtain ⟨oc, od, kV, doc, pm, an, cdv, ct, osl, rfl, lk, hcd⟩ := F.ex
    unfold chkD at hchk
    simp only [Bool.and_eq_true] at hchk
    obtain ⟨⟨⟨c1, c2⟩, c3⟩, c4⟩ := hchk
    have S : FnScope N ps (defScope st) := scB_ok c1
    have har := of_decide_eq_true c2
    have hsl := of_decide_eq_true c3
    simp only [callN, htb, runD] at hq
    split at hq
    · rename_i hlen
      have hl : vs.length = ps.length := by rw [← rv.length, hlen, har]
      have KX : L.K.In s.heap := e0.mod.kin.keeps fun b o e => (e0.bs b o e).1
      have lim : s.heap.NoLimit := e0.mod.nolimit.keeps fun b o e => (e0.bs b o e).1
      have hkind : ∀ y ∈ ps.zip us, (defScope st).names.lookup y.1 = some .local ∨ ((defScope st).names.lookup y.1 = some .cell ∧ ((cellsFrom (s.heap.objs.size + 1) (defScope st).names []).lookup y.1).isSome = true) := fun ⟨n, v⟩ hy => by
        rcases S.par n (List.of_mem_zip hy).1 with q | q
        · exact .inl q
        · exact .inr ⟨q, PySem.W.cellsFrom_some _ _ _ (.inl q)⟩
      have hbt := hb s us KX (by rw [List.append_nil, ← r.length]; exact hl)
      rw [List.append_nil] at hbt
      refine codeAny_call_function hr.depth (KX _ _ lk) rfl S.co S.gen rfl (PySem.W.codeRec_of KX hcd) (hbt _ _ _ _ ?_)
      refine wpAny_newFunctionEnv_cells S.kind hkind fun env he s1 x => ?_
      subst he
      refine ⟨lim.keeps x.toInCall.keep, codeAny_func ?_⟩
      have hrd : Room n (A.deeper (envOfC qual (defScope st) s.heap.objs.size a cdv)) := hr.deeper _
      let X : Cx := cxOf (L2.CX P w) P w L.K mg base N qual (defScope st) a cdv A outer s H E
      have I : Inv X [] (L2.start N vs) H s1 := inv_start S hr.hd e0 hl r x
      have tk : Takes X (fun cls d _ H => E cls d H) := takes_of rfl rfl rfl rfl
      have hp : PassesOwn (model X.prog X.w) X.A X.env X.xe := passes_of rfl
      have Fxx : Fx T L (callN tb n) X := ⟨rfl, rfl, S.nd, (by have := hrd.un; show (A.deeper (envOfC qual (defScope st) s.heap.objs.size a cdv)).units + 100 < cLine; omega), guards_deeper hg, Pg.bis, Pg.gls, fun g y hy => by
        obtain ⟨b, q2, st2, fd2, N2, ps2, d2, hm2, F2, _⟩ := Pg.fns g y hy
        exact ⟨b, hm2, F2.kp, fn_all Pg n g y b hy hm2 _ hrd (guards_deeper hg)⟩, Pg.exs⟩
      have Ax : At X ⟨N, defScope st, fun _ => true, true⟩ := ⟨rfl, rfl, rfl⟩
      have ht := sndSs (W := fun cls d _ H => E cls d H) ⟨Fxx, Ax, tk, fun _ => ⟨rfl, rfl⟩⟩ S.kind hp d.body (defBody st) c4
      have hq' : tS L (fun cls d _ H => E cls d H) (evalSs (callN tb n) d.body) { nx := fun _ H' => Q .non H', rt := Q } (L2.start N vs) H :=
        ⟨ι, startP d.sl pvs, h, by rw [hsl]; exact rst_start rv, rh, okF_res hq⟩
      refine wpAny_mono (ht.run [] s1 (L2.start N vs) H _ I hq') (fun fl s' hs => ?_) fun e s' hs => hs
      have fin : ∀ {σ' : L2.St} {H' : Hp} {v : V} {u : Value}, Inv X [] σ' H' s' → RelV v u → Q v H' → CE outer P w H s Q u s' :=
        fun {σ' H' v u} J rv q => ⟨v, H', J.os, J.bare, J.base, J.hok, rv, q⟩
      cases fl with
      | ret u =>
        obtain ⟨v, σ', H', J, rv, q⟩ := hs
        exact fin J rv q
      | next =>
        obtain ⟨σ', H', J, q⟩ := hs
        exact fin (v := V.non) (u := Value.none) J rfl q
      | brk =>
        obtain ⟨_, _, _, q⟩ := hs
        exact False.elim q
      | cont =>
        obtain ⟨_, _, _, q⟩ := hs
        exact False.elim q
    · exact hq.elim
/-! ### the head -/
theorem law_callF {P : Program} {w : World} {L : Lk} {mg mb : Str → Option Value} {fa a : Addr} {s₁ : Shared} {vs : List Value} {ns : List Int} {cf : List PV → PHeap → Res PV}
    (KX : L.K.In s₁.heap) (hns : s₁.heap.Ns mainGlobals mg) (hb : s₁.heap.Ns builtinsNs mb) (hbb : ∀ x : Str, x ≠ "__name__" → mb x = bootBuiltins x) (hlim : s₁.heap.NoLimit) (hg : s₁.gens = #[])
    (ha : s₁.heap.get? a = some { cls := .type "list", data := .seq vs.toArray }) (hi : IntsAre vs ns) (hl : ns.length ≤ sizeLine)
    (F : ∀ base : Heap, L.K.In base → base.Ns mainGlobals mg → FnRun L P w L.K mg base callerA fa cf) (hcf : ∃ h', cf [.scr (ns.map .int)] [] = .ok (.bl true) h') :
    codeAny (model P w) callerA (.call (.ref fa) ⟨[.ref a], []⟩) (fun r s' => r = .ok (.ret (.bool true)) ∧ OldK s₁.heap s'.heap ∧ s'.os = s₁.os ∧ AllBare s'.gens) s₁ := by
  have rv := vals_ints hi
  have lenV := hi.length
  have core : ∀ H : Hp, L2.Only H → SqL L.K H a (ns.map V.int) → HOk P w H s₁.heap → (∀ b, H b ≠ none → b = a) → (H a ≠ none → L.K.lookup a = none) →
      codeAny (model P w) callerA (.call (.ref fa) ⟨[.ref a], []⟩) (fun r s' => r = .ok (.ret (.bool true)) ∧ OldK s₁.heap s'.heap ∧ s'.os = s₁.os ∧ AllBare s'.gens) s₁ := by
    intro H hO hS hok hA hK
    have base_of : ∀ {b : Addr} {o : Obj}, s₁.heap.get? b = some o → H b = none → (hidT s₁.heap H).get? b = some o := fun e n => hidT_get e n
    have noA : ∀ {b : Addr} {o : Obj} {es : Array DictEntry} {ep : Nat}, s₁.heap.get? b = some o → o.data = .dict es ep → H b = none := fun {b o es ep} e d => by
      cases q : H b with
      | none => rfl
      | some u =>
        have e' : b = a := hA b (by rw [q]; simp)
        subst e'
        rw [ha] at e; cases e
        have d' : Data.seq vs.toArray _ = Data.dict es ep := d
        cases d'
    have nsK : ∀ {b : Addr} {m : Str → Option Value}, s₁.heap.Ns b m → (hidT s₁.heap H).Ns b m := fun {b m} ⟨o, es, ep, e, d, r⟩ => ⟨o, es, ep, base_of e (noA e d), d, r⟩
    have hKb : L.K.In (hidT s₁.heap H) := fun b o e => base_of (KX b o e) (by
      cases q : H b with
      | none => rfl
      | some u =>
        have e' : b = a := hA b (by rw [q]; simp)
        subst e'
        rw [hK (by rw [q]; simp)] at e; cases e)
    have hM : Mod L.K mg (hidT s₁.heap H) := ⟨hKb, nsK hns, ⟨mb, nsK hb, hbb⟩, let ⟨mc, h1, h2⟩ := hlim; ⟨mc, nsK h1, h2⟩⟩
    have e0 : Env0 P w L.K mg (hidT s₁.heap H) callerA [] s₁ H := ⟨rfl, hM, fun b o e => of_hidT e, Nat.le_of_eq (hidT_size _ _), trivial, fun b hb => absurd (show b ∈ ([] : List Addr) from hb) (by simp), hok, .of_eq hg⟩
    obtain ⟨hf, hcf⟩ := hcf
    have rvi : ∀ ns : List Int, RVs L [] H (ns.map .int) (ns.map V.int) := fun ns => by
      induction ns with
      | nil => simp [RVs]
      | cons n ns ih => simp only [List.map_cons, RVs]; exact ⟨_, _, rfl, rv_int _, ih⟩
    have rva : RVs L [] H [.scr (ns.map .int)] [.ref a] := by
      simp only [RVs, RV]
      refine ⟨.ref a, [], rfl, ⟨a, ns.map V.int, rfl, ?_, by rw [List.length_map]; exact hl, rvi ns⟩, rfl⟩
      rcases hS with hS | hS
      · exact .inl ⟨by simp, hS⟩
      · exact .inr hS
    have rh0 : RH L [] H [] := ⟨rfl, List.nodup_nil, fun l o e => by simp at e⟩
    have hok0 : okV L [] H (cf [.scr (ns.map .int)] []) (fun v _ => v = .bl true) (fun _ _ _ => False) := by
      rw [hcf]
      intro ι' H' u _ _ r
      simpa only [RV] using r
    refine codeAny_mono ((F _ hKb (nsK hns)) [] s₁ H [.ref a] [.ref a] _ _ [] _ [] e0 (.cons rfl .nil) rva rh0 hok0) fun r s' h => ?_
    cases r with
    | error e =>
      have h : L2.CX P w [] H s₁ (fun _ _ _ => False) e s' := h
      obtain ⟨_, _, _, _, _, _, _, _, _, _, _, _, z⟩ := h
      exact z.elim
    | ok fl =>
      cases fl with
      | next => exact False.elim h
      | brk => exact False.elim h
      | cont => exact False.elim h
      | ret u =>
        obtain ⟨v, H', os, bare, un, hok', r', q⟩ := h
        have q' : v = .bl true := q
        subst q'
        obtain rfl : u = Value.bool true := r'
        refine ⟨rfl, OldK.of_keep fun b o e => ?_, os, bare⟩
        cases q : H b with
        | none => exact un.keep b o e q (by intro z; exact absurd (show b ∈ ([] : List Addr) from z) (by simp)) (by simp)
        | some u =>
          rcases hO b with z | ⟨ob, xs, z⟩
          · rw [q] at z; cases z
          · have z2 := un.frzs b ob _ z
            obtain ⟨e1, _⟩ := hok b _ z
            obtain ⟨e2, _⟩ := hok' b _ z2
            rw [e] at e1; cases e1
            exact e2
  cases hk : L.K.lookup a with
  | some o =>
    have e := KX a o hk
    rw [ha] at e
    cases e
    refine core (fun _ => none) (fun _ => .inl rfl) (.inr ⟨_, vs.toArray, _, hk, rfl, rfl, rfl, by rw [List.size_toArray, lenV]; exact hl, by simpa using rv⟩) (fun b u z => by have z' : (none : Option HO) = some u := z; cases z') (fun b z => absurd rfl z) fun z => absurd rfl z
  | none =>
    refine core (fun b => if b = a then some (.frz { cls := .type "list", data := .seq vs.toArray } (.lst (ns.map V.int))) else none) (fun b => ?_) (.inl (.inr ⟨{ cls := .type "list", data := .seq vs.toArray }, if_pos rfl⟩)) (fun b u z => ?_) (fun b z => ?_) fun _ => hk
    · by_cases hb : b = a
      · exact .inr ⟨_, _, if_pos hb⟩
      · exact .inl (if_neg hb)
    · by_cases hb : b = a
      · have z' := (if_pos hb).symm.trans z
        cases z'
        subst hb
        exact ⟨ha, by rw [List.length_map]; exact hl, vs, _, rv, ha⟩
      · have z' := (if_neg hb).symm.trans z
        cases z'
    · by_cases hb : b = a
      · exact hb
      · exact absurd (if_neg hb) z
/-- the goal that k_head leaves, from the evaluator's answer -/
theorem walk_F {l : PySem.W.OpenLaw} {n : Nat} {q : Program} {loose : List Str} {XP : (Str → Option Value) → Heap → Prop} {YP : World → Heap → Prop} {d : DefRec} {K : Params → PySem.W.Frag} {cf : List PV → PHeap → Res PV}
    (hn : l.most = some n) (hn2 : n ≤ sizeLine) (hdf : d.params.defaults = []) (hY : ∀ (w : World) (h : Heap), YP w h → (K w.params).In h)
    (F : ∀ (w : World) (mg : Str → Option Value) (fa : Addr) (h : Heap), (K w.params).In h → h.Ns mainGlobals mg → mg d.name = some (.ref fa) → ∃ cA : Nat → Addr, ∀ base : Heap, (K w.params).In base → base.Ns mainGlobals mg → FnRun ⟨K w.params, cA⟩ l.prog w (K w.params) mg base callerA fa cf)
    (hcf : ∀ ns : List Int, ns.length ≤ n → ∃ h', cf [.scr (ns.map .int)] [] = .ok (.bl true) h') :
    PySem.W.WalkO q loose XP YP l.row.toRowW d [] (fun f vs => PySem.call f vs) := by
  refine Att.attach_call hn hdf fun w s₀ s₁ mg mb fa o pm cd doc a vs ns G Y ho hd hcd hmg hobj hints hlen hg => ?_
  have KX := hY w _ Y
  obtain ⟨cA, hF⟩ := F w mg fa _ KX G.T.g hmg
  exact law_callF (L := ⟨K w.params, cA⟩) KX G.T.g G.T.b G.T.builtins G.T.nolimit hg hobj hints (Nat.le_trans hlen hn2) hF (hcf ns hlen)
/-! ### the program's facts, one by one -/
def FnsFrom (T : Tab) (K : PySem.W.Frag) (mg : Str → Option Value) (tb : Nat → Option Def) : Nat → List Str → Prop
  | _, [] => True
  | n, x :: xs => DefAt T K mg tb n x ∧ FnsFrom T K mg tb (n + 1) xs
theorem fns_from {T : Tab} {K : PySem.W.Frag} {mg : Str → Option Value} {tb : Nat → Option Def} : ∀ {xs : List Str} {n f : Nat} {x : Str}, FnsFrom T K mg tb n xs → xs[f]? = some x → DefAt T K mg tb (n + f) x
  | [], _, _, _, _, e => by simp at e
  | y :: xs, n, 0, x, h, e => by
    simp at e
    subst e
    exact h.1
  | y :: xs, n, f + 1, x, h, e => by
    have := fns_from (f := f) h.2 (by simpa using e)
    rw [show n + (f + 1) = n + 1 + f by omega]
    exact this
def GlAt (L : Lk) (mg : Str → Option Value) (p : Str × PV) : Prop := ∃ w u, mg p.1 = some w ∧ RelV u w ∧ ∀ ι H, RV L ι H p.2 u
def GlsFrom (L : Lk) (mg : Str → Option Value) : List (Str × PV) → Prop
  | [] => True
  | p :: ps => GlAt L mg p ∧ GlsFrom L mg ps
theorem gls_from {L : Lk} {mg : Str → Option Value} : ∀ {ps : List (Str × PV)}, GlsFrom L mg ps → ∀ p, p ∈ ps → GlAt L mg p
  | [], _, p, h => nomatch h
  | q :: ps, h, p, hp => by
    rcases List.mem_cons.mp hp with rfl | hp
    · exact h.1
    · exact gls_from h.2 p hp
def BisFrom (mg : Str → Option Value) : List Str → Prop
  | [] => True
  | x :: xs => mg x = none ∧ BisFrom mg xs
theorem bis_from {mg : Str → Option Value} : ∀ {xs : List Str}, BisFrom mg xs → ∀ x, x ∈ xs → mg x = none
  | [], _, x, h => nomatch h
  | q :: ps, h, p, hp => by
    rcases List.mem_cons.mp hp with rfl | hp
    · exact h.1
    · exact bis_from h.2 p hp
def ExsFrom (T : Tab) (L : Lk) (mg : Str → Option Value) : Nat → List (Str × List Nat) → Prop
  | _, [] => True
  | n, p :: ps => ExAt T L mg n p.1 p.2 ∧ ExsFrom T L mg (n + 1) ps
theorem exs_from {T : Tab} {L : Lk} {mg : Str → Option Value} : ∀ {ps : List (Str × List Nat)} {n k : Nat} {p : Str × List Nat}, ExsFrom T L mg n ps → ps[k]? = some p → ExAt T L mg (n + k) p.1 p.2
  | [], _, _, _, _, e => by simp at e
  | q :: ps, n, 0, p, h, e => by
    simp at e
    subst e
    exact h.1
  | q :: ps, n, k + 1, p, h, e => by
    have := exs_from (k := k) h.2 (by simpa using e)
    rw [show n + (k + 1) = n + 1 + k by omega]
    exact this
/-- .. of each pair of exception classes -/
def SubsFrom (K : PySem.W.Frag) (cA : Nat → Addr) (k : Nat) (sups : List Nat) : Nat → List (Str × List Nat) → Prop
  | _, [] => True
  | j, _ :: ps => (PySem.W.subIn K (.ref (cA k)) (.ref (cA j)) = some (sups.contains j) ∧ PySem.W.kitOne K (.ref (cA k)) (.ref (cA j)) = some (sups.contains j)) ∧ SubsFrom K cA k sups (j + 1) ps
theorem subs_from {K : PySem.W.Frag} {cA : Nat → Addr} {k : Nat} {sups : List Nat} : ∀ {ps : List (Str × List Nat)} {n j : Nat} {p : Str × List Nat}, SubsFrom K cA k sups n ps → ps[j]? = some p → PySem.W.subIn K (.ref (cA k)) (.ref (cA (n + j))) = some (sups.contains (n + j)) ∧ PySem.W.kitOne K (.ref (cA k)) (.ref (cA (n + j))) = some (sups.contains (n + j))
  | [], _, _, _, _, e => by simp at e
  | q :: ps, n, 0, p, h, e => h.1
  | q :: ps, n, j + 1, p, h, e => by
    have := subs_from (j := j) h.2 (by simpa using e)
    rw [show n + (j + 1) = n + 1 + j by omega]
    exact this
/-- the classes' places from a list -/
def cAl (l : List Addr) : Nat → Addr := fun k => l.getD k 0
theorem ex_at {T : Tab} {K : PySem.W.Frag} {cA : Nat → Addr} {mg : Str → Option Value} {h : Heap} {k : Nat} {x : Str} {sups : List Nat} {C : Addr} (X : K.In h) (G : h.Ns mainGlobals mg) (hC : cA k = C) (g : PySem.W.nsIn K mainGlobals x = some (some (.ref C)))
    (q : PySem.W.excIn K C [.type "ValueError", .type "Exception", .type "BaseException", .type "object"] "ValueError.__new__" = true) (kp : PySem.W.keepIn K (.ref C) = true) (b : PySem.W.subIn K (.ref C) (.type "BaseException") = some true) (t : PySem.W.typeIn K (.ref C) = some (.type "type"))
    (e1 : PySem.W.findIn K (.ref C) "__getattribute__" = some (some (.builtin "BaseException.__getattribute__"))) (e2 : PySem.W.findIn K (.ref C) "__getattr__" = some none) (e4 : PySem.W.hasDictIn K C = true)
    (e5 : PySem.W.findIn K (.ref C) "__class__" = some (some (.builtin "object.__class__"))) (e6 : PySem.W.specialIn K (.builtin "object.__class__") "__get__" = some (some (.builtin "getset_descriptor.__get__"))) (e7 : PySem.W.takesIn K (.builtin "object.__class__") = some true)
    (e8 : PySem.W.mroIn K C (.type "object") = some true) (s : SubsFrom K cA k sups 0 T.exs) : ExAt T ⟨K, cA⟩ mg k x sups := by
  subst hC
  exact ⟨PySem.W.mg_of X G g, q, kp, b, t, ⟨e1, e2, b, e4, e5, e6, e7, e8⟩, fun j p e => by have := subs_from s e; rwa [Nat.zero_add] at this⟩
theorem prog_of {T : Tab} {K : PySem.W.Frag} {cA : Nat → Addr} {mg : Str → Option Value} {tb : Nat → Option Def} (b : BisFrom mg T.bis) (g : GlsFrom ⟨K, cA⟩ mg T.gls) (f : FnsFrom T K mg tb 0 T.fns) (x : ExsFrom T ⟨K, cA⟩ mg 0 T.exs) : Prog T ⟨K, cA⟩ mg tb :=
  ⟨bis_from b, gls_from g, fun n x e => (by have := fns_from f e; rwa [Nat.zero_add] at this), fun k p e => by have := exs_from x e; rwa [Nat.zero_add] at this⟩
section
variable {K : PySem.W.Frag} {h : Heap} {mg : Str → Option Value} {cA : Nat → Addr}
theorem gl_int (X : K.In h) (G : h.Ns mainGlobals mg) {x : Str} {i : Int} {t : Tok} (a : PySem.W.nsIn K mainGlobals x = some (some (.int i t))) : GlAt ⟨K, cA⟩ mg (x, .int i) :=
  ⟨_, .int i, PySem.W.mg_of X G a, ⟨t, rfl⟩, fun _ _ => rv_int i⟩
theorem gl_str (X : K.In h) (G : h.Ns mainGlobals mg) {x y : Str} {t : Tok} (a : PySem.W.nsIn K mainGlobals x = some (some (.str y t))) (hz : y.length ≤ szB) : GlAt ⟨K, cA⟩ mg (x, .str y) :=
  ⟨_, .str y, PySem.W.mg_of X G a, ⟨t, rfl⟩, fun _ _ => rv_str (by rw [← szB_eq]; exact hz)⟩
theorem gl_byt (X : K.In h) (G : h.Ns mainGlobals mg) {x : Str} {y : Array UInt8} {t : Tok} (a : PySem.W.nsIn K mainGlobals x = some (some (.bytes y t))) (hz : y.size ≤ szB) : GlAt ⟨K, cA⟩ mg (x, .byt y) :=
  ⟨_, .byt y, PySem.W.mg_of X G a, ⟨t, rfl⟩, fun _ _ => rv_byt (by rw [← szB_eq]; exact hz)⟩
theorem def_at {T : Tab} {tb : Nat → Option Def} {f : Nat} {x : Str} {st : Stmt} {N ps : List Str} {d : Def} {a : Addr} {oc : Value} {od an : Option Addr} {osl : Array (Option Value)} {kV doc pm cdv ct : Value} (X : K.In h) (G : h.Ns mainGlobals mg)
    (i : PySem.W.nsIn K mainGlobals x = some (some (.ref a))) (l : K.lookup a = some ⟨oc, od, .func (PySem.W.fnOf x x (defArgs st) (defBody st) (defScope st) .none kV doc pm an cdv ct), osl⟩) (c : PySem.W.codeIn K cdv x = true) (k : PySem.W.keepIn K (.ref a) = true)
    (hb : ∀ (kV doc pm : Value) (an : Option Addr) (cdv ct : Value) (us : List Value), us.length = ps.length → bindArgs (PySem.W.fnOf x x (defArgs st) (defBody st) (defScope st) .none kV doc pm an cdv ct) ⟨us, []⟩ = pure (ps.zip us))
    (ht : tb f = some d) (hc : chkD T d N ps (defScope st) (defBody st) = true) : DefAt T K mg tb f x :=
  ⟨a, x, st, _, N, ps, d, PySem.W.mg_of X G i, fun_mk l c k, (fun_mk l c k).binds hb, ht, hc⟩
end
theorem room40 : Room 40 callerA := ⟨rfl, by decide, by decide⟩
/-- a law's promise, by the program's facts -/
theorem law_run {T : Tab} {L : Lk} {mg : Str → Option Value} {tb : Nat → Option Def} (Pg : Prog T L mg tb) {P : Program} {w : World} {base : Heap} {f : Nat} {x : Str} {a : Addr} (hf : T.fns[f]? = some x) (hm : mg x = some (.ref a)) : FnRun L P w L.K mg base callerA a (callN tb 40 f) :=
  fn_all Pg 40 f x a hf hm callerA room40 rfl
end Rf
end

section
set_option Elab.async false
set_option linter.all false
set_option maxRecDepth 100000
set_option maxHeartbeats 4000000
namespace K85
open PySem PySem.Spec L2 Rf
def top (i : Nat) : Stmt := PySem.Challenge.pw_latestof_k85_texts_of_rule_sets_judged.main.body.getD i (.Pass ⟨0, 0, 0, 0⟩)
/-- is_integer -/
def ir_is_integer : Def := ⟨1, 1, [
  .ret (.and (.bi .isinst false [(.var 0), (.tyn (("int" : Str)) "int")]) (.not (.bi .isinst false [(.var 0), (.tyn (("bool" : Str)) "bool")])))]⟩
/-- is_between -/
def ir_is_between : Def := ⟨3, 3, [
  .ret (.and (.call 0 [(.var 0)]) (.chn .le .le (.var 1) (.var 0) (.var 2)))]⟩
/-- is_delay -/
def ir_is_delay : Def := ⟨1, 1, [
  .ret (.call 1 [(.var 0), (.bin .sub (.cst (.int 0)) (.glb (("MAX_DELAY" : Str)) (.int 60))), (.bin .sub (.glb (("MAX_DELAY" : Str)) (.int 60)) (.cst (.int 1)))])]⟩
/-- is_pair -/
def ir_is_pair : Def := ⟨1, 1, [
  .ret (.and (.bi .isinst false [(.var 0), (.tyn (("tuple" : Str)) "tuple")]) (.cmp .eq (.bi .len false [(.var 0)]) (.cst (.int 2))))]⟩
/-- are_terms -/
def ir_are_terms : Def := ⟨2, 7, [
  .ifs (.or (.not (.bi .isinst false [(.var 1), (.tyn (("tuple" : Str)) "tuple")])) (.not (.bi .all false [(.cmpr false false [4] .seq [(.var 1)] (.nm 4) .nop (.call 3 [(.var 4)]))]))) [.ret (.cst (.bl false))] [],
  .ifs (.not (.bi .all false [(.cmpr false false [5, 6] .seq [(.var 1)] (.tp [(.nm 5), (.nm 6)]) .nop (.and (.call 1 [(.var 5), (.cst (.int 0)), (.bin .sub (.var 0) (.cst (.int 1)))]) (.call 0 [(.var 6)])))])) [.ret (.cst (.bl false))] [],
  .ret (.bi .all false [(.cmpr false false [2, 3] .zip [(.var 1), (.slc false (.var 1) (.cst (.int 1)) .nop)] (.tp [(.nm 2), (.nm 3)]) .nop (.cmp .lt (.idx (.var 2) (.cst (.int 0))) (.idx (.var 3) (.cst (.int 0)))))])]⟩
/-- is_loose_rule -/
def ir_is_loose_rule : Def := ⟨2, 2, [
  .ret (.and (.call 3 [(.var 1)]) (.and (.call 1 [(.idx (.var 1) (.cst (.int 0))), (.cst (.int 0)), (.bin .sub (.var 0) (.cst (.int 1)))]) (.call 4 [(.var 0), (.idx (.var 1) (.cst (.int 1)))])))]⟩
/-- is_loose_rules -/
def ir_is_loose_rules : Def := ⟨1, 2, [
  .ifs (.or (.not (.call 3 [(.var 0)])) (.or (.not (.call 1 [(.idx (.var 0) (.cst (.int 0))), (.cst (.int 1)), (.glb (("MAX_VARIABLES" : Str)) (.int 8))])) (.not (.bi .isinst false [(.idx (.var 0) (.cst (.int 1))), (.tyn (("tuple" : Str)) "tuple")])))) [.ret (.cst (.bl false))] [],
  .ret (.bi .all false [(.cmpr false false [1] .seq [(.idx (.var 0) (.cst (.int 1)))] (.nm 1) .nop (.call 5 [(.idx (.var 0) (.cst (.int 0))), (.var 1)]))])]⟩
/-- is_rule_by -/
def ir_is_rule_by : Def := ⟨2, 4, [
  .ret (.and (.call 5 [(.var 0), (.var 1)]) (.bi .all false [(.cmpr false false [2, 3] .seq [(.idx (.var 1) (.cst (.int 1)))] (.tp [(.nm 2), (.nm 3)]) .nop (.call 2 [(.var 3)]))]))]⟩
/-- is_rule_set -/
def ir_is_rule_set : Def := ⟨1, 2, [
  .ifs (.or (.not (.call 6 [(.var 0)])) (.cmp .gt (.bi .len false [(.idx (.var 0) (.cst (.int 1)))]) (.glb (("MAX_RULES" : Str)) (.int 24)))) [.ret (.cst (.bl false))] [],
  .ret (.bi .all false [(.cmpr false false [1] .seq [(.idx (.var 0) (.cst (.int 1)))] (.nm 1) .nop (.call 7 [(.idx (.var 0) (.cst (.int 0))), (.var 1)]))])]⟩
/-- check_rules -/
def ir_check_rules : Def := ⟨1, 1, [
  .ifs (.not (.call 8 [(.var 0)])) [.rs 1] []]⟩
/-- number_of -/
def ir_number_of : Def := ⟨1, 2, [
  .ifs (.or (.not (.chn .le .le (.cst (.int 1)) (.bi .len false [(.var 0)]) (.glb (("MAX_DIGITS" : Str)) (.int 2)))) (.not (.bi .all false [(.cmpr false false [1] .seq [(.var 0)] (.nm 1) .nop (.cmp .in_ (.var 1) (.glb (("DIGITS" : Str)) (.str (("0123456789" : Str))))))]))) [.rs 2] [],
  .ret (.bi .int false [(.var 0)])]⟩
/-- term_text -/
def ir_term_text : Def := ⟨1, 3, [
  .unp (.tp [(.nm 1), (.nm 2)]) (.var 0),
  .ret (.fst [(.fld (.var 1)), (.fld (.ite (.cmp .ge (.var 2) (.cst (.int 0))) (.cst (.str (("+" : Str)))) (.cst (.str (("-" : Str)))))), (.fld (.bi .abs false [(.var 2)]))])]⟩
/-- rule_text -/
def ir_rule_text : Def := ⟨1, 5, [
  .unp (.tp [(.nm 2), (.nm 3)]) (.var 0),
  .set 1 (.ite (.cmp .ne (.var 3) (.tup [])) (.mth .join (.cst (.str ((" | " : Str)))) [(.cmpr false false [4] .seq [(.var 3)] (.nm 4) .nop (.call 11 [(.var 4)]))]) (.glb (("NEVER" : Str)) (.str (("never" : Str))))),
  .ret (.fst [(.fld (.var 2)), (.cst (.str ((" <= " : Str)))), (.fld (.var 1))])]⟩
/-- rules_text -/
def ir_rules_text : Def := ⟨1, 2, [
  .ret (.mth .join (.cst (.str (("; " : Str)))) [(.cat false (.lst false [(.bi .str false [(.idx (.var 0) (.cst (.int 0)))])]) (.cmpr false false [1] .seq [(.idx (.var 0) (.cst (.int 1)))] (.nm 1) .nop (.call 12 [(.var 1)])))])]⟩
/-- term_of -/
def ir_term_of : Def := ⟨1, 5, [
  .unp (.tp [(.nm 2), (.nm 3), (.nm 4)]) (.mth .partition (.var 0) [(.ite (.cmp .in_ (.cst (.str (("-" : Str)))) (.var 0)) (.cst (.str (("-" : Str)))) (.cst (.str (("+" : Str)))))]),
  .set 1 (.call 10 [(.var 4)]),
  .ret (.tup [(.call 10 [(.var 2)]), (.ite (.cmp .eq (.var 3) (.cst (.str (("-" : Str))))) (.bin .sub (.cst (.int 0)) (.var 1)) (.var 1))])]⟩
/-- rule_of -/
def ir_rule_of : Def := ⟨1, 6, [
  .unp (.tp [(.nm 2), (.nm 3), (.nm 4)]) (.mth .partition (.var 0) [(.cst (.str ((" <= " : Str))))]),
  .set 1 (.ite (.cmp .eq (.var 4) (.glb (("NEVER" : Str)) (.str (("never" : Str))))) (.lst false []) (.cmpr false true [5] .seq [(.mth .split (.var 4) [(.cst (.str ((" | " : Str))))])] (.nm 5) .nop (.call 14 [(.var 5)]))),
  .ret (.tup [(.call 10 [(.var 2)]), (.bi .tuple false [(.var 1)])])]⟩
/-- check_text -/
def ir_check_text : Def := ⟨1, 1, [
  .ifs (.not (.bi .isinst false [(.var 0), (.tyn (("str" : Str)) "str")])) [.rs 2] []]⟩
/-- format_rules -/
def ir_format_rules : Def := ⟨1, 1, [
  .ex (.call 9 [(.var 0)]),
  .ret (.call 13 [(.var 0)])]⟩
/-- parse_rules -/
def ir_parse_rules : Def := ⟨1, 5, [
  .ex (.call 16 [(.var 0)]),
  .unp (.tps [(.nm 2)] 3) (.mth .split (.var 0) [(.cst (.str (("; " : Str))))]),
  .set 1 (.tup [(.call 10 [(.var 2)]), (.bi .tuple false [(.cmpr false true [4] .seq [(.var 3)] (.nm 4) .nop (.call 15 [(.var 4)]))])]),
  .ifs (.or (.not (.call 8 [(.var 1)])) (.cmp .ne (.call 13 [(.var 1)]) (.var 0))) [.rs 2] [],
  .ret (.var 1)]⟩
/-- _law_source -/
def ir__law_source : Def := ⟨2, 5, [
  .set 2 (.ite (.cmp .lt (.var 1) (.bi .len false [(.var 0)])) (.idx (.var 0) (.var 1)) (.bin .add (.bin .mul (.cst (.int 5)) (.var 1)) (.cst (.int 4)))),
  .set 3 (.bin .mod (.bi .abs false [(.var 2)]) (.bin .pow (.bin .pow (.cst (.int 10)) (.cst (.int 60))) (.cst (.int 11)))),
  .set 4 (.bin .mod (.bin .add (.bin .add (.bin .mul (.var 3) (.cst (.int 6364136223846793005))) (.bin .mul (.cst (.int 1181783497)) (.var 1))) (.bi .int false [(.cmp .lt (.var 2) (.cst (.int 0)))])) (.cst (.int 9007199254740881))),
  .ret (.lst true [(.bi .max false [(.cst (.int 0)), (.bin .add (.bin .sub (.var 3) (.bin .pow (.cst (.int 10)) (.cst (.int 18)))) (.cst (.int 1)))]), (.var 4), (.cst (.int 0))])]⟩
/-- _law_draw -/
def ir__law_draw : Def := ⟨2, 5, [
  .ifs (.cmp .gt (.idx (.var 0) (.cst (.int 0))) (.cst (.int 0))) [.set 4 (.bin .mod (.bi .int false [(.idx (.var 0) (.cst (.int 0)))]) (.var 1)), .seti (.var 0) (.cst (.int 0)) (.bin .fdiv (.idx (.var 0) (.cst (.int 0))) (.var 1)), .ret (.var 4)] [],
  .seti (.var 0) (.cst (.int 2)) (.bin .add (.idx (.var 0) (.cst (.int 2))) (.cst (.int 1))),
  .set 2 (.bin .mod (.bi .int false [(.bin .add (.idx (.var 0) (.cst (.int 1))) (.bin .mul (.cst (.int 2654435769)) (.idx (.var 0) (.cst (.int 2)))))]) (.cst (.int 4503599627370449))),
  .set 3 (.bin .mul (.bin .mod (.bi .int false [(.bin .mul (.var 2) (.var 2))]) (.cst (.int 2251799813685119))) (.var 2)),
  .set 3 (.bin .add (.bin .add (.var 3) (.bin .mul (.cst (.int 40503)) (.idx (.var 0) (.cst (.int 2))))) (.bin .mod (.bi .int false [(.idx (.var 0) (.cst (.int 1)))]) (.cst (.int 32749)))),
  .ret (.bin .mod (.bin .fdiv (.bin .mod (.bi .int false [(.bin .mul (.var 3) (.var 3))]) (.cst (.int 1125899906842589))) (.cst (.int 1024))) (.var 1))]⟩
/-- _law_delay -/
def ir__law_delay : Def := ⟨2, 3, [
  .set 2 (.call 20 [(.var 0), (.cst (.int 16))]),
  .ifs (.cmp .lt (.var 2) (.cst (.int 11))) [.ret (.bin .sub (.call 20 [(.var 0), (.cst (.int 7))]) (.cst (.int 3)))] [],
  .ifs (.or (.cmp .lt (.var 2) (.cst (.int 15))) (.cmp .lt (.var 1) (.cst (.int 59)))) [.ret (.bin .sub (.call 20 [(.var 0), (.bin .add (.bin .mul (.cst (.int 2)) (.var 1)) (.cst (.int 1)))]) (.var 1))] [],
  .ret (.idx (.lst false [(.neg (.cst (.int 60))), (.cst (.int 59)), (.neg (.cst (.int 59))), (.cst (.int 58))]) (.call 20 [(.var 0), (.cst (.int 4))]))]⟩
/-- _law_terms -/
def ir__law_terms : Def := ⟨4, 7, [
  .set 4 (.dnew false),
  .for_ (.nm 5) .rng [(.var 2)] [.seti (.var 4) (.call 20 [(.var 0), (.var 1)]) (.call 21 [(.var 0), (.var 3)])],
  .ret (.bi .tuple false [(.cmpr false false [6] .seq [(.bi .sorted false [(.var 4)])] (.nm 6) .nop (.tup [(.var 6), (.idx (.var 4) (.var 6))]))])]⟩
/-- _law_ring -/
def ir__law_ring : Def := ⟨3, 9, [
  .unp (.tp [(.nm 5), (.nm 6)]) (.tup [(.lrng true [(.var 1)]), (.lst true [])]),
  .for_ (.nm 3) .rng [(.bin .add (.cst (.int 1)) (.call 20 [(.var 0), (.var 1)]))] [.ex (.mth .append (.var 6) [(.mth .pop (.var 5) [(.call 20 [(.var 0), (.bi .len false [(.var 5)])])])])],
  .set 4 (.cmpr true false [3] .seq [(.var 6)] (.nm 3) .nop (.bin .sub (.call 20 [(.var 0), (.cst (.int 7))]) (.cst (.int 3)))),
  .seti (.var 4) (.cst (.int 0)) (.bin .sub (.var 2) (.bi .sum false [(.slc false (.var 4) (.cst (.int 1)) .nop)])),
  .ret (.cmpr false false [7, 8] .enm [(.var 6)] (.tp [(.nm 7), (.nm 8)]) .nop (.tup [(.var 8), (.tup [(.tup [(.idx (.var 6) (.bin .sub (.var 7) (.cst (.int 1)))), (.idx (.var 4) (.var 7))])])]))]⟩
/-- _law_widened -/
def ir__law_widened : Def := ⟨4, 9, [
  .unp (.tp [(.nm 5), (.nm 6)]) (.var 2),
  .set 4 (.call 20 [(.var 0), (.var 1)]),
  .ifs (.or (.cmp .in_ (.var 4) (.cmpr false false [7, 8] .seq [(.var 6)] (.tp [(.nm 7), (.nm 8)]) .nop (.var 7))) (.cmp .gt (.call 20 [(.var 0), (.cst (.int 3))]) (.cst (.int 0)))) [.ret (.var 2)] [],
  .ret (.tup [(.var 5), (.bi .tuple false [(.bi .sorted false [(.bin .add (.var 6) (.tup [(.tup [(.var 4), (.call 21 [(.var 0), (.var 3)])])]))])])])]⟩
/-- _law_rules -/
def ir__law_rules : Def := ⟨3, 10, [
  .set 3 (.lst true []),
  .for_ (.nm 4) .rng [(.idx (.lst false [(.cst (.int 0)), (.cst (.int 1)), (.cst (.int 1)), (.cst (.int 2))]) (.call 20 [(.var 0), (.cst (.int 4))]))] [.set 6 (.call 23 [(.var 0), (.var 1), (.idx (.lst false [(.neg (.cst (.int 1))), (.neg (.cst (.int 1))), (.cst (.int 0)), (.cst (.int 1))]) (.call 20 [(.var 0), (.cst (.int 4))]))]), .set 7 (.call 20 [(.var 0), (.cst (.int 2))]), .ex (.mth .extend (.var 3) [(.cmpr false false [9] .seq [(.var 6)] (.nm 9) .nop (.ite (.cmp .eq (.var 7) (.cst (.int 1))) (.call 24 [(.var 0), (.var 1), (.var 9), (.var 2)]) (.var 9)))])],
  .for_ (.nm 4) .rng [(.call 20 [(.var 0), (.bin .add (.bin .mul (.cst (.int 2)) (.var 1)) (.cst (.int 2)))])] [.set 8 (.idx (.lst false [(.cst (.int 1)), (.cst (.int 1)), (.cst (.int 2)), (.cst (.int 2)), (.cst (.int 3)), (.var 1), (.cst (.int 0))]) (.call 20 [(.var 0), (.cst (.int 7))])), .ifs (.or (.cmp .gt (.var 8) (.cst (.int 0))) (.cmp .eq (.call 20 [(.var 0), (.cst (.int 6))]) (.cst (.int 0)))) [.ex (.mth .append (.var 3) [(.tup [(.call 20 [(.var 0), (.var 1)]), (.call 22 [(.var 0), (.var 1), (.var 8), (.var 2)])])])] []],
  .set 5 (.lst true []),
  .whl (.cmp .ne (.var 3) (.lst false [])) [.ex (.mth .append (.var 5) [(.mth .pop (.var 3) [(.call 20 [(.var 0), (.bi .len false [(.var 3)])])])])],
  .ret (.tup [(.var 1), (.bi .tuple false [(.slc false (.var 5) .nop (.cst (.int 24)))])])]⟩
/-- _law_odd -/
def ir__law_odd : Def := ⟨1, 2, [
  .set 1 (.lst false [(.cst .non), (.cst (.bl true)), (.cst (.bl false)), (.neg (.cst (.int 1))), (.cst (.int 0)), (.cst (.int 1)), (.cst (.int 8)), (.bin .pow (.cst (.int 10)) (.cst (.int 40))), (.bin .sub (.cst (.int 1)) (.bin .pow (.cst (.int 10)) (.cst (.int 41)))), (.cst (.str (("" : Str)))), (.cst (.str (("a" : Str)))), (.cst (.str (("0" : Str)))), (.tup []), (.tup [(.cst (.int 0))]), (.tup [(.cst (.int 0)), (.cst (.int 0))]), (.lst false []), (.lst false [(.cst (.int 0))]), (.dnew false)]),
  .ret (.idx (.cat false (.var 1) (.lst false [(.tup [(.cst .non)]), (.tup [(.tup [])]), (.tup [(.tup [(.cst (.int 0)), (.cst (.int 0))])]), (.tup [(.cst (.int 0)), (.tup [(.tup [(.cst (.int 0)), (.cst (.int 0))])])]), (.tup [(.cst (.int 1)), (.tup [])]), (.tup [(.cst (.int 9)), (.tup [])]), (.d1 (.cst (.int 0)) (.cst (.int 0)))])) (.call 20 [(.var 0), (.cst (.int 25))]))]⟩
/-- _law_no_rules -/
def ir__law_no_rules : Def := ⟨2, 7, [
  .unp (.tp [(.nm 5), (.nm 6)]) (.var 1),
  .set 2 (.tup [(.cst (.int 0)), (.tup [(.tup [(.cst (.int 0)), (.cst (.int 1))])])]),
  .set 3 (.lst true [(.cst .non), (.tup []), (.cst (.int 3)), (.cst (.str (("rules" : Str)))), (.dnew false), (.bi .list false [(.var 1)]), (.slc false (.var 1) .nop (.cst (.int 1))), (.bin .add (.var 1) (.tup [(.cst (.int 0))])), (.tup [(.cst (.int 0)), (.var 6)]), (.tup [(.cst (.int 9)), (.tup [])]), (.tup [(.cst (.bl true)), (.tup [])])]),
  .set 3 (.cat true (.var 3) (.lst false [(.tup [(.var 5), (.bi .list false [(.var 6)])]), (.tup [(.var 5), (.bin .mul (.tup [(.var 2)]) (.cst (.int 25)))]), (.tup [(.var 5), (.tup [(.tup [(.var 5), (.tup [])])])]), (.tup [(.var 5), (.tup [(.tup [(.neg (.cst (.int 1))), (.tup [])])])]), (.tup [(.var 5), (.tup [(.cst .non)])])])),
  .for_ (.nm 4) .seq [(.lst false [(.tup [(.cst (.int 0)), (.lst false [(.tup [(.cst (.int 0)), (.cst (.int 1))])])]), (.tup [(.cst (.int 0)), (.tup [(.tup [(.cst (.int 0)), (.cst (.int 60))])])]), (.tup [(.cst (.int 0)), (.tup [(.tup [(.cst (.int 0)), (.neg (.cst (.int 61)))])])]), (.tup [(.cst (.int 0)), (.tup [(.tup [(.var 5), (.cst (.int 0))])])]), (.tup [(.cst (.int 0))]), (.tup [(.cst (.int 0)), (.tup [(.tup [(.cst (.int 0)), (.cst (.int 1))]), (.tup [(.cst (.int 0)), (.cst (.int 2))])])])])] [.ex (.mth .append (.var 3) [(.tup [(.var 5), (.tup [(.var 4)])])])],
  .for_ (.nm 4) .seq [(.lst false [(.tup [(.cst (.int 0)), (.tup [(.tup [(.cst (.int 0)), (.cst (.bl true))])])]), (.tup [(.cst (.bl false)), (.tup [])]), (.tup [(.lst false []), (.tup [])])])] [.ex (.mth .append (.var 3) [(.tup [(.var 5), (.bin .add (.slc false (.var 6) .nop (.cst (.int 23))) (.tup [(.var 4)]))])])],
  .ret (.idx (.var 3) (.call 20 [(.var 0), (.cst (.int 25))]))]⟩
/-- _law_text -/
def ir__law_text : Def := ⟨1, 7, [
  .set 1 (.lst true [(.bi .str false [(.idx (.var 0) (.cst (.int 0)))])]),
  .for_ (.tp [(.nm 2), (.nm 3)]) .seq [(.idx (.var 0) (.cst (.int 1)))] [.setc 4 (.cmpr false false [5, 6] .seq [(.var 3)] (.tp [(.nm 5), (.nm 6)]) .nop (.bin .add (.bin .add (.bi .str false [(.var 5)]) (.idx (.lst false [(.cst (.str (("-" : Str)))), (.cst (.str (("+" : Str))))]) (.bi .int false [(.cmp .ge (.var 6) (.cst (.int 0)))]))) (.bi .str false [(.bi .abs false [(.var 6)])]))), .ex (.mth .append (.var 1) [(.bin .add (.bin .add (.bi .str false [(.var 2)]) (.cst (.str ((" <= " : Str))))) (.ite (.cmp .ne (.var 4) (.lst false [])) (.mth .join (.cst (.str ((" | " : Str)))) [(.var 4)]) (.cst (.str (("never" : Str))))))])],
  .ret (.mth .join (.cst (.str (("; " : Str)))) [(.var 1)])]⟩
/-- _law_digits -/
def ir__law_digits : Def := ⟨2, 3, [
  .ifs (.or (.cmp .eq (.var 0) (.cst (.str (("" : Str))))) (.or (.cmp .gt (.bi .len false [(.var 0)]) (.cst (.int 2))) (.cmp .ne (.cmpr false false [2] .seq [(.var 0)] (.nm 2) (.cmp .notin (.var 2) (.cst (.str (("0123456789" : Str))))) (.var 2)) (.lst false [])))) [.ret (.cst .non)] [],
  .ret (.ite (.and (.cmp .eq (.bi .str false [(.bi .int false [(.var 0)])]) (.var 0)) (.cmp .lt (.bi .int false [(.var 0)]) (.var 1))) (.bi .int false [(.var 0)]) (.cst .non))]⟩
/-- _law_term -/
def ir__law_term : Def := ⟨2, 7, [
  .setc 2 (.cmpr false false [4, 6] .enm [(.var 0)] (.tp [(.nm 6), (.nm 4)]) (.cmp .in_ (.var 4) (.cst (.str (("+-" : Str))))) (.var 6)),
  .ifs (.cmp .ne (.bi .len false [(.var 2)]) (.cst (.int 1))) [.ret (.cst .non)] [],
  .par 4 5 (.idx (.var 0) (.idx (.var 2) (.cst (.int 0)))) (.call 29 [(.slc false (.var 0) .nop (.idx (.var 2) (.cst (.int 0)))), (.var 1)]),
  .set 3 (.call 29 [(.slc false (.var 0) (.bin .add (.idx (.var 2) (.cst (.int 0))) (.cst (.int 1))) .nop), (.cst (.int 61))]),
  .ifs (.or (.cmp .is_ (.var 5) (.cst .non)) (.or (.cmp .is_ (.var 3) (.cst .non)) (.cmp .eq (.var 3) (.idx (.lst false [(.cst (.int 60)), (.cst (.int 0))]) (.bi .int false [(.cmp .eq (.var 4) (.cst (.str (("-" : Str)))))]))))) [.ret (.cst .non)] [],
  .ret (.tup [(.var 5), (.ite (.cmp .eq (.var 4) (.cst (.str (("+" : Str))))) (.var 3) (.bin .sub (.cst (.int 0)) (.var 3)))])]⟩
/-- _law_rule -/
def ir__law_rule : Def := ⟨2, 7, [
  .set 2 (.mth .split (.var 0) [(.cst (.str ((" <= " : Str))))]),
  .ifs (.or (.cmp .ne (.bi .len false [(.var 2)]) (.cst (.int 2))) (.cmp .is_ (.call 29 [(.idx (.var 2) (.cst (.int 0))), (.var 1)]) (.cst .non))) [.ret (.cst .non)] [],
  .ifs (.cmp .eq (.idx (.var 2) (.cst (.int 1))) (.cst (.str (("never" : Str))))) [.ret (.tup [(.bi .int false [(.idx (.var 2) (.cst (.int 0)))]), (.tup [])])] [],
  .setc 3 (.cmpr false false [5] .seq [(.mth .split (.idx (.var 2) (.cst (.int 1))) [(.cst (.str ((" | " : Str))))])] (.nm 5) .nop (.call 30 [(.var 5), (.var 1)])),
  .ifs (.cmp .in_ (.cst .non) (.var 3)) [.ret (.cst .non)] [],
  .setc 4 (.cmpr false false [6] .seq [(.var 3)] (.nm 6) .nop (.idx (.var 6) (.cst (.int 0)))),
  .ret (.ite (.cmp .eq (.var 4) (.ssrt false (.var 4))) (.tup [(.bi .int false [(.idx (.var 2) (.cst (.int 0)))]), (.bi .tuple false [(.var 3)])]) (.cst .non))]⟩
/-- _law_parsed -/
def ir__law_parsed : Def := ⟨1, 5, [
  .set 1 (.mth .split (.var 0) [(.cst (.str (("; " : Str))))]),
  .set 2 (.call 29 [(.idx (.var 1) (.cst (.int 0))), (.cst (.int 9))]),
  .ifs (.or (.cmp .is_ (.var 2) (.cst .non)) (.or (.cmp .eq (.var 2) (.cst (.int 0))) (.cmp .gt (.bi .len false [(.var 1)]) (.cst (.int 25))))) [.ret (.cst .non)] [],
  .setc 3 (.cmpr false false [4] .seq [(.slc false (.var 1) (.cst (.int 1)) .nop)] (.nm 4) .nop (.call 31 [(.var 4), (.var 2)])),
  .ret (.ite (.cmp .in_ (.cst .non) (.var 3)) (.cst .non) (.tup [(.var 2), (.bi .tuple false [(.var 3)])]))]⟩
/-- _law_told -/
def ir__law_told : Def := ⟨1, 2, [
  .tryq [.ret (.call 18 [(.var 0)])] 0 (some 1) [[0], [1, 0], [2, 0]] (.ite (.and (.is 2) (.not (.is 1))) (.cst (.str (("refused" : Str)))) (.cst (.str (("other" : Str)))))]⟩
/-- _law_refused -/
def ir__law_refused : Def := ⟨1, 2, [
  .tryq [.ex (.call 17 [(.var 0)])] 0 (some 1) [[0], [1, 0], [2, 0]] (.and (.is 1) (.not (.is 2))),
  .ret (.cst (.bl false))]⟩
/-- _law_scarred -/
def ir__law_scarred : Def := ⟨2, 9, [
  .par 5 6 (.call 20 [(.var 0), (.bin .add (.bi .len false [(.var 1)]) (.cst (.int 1)))]) (.idx (.cst (.str (("0123456789_ +-|<=;n\n" : Str)))) (.call 20 [(.var 0), (.cst (.int 20))])),
  .par 7 8 (.slc false (.var 1) .nop (.var 5)) (.slc false (.var 1) (.var 5) .nop),
  .set 2 (.lst false [(.bin .add (.bin .add (.var 7) (.var 6)) (.var 8)), (.bin .add (.var 7) (.slc false (.var 8) (.cst (.int 1)) .nop)), (.bin .add (.bin .add (.var 7) (.var 6)) (.slc false (.var 8) (.cst (.int 1)) .nop)), (.var 7), (.var 8), (.bin .add (.var 1) (.var 1)), (.bin .add (.cst (.str ((" " : Str)))) (.var 1))]),
  .set 3 (.mth .split (.var 1) [(.cst (.str (("; " : Str))))]),
  .set 4 (.call 20 [(.var 0), (.bi .len false [(.var 3)])]),
  .set 2 (.cat false (.var 2) (.lst false [(.mth .join (.cst (.str (("; " : Str)))) [(.cat false (.slc false (.var 3) .nop (.var 4)) (.slc false (.var 3) (.bin .add (.var 4) (.cst (.int 1))) .nop))]), (.mth .join (.cst (.str (("; " : Str)))) [(.cat false (.slc false (.var 3) (.var 4) .nop) (.slc false (.var 3) .nop (.var 4)))])])),
  .ret (.idx (.cat false (.var 2) (.lst false [(.mth .join (.cst (.str (("; " : Str)))) [(.cat false (.var 3) (.slc false (.var 3) (.var 4) (.bin .add (.var 4) (.cst (.int 1)))))]), (.mth .upper (.var 1) [])])) (.call 20 [(.var 0), (.cst (.int 11))]))]⟩
/-- _law_written_right -/
def ir__law_written_right : Def := ⟨0, 4, [
  .set 0 (.lst false [(.cst (.str (("" : Str)))), (.cst (.str (("0" : Str)))), (.cst (.str (("1" : Str)))), (.cst (.str (("8" : Str)))), (.cst (.str (("9" : Str)))), (.cst (.str (("01" : Str)))), (.cst (.str (("1;" : Str)))), (.cst (.str (("1; " : Str)))), (.cst (.str (("+1" : Str)))), (.cst (.str (("2; 0 <= never" : Str)))), (.cst (.str (("2; 0 <= Never" : Str)))), (.cst (.str (("2; 0 <= " : Str))))]),
  .set 0 (.cat false (.var 0) (.lst false [(.cst (.str (("2;0 <= never" : Str)))), (.cst (.str (("2; 0 <= 1+0" : Str)))), (.cst (.str (("2; 0 <= 1-0" : Str)))), (.cst (.str (("2; 0 <= 1+59" : Str)))), (.cst (.str (("2; 0 <= 1+60" : Str)))), (.cst (.str (("2; 0 <= 1-60" : Str))))])),
  .set 0 (.cat false (.var 0) (.lst false [(.cst (.str (("2; 0 <= 1-61" : Str)))), (.cst (.str (("2; 0 <= 1+01" : Str)))), (.cst (.str (("2; 0 <= 0+1 | 1+1" : Str)))), (.cst (.str (("2; 0 <= 1+1 | 0+1" : Str)))), (.cst (.str (("2; 0 <= 1+1 | 1+2" : Str))))])),
  .set 0 (.cat false (.var 0) (.lst false [(.cst (.str (("2; 0 <= 1+1|0+1" : Str)))), (.cst (.str (("2; 2 <= never" : Str)))), (.cst (.str (("2; 0 <= 2+1" : Str)))), (.cst (.str (("2; 0 <= 1" : Str)))), (.cst (.str (("2; 0 <= 1+" : Str)))), (.cst (.str (("2; 0 <= +1" : Str))))])),
  .set 0 (.cat false (.var 0) (.lst false [(.cst (.str (("2; 0 < 1+1" : Str)))), (.cst (.str (("2; 0 <= 1+-1" : Str)))), (.cst (.str ((" 1" : Str)))), (.cst (.str (("1 " : Str)))), (.cst (.str (("1\n" : Str)))), (.cst (.str (("2; 0 <= 1+1 " : Str)))), (.cst (.str (("2;  0 <= 1+1" : Str))))])),
  .set 0 (.cat false (.var 0) (.lst false [(.cst (.str (("2; 0 <= 1+1_0" : Str)))), (.cst (.str (("2; 0 <= 1-1_" : Str)))), (.cst (.str (("2; 0 <= 1+_1" : Str)))), (.cst (.str (("2;\u00090 <= never" : Str)))), (.cst (.str (("2; 0 <= never\u0009" : Str))))])),
  .set 0 (.cat false (.var 0) (.cmpr false false [3] .seq [(.tup [(.cst (.int 1)), (.cst (.int 24)), (.cst (.int 25))])] (.nm 3) .nop (.bin .add (.cst (.str (("1" : Str)))) (.bin .mul (.cst (.str (("; 0 <= never" : Str)))) (.var 3))))),
  .for_ (.nm 1) .seq [(.var 0)] [.set 2 (.call 32 [(.var 1)]), .ifs (.cmp .ne (.bi .repr false [(.call 33 [(.var 1)])]) (.bi .repr false [(.ite (.cmp .is_ (.var 2) (.cst .non)) (.cst (.str (("refused" : Str)))) (.var 2))])) [.ret (.cst (.bl false))] []],
  .ret (.cst (.bl true))]⟩
/-- law -/
def ir_law : Def := ⟨1, 10, [
  .for_ (.nm 1) .rng [(.bi .max false [(.cst (.int 1)), (.bi .min false [(.cst (.int 10)), (.bi .len false [(.var 0)])])])] [.set 2 (.call 19 [(.var 0), (.var 1)]), .for_ (.nm 3) .rng [(.cst (.int 5))] [.set 4 (.call 25 [(.var 2), (.bin .add (.cst (.int 1)) (.call 20 [(.var 2), (.cst (.int 8))])), (.idx (.lst false [(.cst (.int 3)), (.cst (.int 59))]) (.call 20 [(.var 2), (.cst (.int 2))]))]), .set 5 (.call 28 [(.tup [(.idx (.var 4) (.cst (.int 0))), (.slc false (.idx (.var 4) (.cst (.int 1))) .nop (.call 20 [(.var 2), (.cst (.int 6))]))])]), .set 6 (.call 35 [(.var 2), (.var 5)]), .for_ (.nm 7) .seq [(.tup [(.var 5), (.var 6), (.call 35 [(.var 2), (.var 6)])])] [.set 9 (.call 32 [(.var 7)]), .ifs (.cmp .ne (.bi .repr false [(.call 33 [(.var 7)])]) (.bi .repr false [(.ite (.cmp .is_ (.var 9) (.cst .non)) (.cst (.str (("refused" : Str)))) (.var 9))])) [.ret (.cst (.bl false))] []], .set 8 (.call 26 [(.var 2)]), .ifs (.and (.not (.bi .isinst false [(.var 8), (.tyn (("str" : Str)) "str")])) (.cmp .ne (.call 33 [(.var 8)]) (.cst (.str (("refused" : Str)))))) [.ret (.cst (.bl false))] [], .ifs (.not (.call 34 [(.call 27 [(.var 2), (.var 4)])])) [.ret (.cst (.bl false))] []]],
  .ret (.call 36 [])]⟩
def irs : List Def := [ir_is_integer, ir_is_between, ir_is_delay, ir_is_pair, ir_are_terms, ir_is_loose_rule, ir_is_loose_rules, ir_is_rule_by, ir_is_rule_set, ir_check_rules, ir_number_of, ir_term_text, ir_rule_text, ir_rules_text, ir_term_of, ir_rule_of, ir_check_text, ir_format_rules, ir_parse_rules, ir__law_source, ir__law_draw, ir__law_delay, ir__law_terms, ir__law_ring, ir__law_widened, ir__law_rules, ir__law_odd, ir__law_no_rules, ir__law_text, ir__law_digits, ir__law_term, ir__law_rule, ir__law_parsed, ir__law_told, ir__law_refused, ir__law_scarred, ir__law_written_right, ir_law]
def tb : Nat → Option Def := fun f => irs[f]?
def T : Tab := ⟨[(("is_integer" : Str)), (("is_between" : Str)), (("is_delay" : Str)), (("is_pair" : Str)), (("are_terms" : Str)), (("is_loose_rule" : Str)), (("is_loose_rules" : Str)), (("is_rule_by" : Str)), (("is_rule_set" : Str)), (("check_rules" : Str)), (("number_of" : Str)), (("term_text" : Str)), (("rule_text" : Str)), (("rules_text" : Str)), (("term_of" : Str)), (("rule_of" : Str)), (("check_text" : Str)), (("format_rules" : Str)), (("parse_rules" : Str)), (("_law_source" : Str)), (("_law_draw" : Str)), (("_law_delay" : Str)), (("_law_terms" : Str)), (("_law_ring" : Str)), (("_law_widened" : Str)), (("_law_rules" : Str)), (("_law_odd" : Str)), (("_law_no_rules" : Str)), (("_law_text" : Str)), (("_law_digits" : Str)), (("_law_term" : Str)), (("_law_rule" : Str)), (("_law_parsed" : Str)), (("_law_told" : Str)), (("_law_refused" : Str)), (("_law_scarred" : Str)), (("_law_written_right" : Str)), (("law" : Str))], [((("MAX_VARIABLES" : Str)), (.int 8)), ((("MAX_RULES" : Str)), (.int 24)), ((("MAX_DELAY" : Str)), (.int 60)), ((("MAX_DIGITS" : Str)), (.int 2)), ((("NEVER" : Str)), (.str (("never" : Str)))), ((("DIGITS" : Str)), (.str (("0123456789" : Str))))], [(("abs" : Str)), (("all" : Str)), (("bool" : Str)), (("enumerate" : Str)), (("int" : Str)), (("isinstance" : Str)), (("len" : Str)), (("list" : Str)), (("max" : Str)), (("min" : Str)), (("range" : Str)), (("repr" : Str)), (("set" : Str)), (("sorted" : Str)), (("str" : Str)), (("sum" : Str)), (("tuple" : Str)), (("zip" : Str))], [((("TimingError" : Str)), [0]), ((("InvalidRules" : Str)), [1, 0]), ((("ParseError" : Str)), [2, 0])]⟩
def ps_is_integer : List Str := [(("value" : Str))]
def N_is_integer : List Str := [(("value" : Str))]
theorem chk_is_integer : chkD T ir_is_integer N_is_integer ps_is_integer (defScope (top 8)) (defBody (top 8)) = true := by decide +kernel
def ps_is_between : List Str := [(("value" : Str)), (("low" : Str)), (("high" : Str))]
def N_is_between : List Str := [(("value" : Str)), (("low" : Str)), (("high" : Str))]
theorem chk_is_between : chkD T ir_is_between N_is_between ps_is_between (defScope (top 9)) (defBody (top 9)) = true := by decide +kernel
def ps_is_delay : List Str := [(("value" : Str))]
def N_is_delay : List Str := [(("value" : Str))]
theorem chk_is_delay : chkD T ir_is_delay N_is_delay ps_is_delay (defScope (top 10)) (defBody (top 10)) = true := by decide +kernel
def ps_is_pair : List Str := [(("value" : Str))]
def N_is_pair : List Str := [(("value" : Str))]
theorem chk_is_pair : chkD T ir_is_pair N_is_pair ps_is_pair (defScope (top 11)) (defBody (top 11)) = true := by decide +kernel
def ps_are_terms : List Str := [(("size" : Str)), (("value" : Str))]
def N_are_terms : List Str := [(("size" : Str)), (("value" : Str)), (("one" : Str)), (("other" : Str)), (("term" : Str)), (("variable" : Str)), (("delay" : Str))]
theorem chk_are_terms : chkD T ir_are_terms N_are_terms ps_are_terms (defScope (top 12)) (defBody (top 12)) = true := by decide +kernel
def ps_is_loose_rule : List Str := [(("size" : Str)), (("value" : Str))]
def N_is_loose_rule : List Str := [(("size" : Str)), (("value" : Str))]
theorem chk_is_loose_rule : chkD T ir_is_loose_rule N_is_loose_rule ps_is_loose_rule (defScope (top 13)) (defBody (top 13)) = true := by decide +kernel
def ps_is_loose_rules : List Str := [(("value" : Str))]
def N_is_loose_rules : List Str := [(("value" : Str)), (("rule" : Str))]
theorem chk_is_loose_rules : chkD T ir_is_loose_rules N_is_loose_rules ps_is_loose_rules (defScope (top 14)) (defBody (top 14)) = true := by decide +kernel
def ps_is_rule_by : List Str := [(("size" : Str)), (("value" : Str))]
def N_is_rule_by : List Str := [(("size" : Str)), (("value" : Str)), (("variable" : Str)), (("delay" : Str))]
theorem chk_is_rule_by : chkD T ir_is_rule_by N_is_rule_by ps_is_rule_by (defScope (top 15)) (defBody (top 15)) = true := by decide +kernel
def ps_is_rule_set : List Str := [(("value" : Str))]
def N_is_rule_set : List Str := [(("value" : Str)), (("rule" : Str))]
theorem chk_is_rule_set : chkD T ir_is_rule_set N_is_rule_set ps_is_rule_set (defScope (top 16)) (defBody (top 16)) = true := by decide +kernel
def ps_check_rules : List Str := [(("rules" : Str))]
def N_check_rules : List Str := [(("rules" : Str))]
theorem chk_check_rules : chkD T ir_check_rules N_check_rules ps_check_rules (defScope (top 17)) (defBody (top 17)) = true := by decide +kernel
def ps_number_of : List Str := [(("text" : Str))]
def N_number_of : List Str := [(("text" : Str)), (("digit" : Str))]
theorem chk_number_of : chkD T ir_number_of N_number_of ps_number_of (defScope (top 22)) (defBody (top 22)) = true := by decide +kernel
def ps_term_text : List Str := [(("term" : Str))]
def N_term_text : List Str := [(("term" : Str)), (("variable" : Str)), (("delay" : Str))]
theorem chk_term_text : chkD T ir_term_text N_term_text ps_term_text (defScope (top 23)) (defBody (top 23)) = true := by decide +kernel
def ps_rule_text : List Str := [(("rule" : Str))]
def N_rule_text : List Str := [(("rule" : Str)), (("right" : Str)), (("left" : Str)), (("terms" : Str)), (("term" : Str))]
theorem chk_rule_text : chkD T ir_rule_text N_rule_text ps_rule_text (defScope (top 24)) (defBody (top 24)) = true := by decide +kernel
def ps_rules_text : List Str := [(("rules" : Str))]
def N_rules_text : List Str := [(("rules" : Str)), (("rule" : Str))]
theorem chk_rules_text : chkD T ir_rules_text N_rules_text ps_rules_text (defScope (top 25)) (defBody (top 25)) = true := by decide +kernel
def ps_term_of : List Str := [(("text" : Str))]
def N_term_of : List Str := [(("text" : Str)), (("number" : Str)), (("variable" : Str)), (("sign" : Str)), (("digits" : Str))]
theorem chk_term_of : chkD T ir_term_of N_term_of ps_term_of (defScope (top 26)) (defBody (top 26)) = true := by decide +kernel
def ps_rule_of : List Str := [(("text" : Str))]
def N_rule_of : List Str := [(("text" : Str)), (("terms" : Str)), (("left" : Str)), (("sign" : Str)), (("right" : Str)), (("part" : Str))]
theorem chk_rule_of : chkD T ir_rule_of N_rule_of ps_rule_of (defScope (top 27)) (defBody (top 27)) = true := by decide +kernel
def ps_check_text : List Str := [(("text" : Str))]
def N_check_text : List Str := [(("text" : Str))]
theorem chk_check_text : chkD T ir_check_text N_check_text ps_check_text (defScope (top 28)) (defBody (top 28)) = true := by decide +kernel
def ps_format_rules : List Str := [(("rules" : Str))]
def N_format_rules : List Str := [(("rules" : Str))]
theorem chk_format_rules : chkD T ir_format_rules N_format_rules ps_format_rules (defScope (top 29)) (defBody (top 29)) = true := by decide +kernel
def ps_parse_rules : List Str := [(("text" : Str))]
def N_parse_rules : List Str := [(("text" : Str)), (("found" : Str)), (("size" : Str)), (("parts" : Str)), (("part" : Str))]
theorem chk_parse_rules : chkD T ir_parse_rules N_parse_rules ps_parse_rules (defScope (top 30)) (defBody (top 30)) = true := by decide +kernel
def ps__law_source : List Str := [(("script" : Str)), (("at" : Str))]
def N__law_source : List Str := [(("script" : Str)), (("at" : Str)), (("cell" : Str)), (("great" : Str)), (("mixed" : Str))]
theorem chk__law_source : chkD T ir__law_source N__law_source ps__law_source (defScope (top 32)) (defBody (top 32)) = true := by decide +kernel
def ps__law_draw : List Str := [(("source" : Str)), (("many" : Str))]
def N__law_draw : List Str := [(("source" : Str)), (("many" : Str)), (("one" : Str)), (("two" : Str)), (("found" : Str))]
theorem chk__law_draw : chkD T ir__law_draw N__law_draw ps__law_draw (defScope (top 33)) (defBody (top 33)) = true := by decide +kernel
def ps__law_delay : List Str := [(("source" : Str)), (("reach" : Str))]
def N__law_delay : List Str := [(("source" : Str)), (("reach" : Str)), (("way" : Str))]
theorem chk__law_delay : chkD T ir__law_delay N__law_delay ps__law_delay (defScope (top 34)) (defBody (top 34)) = true := by decide +kernel
def ps__law_terms : List Str := [(("source" : Str)), (("size" : Str)), (("many" : Str)), (("reach" : Str))]
def N__law_terms : List Str := [(("source" : Str)), (("size" : Str)), (("many" : Str)), (("reach" : Str)), (("found" : Str)), (("turn" : Str)), (("variable" : Str))]
theorem chk__law_terms : chkD T ir__law_terms N__law_terms ps__law_terms (defScope (top 35)) (defBody (top 35)) = true := by decide +kernel
def ps__law_ring : List Str := [(("source" : Str)), (("size" : Str)), (("total" : Str))]
def N__law_ring : List Str := [(("source" : Str)), (("size" : Str)), (("total" : Str)), (("turn" : Str)), (("delays" : Str)), (("left" : Str)), (("row" : Str)), (("at" : Str)), (("one" : Str))]
theorem chk__law_ring : chkD T ir__law_ring N__law_ring ps__law_ring (defScope (top 36)) (defBody (top 36)) = true := by decide +kernel
def ps__law_widened : List Str := [(("source" : Str)), (("size" : Str)), (("row" : Str)), (("reach" : Str))]
def N__law_widened : List Str := [(("source" : Str)), (("size" : Str)), (("row" : Str)), (("reach" : Str)), (("other" : Str)), (("variable" : Str)), (("terms" : Str)), (("one" : Str)), (("delay" : Str))]
theorem chk__law_widened : chkD T ir__law_widened N__law_widened ps__law_widened (defScope (top 37)) (defBody (top 37)) = true := by decide +kernel
def ps__law_rules : List Str := [(("source" : Str)), (("size" : Str)), (("reach" : Str))]
def N__law_rules : List Str := [(("source" : Str)), (("size" : Str)), (("reach" : Str)), (("found" : Str)), (("turn" : Str)), (("mixed" : Str)), (("ring" : Str)), (("wide" : Str)), (("many" : Str)), (("row" : Str))]
theorem chk__law_rules : chkD T ir__law_rules N__law_rules ps__law_rules (defScope (top 38)) (defBody (top 38)) = true := by decide +kernel
def ps__law_odd : List Str := [(("source" : Str))]
def N__law_odd : List Str := [(("source" : Str)), (("some" : Str))]
theorem chk__law_odd : chkD T ir__law_odd N__law_odd ps__law_odd (defScope (top 39)) (defBody (top 39)) = true := by decide +kernel
def ps__law_no_rules : List Str := [(("source" : Str)), (("given" : Str))]
def N__law_no_rules : List Str := [(("source" : Str)), (("given" : Str)), (("row" : Str)), (("bad" : Str)), (("odd" : Str)), (("size" : Str)), (("some" : Str))]
theorem chk__law_no_rules : chkD T ir__law_no_rules N__law_no_rules ps__law_no_rules (defScope (top 40)) (defBody (top 40)) = true := by decide +kernel
def ps__law_text : List Str := [(("given" : Str))]
def N__law_text : List Str := [(("given" : Str)), (("parts" : Str)), (("left" : Str)), (("terms" : Str)), (("words" : Str)), (("variable" : Str)), (("delay" : Str))]
theorem chk__law_text : chkD T ir__law_text N__law_text ps__law_text (defScope (top 41)) (defBody (top 41)) = true := by decide +kernel
def ps__law_digits : List Str := [(("text" : Str)), (("high" : Str))]
def N__law_digits : List Str := [(("text" : Str)), (("high" : Str)), (("sign" : Str))]
theorem chk__law_digits : chkD T ir__law_digits N__law_digits ps__law_digits (defScope (top 42)) (defBody (top 42)) = true := by decide +kernel
def ps__law_term : List Str := [(("text" : Str)), (("size" : Str))]
def N__law_term : List Str := [(("text" : Str)), (("size" : Str)), (("at" : Str)), (("delay" : Str)), (("sign" : Str)), (("variable" : Str)), (("place" : Str))]
theorem chk__law_term : chkD T ir__law_term N__law_term ps__law_term (defScope (top 43)) (defBody (top 43)) = true := by decide +kernel
def ps__law_rule : List Str := [(("text" : Str)), (("size" : Str))]
def N__law_rule : List Str := [(("text" : Str)), (("size" : Str)), (("parts" : Str)), (("terms" : Str)), (("some" : Str)), (("part" : Str)), (("term" : Str))]
theorem chk__law_rule : chkD T ir__law_rule N__law_rule ps__law_rule (defScope (top 44)) (defBody (top 44)) = true := by decide +kernel
def ps__law_parsed : List Str := [(("text" : Str))]
def N__law_parsed : List Str := [(("text" : Str)), (("parts" : Str)), (("size" : Str)), (("found" : Str)), (("part" : Str))]
theorem chk__law_parsed : chkD T ir__law_parsed N__law_parsed ps__law_parsed (defScope (top 45)) (defBody (top 45)) = true := by decide +kernel
def ps__law_told : List Str := [(("value" : Str))]
def N__law_told : List Str := [(("value" : Str)), (("e" : Str))]
theorem chk__law_told : chkD T ir__law_told N__law_told ps__law_told (defScope (top 46)) (defBody (top 46)) = true := by decide +kernel
def ps__law_refused : List Str := [(("value" : Str))]
def N__law_refused : List Str := [(("value" : Str)), (("e" : Str))]
theorem chk__law_refused : chkD T ir__law_refused N__law_refused ps__law_refused (defScope (top 47)) (defBody (top 47)) = true := by decide +kernel
def ps__law_scarred : List Str := [(("source" : Str)), (("text" : Str))]
def N__law_scarred : List Str := [(("source" : Str)), (("text" : Str)), (("some" : Str)), (("parts" : Str)), (("spot" : Str)), (("at" : Str)), (("sign" : Str)), (("head" : Str)), (("tail" : Str))]
theorem chk__law_scarred : chkD T ir__law_scarred N__law_scarred ps__law_scarred (defScope (top 48)) (defBody (top 48)) = true := by decide +kernel
def ps__law_written_right : List Str := []
def N__law_written_right : List Str := [(("some" : Str)), (("text" : Str)), (("due" : Str)), (("many" : Str))]
theorem chk__law_written_right : chkD T ir__law_written_right N__law_written_right ps__law_written_right (defScope (top 49)) (defBody (top 49)) = true := by decide +kernel
def ps_law : List Str := [(("script" : Str))]
def N_law : List Str := [(("script" : Str)), (("at" : Str)), (("source" : Str)), (("turn" : Str)), (("given" : Str)), (("text" : Str)), (("scarred" : Str)), (("value" : Str)), (("odd" : Str)), (("due" : Str))]
theorem chk_law : chkD T ir_law N_law ps_law (defScope (top 50)) (defBody (top 50)) = true := by decide +kernel
end K85
end

section
set_option Elab.async false
set_option linter.all false
set_option maxRecDepth 100000
set_option maxHeartbeats 1000000
/-! Stepping through the evaluator by simp: the continuations are constants, so only what is evaluated next is looked at. -/
namespace Rf
open PySem
section
variable (c : Call)
def kVar (o : Option (Option PV)) (h : PHeap) : Res PV := match o with
  | some (some v) => .ok v h
  | _ => .stuck
def kBin (o : BO) (b : E) (ρ : PSt) (v : PV) (h : PHeap) : Res PV := (evalE c b ρ h).bind (binOp o v)
def kCat (mu : Bool) (b : E) (ρ : PSt) (v : PV) (h : PHeap) : Res PV := (evalE c b ρ h).bind (catOp mu v)
def kNeg (v : PV) (h : PHeap) : Res PV := match v with
  | .int i => .ok (.int (-i)) h
  | _ => .stuck
def kNot (v : PV) (h : PHeap) : Res PV := orStuck (truth h v) fun b => .ok (.bl (!b)) h
def kAnd2 (b : E) (ρ : PSt) (v : PV) (h : PHeap) (k : Bool) : Res PV := if k = true then evalE c b ρ h else .ok v h
def kAnd (b : E) (ρ : PSt) (v : PV) (h : PHeap) : Res PV := orStuck (truth h v) (kAnd2 c b ρ v h)
def kOr2 (b : E) (ρ : PSt) (v : PV) (h : PHeap) (k : Bool) : Res PV := if k = true then .ok v h else evalE c b ρ h
def kOr (b : E) (ρ : PSt) (v : PV) (h : PHeap) : Res PV := orStuck (truth h v) (kOr2 c b ρ v h)
def kIte2 (a b : E) (ρ : PSt) (h : PHeap) (k : Bool) : Res PV := if k = true then evalE c a ρ h else evalE c b ρ h
def kIte (a b : E) (ρ : PSt) (v : PV) (h : PHeap) : Res PV := orStuck (truth h v) (kIte2 c a b ρ h)
def okB' (h : PHeap) (k : Bool) : Res PV := .ok (.bl k) h
def kCmp2 (o : CO) (v w : PV) (h : PHeap) : Res PV := orStuck (cmpP o h v w) (okB' h)
def kCmp (o : CO) (b : E) (ρ : PSt) (v : PV) (h : PHeap) : Res PV := (evalE c b ρ h).bind (kCmp2 o v)
def kChn3 (o' : CO) (d : E) (ρ : PSt) (w : PV) (h : PHeap) (k : Bool) : Res PV := if k = true then (evalE c d ρ h).bind (kCmp2 o' w) else .ok (.bl false) h
def kChn2 (o o' : CO) (d : E) (ρ : PSt) (v w : PV) (h : PHeap) : Res PV := orStuck (cmpP o h v w) (kChn3 c o' d ρ w h)
def kChn (o o' : CO) (b d : E) (ρ : PSt) (v : PV) (h : PHeap) : Res PV := (evalE c b ρ h).bind (kChn2 c o o' d ρ v)
def kMth (m : Me) (es : List E) (ρ : PSt) (v : PV) (h : PHeap) : Res PV := guardR (mthPre m h v = true) ((evalEs c es ρ h).bind (mthOp m v))
def kTup (vs : List PV) (h : PHeap) : Res PV := guardR (vs.length ≤ szB) (.ok (.tup vs) h)
def kLst (mu : Bool) (vs : List PV) (h : PHeap) : Res PV := guardR (vs.length ≤ szB) (mkL mu vs h)
def kIdx (i : E) (ρ : PSt) (v : PV) (h : PHeap) : Res PV := (evalE c i ρ h).bind (idxOp v)
def kPart (v : PV) (h : PHeap) : Res (Option Int) := orStuck (intOf v) fun i => .ok (some i) h
def partE (lo : E) (ρ : PSt) (h : PHeap) : Res (Option Int) := if isNop lo = true then .ok none h else (evalE c lo ρ h).bind kPart
def kSlc2 (mu : Bool) (v : PV) (l : Option Int) (u : Option Int) (h : PHeap) : Res PV := slcOp mu v l u h
def kSlc1 (mu : Bool) (hi : E) (ρ : PSt) (v : PV) (l : Option Int) (h : PHeap) : Res PV := (partE c hi ρ h).bind (kSlc2 mu v l)
def kSlc (mu : Bool) (lo hi : E) (ρ : PSt) (v : PV) (h : PHeap) : Res PV := (partE c lo ρ h).bind (kSlc1 c mu hi ρ v)
def kFld (v : PV) (h : PHeap) : Res PV := orStuck (fmt v) fun x => .ok (.str x) h
def kStr (x : Str) (h : PHeap) : Res PV := .ok (.str x) h
def kCons (v : PV) (vs : List PV) (h : PHeap) : Res (List PV) := .ok (v :: vs) h
def kEs (es : List E) (ρ : PSt) (v : PV) (h : PHeap) : Res (List PV) := (evalEs c es ρ h).bind (kCons v)
def kJ (es : List E) (acc : Str) (ρ : PSt) (v : PV) (h : PHeap) : Res Str := orStuck (strOf v) fun y => guardR ((acc ++ y).length ≤ szB) (evalJ c es (acc ++ y) ρ h)
def kJ' (es : List E) (acc : Str) (ρ : PSt) (h : PHeap) (y : Str) : Res Str := guardR ((acc ++ y).length ≤ szB) (evalJ c es (acc ++ y) ρ h)
/-- a turn of a comprehension -/
def kT2 (v : PV) (h : PHeap) : Res (Option PV) := .ok (some v) h
def kT1 (elt : E) (ρ : PSt) (h : PHeap) (k : Bool) : Res (Option PV) := if k = true then (evalE c elt ρ h).bind kT2 else .ok none h
def kT (elt : E) (ρ : PSt) (b : PV) (h : PHeap) : Res (Option PV) := orStuck (truth h b) (kT1 c elt ρ h)
def kTurn (own : List Nat) (tg : T) (cd elt : E) (ρ : PSt) (x : PV) (h : PHeap) : Res (Option PV) := match bindT h tg x (wipeP ρ own) with
  | none => .stuck
  | some ρ' => if isNop cd = true then noExc ((evalE c elt ρ' h).bind kT2) else noExc ((evalE c cd ρ' h).bind (kT c elt ρ'))
def kTurnX (own : List Nat) (tg : T) (cd elt : E) (ρ : PSt) (x : PV) (h : PHeap) : Res (Option PV) := match bindT h tg x (wipeP ρ own) with
  | none => .stuck
  | some ρ' => if isNop cd = true then (evalE c elt ρ' h).bind kT2 else (evalE c cd ρ' h).bind (kT c elt ρ')
def kLcWX (mu : Bool) (own : List Nat) (tg : T) (cd elt : E) (ρ : PSt) (h : PHeap) (w : Walk) : Res PV := guardR (w.len h ≤ szB) ((compN w (kTurnX c own tg cd elt ρ) (w.len h + 1) 0 h).bind (mkL mu))
def kLcX (mu : Bool) (own : List Nat) (ik : IK) (tg : T) (cd elt : E) (ρ : PSt) (vs : List PV) (h : PHeap) : Res PV := orStuck (walkOf ik vs h) (kLcWX c mu own tg cd elt ρ h)
def kSsrt (mu : Bool) (v : PV) (h : PHeap) : Res PV := orStuck ((lstOf h v).bind (allOf intOf)) fun ns => guardR (ns.length < 4000 ∧ (sortU ns).length < 60) (mkL mu ((sortU ns).map .int) h)
def kLcW (mu : Bool) (own : List Nat) (tg : T) (cd elt : E) (ρ : PSt) (h : PHeap) (w : Walk) : Res PV := guardR (w.len h ≤ szB) ((compN w (kTurn c own tg cd elt ρ) (w.len h + 1) 0 h).bind (mkL mu))
def kLc (mu : Bool) (own : List Nat) (ik : IK) (tg : T) (cd elt : E) (ρ : PSt) (vs : List PV) (h : PHeap) : Res PV := orStuck (walkOf ik vs h) (kLcW c mu own tg cd elt ρ h)
/-! statements -/
def kSet (ρ : PSt) (i : Nat) (v : PV) (h : PHeap) : Fl := .nx (ρ.set i (some v)) h
def kUnp (ρ : PSt) (tg : T) (v : PV) (h : PHeap) : Fl := orStuckF (bindT h tg v ρ) fun ρ' => .nx ρ' h
def kPar2 (ρ : PSt) (i j : Nat) (v w : PV) (h : PHeap) : Fl := .nx ((ρ.set i (some v)).set j (some w)) h
def kPar (ρ : PSt) (i j : Nat) (b : E) (v : PV) (h : PHeap) : Fl := (evalE c b ρ h).fl ρ (kPar2 ρ i j v)
def kSeti3 (ρ : PSt) (x v w : PV) (h : PHeap) : Fl := orStuckF (setOp v w x h) fun h4 => .nx ρ h4
def kSeti2 (ρ : PSt) (i : E) (x v : PV) (h : PHeap) : Fl := (evalE c i ρ h).fl ρ (kSeti3 ρ x v)
def kSeti (ρ : PSt) (o i : E) (x : PV) (h : PHeap) : Fl := (evalE c o ρ h).fl ρ (kSeti2 c ρ i x)
def kAug (ρ : PSt) (i : Nat) (o : BO) (e : E) (x : Option (Option PV)) (h : PHeap) : Fl := match x with
  | some (some x) => (evalE c e ρ h).fl ρ fun y h1 => (augOp o x y h1).fl ρ (kSet ρ i)
  | _ => .stuck
def kEx (ρ : PSt) (_ : PV) (h : PHeap) : Fl := .nx ρ h
def kIf2 (a b : List S) (ρ : PSt) (h : PHeap) (k : Bool) : Fl := if k = true then evalSs c a ρ h else evalSs c b ρ h
def kIf (a b : List S) (ρ : PSt) (v : PV) (h : PHeap) : Fl := orStuckF (truth h v) (kIf2 c a b ρ h)
def kB2 (b : List S) (h : PHeap) (ρ : PSt) : Fl := evalSs c b ρ h
def kBody (tg : T) (b : List S) (x : PV) (ρ : PSt) (h : PHeap) : Fl := orStuckF (bindT h tg x ρ) (kB2 c b h)
def kForW (tg : T) (b : List S) (ρ : PSt) (h : PHeap) (w : Walk) : Fl := loopN w (kBody c tg b) (w.len h + 1) 0 ρ h
def kFor (tg : T) (ik : IK) (b : List S) (ρ : PSt) (vs : List PV) (h : PHeap) : Fl := orStuckF (walkOf ik vs h) (kForW c tg b ρ h)
def kSs (r : List S) (ρ : PSt) (h : PHeap) : Fl := evalSs c r ρ h
variable (ρ : PSt) (h : PHeap)
theorem e_var (i : Nat) : evalE c (.var i) ρ h = kVar ρ[i]? h := by
  simp only [evalE]; rfl
theorem e_bin (o : BO) (a b : E) : evalE c (.bin o a b) ρ h = (evalE c a ρ h).bind (kBin c o b ρ) := by simp only [evalE]; rfl
theorem e_cat (mu : Bool) (a b : E) : evalE c (.cat mu a b) ρ h = (evalE c a ρ h).bind (kCat c mu b ρ) := by simp only [evalE]; rfl
theorem e_neg (a : E) : evalE c (.neg a) ρ h = (evalE c a ρ h).bind kNeg := by simp only [evalE]; rfl
theorem e_not (a : E) : evalE c (.not a) ρ h = (evalE c a ρ h).bind kNot := by simp only [evalE]; rfl
theorem e_and (a b : E) : evalE c (.and a b) ρ h = (evalE c a ρ h).bind (kAnd c b ρ) := by simp only [evalE]; rfl
theorem e_or (a b : E) : evalE c (.or a b) ρ h = (evalE c a ρ h).bind (kOr c b ρ) := by simp only [evalE]; rfl
theorem e_ite (t a b : E) : evalE c (.ite t a b) ρ h = (evalE c t ρ h).bind (kIte c a b ρ) := by simp only [evalE]; rfl
theorem e_cmp (o : CO) (a b : E) : evalE c (.cmp o a b) ρ h = (evalE c a ρ h).bind (kCmp c o b ρ) := by simp only [evalE]; rfl
theorem e_chn (o o' : CO) (a b d : E) : evalE c (.chn o o' a b d) ρ h = (evalE c a ρ h).bind (kChn c o o' b d ρ) := by simp only [evalE]; rfl
theorem e_call (f : Nat) (es : List E) : evalE c (.call f es) ρ h = (evalEs c es ρ h).bind (c f) := by simp only [evalE]
theorem e_bi (b : Bi) (mu : Bool) (es : List E) : evalE c (.bi b mu es) ρ h = (evalEs c es ρ h).bind (biOp b mu) := by simp only [evalE]
theorem e_mth (m : Me) (o : E) (es : List E) : evalE c (.mth m o es) ρ h = (evalE c o ρ h).bind (kMth c m es ρ) := by simp only [evalE]; rfl
theorem e_tup (es : List E) : evalE c (.tup es) ρ h = (evalEs c es ρ h).bind kTup := by simp only [evalE]; rfl
theorem e_lst (mu : Bool) (es : List E) : evalE c (.lst mu es) ρ h = (evalEs c es ρ h).bind (kLst mu) := by simp only [evalE]; rfl
theorem e_idx (a i : E) : evalE c (.idx a i) ρ h = (evalE c a ρ h).bind (kIdx c i ρ) := by simp only [evalE]; rfl
theorem e_slc (mu : Bool) (a lo hi : E) : evalE c (.slc mu a lo hi) ρ h = (evalE c a ρ h).bind (kSlc c mu lo hi ρ) := by simp only [evalE]; rfl
theorem e_rev (mu : Bool) (a : E) : evalE c (.rev mu a) ρ h = (evalE c a ρ h).bind (revOp mu) := by simp only [evalE]
theorem e_lrng (mu : Bool) (es : List E) : evalE c (.lrng mu es) ρ h = (evalEs c es ρ h).bind (lrngOp mu) := by simp only [evalE]
theorem e_fld (e : E) : evalE c (.fld e) ρ h = (evalE c e ρ h).bind kFld := by simp only [evalE]; rfl
theorem e_fst (ps : List E) : evalE c (.fst ps) ρ h = (evalJ c ps Str.empty ρ h).bind kStr := by simp only [evalE]; rfl
theorem e_cmpr (mu : Bool) (own : List Nat) (ik : IK) (its : List E) (tg : T) (cd elt : E) : evalE c (.cmpr mu false own ik its tg cd elt) ρ h = (evalEs c its ρ h).bind (kLc c mu own ik tg cd elt ρ) := by simp only [evalE]; rfl
theorem e_cmprX (mu : Bool) (own : List Nat) (ik : IK) (its : List E) (tg : T) (cd elt : E) : evalE c (.cmpr mu true own ik its tg cd elt) ρ h = (evalEs c its ρ h).bind (kLcX c mu own ik tg cd elt ρ) := by simp only [evalE]; rfl
theorem e_ssrt (mu : Bool) (e : E) : evalE c (.ssrt mu e) ρ h = (evalE c e ρ h).bind (kSsrt mu) := by simp only [evalE]; rfl
theorem s_rs (k : Nat) : evalS c (.rs k) ρ h = .exc ⟨k, none⟩ ρ h := by simp only [evalS]
theorem s_tryq (b : List S) (k : Nat) (nm : Option Nat) (sups : List (List Nat)) (q : Qx) : evalS c (.tryq b k nm sups q) ρ h = tryF (evalSs c b ρ h) k sups q := by simp only [evalS]
theorem e_cst (v : PV) : evalE c (.cst v) ρ h = .ok v h := by simp only [evalE]
theorem e_glb (x : Str) (v : PV) : evalE c (.glb x v) ρ h = .ok v h := by simp only [evalE]
theorem e_tyn (x : Str) (n : String) : evalE c (.tyn x n) ρ h = .ok (.ty n) h := by simp only [evalE]
theorem e_dnew (t : Bool) : evalE c (.dnew t) ρ h = .ok (.loc h.length) (h ++ [if t then .dT [] else .dK []]) := by simp only [evalE]
theorem es_nil : evalEs c [] ρ h = .ok [] h := by simp only [evalEs]
theorem es_cons (e : E) (es : List E) : evalEs c (e :: es) ρ h = (evalE c e ρ h).bind (kEs c es ρ) := by simp only [evalEs]; rfl
theorem ej_nil (acc : Str) : evalJ c [] acc ρ h = .ok acc h := by simp only [evalJ]
theorem ej_cons (e : E) (es : List E) (acc : Str) : evalJ c (e :: es) acc ρ h = (evalE c e ρ h).bind (kJ c es acc ρ) := by simp only [evalJ]; rfl
theorem ss_nil : evalSs c [] ρ h = .nx ρ h := by simp only [evalSs]
theorem ss_cons (s : S) (r : List S) : evalSs c (s :: r) ρ h = (evalS c s ρ h).seq (kSs c r) := by simp only [evalSs]; rfl
theorem s_set (i : Nat) (e : E) : evalS c (.set i e) ρ h = (evalE c e ρ h).fl ρ (kSet ρ i) := by simp only [evalS]; rfl
theorem s_setc (i : Nat) (e : E) : evalS c (.setc i e) ρ h = (evalE c e ρ h).fl ρ (kSet ρ i) := by simp only [evalS]; rfl
theorem s_unp (tg : T) (e : E) : evalS c (.unp tg e) ρ h = (evalE c e ρ h).fl ρ (kUnp ρ tg) := by simp only [evalS]; rfl
theorem s_par (i j : Nat) (a b : E) : evalS c (.par i j a b) ρ h = (evalE c a ρ h).fl ρ (kPar c ρ i j b) := by simp only [evalS]; rfl
theorem s_seti (o i e : E) : evalS c (.seti o i e) ρ h = (evalE c e ρ h).fl ρ (kSeti c ρ o i) := by simp only [evalS]; rfl
theorem s_aug (i : Nat) (o : BO) (e : E) : evalS c (.aug i o e) ρ h = kAug c ρ i o e ρ[i]? h := by simp only [evalS, kAug]; rfl
theorem s_ex (e : E) : evalS c (.ex e) ρ h = (evalE c e ρ h).fl ρ (kEx ρ) := by simp only [evalS]; rfl
theorem s_ret (e : E) : evalS c (.ret e) ρ h = (evalE c e ρ h).fl ρ Fl.rt := by simp only [evalS]
theorem s_ret0 : evalS c .ret0 ρ h = .rt .non h := by simp only [evalS]
theorem s_if (t : E) (a b : List S) : evalS c (.ifs t a b) ρ h = (evalE c t ρ h).fl ρ (kIf c a b ρ) := by simp only [evalS]; rfl
theorem s_for (tg : T) (ik : IK) (its : List E) (b : List S) : evalS c (.for_ tg ik its b) ρ h = (evalEs c its ρ h).evs ρ (kFor c tg ik b ρ) := by simp only [evalS]; rfl
theorem s_whl (t : E) (b : List S) : evalS c (.whl t b) ρ h = whileN (evalE c t) (evalSs c b) fuelW ρ h := by simp only [evalS]
theorem s_pas : evalS c .pas ρ h = .nx ρ h := by simp only [evalS]
theorem s_brk : evalS c .brk ρ h = .bk ρ h := by simp only [evalS]
theorem s_cnt : evalS c .cnt ρ h = .ct ρ h := by simp only [evalS]
end
theorem bind_ok' {α β : Type} (a : α) (h : PHeap) (k : α → PHeap → Res β) : (Res.ok a h).bind k = k a h := rfl
theorem fl_ok' (v : PV) (h : PHeap) (ρ : PSt) (k : PV → PHeap → Fl) : (Res.ok v h).fl ρ k = k v h := rfl
theorem evs_ok' (v : List PV) (h : PHeap) (ρ : PSt) (k : List PV → PHeap → Fl) : (Res.ok v h).evs ρ k = k v h := rfl
theorem seq_nx' (ρ : PSt) (h : PHeap) (k : PSt → PHeap → Fl) : (Fl.nx ρ h).seq k = k ρ h := rfl
theorem seq_rt' (v : PV) (h : PHeap) (k : PSt → PHeap → Fl) : (Fl.rt v h).seq k = .rt v h := rfl
theorem seq_bk' (ρ : PSt) (h : PHeap) (k : PSt → PHeap → Fl) : (Fl.bk ρ h).seq k = .bk ρ h := rfl
theorem seq_ct' (ρ : PSt) (h : PHeap) (k : PSt → PHeap → Fl) : (Fl.ct ρ h).seq k = .ct ρ h := rfl
theorem got_some' {α β : Type} (a : α) (k : α → Res β) : orStuck (some a) k = k a := rfl
theorem gotF_some' {α : Type} (a : α) (k : α → Fl) : orStuckF (some a) k = k a := rfl
theorem res_rt' (v : PV) (h : PHeap) : (Fl.rt v h).res = .ok v h := rfl
theorem res_nx' (ρ : PSt) (h : PHeap) : (Fl.nx ρ h).res = .ok .non h := rfl
theorem guard_yes {α : Type} {c : Prop} [Decidable c] (hc : c) (r : Res α) : guardR c r = r := if_pos hc
theorem noExc_ok' {α : Type} (a : α) (h : PHeap) : noExc (Res.ok a h) = .ok a h := rfl
theorem truth_bl (h : PHeap) (b : Bool) : truth h (.bl b) = some b := rfl
theorem truth_int (h : PHeap) (i : Int) : truth h (.int i) = some (i != 0) := rfl
/-- the rules of stepping -/
theorem EV : (∀ (c : Call) (ρ : PSt) (h : PHeap) (i : Nat), evalE c (.var i) ρ h = kVar ρ[i]? h) ∧ (∀ (v : PV) (h : PHeap), kVar (some (some v)) h = .ok v h) ∧
    (∀ (c : Call) (ρ : PSt) (h : PHeap) (o : BO) (a b : E), evalE c (.bin o a b) ρ h = (evalE c a ρ h).bind (kBin c o b ρ)) ∧ (∀ (c : Call) (ρ : PSt) (h : PHeap) (o : BO) (b : E) (v : PV), kBin c o b ρ v h = (evalE c b ρ h).bind (binOp o v)) ∧
    (∀ (c : Call) (ρ : PSt) (h : PHeap) (mu : Bool) (a b : E), evalE c (.cat mu a b) ρ h = (evalE c a ρ h).bind (kCat c mu b ρ)) ∧ (∀ (c : Call) (ρ : PSt) (h : PHeap) (mu : Bool) (b : E) (v : PV), kCat c mu b ρ v h = (evalE c b ρ h).bind (catOp mu v)) ∧
    (∀ (c : Call) (ρ : PSt) (h : PHeap) (a : E), evalE c (.neg a) ρ h = (evalE c a ρ h).bind kNeg) ∧ (∀ (i : Int) (h : PHeap), kNeg (.int i) h = .ok (.int (-i)) h) ∧
    (∀ (c : Call) (ρ : PSt) (h : PHeap) (a : E), evalE c (.not a) ρ h = (evalE c a ρ h).bind kNot) ∧ (∀ (b : Bool) (h : PHeap), kNot (.bl b) h = .ok (.bl (!b)) h) ∧
    (∀ (c : Call) (ρ : PSt) (h : PHeap) (a b : E), evalE c (.and a b) ρ h = (evalE c a ρ h).bind (kAnd c b ρ)) ∧ (∀ (c : Call) (ρ : PSt) (h : PHeap) (b : E) (v : PV), kAnd c b ρ v h = orStuck (truth h v) (kAnd2 c b ρ v h)) ∧
    (∀ (c : Call) (ρ : PSt) (h : PHeap) (b : E) (v : PV), kAnd2 c b ρ v h true = evalE c b ρ h) ∧ (∀ (c : Call) (ρ : PSt) (h : PHeap) (b : E) (v : PV), kAnd2 c b ρ v h false = .ok v h) ∧
    (∀ (c : Call) (ρ : PSt) (h : PHeap) (a b : E), evalE c (.or a b) ρ h = (evalE c a ρ h).bind (kOr c b ρ)) ∧ (∀ (c : Call) (ρ : PSt) (h : PHeap) (b : E) (v : PV), kOr c b ρ v h = orStuck (truth h v) (kOr2 c b ρ v h)) ∧
    (∀ (c : Call) (ρ : PSt) (h : PHeap) (b : E) (v : PV), kOr2 c b ρ v h true = .ok v h) ∧ (∀ (c : Call) (ρ : PSt) (h : PHeap) (b : E) (v : PV), kOr2 c b ρ v h false = evalE c b ρ h) ∧
    (∀ (c : Call) (ρ : PSt) (h : PHeap) (t a b : E), evalE c (.ite t a b) ρ h = (evalE c t ρ h).bind (kIte c a b ρ)) ∧ (∀ (c : Call) (ρ : PSt) (h : PHeap) (a b : E) (v : PV), kIte c a b ρ v h = orStuck (truth h v) (kIte2 c a b ρ h)) ∧
    (∀ (c : Call) (ρ : PSt) (h : PHeap) (a b : E), kIte2 c a b ρ h true = evalE c a ρ h) ∧ (∀ (c : Call) (ρ : PSt) (h : PHeap) (a b : E), kIte2 c a b ρ h false = evalE c b ρ h) ∧
    (∀ (c : Call) (ρ : PSt) (h : PHeap) (o : CO) (a b : E), evalE c (.cmp o a b) ρ h = (evalE c a ρ h).bind (kCmp c o b ρ)) ∧ (∀ (c : Call) (ρ : PSt) (h : PHeap) (o : CO) (b : E) (v : PV), kCmp c o b ρ v h = (evalE c b ρ h).bind (kCmp2 o v)) ∧
    (∀ (o : CO) (v w : PV) (h : PHeap), kCmp2 o v w h = orStuck (cmpP o h v w) (okB' h)) ∧ (∀ (k : Bool) (h : PHeap), okB' h k = .ok (.bl k) h) ∧
    (∀ (c : Call) (ρ : PSt) (h : PHeap) (o o' : CO) (a b d : E), evalE c (.chn o o' a b d) ρ h = (evalE c a ρ h).bind (kChn c o o' b d ρ)) ∧ (∀ (c : Call) (ρ : PSt) (h : PHeap) (o o' : CO) (b d : E) (v : PV), kChn c o o' b d ρ v h = (evalE c b ρ h).bind (kChn2 c o o' d ρ v)) ∧
    (∀ (c : Call) (ρ : PSt) (h : PHeap) (o o' : CO) (d : E) (v w : PV), kChn2 c o o' d ρ v w h = orStuck (cmpP o h v w) (kChn3 c o' d ρ w h)) ∧ (∀ (c : Call) (ρ : PSt) (h : PHeap) (o' : CO) (d : E) (w : PV), kChn3 c o' d ρ w h true = (evalE c d ρ h).bind (kCmp2 o' w)) ∧
    (∀ (c : Call) (ρ : PSt) (h : PHeap) (o' : CO) (d : E) (w : PV), kChn3 c o' d ρ w h false = .ok (.bl false) h) ∧
    (∀ (c : Call) (ρ : PSt) (h : PHeap) (f : Nat) (es : List E), evalE c (.call f es) ρ h = (evalEs c es ρ h).bind (c f)) ∧ (∀ (c : Call) (ρ : PSt) (h : PHeap) (b : Bi) (mu : Bool) (es : List E), evalE c (.bi b mu es) ρ h = (evalEs c es ρ h).bind (biOp b mu)) ∧
    (∀ (c : Call) (ρ : PSt) (h : PHeap) (m : Me) (o : E) (es : List E), evalE c (.mth m o es) ρ h = (evalE c o ρ h).bind (kMth c m es ρ)) ∧
    (∀ (c : Call) (ρ : PSt) (h : PHeap) (es : List E), evalE c (.tup es) ρ h = (evalEs c es ρ h).bind kTup) ∧ (∀ (c : Call) (ρ : PSt) (h : PHeap) (mu : Bool) (es : List E), evalE c (.lst mu es) ρ h = (evalEs c es ρ h).bind (kLst mu)) ∧
    (∀ (c : Call) (ρ : PSt) (h : PHeap) (a i : E), evalE c (.idx a i) ρ h = (evalE c a ρ h).bind (kIdx c i ρ)) ∧ (∀ (c : Call) (ρ : PSt) (h : PHeap) (i : E) (v : PV), kIdx c i ρ v h = (evalE c i ρ h).bind (idxOp v)) ∧
    (∀ (c : Call) (ρ : PSt) (h : PHeap) (mu : Bool) (a lo hi : E), evalE c (.slc mu a lo hi) ρ h = (evalE c a ρ h).bind (kSlc c mu lo hi ρ)) ∧ (∀ (c : Call) (ρ : PSt) (h : PHeap) (mu : Bool) (lo hi : E) (v : PV), kSlc c mu lo hi ρ v h = (partE c lo ρ h).bind (kSlc1 c mu hi ρ v)) ∧
    (∀ (c : Call) (ρ : PSt) (h : PHeap) (mu : Bool) (hi : E) (v : PV) (l : Option Int), kSlc1 c mu hi ρ v l h = (partE c hi ρ h).bind (slcOp mu v l)) ∧ (∀ (c : Call) (ρ : PSt) (h : PHeap), partE c .nop ρ h = .ok none h) ∧
    (∀ (c : Call) (ρ : PSt) (h : PHeap) (v : PV), partE c (.cst v) ρ h = kPart v h) ∧ (∀ (c : Call) (ρ : PSt) (h : PHeap) (i : Nat), partE c (.var i) ρ h = (kVar ρ[i]? h).bind kPart) ∧ (∀ (c : Call) (ρ : PSt) (h : PHeap) (b : Bi) (mu : Bool) (es : List E), partE c (.bi b mu es) ρ h = (evalE c (.bi b mu es) ρ h).bind kPart) ∧
    (∀ (i : Int) (h : PHeap), kPart (.int i) h = .ok (some i) h) ∧
    (∀ (c : Call) (ρ : PSt) (h : PHeap) (mu : Bool) (a : E), evalE c (.rev mu a) ρ h = (evalE c a ρ h).bind (revOp mu)) ∧ (∀ (c : Call) (ρ : PSt) (h : PHeap) (mu : Bool) (es : List E), evalE c (.lrng mu es) ρ h = (evalEs c es ρ h).bind (lrngOp mu)) ∧
    (∀ (c : Call) (ρ : PSt) (h : PHeap) (e : E), evalE c (.fld e) ρ h = (evalE c e ρ h).bind kFld) ∧ (∀ (x : Str) (h : PHeap), kFld (.str x) h = .ok (.str x) h) ∧ (∀ (c : Call) (ρ : PSt) (h : PHeap) (ps : List E), evalE c (.fst ps) ρ h = (evalJ c ps Str.empty ρ h).bind kStr) ∧ (∀ (x : Str) (h : PHeap), kStr x h = .ok (.str x) h) ∧
    (∀ (c : Call) (ρ : PSt) (h : PHeap) (mu : Bool) (own : List Nat) (ik : IK) (its : List E) (tg : T) (cd elt : E), evalE c (.cmpr mu false own ik its tg cd elt) ρ h = (evalEs c its ρ h).bind (kLc c mu own ik tg cd elt ρ)) ∧
    (∀ (c : Call) (ρ : PSt) (h : PHeap) (v : PV), evalE c (.cst v) ρ h = .ok v h) ∧ (∀ (c : Call) (ρ : PSt) (h : PHeap) (x : Str) (v : PV), evalE c (.glb x v) ρ h = .ok v h) ∧ (∀ (c : Call) (ρ : PSt) (h : PHeap) (x : Str) (n : String), evalE c (.tyn x n) ρ h = .ok (.ty n) h) ∧
    (∀ (c : Call) (ρ : PSt) (h : PHeap), evalE c (.dnew false) ρ h = .ok (.loc h.length) (h ++ [.dK []])) ∧
    (∀ (c : Call) (ρ : PSt) (h : PHeap), evalEs c [] ρ h = .ok [] h) ∧ (∀ (c : Call) (ρ : PSt) (h : PHeap) (e : E) (es : List E), evalEs c (e :: es) ρ h = (evalE c e ρ h).bind (kEs c es ρ)) ∧ (∀ (c : Call) (ρ : PSt) (h : PHeap) (es : List E) (v : PV), kEs c es ρ v h = (evalEs c es ρ h).bind (kCons v)) ∧ (∀ (v : PV) (vs : List PV) (h : PHeap), kCons v vs h = .ok (v :: vs) h) ∧
    (∀ (c : Call) (ρ : PSt) (h : PHeap) (acc : Str), evalJ c [] acc ρ h = .ok acc h) ∧ (∀ (c : Call) (ρ : PSt) (h : PHeap) (e : E) (es : List E) (acc : Str), evalJ c (e :: es) acc ρ h = (evalE c e ρ h).bind (kJ c es acc ρ)) ∧ (∀ (c : Call) (ρ : PSt) (h : PHeap) (es : List E) (acc y : Str), kJ c es acc ρ (.str y) h = kJ' c es acc ρ h y) :=
  ⟨e_var, fun _ _ => rfl, e_bin, fun _ _ _ _ _ _ => rfl, e_cat, fun _ _ _ _ _ _ => rfl, e_neg, fun _ _ => rfl, e_not, fun _ _ => rfl, e_and, fun _ _ _ _ _ => rfl, fun _ _ _ _ _ => rfl, fun _ _ _ _ _ => rfl, e_or, fun _ _ _ _ _ => rfl, fun _ _ _ _ _ => rfl, fun _ _ _ _ _ => rfl,
    e_ite, fun _ _ _ _ _ _ => rfl, fun _ _ _ _ _ => rfl, fun _ _ _ _ _ => rfl, e_cmp, fun _ _ _ _ _ _ => rfl, fun _ _ _ _ => rfl, fun _ _ => rfl, e_chn, fun _ _ _ _ _ _ _ _ => rfl, fun _ _ _ _ _ _ _ _ => rfl, fun _ _ _ _ _ _ => rfl, fun _ _ _ _ _ _ => rfl,
    e_call, e_bi, e_mth, e_tup, e_lst, e_idx, fun _ _ _ _ _ => rfl, e_slc, fun _ _ _ _ _ _ _ => rfl, fun _ _ _ _ _ _ _ => rfl, fun _ _ _ => rfl, fun c ρ h v => by simp only [partE, evalE, isNop]; rfl, fun c ρ h i => by simp only [partE, isNop, e_var]; rfl, fun c ρ h b mu es => by simp only [partE, isNop]; rfl, fun _ _ => rfl,
    e_rev, e_lrng, e_fld, fun _ _ => rfl, e_fst, fun _ _ => rfl, e_cmpr, e_cst, e_glb, e_tyn, fun c ρ h => by simp only [evalE]; rfl, es_nil, es_cons, fun _ _ _ _ _ => rfl, fun _ _ _ => rfl, ej_nil, ej_cons, fun _ _ _ _ _ _ => rfl⟩
theorem EVS : (∀ (c : Call) (ρ : PSt) (h : PHeap), evalSs c [] ρ h = .nx ρ h) ∧ (∀ (c : Call) (ρ : PSt) (h : PHeap) (s : S) (r : List S), evalSs c (s :: r) ρ h = (evalS c s ρ h).seq (kSs c r)) ∧ (∀ (c : Call) (ρ : PSt) (h : PHeap) (r : List S), kSs c r ρ h = evalSs c r ρ h) ∧
    (∀ (c : Call) (ρ : PSt) (h : PHeap) (i : Nat) (e : E), evalS c (.set i e) ρ h = (evalE c e ρ h).fl ρ (kSet ρ i)) ∧ (∀ (c : Call) (ρ : PSt) (h : PHeap) (i : Nat) (e : E), evalS c (.setc i e) ρ h = (evalE c e ρ h).fl ρ (kSet ρ i)) ∧ (∀ (ρ : PSt) (h : PHeap) (i : Nat) (v : PV), kSet ρ i v h = .nx (ρ.set i (some v)) h) ∧
    (∀ (c : Call) (ρ : PSt) (h : PHeap) (tg : T) (e : E), evalS c (.unp tg e) ρ h = (evalE c e ρ h).fl ρ (kUnp ρ tg)) ∧ (∀ (ρ : PSt) (h : PHeap) (tg : T) (v : PV), kUnp ρ tg v h = orStuckF (bindT h tg v ρ) fun ρ' => .nx ρ' h) ∧
    (∀ (c : Call) (ρ : PSt) (h : PHeap) (i j : Nat) (a b : E), evalS c (.par i j a b) ρ h = (evalE c a ρ h).fl ρ (kPar c ρ i j b)) ∧ (∀ (c : Call) (ρ : PSt) (h : PHeap) (i j : Nat) (b : E) (v : PV), kPar c ρ i j b v h = (evalE c b ρ h).fl ρ (kPar2 ρ i j v)) ∧ (∀ (ρ : PSt) (h : PHeap) (i j : Nat) (v w : PV), kPar2 ρ i j v w h = .nx ((ρ.set i (some v)).set j (some w)) h) ∧
    (∀ (c : Call) (ρ : PSt) (h : PHeap) (o i e : E), evalS c (.seti o i e) ρ h = (evalE c e ρ h).fl ρ (kSeti c ρ o i)) ∧ (∀ (c : Call) (ρ : PSt) (h : PHeap) (o i : E) (x : PV), kSeti c ρ o i x h = (evalE c o ρ h).fl ρ (kSeti2 c ρ i x)) ∧ (∀ (c : Call) (ρ : PSt) (h : PHeap) (i : E) (x v : PV), kSeti2 c ρ i x v h = (evalE c i ρ h).fl ρ (kSeti3 ρ x v)) ∧
    (∀ (ρ : PSt) (h : PHeap) (x v w : PV), kSeti3 ρ x v w h = orStuckF (setOp v w x h) fun h4 => .nx ρ h4) ∧
    (∀ (c : Call) (ρ : PSt) (h : PHeap) (e : E), evalS c (.ex e) ρ h = (evalE c e ρ h).fl ρ (kEx ρ)) ∧ (∀ (ρ : PSt) (h : PHeap) (v : PV), kEx ρ v h = .nx ρ h) ∧ (∀ (c : Call) (ρ : PSt) (h : PHeap) (e : E), evalS c (.ret e) ρ h = (evalE c e ρ h).fl ρ Fl.rt) ∧ (∀ (c : Call) (ρ : PSt) (h : PHeap), evalS c .ret0 ρ h = .rt .non h) ∧
    (∀ (c : Call) (ρ : PSt) (h : PHeap) (t : E) (a b : List S), evalS c (.ifs t a b) ρ h = (evalE c t ρ h).fl ρ (kIf c a b ρ)) ∧ (∀ (c : Call) (ρ : PSt) (h : PHeap) (a b : List S) (v : PV), kIf c a b ρ v h = orStuckF (truth h v) (kIf2 c a b ρ h)) ∧ (∀ (c : Call) (ρ : PSt) (h : PHeap) (a b : List S), kIf2 c a b ρ h true = evalSs c a ρ h) ∧ (∀ (c : Call) (ρ : PSt) (h : PHeap) (a b : List S), kIf2 c a b ρ h false = evalSs c b ρ h) ∧
    (∀ (c : Call) (ρ : PSt) (h : PHeap) (tg : T) (ik : IK) (its : List E) (b : List S), evalS c (.for_ tg ik its b) ρ h = (evalEs c its ρ h).evs ρ (kFor c tg ik b ρ)) ∧
    (∀ (c : Call) (ρ : PSt) (h : PHeap), evalS c .pas ρ h = .nx ρ h) ∧ (∀ (c : Call) (ρ : PSt) (h : PHeap), evalS c .brk ρ h = .bk ρ h) ∧ (∀ (c : Call) (ρ : PSt) (h : PHeap), evalS c .cnt ρ h = .ct ρ h) :=
  ⟨ss_nil, ss_cons, fun _ _ _ _ => rfl, s_set, s_setc, fun _ _ _ _ => rfl, s_unp, fun _ _ _ _ => rfl, s_par, fun _ _ _ _ _ _ _ => rfl, fun _ _ _ _ _ _ => rfl, s_seti, fun _ _ _ _ _ _ => rfl, fun _ _ _ _ _ _ => rfl, fun _ _ _ _ _ => rfl, s_ex, fun _ _ _ => rfl, s_ret, s_ret0, s_if, fun _ _ _ _ _ _ => rfl, fun _ _ _ _ _ => rfl, fun _ _ _ _ _ => rfl, s_for, s_pas, s_brk, s_cnt⟩
theorem EVB : (∀ (α β : Type) (a : α) (h : PHeap) (k : α → PHeap → Res β), (Res.ok a h).bind k = k a h) ∧ (∀ (v : PV) (h : PHeap) (ρ : PSt) (k : PV → PHeap → Fl), (Res.ok v h).fl ρ k = k v h) ∧ (∀ (v : List PV) (h : PHeap) (ρ : PSt) (k : List PV → PHeap → Fl), (Res.ok v h).evs ρ k = k v h) ∧
    (∀ (ρ : PSt) (h : PHeap) (k : PSt → PHeap → Fl), (Fl.nx ρ h).seq k = k ρ h) ∧ (∀ (v : PV) (h : PHeap) (k : PSt → PHeap → Fl), (Fl.rt v h).seq k = .rt v h) ∧ (∀ (ρ : PSt) (h : PHeap) (k : PSt → PHeap → Fl), (Fl.bk ρ h).seq k = .bk ρ h) ∧ (∀ (ρ : PSt) (h : PHeap) (k : PSt → PHeap → Fl), (Fl.ct ρ h).seq k = .ct ρ h) ∧
    (∀ (α β : Type) (a : α) (k : α → Res β), orStuck (some a) k = k a) ∧ (∀ (α : Type) (a : α) (k : α → Fl), orStuckF (some a) k = k a) ∧ (∀ (v : PV) (h : PHeap), (Fl.rt v h).res = .ok v h) ∧ (∀ (ρ : PSt) (h : PHeap), (Fl.nx ρ h).res = .ok .non h) ∧ (∀ (h : PHeap) (b : Bool), truth h (.bl b) = some b) ∧
    (∀ (h : PHeap) (i j : Int), cmpP .gt h (.int i) (.int j) = some (decide (j < i))) ∧ (∀ (h : PHeap) (i j : Int), cmpP .lt h (.int i) (.int j) = some (decide (i < j))) ∧ (∀ (h : PHeap) (i j : Int), cmpP .ge h (.int i) (.int j) = some (decide (j ≤ i))) ∧ (∀ (h : PHeap) (i j : Int), cmpP .le h (.int i) (.int j) = some (decide (i ≤ j))) ∧
    (∀ (i j : Int) (h : PHeap), binOp .add (.int i) (.int j) h = .ok (.int (i + j)) h) ∧ (∀ (i j : Int) (h : PHeap), binOp .sub (.int i) (.int j) h = .ok (.int (i - j)) h) ∧ (∀ (i j : Int) (h : PHeap), binOp .mul (.int i) (.int j) h = guardR (MulOk i j) (.ok (.int (i * j)) h)) ∧
    (∀ (i j : Int) (h : PHeap), binOp .fdiv (.int i) (.int j) h = guardR (DivOk j) (.ok (.int (i / j)) h)) ∧ (∀ (i j : Int) (h : PHeap), binOp .mod (.int i) (.int j) h = guardR (0 < j) (.ok (.int (i % j)) h)) ∧ (∀ (i j : Int) (h : PHeap), binOp .pow (.int i) (.int j) h = guardR (PowOk i j) (.ok (.int (i ^ j.toNat)) h)) ∧
    (∀ (mu : Bool) (i : Int) (h : PHeap), biOp .int mu [.int i] h = .ok (.int i) h) ∧ (∀ (mu b : Bool) (h : PHeap), biOp .int mu [.bl b] h = .ok (.int (if b then 1 else 0)) h) ∧ (∀ (mu : Bool) (i : Int) (h : PHeap), biOp .abs mu [.int i] h = .ok (.int (if i < 0 then -i else i)) h) ∧
    (∀ (mu : Bool) (i j : Int) (h : PHeap), biOp .max mu [.int i, .int j] h = .ok (.int (if j > i then j else i)) h) ∧ (∀ (mu : Bool) (i j : Int) (h : PHeap), biOp .min mu [.int i, .int j] h = .ok (.int (if j < i then j else i)) h) ∧
    (∀ (xs : List PV) (h : PHeap), mkL false xs h = .ok (.lst xs) h) ∧ (∀ (xs : List PV) (h : PHeap), mkL true xs h = .ok (.loc h.length) (h ++ [.lst xs])) ∧
    (∀ (h : PHeap) (xs : List PV) (i : Int), idxOp (.tup xs) (.int i) h = orStuck (L2.atI xs i) fun v => .ok v h) ∧ (∀ (h : PHeap) (xs : List PV) (i : Int), idxOp (.lst xs) (.int i) h = orStuck (L2.atI xs i) fun v => .ok v h) ∧ (∀ (h : PHeap) (xs : List PV) (i : Int), idxOp (.scr xs) (.int i) h = orStuck (L2.atI xs i) fun v => .ok v h) ∧
    (∀ (vs : List PV) (h : PHeap), kTup vs h = guardR (vs.length ≤ szB) (.ok (.tup vs) h)) ∧ (∀ (mu : Bool) (vs : List PV) (h : PHeap), kLst mu vs h = guardR (vs.length ≤ szB) (mkL mu vs h)) :=
  ⟨fun _ _ _ _ _ => rfl, fun _ _ _ _ => rfl, fun _ _ _ _ => rfl, fun _ _ _ => rfl, fun _ _ _ => rfl, fun _ _ _ => rfl, fun _ _ _ => rfl, fun _ _ _ _ => rfl, fun _ _ _ => rfl, fun _ _ => rfl, fun _ _ => rfl, fun _ _ => rfl, fun _ _ _ => rfl, fun _ _ _ => rfl, fun _ _ _ => rfl, fun _ _ _ => rfl,
    fun _ _ _ => rfl, fun _ _ _ => rfl, fun _ _ _ => rfl, fun _ _ _ => rfl, fun _ _ _ => rfl, fun _ _ _ => rfl, fun _ _ _ => rfl, fun _ _ _ => rfl, fun _ _ _ => rfl, fun _ _ _ _ => rfl, fun _ _ _ _ => rfl, fun _ _ => rfl, fun _ _ => rfl, fun _ _ _ => rfl, fun _ _ _ => rfl, fun _ _ _ => rfl, fun _ _ => rfl, fun _ _ _ => rfl⟩
/-- .. and of exceptions -/
theorem EVX : (∀ (c : Call) (ρ : PSt) (h : PHeap) (mu : Bool) (own : List Nat) (ik : IK) (its : List E) (tg : T) (cd elt : E), evalE c (.cmpr mu true own ik its tg cd elt) ρ h = (evalEs c its ρ h).bind (kLcX c mu own ik tg cd elt ρ)) ∧
    (∀ (c : Call) (ρ : PSt) (h : PHeap) (mu : Bool) (e : E), evalE c (.ssrt mu e) ρ h = (evalE c e ρ h).bind (kSsrt mu)) ∧
    (∀ (α β : Type) (x : PX) (h : PHeap) (k : α → PHeap → Res β), (Res.exc x h).bind k = .exc x h) ∧ (∀ (x : PX) (h : PHeap) (ρ : PSt) (k : PV → PHeap → Fl), (Res.exc x h).fl ρ k = .exc x ρ h) ∧ (∀ (x : PX) (h : PHeap) (ρ : PSt) (k : List PV → PHeap → Fl), (Res.exc x h).evs ρ k = .exc x ρ h) ∧
    (∀ (x : PX) (ρ : PSt) (h : PHeap) (k : PSt → PHeap → Fl), (Fl.exc x ρ h).seq k = .exc x ρ h) ∧ (∀ (x : PX) (ρ : PSt) (h : PHeap), (Fl.exc x ρ h).res = .exc x h) ∧
    (∀ (c : Call) (ρ : PSt) (h : PHeap) (k : Nat), evalS c (.rs k) ρ h = .exc ⟨k, none⟩ ρ h) ∧ (∀ (c : Call) (ρ : PSt) (h : PHeap) (b : List S) (k : Nat) (nm : Option Nat) (sups : List (List Nat)) (q : Qx), evalS c (.tryq b k nm sups q) ρ h = tryF (evalSs c b ρ h) k sups q) ∧
    (∀ (v : PV) (h : PHeap) (k : Nat) (sups : List (List Nat)) (q : Qx), tryF (.rt v h) k sups q = .rt v h) ∧ (∀ (ρ : PSt) (h : PHeap) (k : Nat) (sups : List (List Nat)) (q : Qx), tryF (.nx ρ h) k sups q = .nx ρ h) :=
  ⟨e_cmprX, e_ssrt, fun _ _ _ _ _ => rfl, fun _ _ _ _ => rfl, fun _ _ _ _ => rfl, fun _ _ _ _ => rfl, fun _ _ _ => rfl, s_rs, s_tryq, fun _ _ _ _ _ => rfl, fun _ _ _ _ _ => rfl⟩
/-! ### lists in the heap -/
theorem deref_at {h : PHeap} {l : Nat} {xs : List PV} (e : h[l]? = some (.lst xs)) : deref h (.loc l) = .lst xs := by simp only [deref, e]
theorem idx_loc {h : PHeap} {l : Nat} {xs : List PV} {i : Int} {v : PV} (e : h[l]? = some (.lst xs)) (a : L2.atI xs i = some v) : idxOp (.loc l) (.int i) h = .ok v h := by
  simp only [idxOp, deref, e, a, orStuck]
theorem set_loc {h : PHeap} {l : Nat} {xs : List PV} {i : Int} {j : Nat} {x : PV} (e : h[l]? = some (.lst xs)) (a : L2.ixN xs.length i = some j) : setOp (.loc l) (.int i) x h = some (h.set l (.lst (xs.set j x))) := by
  simp only [setOp, e, a, Option.map_some]
theorem eq_int (h : PHeap) (i j : Int) : eqP h (.int i) (.int j) = some (decide (i = j)) := by
  have e : eqP h (.int i) (.int j) = if min (PyData.int i).depth (PyData.int j).depth ≤ 60 then some (PyData.eqv (.int i) (.int j)) else none := rfl
  rw [e, if_pos (by show min 0 0 ≤ 60; decide)]
  congr 1
theorem mul_l {i j : Int} (h1 : -(2 ^ 64) < i) (h2 : i < 2 ^ 64) : MulOk i j := .inl ⟨h1, h2⟩
theorem mul_r {i j : Int} (h1 : -(2 ^ 64) < j) (h2 : j < 2 ^ 64) : MulOk i j := .inr (.inl ⟨h1, h2⟩)
/-- a def's call -/
theorem callN_at {tb : Nat → Option Def} (n f : Nat) (vs : List PV) (h : PHeap) (d : Def) (hd : tb f = some d) (hl : vs.length = d.ar) : callN tb (n + 1) f vs h = (evalSs (callN tb n) d.body (startP d.sl vs) h).res := by
  simp only [callN, hd, runD, hl, if_true]
end Rf
end

section
set_option Elab.async false
set_option linter.all false
set_option maxRecDepth 100000
set_option maxHeartbeats 1000000
/-! Loops, comprehensions, the heap's frame, the data of the rule sets. -/
namespace Rf
open PySem
/-- over a range: the invariant by the turn -/
theorem loop_rng {lo : Int} {n : Nat} {body : PV → PSt → PHeap → Fl} (P : Nat → PSt → PHeap → Prop) (hs : ∀ i ρ h, i < n → P i ρ h → ∃ ρ' h', body (.int (lo + i)) ρ h = .nx ρ' h' ∧ P (i + 1) ρ' h') :
    ∀ (k i : Nat) (ρ : PSt) (h : PHeap), i + k = n → P i ρ h → ∃ ρ' h', loopN (.rng lo n) body (k + 1) i ρ h = .nx ρ' h' ∧ P n ρ' h'
  | 0, i, ρ, h, e, p => by
    have hi : i = n := by omega
    subst hi
    refine ⟨ρ, h, ?_, p⟩
    simp only [loopN, Walk.next, Nat.lt_irrefl, if_false]
  | k + 1, i, ρ, h, e, p => by
    obtain ⟨ρ', h', e1, p1⟩ := hs i ρ h (by omega) p
    obtain ⟨ρ2, h2, e2, p2⟩ := loop_rng P hs k (i + 1) ρ' h' (by omega) p1
    refine ⟨ρ2, h2, ?_, p2⟩
    have hi : i < n := by omega
    rw [loopN]
    simp only [Walk.next, hi, if_true, e1]
    exact e2
/-- over the items of a tuple or list that nobody changes -/
theorem loop_xs {w : Walk} {xs : List PV} {body : PV → PSt → PHeap → Fl} (hw : ∀ i h, w.next i h = some xs[i]?) (P : Nat → PSt → PHeap → Prop) (hs : ∀ i x ρ h, xs[i]? = some x → P i ρ h → ∃ ρ' h', body x ρ h = .nx ρ' h' ∧ P (i + 1) ρ' h') :
    ∀ (k i : Nat) (ρ : PSt) (h : PHeap), i + k = xs.length → P i ρ h → ∃ ρ' h', loopN w body (k + 1) i ρ h = .nx ρ' h' ∧ P xs.length ρ' h'
  | 0, i, ρ, h, e, p => by
    have hi : i = xs.length := by omega
    subst hi
    refine ⟨ρ, h, ?_, p⟩
    simp only [loopN, hw, List.getElem?_eq_none (Nat.le_refl _)]
  | k + 1, i, ρ, h, e, p => by
    have hi : i < xs.length := by omega
    have hx : xs[i]? = some xs[i] := List.getElem?_eq_getElem hi
    obtain ⟨ρ', h', e1, p1⟩ := hs i xs[i] ρ h hx p
    obtain ⟨ρ2, h2, e2, p2⟩ := loop_xs hw P hs k (i + 1) ρ' h' (by omega) p1
    refine ⟨ρ2, h2, ?_, p2⟩
    rw [loopN]
    simp only [hw, hx, e1]
    exact e2
/-- a comprehension whose turns may change the heap -/
theorem comp_rel {w : Walk} {n : Nat} {xs : Nat → PV} {turn : PV → PHeap → Res (Option PV)} (P : Nat → List PV → PHeap → Prop) (hn : ∀ i acc h, i < n → P i acc h → w.next i h = some (some (xs i))) (he : ∀ acc h, P n acc h → w.next n h = some none)
    (hs : ∀ i acc h, i < n → P i acc h → ∃ o h', turn (xs i) h = .ok o h' ∧ P (i + 1) (acc ++ o.toList) h') :
    ∀ (k i : Nat) (acc : List PV) (h : PHeap), i + k = n → P i acc h → ∃ vs h', compN w turn (k + 1) i h = .ok vs h' ∧ P n (acc ++ vs) h'
  | 0, i, acc, h, e, p => by
    have hi : i = n := by omega
    subst hi
    exact ⟨[], h, by simp only [compN, he acc h p], by rw [List.append_nil]; exact p⟩
  | k + 1, i, acc, h, e, p => by
    obtain ⟨o, h', e1, p1⟩ := hs i acc h (by omega) p
    obtain ⟨vs, h2, e2, p2⟩ := comp_rel P hn he hs k (i + 1) (acc ++ o.toList) h' (by omega) p1
    refine ⟨o.toList ++ vs, h2, ?_, by rw [← List.append_assoc]; exact p2⟩
    rw [compN]
    simp only [hn i acc h (by omega) p, e1, Res.bind, e2]
/-- a comprehension that leaves the heap as it is -/
theorem comp_map {w : Walk} {xs : List PV} {turn : PV → PHeap → Res (Option PV)} {h : PHeap} {g : PV → Option PV} (hw : ∀ i, w.next i h = some xs[i]?) (hs : ∀ x ∈ xs, turn x h = .ok (g x) h) :
    compN w turn (xs.length + 1) 0 h = .ok (xs.filterMap g) h := by
  have key : ∀ (ys zs : List PV), xs = zs ++ ys → compN w turn (ys.length + 1) zs.length h = .ok (ys.filterMap g) h := by
    intro ys
    induction ys with
    | nil =>
      intro zs e
      rw [List.append_nil] at e
      subst e
      simp only [compN, hw, List.getElem?_eq_none (Nat.le_refl _), List.filterMap_nil]
    | cons y ys ih =>
      intro zs e
      have hx : xs[zs.length]? = some y := by rw [e, List.getElem?_append_right (Nat.le_refl _), Nat.sub_self]; rfl
      have ih' := ih (zs ++ [y]) (by rw [e, List.append_assoc]; rfl)
      rw [List.length_append] at ih'
      have hy : turn y h = .ok (g y) h := hs y (by rw [e]; simp)
      have e2 : compN w turn (ys.length + 1) (zs.length + 1) h = .ok (ys.filterMap g) h := ih'
      rw [List.length_cons, compN]
      simp only [hw, hx, hy, Res.bind, e2]
      cases hg : g y <;> simp [List.filterMap_cons, hg]
  exact key xs [] rfl
theorem fixT_next (xs : List PV) (i : Nat) (h : PHeap) : (Walk.one (.fixT xs)).next i h = some xs[i]? := rfl
theorem fixL_next (xs : List PV) (i : Nat) (h : PHeap) : (Walk.one (.fixL xs)).next i h = some xs[i]? := rfl
theorem live_next {xs : List PV} {h : PHeap} {l : Nat} (e : h[l]? = some (.lst xs)) (i : Nat) : (Walk.one (.live l)).next i h = some xs[i]? := by
  simp only [Walk.next, Src.next, e]
theorem enm_live_next {xs : List PV} {h : PHeap} {l : Nat} (e : h[l]? = some (.lst xs)) (i : Nat) : (Walk.enm (.live l)).next i h = some (xs[i]?.map fun x => .tup [.int (i : Int), x]) := by
  simp only [Walk.next, Src.next, e, Option.map_some]
/-! ### frames -/
/-- all but the place l is as it was; there may be more -/
def Fr (l : Nat) (h h' : PHeap) : Prop := h.length ≤ h'.length ∧ ∀ j, j < h.length → j ≠ l → h'[j]? = h[j]?
theorem Fr.refl (l : Nat) (h : PHeap) : Fr l h h := ⟨Nat.le_refl _, fun _ _ _ => rfl⟩
theorem Fr.trans {l : Nat} {h h1 h2 : PHeap} (a : Fr l h h1) (b : Fr l h1 h2) : Fr l h h2 := ⟨Nat.le_trans a.1 b.1, fun j hj hn => (b.2 j (Nat.lt_of_lt_of_le hj a.1) hn).trans (a.2 j hj hn)⟩
theorem Fr.at {l : Nat} {h h' : PHeap} (a : Fr l h h') {j : Nat} {o : PO} (e : h[j]? = some o) (hn : j ≠ l) : h'[j]? = some o := by
  rw [a.2 j (List.getElem?_eq_some_iff.mp e).1 hn, e]
theorem Fr.set (l : Nat) (h : PHeap) (o : PO) : Fr l h (h.set l o) := ⟨by rw [List.length_set]; exact Nat.le_refl _, fun j _ hn => List.getElem?_set_ne (Ne.symm hn)⟩
theorem Fr.push (l : Nat) (h : PHeap) (o : PO) : Fr l h (h ++ [o]) := ⟨by rw [List.length_append]; exact Nat.le_add_right _ _, fun j hj _ => List.getElem?_append_left hj⟩
/-- a new place is changed -/
theorem Fr.setNew {l j : Nat} {h h' : PHeap} (a : Fr l h h') (hj : h.length ≤ j) (o : PO) : Fr l h (h'.set j o) := ⟨by rw [List.length_set]; exact a.1, fun i hi hn => by rw [List.getElem?_set_ne (by omega)]; exact a.2 i hi hn⟩
theorem set_at {h : PHeap} {l : Nat} {o u : PO} (e : h[l]? = some u) : (h.set l o)[l]? = some o := List.getElem?_set_self (List.getElem?_eq_some_iff.mp e).1
theorem push_at (h : PHeap) (o : PO) : (h ++ [o])[h.length]? = some o := by rw [List.getElem?_append_right (Nat.le_refl _), Nat.sub_self]; rfl
/-- a source of draws: at most m have been taken -/
def SrcOk (h : PHeap) (l : Nat) (m : Int) : Prop := ∃ a b c, h[l]? = some (.lst [.int a, .int b, .int c]) ∧ 0 ≤ a ∧ 0 ≤ b ∧ 0 ≤ c ∧ c ≤ m
theorem SrcOk.mono {h : PHeap} {l : Nat} {m m' : Int} (s : SrcOk h l m) (e : m ≤ m') : SrcOk h l m' := let ⟨a, b, c, h1, h2, h3, h4, h5⟩ := s; ⟨a, b, c, h1, h2, h3, h4, by omega⟩
theorem SrcOk.fr {h h' : PHeap} {l j : Nat} {m : Int} (s : SrcOk h l m) (f : Fr j h h') (hn : l ≠ j) : SrcOk h' l m := let ⟨a, b, c, h1, r⟩ := s; ⟨a, b, c, f.at h1 hn, r⟩
theorem SrcOk.lt {h : PHeap} {l : Nat} {m : Int} (s : SrcOk h l m) : l < h.length := let ⟨_, _, _, h1, _⟩ := s; (List.getElem?_eq_some_iff.mp h1).1
/-- one run from h to h': the source at l goes from m to m' -/
structure Dr (l : Nat) (h h' : PHeap) (m' : Int) : Prop where
  src : SrcOk h' l m'
  fr : Fr l h h'
theorem Dr.trans {l : Nat} {h h1 h2 : PHeap} {m1 m2 : Int} (a : Dr l h h1 m1) (b : Dr l h1 h2 m2) : Dr l h h2 m2 := ⟨b.src, a.fr.trans b.fr⟩
theorem Dr.refl {l : Nat} {h : PHeap} {m : Int} (s : SrcOk h l m) : Dr l h h m := ⟨s, Fr.refl _ _⟩
theorem Dr.mono {l : Nat} {h h1 : PHeap} {m1 m2 : Int} (a : Dr l h h1 m1) (e : m1 ≤ m2) : Dr l h h1 m2 := ⟨a.src.mono e, a.fr⟩
theorem Dr.push {l : Nat} {h h' : PHeap} {m : Int} (a : Dr l h h' m) (o : PO) : Dr l h (h' ++ [o]) m := by
  obtain ⟨x, y, z, h1, r⟩ := id a.src
  exact ⟨⟨x, y, z, by rw [List.getElem?_append_left (List.getElem?_eq_some_iff.mp h1).1]; exact h1, r⟩, a.fr.trans (Fr.push l h' o)⟩
theorem Dr.setNew {l j : Nat} {h h' : PHeap} {m : Int} (a : Dr l h h' m) (hj : h.length ≤ j) (hl : l < h.length) (o : PO) : Dr l h (h'.set j o) m := by
  obtain ⟨x, y, z, h1, r⟩ := id a.src
  exact ⟨⟨x, y, z, by rw [List.getElem?_set_ne (by omega)]; exact h1, r⟩, a.fr.setNew hj o⟩
/-! ### the data -/
abbrev Tm := Int × Int
abbrev Ru := Int × List Tm
def tmP (t : Tm) : PV := .tup [.int t.1, .int t.2]
def tsP (ts : List Tm) : PV := .tup (ts.map tmP)
def ruP (r : Ru) : PV := .tup [.int r.1, tsP r.2]
def rsP (size : Int) (rs : List Ru) : PV := .tup [.int size, .tup (rs.map ruP)]
def VT (size : Int) (t : Tm) : Prop := 0 ≤ t.1 ∧ t.1 < size ∧ -60 ≤ t.2 ∧ t.2 ≤ 59
def VR (size : Int) (r : Ru) : Prop := 0 ≤ r.1 ∧ r.1 < size ∧ (∀ t ∈ r.2, VT size t) ∧ r.2.Pairwise fun a b => a.1 < b.1
theorem asc_len : ∀ (ts : List Int) (lo n : Nat), ts.Pairwise (· < ·) → (∀ t ∈ ts, (lo : Int) ≤ t ∧ t < lo + n) → ts.length ≤ n
  | [], lo, n, _, _ => Nat.zero_le _
  | t :: ts, lo, n, hp, hb => by
    obtain ⟨h1, h2⟩ := List.pairwise_cons.mp hp
    obtain ⟨b1, b2⟩ := hb t List.mem_cons_self
    have hn : 0 < n := by omega
    have := asc_len ts (t.toNat + 1) (lo + n - (t.toNat + 1)) h2 fun u hu => by
      have c1 := h1 u hu
      have c2 := hb u (List.mem_cons_of_mem _ hu)
      omega
    rw [List.length_cons]
    omega
theorem VR.len {size : Int} {r : Ru} (h : VR size r) (hs : size ≤ 8) (h0 : 0 ≤ size) : r.2.length ≤ 8 := by
  have := asc_len (r.2.map (·.1)) 0 8 (by rw [List.pairwise_map]; exact h.2.2.2) fun t ht => by
    obtain ⟨u, hu, rfl⟩ := List.mem_map.mp ht
    have := h.2.2.1 u hu
    unfold VT at this
    omega
  rwa [List.length_map] at this
end Rf
end

section
set_option Elab.async false
set_option linter.all false
set_option maxRecDepth 100000
set_option maxHeartbeats 1000000
/-! Sorting of ints and of pairs. -/
namespace Rf
open PySem
theorem toDs_map {α : Type} (f : α → PV) (g : α → PyData) (h : ∀ a, toD (f a) = some (g a)) : ∀ xs : List α, toDs (xs.map f) = some (xs.map g)
  | [] => rfl
  | a :: xs => by
    rw [List.map_cons, List.map_cons]
    simp only [toDs, h a, toDs_map f g h xs]
def tmD (t : Tm) : PyData := .tuple [.int t.1, .int t.2]
theorem toD_tm (t : Tm) : toD (tmP t) = some (tmD t) := rfl
theorem toD_ts (ts : List Tm) : toD (tsP ts) = some (.tuple (ts.map tmD)) := by
  unfold tsP
  simp only [toD, toDs_map tmP tmD toD_tm ts, Option.map_some]
def ruD (r : Ru) : PyData := .tuple [.int r.1, .tuple (r.2.map tmD)]
theorem toD_ru (r : Ru) : toD (ruP r) = some (ruD r) := by
  unfold ruP
  simp only [toD, toDs, toD_ts]
  rfl
theorem toD_rs (size : Int) (rs : List Ru) : toD (rsP size rs) = some (.tuple [.int size, .tuple (rs.map ruD)]) := by
  unfold rsP
  simp only [toD, toDs, toDs_map ruP ruD toD_ru rs]
  rfl
theorem sortOk_int (ns : List Int) : sortOk (ns.map .int) = true := by
  unfold sortOk
  rw [toDs_map .int .int (fun _ => rfl) ns]
  simp only [Bool.and_eq_true]
  refine ⟨?_, ?_⟩
  · unfold sortB
    rw [Bool.or_eq_true]
    refine .inr (List.all_eq_true.mpr fun d hd => ?_)
    obtain ⟨n, _, rfl⟩ := List.mem_map.mp hd
    rfl
  · refine List.all_eq_true.mpr fun d hd => ?_
    obtain ⟨n, _, rfl⟩ := List.mem_map.mp hd
    rw [Bool.and_eq_true]
    refine ⟨rfl, List.all_eq_true.mpr fun e he => ?_⟩
    obtain ⟨m, _, rfl⟩ := List.mem_map.mp he
    rfl
theorem sort_int (ns : List Int) : ∃ ms : List Int, sortPV (ns.map .int) = ms.map .int ∧ ms.Perm ns ∧ ms.Pairwise (· ≤ ·) := by
  refine ⟨ns.mergeSort (fun a b => decide (a ≤ b)), ?_, List.mergeSort_perm _ _, ?_⟩
  · unfold sortPV
    refine (PySem.W.sort_maps (f := PV.int) fun a _ b _ => ?_).symm
    have e := congrFun (congrFun (PySem.W.dataLe_int (fun b : Int => b)) a) b
    exact e.symm
  · have := List.pairwise_mergeSort (le := fun a b : Int => decide (a ≤ b)) (fun a b c h1 h2 => by simp at *; omega) (fun a b => by simp; omega) ns
    exact this.imp fun h => by simpa using h
theorem sortOk_tm (ts : List Tm) : sortOk (ts.map tmP) = true := by
  unfold sortOk
  rw [toDs_map tmP tmD toD_tm ts]
  simp only [Bool.and_eq_true]
  refine ⟨?_, ?_⟩
  · unfold sortB
    rw [Bool.or_eq_true]
    refine .inl (List.all_eq_true.mpr fun d hd => ?_)
    obtain ⟨n, _, rfl⟩ := List.mem_map.mp hd
    rfl
  · refine List.all_eq_true.mpr fun d hd => ?_
    obtain ⟨n, _, rfl⟩ := List.mem_map.mp hd
    rw [Bool.and_eq_true]
    refine ⟨rfl, List.all_eq_true.mpr fun e he => ?_⟩
    obtain ⟨m, _, rfl⟩ := List.mem_map.mp he
    rfl
theorem sort_tm (ts : List Tm) : ∃ ms : List Tm, sortPV (ts.map tmP) = ms.map tmP ∧ ms.Perm ts ∧ ms.Pairwise (fun a b => a.1 ≤ b.1) := by
  refine ⟨ts.mergeSort (fun a b => decide (a.1 < b.1 ∨ (a.1 = b.1 ∧ a.2 ≤ b.2))), ?_, List.mergeSort_perm _ _, ?_⟩
  · unfold sortPV
    refine (PySem.W.sort_maps (f := tmP) fun a _ b _ => ?_).symm
    have e := congrFun (congrFun (PySem.W.dataLe_ii (fun b : Tm => b.1) (fun b => b.2)) a) b
    exact e.symm
  · have := List.pairwise_mergeSort (le := fun a b : Tm => decide (a.1 < b.1 ∨ (a.1 = b.1 ∧ a.2 ≤ b.2))) (fun a b c h1 h2 => by simp at *; omega) (fun a b => by simp; omega) ts
    exact this.imp fun h => by simp at h; omega
/-- sorted, all different -/
theorem asc_of {α : Type} {f : α → Int} {xs : List α} (h : xs.Pairwise (fun a b => f a ≤ f b)) (nd : (xs.map f).Nodup) : xs.Pairwise (fun a b => f a < f b) := by
  have nd2 : xs.Pairwise (fun a b => f a ≠ f b) := by rw [List.Nodup, List.pairwise_map] at nd; exact nd
  exact (h.and nd2).imp fun ⟨a, b⟩ => by omega
/-- while xs != [] -/
theorem ne_nil_at {h : PHeap} {l : Nat} {xs : List PV} {ds : List PyData} (e : h[l]? = some (.lst xs)) (hd : toDs xs = some ds) : eqP h (.loc l) (.lst []) = some (decide (xs = [])) := by
  unfold eqP
  rw [deref_at e]
  simp only [deref, toD, hd, toDs, Option.map_some]
  rw [if_pos (by
    have : (PyData.list []).depth ≤ 60 := by decide
    omega)]
  cases xs with
  | nil => simp only [toDs] at hd; cases hd; rfl
  | cons x xs =>
    simp only [toDs] at hd
    split at hd
    · cases hd
      rw [decide_eq_false (by simp)]
      rfl
    · cases hd
theorem ne_nil_lst {h : PHeap} {xs : List PV} {ds : List PyData} (hd : toDs xs = some ds) : eqP h (.lst xs) (.lst []) = some (decide (xs = [])) := by
  unfold eqP
  simp only [deref, toD, hd, toDs, Option.map_some]
  rw [if_pos (by
    have : (PyData.list []).depth ≤ 60 := by decide
    omega)]
  cases xs with
  | nil => simp only [toDs] at hd; cases hd; rfl
  | cons x xs =>
    simp only [toDs] at hd
    split at hd
    · cases hd
      rw [decide_eq_false (by simp)]
      rfl
    · cases hd
/-- x in a list of ints -/
theorem in_ints (h : PHeap) (x : Int) (ns : List Int) : inP h (.int x) (.lst (ns.map .int)) = some (decide (x ∈ ns)) := by
  unfold inP
  simp only [deref, toD, toDs_map .int .int (fun _ => rfl) ns, Option.map_some]
  rw [if_pos (by show min _ 0 ≤ 60; omega)]
  congr 1
  induction ns with
  | nil => rfl
  | cons n ns ih =>
    rw [List.map_cons, List.any_cons, ih]
    by_cases c : x = n
    · subst c; simp [PyData.eqv]
    · have : PyData.eqv (.int n) (.int x) = decide (n = x) := rfl
      rw [this, decide_eq_false (Ne.symm c), Bool.false_or]
      simp [c]
end Rf
end

section
set_option Elab.async false
set_option linter.all false
set_option maxRecDepth 100000
set_option maxHeartbeats 1000000
/-! While, slices, sums, methods of lists in the heap. -/
namespace Rf
open PySem
/-- while, by what is left -/
theorem while_rel {test : PSt → PHeap → Res PV} {body : PSt → PHeap → Fl} (P : Nat → PSt → PHeap → Prop) (Q : PSt → PHeap → Prop)
    (hs : ∀ k ρ h, P (k + 1) ρ h → ∃ v h1 ρ' h', test ρ h = .ok v h1 ∧ truth h1 v = some true ∧ body ρ h1 = .nx ρ' h' ∧ P k ρ' h') (he : ∀ ρ h, P 0 ρ h → ∃ v h1, test ρ h = .ok v h1 ∧ truth h1 v = some false ∧ Q ρ h1) :
    ∀ (k : Nat) (ρ : PSt) (h : PHeap) (fuel : Nat), k < fuel → P k ρ h → ∃ ρ' h', whileN test body fuel ρ h = .nx ρ' h' ∧ Q ρ' h'
  | _, _, _, 0, hf, _ => absurd hf (Nat.not_lt_zero _)
  | 0, ρ, h, fuel + 1, _, p => by
    obtain ⟨v, h1, e1, e2, q⟩ := he ρ h p
    exact ⟨ρ, h1, by rw [whileN]; simp only [e1, Res.fl, e2, orStuckF, Bool.false_eq_true, if_false], q⟩
  | k + 1, ρ, h, fuel + 1, hf, p => by
    obtain ⟨v, h1, ρ1, h2, e1, e2, e3, p1⟩ := hs k ρ h p
    obtain ⟨ρ', h', e4, q⟩ := while_rel P Q hs he k ρ1 h2 fuel (by omega) p1
    refine ⟨ρ', h', ?_, q⟩
    rw [whileN]
    simp only [e1, Res.fl, e2, orStuckF, if_true, e3]
    exact e4
theorem cut_from (xs : List PV) (k : Nat) (h : k ≤ xs.length) : cutL xs (some (k : Int)) none = xs.drop k := by
  have e1 : HT.sIx xs.length 0 (some (k : Int)) = k := by
    rw [HT.sIx_nat]
    omega
  have e2 : HT.sIx xs.length xs.length none = xs.length := rfl
  unfold cutL
  rw [e1, e2]
  exact List.take_of_length_le (by rw [List.length_drop]; omega)
theorem cut_to (xs : List PV) (k : Nat) : cutL xs none (some (k : Int)) = xs.take k := by
  have e1 : HT.sIx xs.length 0 none = 0 := rfl
  have e2 : HT.sIx xs.length xs.length (some (k : Int)) = min k xs.length := HT.sIx_nat _ _ _
  unfold cutL
  rw [e1, e2, List.drop_zero, Nat.sub_zero, List.take_eq_take_iff]
  omega
theorem all_int : ∀ ns : List Int, allOf intOf (ns.map .int) = some ns
  | [] => rfl
  | n :: ns => by rw [List.map_cons]; simp only [allOf, intOf, all_int ns]
theorem all_bl : ∀ ns : List Bool, allOf blOf (ns.map .bl) = some ns
  | [] => rfl
  | n :: ns => by rw [List.map_cons]; simp only [allOf, blOf, all_bl ns]
theorem all_str : ∀ ns : List Str, allOf strOf (ns.map .str) = some ns
  | [] => rfl
  | n :: ns => by rw [List.map_cons]; simp only [allOf, strOf, all_str ns]
theorem sum_lst (mu : Bool) (ns : List Int) (h : PHeap) : biOp .sum mu [.lst (ns.map .int)] h = .ok (.int ns.sum) h := by
  simp only [biOp, lstOf, deref, Option.bind_some, all_int, orStuck]
theorem all_lst (mu : Bool) (ns : List Bool) (h : PHeap) : biOp .all mu [.lst (ns.map .bl)] h = .ok (.bl (ns.all id)) h := by
  simp only [biOp, lstOf, deref, Option.bind_some, all_bl, orStuck]
theorem sum_bd (B : Int) : ∀ ns : List Int, (∀ n ∈ ns, -B ≤ n ∧ n ≤ B) → -(B * ns.length) ≤ ns.sum ∧ ns.sum ≤ B * ns.length
  | [], _ => by simp
  | n :: ns, h => by
    have h1 := h n List.mem_cons_self
    have h2 := sum_bd B ns fun x hx => h x (List.mem_cons_of_mem _ hx)
    rw [List.sum_cons, List.length_cons]
    have e : B * ((ns.length + 1 : Nat) : Int) = B * ns.length + B := by
      rw [Int.natCast_add, Int.mul_add]
      simp
    omega
/-- xs.append(y) -/
theorem m_app {h : PHeap} {l : Nat} {xs : List PV} {y : PV} (e : h[l]? = some (.lst xs)) (hz : xs.length < szB) : mthOp .append (.loc l) [y] h = .ok .non (h.set l (.lst (xs ++ [y]))) := by
  simp only [mthOp, e, guard_yes hz]
theorem pre_app {h : PHeap} {l : Nat} {xs : List PV} (e : h[l]? = some (.lst xs)) : mthPre .append h (.loc l) = true := by simp only [mthPre, e]
theorem pre_pop {h : PHeap} {l : Nat} {xs : List PV} (e : h[l]? = some (.lst xs)) : mthPre .pop h (.loc l) = true := by simp only [mthPre, e]
theorem pre_ext {h : PHeap} {l : Nat} {xs : List PV} (e : h[l]? = some (.lst xs)) : mthPre .extend h (.loc l) = true := by simp only [mthPre, e]
/-- xs.pop(i) -/
theorem m_pop {h : PHeap} {l : Nat} {xs : List PV} {y : PV} {p : Int} (e : h[l]? = some (.lst xs)) (h0 : 0 ≤ p) (h1 : p < 2 ^ 63) (hy : xs[p.toNat]? = some y) : mthOp .pop (.loc l) [.int p] h = .ok y (h.set l (.lst (xs.eraseIdx p.toNat))) := by
  have hlt := (List.getElem?_eq_some_iff.mp hy).1
  have ei : L2.ixN xs.length p = some p.toNat := by
    unfold L2.ixN
    rw [if_pos h0, if_pos (by omega)]
  simp only [mthOp, e, guard_yes (show -(2 ^ 63) ≤ p ∧ p < 2 ^ 63 from ⟨by omega, h1⟩), ei, orStuck, hy]
/-- xs.extend(ys) -/
theorem m_ext {h : PHeap} {l : Nat} {xs ys : List PV} (e : h[l]? = some (.lst xs)) (hz : xs.length + ys.length ≤ szB) : mthOp .extend (.loc l) [.lst ys] h = .ok .non (h.set l (.lst (xs ++ ys))) := by
  simp only [mthOp, e, deref, guard_yes hz]
theorem len_loc {h : PHeap} {l : Nat} {xs : List PV} (mu : Bool) (e : h[l]? = some (.lst xs)) : biOp .len mu [.loc l] h = .ok (.int xs.length) h := by
  simp only [biOp, lenOf, deref, e, orStuck]
theorem len_tup (h : PHeap) (xs : List PV) (mu : Bool) : biOp .len mu [.tup xs] h = .ok (.int xs.length) h := rfl
theorem atI_nat {α : Type} {xs : List α} {i : Nat} {y : α} (h : xs[i]? = some y) : L2.atI xs (i : Int) = some y := by
  have hlt := (List.getElem?_eq_some_iff.mp h).1
  unfold L2.atI
  have ei : L2.ixN xs.length (i : Int) = some i := by
    unfold L2.ixN
    rw [if_pos (by omega), if_pos (by omega), Int.toNat_natCast]
  rw [ei]
  exact h
theorem atI_last {α : Type} {xs : List α} {y : α} (h : xs[xs.length - 1]? = some y) : L2.atI xs (-1) = some y := by
  have hlt := (List.getElem?_eq_some_iff.mp h).1
  unfold L2.atI
  have ei : L2.ixN xs.length (-1) = some (xs.length - 1) := by
    unfold L2.ixN
    rw [if_neg (by omega), if_pos (by omega)]
    congr 1
    omega
  rw [ei]
  exact h
theorem Dr.setOld {l j : Nat} {h h' : PHeap} {m : Int} {o u : PO} (a : Dr l h h' m) (hl : l ≠ j) (e : h'[j]? = some u) : SrcOk (h'.set j o) l m := by
  obtain ⟨x, y, z, h1, r⟩ := id a.src
  exact ⟨x, y, z, by rw [List.getElem?_set_ne (Ne.symm hl)]; exact h1, r⟩
end Rf
namespace Rf
open PySem
theorem kMth_of {m : Me} {h : PHeap} {v : PV} (e : mthPre m h v = true) (c : Call) (es : List E) (ρ : PSt) : kMth c m es ρ v h = (evalEs c es ρ h).bind (mthOp m v) := by
  unfold kMth
  exact guard_yes e _
theorem lrng1 (mu : Bool) (j : Int) (h : PHeap) (hj : 0 ≤ j) (hj2 : j ≤ 1000000) : lrngOp mu [.int j] h = mkL mu (rngV 0 j) h := by
  have : lrngOp mu [.int j] h = guardR (RngB j ∧ j ≤ szB) (mkL mu (rngV 0 j) h) := rfl
  rw [this, guard_yes]
  refine ⟨⟨by omega, by omega⟩, ?_⟩
  unfold szB
  omega
theorem rngV_eq (j : Int) : ∃ ns : List Int, rngV 0 j = ns.map .int ∧ ns.length = j.toNat ∧ ∀ n ∈ ns, 0 ≤ n ∧ n < j := by
  refine ⟨(List.range (j - 0).toNat).map fun k => (0 : Int) + (k : Nat), ?_, by simp, fun n hn => ?_⟩
  · unfold rngV
    rw [List.map_map]
    rfl
  · obtain ⟨k, hk, rfl⟩ := List.mem_map.mp hn
    have := List.mem_range.mp hk
    omega
theorem walk_rng1 (j : Int) (h : PHeap) (h0 : 0 ≤ j) (h1 : j ≤ 1000000) : walkOf .rng [.int j] h = some (.rng 0 j.toNat) := by
  simp only [walkOf]
  rw [if_pos ⟨by omega, by omega⟩]
theorem slc_loc {h : PHeap} {l : Nat} {xs : List PV} (e : h[l]? = some (.lst xs)) (lo hi : Option Int) : slcOp false (.loc l) lo hi h = .ok (.lst (cutL xs lo hi)) h := by
  simp only [slcOp, deref_at e, mkL, Bool.false_eq_true, if_false]
end Rf
end

section
set_option Elab.async false
set_option linter.all false
set_option maxRecDepth 100000
set_option maxHeartbeats 2000000
namespace K85
open PySem Rf
theorem log_many {m : Int} (h1 : 0 ≤ m) (h2 : m < 9000) : m.natAbs.log2 < 9000 := by
  have : m.natAbs.log2 ≤ m.natAbs := Nat.log2_le_self _
  omega
theorem div_ok {m : Int} (h1 : 0 < m) (h2 : m < 9000) : DivOk m := ⟨h1, log_many (by omega) h2⟩
theorem draw_big (n : Nat) {l : Nat} {many a b cc : Int} {h : PHeap} (hl : h[l]? = some (.lst [.int a, .int b, .int cc])) (hm : 0 < many) (hm2 : many < 9000) (ha : 0 < a) :
    callN tb (n + 1) 20 [.loc l, .int many] h = .ok (.int (a % many)) (h.set l (.lst [.int (a / many), .int b, .int cc])) := by
  rw [callN_at n 20 _ h ir__law_draw rfl rfl]
  show (evalSs (callN tb n) ir__law_draw.body [some (.loc l), some (.int many), none, none, none] h).res = _
  unfold ir__law_draw
  have e0 : idxOp (.loc l) (.int 0) h = .ok (.int a) h := idx_loc hl rfl
  have s0 : ∀ x, setOp (.loc l) (.int 0) x h = some (h.set l (.lst [x, .int b, .int cc])) := fun x => set_loc (j := 0) hl rfl
  simp only [EV, EVS, EVB, e0, ha, guard_yes hm, guard_yes (div_ok hm hm2), s0, List.getElem?_cons_zero, List.getElem?_cons_succ, List.set_cons_zero, List.set_cons_succ, decide_true]
theorem log_two {x : Int} (h0 : 0 ≤ x) (h : x < 2 ^ 200) : x.natAbs.log2 < 400000 := by
  have : x.natAbs < 2 ^ 200 := by omega
  by_cases hx : x.natAbs = 0
  · rw [hx]; decide
  · have := (Nat.log2_lt hx).mpr this
    omega
theorem draw_small (n : Nat) {l : Nat} {many a b cc : Int} {h : PHeap} (hl : h[l]? = some (.lst [.int a, .int b, .int cc])) (hm : 0 < many) (hm2 : many < 9000) (ha : ¬ 0 < a) (hb : 0 ≤ b) (hc : 0 ≤ cc) (hc2 : cc ≤ 1000000) :
    ∃ v, callN tb (n + 1) 20 [.loc l, .int many] h = .ok (.int v) (h.set l (.lst [.int a, .int b, .int (cc + 1)])) ∧ 0 ≤ v ∧ v < many := by
  rw [callN_at n 20 _ h ir__law_draw rfl rfl]
  show ∃ v, (evalSs (callN tb n) ir__law_draw.body [some (.loc l), some (.int many), none, none, none] h).res = _ ∧ _
  unfold ir__law_draw
  have e0 : idxOp (.loc l) (.int 0) h = .ok (.int a) h := idx_loc hl rfl
  have e2 : idxOp (.loc l) (.int 2) h = .ok (.int cc) h := idx_loc hl rfl
  have s2 : ∀ x, setOp (.loc l) (.int 2) x h = some (h.set l (.lst [.int a, .int b, x])) := fun x => set_loc (j := 2) hl rfl
  have hl' : (h.set l (.lst [.int a, .int b, .int (cc + 1)]))[l]? = some (.lst [.int a, .int b, .int (cc + 1)]) := set_at hl
  have f1 : idxOp (.loc l) (.int 1) (h.set l (.lst [.int a, .int b, .int (cc + 1)])) = .ok (.int b) (h.set l (.lst [.int a, .int b, .int (cc + 1)])) := idx_loc hl' rfl
  have f2 : idxOp (.loc l) (.int 2) (h.set l (.lst [.int a, .int b, .int (cc + 1)])) = .ok (.int (cc + 1)) (h.set l (.lst [.int a, .int b, .int (cc + 1)])) := idx_loc hl' rfl
  have g1 : ∀ x, MulOk 2654435769 x := fun x => mul_l (by decide) (by decide)
  have g2 : ∀ x, MulOk 40503 x := fun x => mul_l (by decide) (by decide)
  have p1 : (0 : Int) < 4503599627370449 := by decide
  have p2 : (0 : Int) < 2251799813685119 := by decide
  have p3 : (0 : Int) < 32749 := by decide
  have p4 : (0 : Int) < 1125899906842589 := by decide
  have p5 : DivOk 1024 := ⟨by decide, by decide +kernel⟩
  generalize hone : (b + 2654435769 * (cc + 1)) % 4503599627370449 = one
  have o1 : 0 ≤ one := by rw [← hone]; exact Int.emod_nonneg _ (by decide)
  have o2 : one < 4503599627370449 := by rw [← hone]; exact Int.emod_lt_of_pos _ (by decide)
  have g3 : MulOk one one := mul_l (by omega) (by omega)
  generalize htw : one * one % 2251799813685119 = tw
  have t1 : 0 ≤ tw := by rw [← htw]; exact Int.emod_nonneg _ (by decide)
  have t2 : tw < 2251799813685119 := by rw [← htw]; exact Int.emod_lt_of_pos _ (by decide)
  have g4 : MulOk tw one := mul_l (by omega) (by omega)
  have u1 : 0 ≤ tw * one := Int.mul_nonneg t1 o1
  have u2 : tw * one ≤ 2251799813685119 * 4503599627370449 := Int.mul_le_mul (by omega) (by omega) o1 (by decide)
  have b1 : 0 ≤ b % 32749 := Int.emod_nonneg _ (by decide)
  have b2 : b % 32749 < 32749 := Int.emod_lt_of_pos _ (by decide)
  generalize htt : tw * one + 40503 * (cc + 1) + b % 32749 = tt
  have w1 : 0 ≤ tt := by omega
  have w2 : tt < 2 ^ 200 := by
    have : (2251799813685119 * 4503599627370449 + 40503 * 1000001 + 32749 : Int) < 2 ^ 200 := by decide
    omega
  have g5 : MulOk tt tt := .inr (.inr (by have := log_two w1 w2; omega))
  refine ⟨tt * tt % 1125899906842589 / 1024 % many, ?_, Int.emod_nonneg _ (by omega), Int.emod_lt_of_pos _ hm⟩
  simp only [EV, EVS, EVB, e0, e2, ha, s2, f1, f2, List.getElem?_cons_zero, List.getElem?_cons_succ, List.set_cons_zero, List.set_cons_succ, decide_false, guard_yes (g1 _), guard_yes (g2 _), guard_yes p1, guard_yes p2, guard_yes p3, guard_yes p4, guard_yes p5, hone, guard_yes g3, htw, guard_yes g4, htt, guard_yes g5, guard_yes hm]
theorem draw_ok (n : Nat) {l : Nat} {many m : Int} {h : PHeap} (s : SrcOk h l m) (hm : 0 < many) (hm2 : many < 9000) (h6 : m ≤ 1000000) :
    ∃ v h', callN tb (n + 1) 20 [.loc l, .int many] h = .ok (.int v) h' ∧ 0 ≤ v ∧ v < many ∧ Dr l h h' (m + 1) ∧ h'.length = h.length := by
  obtain ⟨a, b, c, hl, h1, h2, h3, h4⟩ := s
  by_cases ha : 0 < a
  · exact ⟨_, _, draw_big n hl hm hm2 ha, Int.emod_nonneg _ (by omega), Int.emod_lt_of_pos _ hm, ⟨⟨_, _, _, set_at hl, Int.ediv_nonneg h1 (by omega), h2, h3, by omega⟩, Fr.set _ _ _⟩, List.length_set⟩
  · obtain ⟨v, e, v1, v2⟩ := draw_small n hl hm hm2 ha h2 h3 (by omega)
    exact ⟨v, _, e, v1, v2, ⟨⟨_, _, _, set_at hl, h1, h2, by omega, by omega⟩, Fr.set _ _ _⟩, List.length_set⟩
theorem delay_ok (n : Nat) {l : Nat} {reach m : Int} {h : PHeap} (s : SrcOk h l m) (hr : 0 ≤ reach) (hr2 : reach ≤ 59) (h6 : m ≤ 999998) :
    ∃ v h', callN tb (n + 2) 21 [.loc l, .int reach] h = .ok (.int v) h' ∧ -60 ≤ v ∧ v ≤ 59 ∧ Dr l h h' (m + 2) ∧ h'.length = h.length := by
  rw [callN_at (n + 1) 21 _ h ir__law_delay rfl rfl]
  obtain ⟨w, h1, e1, w0, w1, d1, l1⟩ := draw_ok n (many := 16) s (by decide) (by decide) (by omega)
  show ∃ v h', (evalSs (callN tb (n + 1)) ir__law_delay.body [some (.loc l), some (.int reach), none] h).res = _ ∧ _
  unfold ir__law_delay
  by_cases c1 : w < 11
  · obtain ⟨x, h2, e2, x0, x1, d2, l2⟩ := draw_ok n (many := 7) d1.src (by decide) (by decide) (by omega)
    refine ⟨x - 3, h2, ?_, by omega, by omega, (d1.trans d2).mono (by omega), by omega⟩
    simp only [EV, EVS, EVB, e1, c1, e2, List.getElem?_cons_zero, List.getElem?_cons_succ, List.set_cons_zero, List.set_cons_succ, decide_true]
  · by_cases c2 : w < 15 ∨ reach < 59
    · obtain ⟨x, h2, e2, x0, x1, d2, l2⟩ := draw_ok n (many := 2 * reach + 1) d1.src (by omega) (by omega) (by omega)
      refine ⟨x - reach, h2, ?_, by omega, by omega, (d1.trans d2).mono (by omega), by omega⟩
      have g1 : MulOk 2 reach := mul_l (by decide) (by decide)
      by_cases c3 : w < 15
      · simp only [EV, EVS, EVB, e1, c1, c3, e2, guard_yes g1, List.getElem?_cons_zero, List.getElem?_cons_succ, List.set_cons_zero, List.set_cons_succ, decide_true, decide_false]
      · have c4 : reach < 59 := c2.resolve_left c3
        simp only [EV, EVS, EVB, e1, c1, c3, c4, e2, guard_yes g1, List.getElem?_cons_zero, List.getElem?_cons_succ, List.set_cons_zero, List.set_cons_succ, decide_true, decide_false]
    · obtain ⟨x, h2, e2, x0, x1, d2, l2⟩ := draw_ok n (many := 4) d1.src (by decide) (by decide) (by omega)
      have c3 : ¬ w < 15 := fun z => c2 (.inl z)
      have c4 : ¬ reach < 59 := fun z => c2 (.inr z)
      have ha : ∃ v, L2.atI [PV.int (-60), .int 59, .int (-59), .int 58] x = some (.int v) ∧ -60 ≤ v ∧ v ≤ 59 := by
        have hx : x = 0 ∨ x = 1 ∨ x = 2 ∨ x = 3 := by omega
        rcases hx with rfl | rfl | rfl | rfl
        · exact ⟨-60, rfl, by decide, by decide⟩
        · exact ⟨59, rfl, by decide, by decide⟩
        · exact ⟨-59, rfl, by decide, by decide⟩
        · exact ⟨58, rfl, by decide, by decide⟩
      obtain ⟨v, ea, v0, v1⟩ := ha
      refine ⟨v, h2, ?_, v0, v1, (d1.trans d2).mono (by omega), by omega⟩
      have g4 : ([PV.int (-60), .int 59, .int (-59), .int 58] : List PV).length ≤ szB := by decide
      simp only [EV, EVS, EVB, e1, c1, c3, c4, e2, guard_yes g4, ea, List.getElem?_cons_zero, List.getElem?_cons_succ, List.set_cons_zero, List.set_cons_succ, decide_true, decide_false]
end K85
end

section
set_option Elab.async false
set_option linter.all false
set_option maxRecDepth 100000
set_option maxHeartbeats 2000000
namespace K85
open PySem Rf
/-- a dict of ints, its keys all different -/
def kvP (kvs : List Tm) : List (L2.Key × PV) := kvs.map fun t => (Sum.inl t.1, PV.int t.2)
theorem putD_kv (kvs : List Tm) (k d : Int) : ∃ kvs' : List Tm, putD (kvP kvs) (Sum.inl k) (.int d) = kvP kvs' ∧ (∀ t ∈ kvs', t ∈ kvs ∨ t = (k, d)) ∧ ((kvs.map (·.1)).Nodup → (kvs'.map (·.1)).Nodup) ∧ kvs'.length ≤ kvs.length + 1 := by
  unfold putD
  by_cases c : ((kvP kvs).any fun kv => decide (kv.1 = Sum.inl k)) = true
  · rw [if_pos c]
    refine ⟨kvs.map fun t => if t.1 = k then (k, d) else t, ?_, fun t ht => ?_, fun nd => ?_, by rw [List.length_map]; omega⟩
    · unfold kvP
      rw [List.map_map, List.map_map]
      refine List.map_congr_left fun t _ => ?_
      show (if (Sum.inl t.1 : L2.Key) = Sum.inl k then ((Sum.inl t.1 : L2.Key), PV.int d) else (Sum.inl t.1, PV.int t.2)) = _
      by_cases e : t.1 = k
      · rw [if_pos (by rw [e])]
        simp [e]
      · rw [if_neg (fun z => e (Sum.inl.inj z))]
        simp [e]
    · obtain ⟨u, hu, rfl⟩ := List.mem_map.mp ht
      by_cases e : u.1 = k
      · rw [if_pos e]; exact .inr rfl
      · rw [if_neg e]; exact .inl hu
    · rw [List.map_map]
      have : (fun t : Tm => (if t.1 = k then (k, d) else t).1) = fun t => t.1 := by
        funext t
        by_cases e : t.1 = k
        · rw [if_pos e]; exact e.symm
        · rw [if_neg e]
      show (kvs.map fun t => (if t.1 = k then (k, d) else t).1).Nodup
      rw [this]
      exact nd
  · rw [if_neg c]
    refine ⟨kvs ++ [(k, d)], by unfold kvP; rw [List.map_append]; rfl, fun t ht => ?_, fun nd => ?_, by rw [List.length_append]; simp⟩
    · rcases List.mem_append.mp ht with z | z
      · exact .inl z
      · exact .inr (List.mem_singleton.mp z)
    · rw [List.map_append, List.nodup_append]
      refine ⟨nd, by simp, fun a ha b hb e => c ?_⟩
      have hb : b = k := by simpa using hb
      subst hb
      subst e
      obtain ⟨t, ht, e⟩ := List.mem_map.mp ha
      refine List.any_eq_true.mpr ⟨(Sum.inl t.1, .int t.2), List.mem_map.mpr ⟨t, ht, rfl⟩, ?_⟩
      exact decide_eq_true (by rw [← e])
theorem find_kv {kvs : List Tm} {t : Tm} (nd : (kvs.map (·.1)).Nodup) (ht : t ∈ kvs) : ((kvP kvs).find? fun kv => decide (kv.1 = (Sum.inl t.1 : L2.Key))).map (·.2) = some (.int t.2) := by
  induction kvs with
  | nil => cases ht
  | cons u kvs ih =>
    unfold kvP at ih ⊢
    rw [List.map_cons, List.find?_cons]
    by_cases e : u.1 = t.1
    · rw [decide_eq_true (by rw [e] : (Sum.inl u.1 : L2.Key) = Sum.inl t.1)]
      rcases List.mem_cons.mp ht with rfl | ht
      · rfl
      · exact absurd (show u.1 ∈ kvs.map (·.1) from by rw [e]; exact List.mem_map.mpr ⟨t, ht, rfl⟩) (List.nodup_cons.mp nd).1
    · rw [decide_eq_false (fun z => e (Sum.inl.inj z))]
      rcases List.mem_cons.mp ht with rfl | ht
      · exact absurd rfl e
      · exact ih (List.nodup_cons.mp nd).2 ht
/-- _law_terms' loop -/
theorem terms_loop (n : Nat) {l L : Nat} {size many reach m : Int} {h0 : PHeap} (hl : l < h0.length) (hs : 1 ≤ size) (hs2 : size ≤ 8) (hr : 0 ≤ reach) (hr2 : reach ≤ 59) (hm : 0 ≤ many) (hm2 : many ≤ 8) (h6 : m ≤ 900000) {h : PHeap} (d0 : Dr l h0 h m) (hL : L = h0.length) (hd : h[L]? = some (.dK [])) (o5 o6 : Option PV) :
    ∃ kvs o5' h', loopN (.rng 0 many.toNat) (kBody (callN tb (n + 2)) (.nm 5) [.seti (.var 4) (.call 20 [(.var 0), (.var 1)]) (.call 21 [(.var 0), (.var 3)])]) (many.toNat + 1) 0 [some (.loc l), some (.int size), some (.int many), some (.int reach), some (.loc L), o5, o6] h =
      .nx [some (.loc l), some (.int size), some (.int many), some (.int reach), some (.loc L), o5', o6] h' ∧ Dr l h0 h' (m + 3 * many) ∧ h'[L]? = some (.dK (kvP kvs)) ∧ (kvs.map (·.1)).Nodup ∧ ∀ t ∈ kvs, VT size t := by
  obtain ⟨ρ', h', e, p⟩ := loop_rng (lo := 0) (n := many.toNat) (body := kBody (callN tb (n + 2)) (.nm 5) [.seti (.var 4) (.call 20 [(.var 0), (.var 1)]) (.call 21 [(.var 0), (.var 3)])])
    (fun i ρ h => ∃ kvs o5', ρ = [some (.loc l), some (.int size), some (.int many), some (.int reach), some (.loc L), o5', o6] ∧ Dr l h0 h (m + 3 * i) ∧ h[L]? = some (.dK (kvP kvs)) ∧ (kvs.map (·.1)).Nodup ∧ (∀ t ∈ kvs, VT size t) ∧ kvs.length ≤ i)
    (fun i ρ h hi ⟨kvs, o5', e1, d, hd, nd, hv, hlen⟩ => by
      subst e1
      obtain ⟨dl, h1, e1, b1, b2, d1, l1⟩ := delay_ok n d.src hr hr2 (by omega)
      obtain ⟨dr, h2, e2, b3, b4, d2, l2⟩ := draw_ok (n + 1) (many := size) d1.src (by omega) (by omega) (by omega)
      have dd := (d.trans d1).trans d2
      have hL1 : h1[L]? = some (.dK (kvP kvs)) := d1.fr.at hd (by omega)
      have hL2 : h2[L]? = some (.dK (kvP kvs)) := d2.fr.at hL1 (by omega)
      obtain ⟨kvs', ek, h7, h8, h9⟩ := putD_kv kvs dr dl
      have es : setOp (.loc L) (.int dr) (.int dl) h2 = some (h2.set L (.dK (kvP kvs'))) := by
        have hz : (kvP kvs).length < szB := by unfold kvP szB; rw [List.length_map]; omega
        simp only [setOp, hL2, keyOf, Option.bind_some, if_pos hz, ek]
      refine ⟨[some (.loc l), some (.int size), some (.int many), some (.int reach), some (.loc L), some (.int (0 + i)), o6], h2.set L (.dK (kvP kvs')), ?_, kvs', _, rfl, (dd.setNew (by omega) hl _).mono (by omega), set_at hL2, h8 nd, fun t ht => ?_, by omega⟩
      · simp only [kBody, bindT, EV, EVS, EVB, kB2, e1, e2, es, List.getElem?_cons_zero, List.getElem?_cons_succ, List.set_cons_zero, List.set_cons_succ]
      · rcases h7 t ht with z | rfl
        · exact hv t z
        · exact ⟨b3, b4, b1, b2⟩)
    many.toNat 0 _ h (by omega) ⟨[], o5, rfl, d0.mono (by omega), hd, by simp, (fun _ z => (nomatch z)), Nat.le_refl _⟩
  obtain ⟨kvs, o5', e1, d, hd, nd, hv, _⟩ := p
  subst e1
  exact ⟨kvs, o5', h', e, d.mono (by omega), hd, nd, hv⟩
theorem terms_ok (n : Nat) {l : Nat} {size many reach m : Int} {h : PHeap} (s : SrcOk h l m) (hs : 1 ≤ size) (hs2 : size ≤ 8) (hr : 0 ≤ reach) (hr2 : reach ≤ 59) (hm : 0 ≤ many) (hm2 : many ≤ 8) (h6 : m ≤ 900000) :
    ∃ ts h', callN tb (n + 3) 22 [.loc l, .int size, .int many, .int reach] h = .ok (tsP ts) h' ∧ (∀ t ∈ ts, VT size t) ∧ ts.Pairwise (fun a b => a.1 < b.1) ∧ Dr l h h' (m + 3 * many) := by
  rw [callN_at (n + 2) 22 _ h ir__law_terms rfl rfl]
  show ∃ ts h', (evalSs (callN tb (n + 2)) ir__law_terms.body [some (.loc l), some (.int size), some (.int many), some (.int reach), none, none, none] h).res = _ ∧ _
  unfold ir__law_terms
  obtain ⟨kvs, o5, h', e, d, hd, nd, hv⟩ := terms_loop n (many := many) s.lt hs hs2 hr hr2 hm hm2 h6 ((Dr.refl s).push (.dK [])) rfl (push_at h _) none none
  have hw : walkOf .rng [.int many] (h ++ [.dK []]) = some (.rng 0 many.toNat) := by
    simp only [walkOf]
    rw [if_pos ⟨by omega, by omega⟩]
  obtain ⟨ms, e1, hp, hsd⟩ := sort_int (kvs.map (·.1))
  have es : biOp .sorted false [.loc h.length] h' = .ok (.lst (ms.map .int)) h' := by
    have ek : ((kvP kvs).map fun kv => keyPV kv.1) = (kvs.map (·.1)).map PV.int := by
      unfold kvP
      rw [List.map_map, List.map_map]
      rfl
    have e2 : biOp .sorted false [.loc h.length] h' = guardR (sortOk ((kvP kvs).map fun kv => keyPV kv.1) = true) (mkL false (sortPV ((kvP kvs).map fun kv => keyPV kv.1)) h') := by
      simp only [biOp, deref, hd]
    rw [e2, ek, guard_yes (sortOk_int _), e1]
    rfl
  -- each key with its value
  have hval : ∀ k ∈ ms, ∃ t ∈ kvs, t.1 = k := fun k hk => by
    obtain ⟨t, ht, e⟩ := List.mem_map.mp (hp.mem_iff.mp hk)
    exact ⟨t, ht, e⟩
  let g : Int → Tm := fun k => (k, ((kvs.find? fun t => decide (t.1 = k)).map (·.2)).getD 0)
  have hg : ∀ k ∈ ms, g k ∈ kvs ∧ idxOp (.loc h.length) (.int k) h' = .ok (.int (g k).2) h' := fun k hk => by
    obtain ⟨t, ht, e⟩ := hval k hk
    have hf : ∃ u, kvs.find? (fun t => decide (t.1 = k)) = some u := by
      cases q : kvs.find? (fun t => decide (t.1 = k)) with
      | none => exact absurd (decide_eq_true e) (by simpa using List.find?_eq_none.mp q t ht)
      | some u => exact ⟨u, rfl⟩
    obtain ⟨u, hu⟩ := hf
    have u1 : u.1 = k := by simpa using List.find?_some hu
    have u2 : u ∈ kvs := List.mem_of_find?_eq_some hu
    have eg : g k = u := by
      show (k, ((kvs.find? fun t => decide (t.1 = k)).map (·.2)).getD 0) = u
      rw [hu, ← u1]
      rfl
    rw [eg]
    refine ⟨u2, ?_⟩
    have := find_kv nd u2
    rw [u1] at this
    simp only [idxOp, deref, hd, keyOf, this, orStuck]
  have hcomp : compN (.one (.fixL (ms.map .int))) (kTurn (callN tb (n + 2)) [6] (.nm 6) .nop (.tup [(.var 6), (.idx (.var 4) (.var 6))]) [some (.loc l), some (.int size), some (.int many), some (.int reach), some (.loc h.length), o5, none]) ((Walk.one (.fixL (ms.map PV.int))).len h' + 1) 0 h' = .ok ((ms.map PV.int).filterMap fun x => match x with
      | .int k => some (tmP (g k))
      | _ => none) h' := by
    refine comp_map (fun i => fixL_next _ i _) fun x hx => ?_
    obtain ⟨k, hk, rfl⟩ := List.mem_map.mp hx
    have e3 := (hg k hk).2
    have z2 : ([PV.int k, PV.int (g k).2] : List PV).length ≤ szB := (by decide : 2 ≤ szB)
    simp only [kTurn, bindT, wipeP, isNop, if_true, EV, EVB, kT2, noExc, e3, guard_yes z2, List.getElem?_cons_zero, List.getElem?_cons_succ, List.set_cons_zero, List.set_cons_succ]
    rfl
  have hfm : ((ms.map PV.int).filterMap fun x => match x with
      | .int k => some (tmP (g k))
      | _ => none) = (ms.map g).map tmP := by
    rw [List.filterMap_map, List.map_map]
    show ms.filterMap (fun k => some (tmP (g k))) = _
    rw [List.filterMap_eq_map']
    rfl
  have hlen : (Walk.one (.fixL (ms.map PV.int))).len h' ≤ szB := by
    show (ms.map PV.int).length ≤ szB
    rw [List.length_map, hp.length_eq, List.length_map]
    have : kvs.length ≤ 8 := by
      have := asc_len ms 0 8 (asc_of (f := fun x => x) hsd (by rw [List.map_id']; exact hp.nodup_iff.mpr nd)) fun k hk => by
        obtain ⟨t, ht, e⟩ := hval k hk
        have := hv t ht
        unfold VT at this
        omega
      rw [hp.length_eq, List.length_map] at this
      exact this
    unfold szB
    omega
  have e' : loopN (.rng 0 many.toNat) (kBody (callN tb (n + 2)) (.nm 5) [.seti (.var 4) (.call 20 [(.var 0), (.var 1)]) (.call 21 [(.var 0), (.var 3)])]) ((Walk.rng 0 many.toNat).len (h ++ [.dK []]) + 1) 0 [some (.loc l), some (.int size), some (.int many), some (.int reach), some (.loc h.length), none, none] (h ++ [.dK []]) = _ := e
  have hw2 : walkOf .seq [.lst (ms.map PV.int)] h' = some (.one (.fixL (ms.map PV.int))) := rfl
  refine ⟨ms.map g, h', ?_, fun t ht => ?_, ?_, d⟩
  · simp only [EV, EVS, EVB, kFor, kForW, hw, hw2, e', es, kLc, kLcW, guard_yes hlen, List.getElem?_cons_zero, List.getElem?_cons_succ, List.set_cons_zero, List.set_cons_succ, hcomp, hfm]
    rfl
  · obtain ⟨k, hk, rfl⟩ := List.mem_map.mp ht
    exact hv _ (hg k hk).1
  · rw [List.pairwise_map]
    exact (asc_of (f := fun x => x) hsd (by rw [List.map_id']; exact hp.nodup_iff.mpr nd)).imp fun h => h
end K85
end

section
set_option Elab.async false
set_option linter.all false
set_option maxRecDepth 100000
set_option maxHeartbeats 4000000
namespace K85
open PySem Rf
theorem erase_map {α β : Type} (f : α → β) : ∀ (xs : List α) (k : Nat), (xs.map f).eraseIdx k = (xs.eraseIdx k).map f
  | [], _ => by simp
  | x :: xs, 0 => rfl
  | x :: xs, k + 1 => by simp only [List.map_cons, List.eraseIdx_cons_succ, erase_map f xs k]
theorem ring_row (n : Nat) {l A B : Nat} {size total m k : Int} {h0 : PHeap} (hl : l < h0.length) (hs : 1 ≤ size) (hs2 : size ≤ 8) (h6 : m ≤ 900000) (hk : 0 ≤ k) (hk2 : k ≤ size) {h : PHeap} (d0 : Dr l h0 h m) (hA : h0.length ≤ A) (hB : h0.length ≤ B) (hAB : A ≠ B) {lf : List Int} (eA : h[A]? = some (.lst (lf.map .int))) (lA : lf.length = size.toNat) (vA : ∀ x ∈ lf, 0 ≤ x ∧ x < size) (eB : h[B]? = some (.lst [])) (o3 o4 o7 o8 : Option PV) :
    ∃ (ws : List Int) (o3' : Option PV) (h' : PHeap), loopN (.rng 0 k.toNat) (kBody (callN tb (n + 1)) (.nm 3) [.ex (.mth .append (.var 6) [(.mth .pop (.var 5) [(.call 20 [(.var 0), (.bi .len false [(.var 5)])])])])]) (k.toNat + 1) 0 [some (.loc l), some (.int size), some (.int total), o3, o4, some (.loc A), some (.loc B), o7, o8] h =
      .nx [some (.loc l), some (.int size), some (.int total), o3', o4, some (.loc A), some (.loc B), o7, o8] h' ∧ Dr l h0 h' (m + k) ∧ h'[B]? = some (.lst (ws.map .int)) ∧ ws.length = k.toNat ∧ ∀ x ∈ ws, 0 ≤ x ∧ x < size := by
  obtain ⟨ρ', h', e, p⟩ := loop_rng (lo := 0) (n := k.toNat) (body := kBody (callN tb (n + 1)) (.nm 3) [.ex (.mth .append (.var 6) [(.mth .pop (.var 5) [(.call 20 [(.var 0), (.bi .len false [(.var 5)])])])])])
    (fun i ρ h => ∃ (lf ws : List Int) (o3' : Option PV), ρ = [some (.loc l), some (.int size), some (.int total), o3', o4, some (.loc A), some (.loc B), o7, o8] ∧ Dr l h0 h (m + i) ∧ h[A]? = some (.lst (lf.map .int)) ∧ h[B]? = some (.lst (ws.map .int)) ∧ lf.length + i = size.toNat ∧ ws.length = i ∧ (∀ x ∈ lf, 0 ≤ x ∧ x < size) ∧ ∀ x ∈ ws, 0 ≤ x ∧ x < size)
    (fun i ρ h hi ⟨lf, ws, o3', e1, d, hA1, hB1, ll, lr, v1, v2⟩ => by
      subst e1
      have hlen : ((lf.map PV.int).length : Int) = lf.length := by rw [List.length_map]
      obtain ⟨p, h2, e2, p0, p1, d2, l2⟩ := draw_ok n (many := ((lf.map PV.int).length : Int)) d.src (by rw [hlen]; omega) (by rw [hlen]; omega) (by omega)
      rw [hlen] at p1
      have hA2 : h2[A]? = some (.lst (lf.map .int)) := d2.fr.at hA1 (by omega)
      have hB2 : h2[B]? = some (.lst (ws.map .int)) := d2.fr.at hB1 (by omega)
      have hp : p.toNat < lf.length := by omega
      have hy : (lf.map PV.int)[p.toNat]? = some (.int lf[p.toNat]) := by rw [List.getElem?_map, List.getElem?_eq_getElem hp]; rfl
      have e3 := m_pop hA2 p0 (by omega) hy
      have hB3 : (h2.set A (.lst ((lf.map PV.int).eraseIdx p.toNat)))[B]? = some (.lst (ws.map .int)) := by rw [List.getElem?_set_ne hAB]; exact hB2
      have e4 := m_app (y := .int lf[p.toNat]) hB3 (by rw [List.length_map]; unfold szB; omega)
      have dd := (((d.trans d2).setNew hA hl (.lst ((lf.map PV.int).eraseIdx p.toNat))).setNew hB hl (.lst (ws.map PV.int ++ [.int lf[p.toNat]])))
      have em := lf[p.toNat]
      refine ⟨[some (.loc l), some (.int size), some (.int total), some (.int (0 + i)), o4, some (.loc A), some (.loc B), o7, o8], _, ?_, lf.eraseIdx p.toNat, ws ++ [lf[p.toNat]], _, rfl, dd.mono (by omega), ?_, ?_, ?_, by rw [List.length_append, lr]; rfl, fun x hx => v1 x (List.mem_of_mem_eraseIdx hx), fun x hx => ?_⟩
      · simp only [kBody, bindT, EV, EVS, EVB, kB2, kMth_of (pre_app hB1), kMth_of (pre_pop hA1), len_loc false hA1, e2, e3, e4, List.getElem?_cons_zero, List.getElem?_cons_succ, List.set_cons_zero, List.set_cons_succ]
      · rw [List.getElem?_set_ne (Ne.symm hAB), set_at hA2, erase_map]
      · rw [set_at hB3, List.map_append]
        rfl
      · rw [List.length_eraseIdx_of_lt hp]; omega
      · rcases List.mem_append.mp hx with z | z
        · exact v2 x z
        · rw [List.mem_singleton.mp z]; exact v1 _ (List.getElem_mem hp))
    k.toNat 0 _ h (by omega) ⟨lf, [], o3, rfl, d0.mono (by omega), eA, eB, by omega, rfl, vA, (fun _ z => (nomatch z))⟩
  obtain ⟨lf', ws, o3', e1, d, _, hB1, _, lr, _, v2⟩ := p
  subst e1
  exact ⟨ws, o3', h', e, d.mono (by omega), hB1, lr, v2⟩
theorem ring_delays (n : Nat) {l B : Nat} {m : Int} {h0 h : PHeap} {ws : List Int} (hl : l < h0.length) (d0 : Dr l h0 h m) (hB : h0.length ≤ B) (eB : h[B]? = some (.lst (ws.map .int))) (lr : ws.length ≤ 8) (h6 : m ≤ 900000) (ρ : PSt) (hρ : ρ[0]? = some (some (.loc l))) (hρ2 : 3 < ρ.length) :
    ∃ (ds : List Int) (h' : PHeap), compN (.one (.live B)) (kTurn (callN tb (n + 1)) [3] (.nm 3) .nop (.bin .sub (.call 20 [(.var 0), (.cst (.int 7))]) (.cst (.int 3))) ρ) (ws.length + 1) 0 h = .ok (ds.map .int) h' ∧ Dr l h0 h' (m + ws.length) ∧ h'[B]? = some (.lst (ws.map .int)) ∧ ds.length = ws.length ∧ ∀ d ∈ ds, -3 ≤ d ∧ d ≤ 3 := by
  have key := comp_rel (w := .one (.live B)) (n := ws.length) (xs := fun i => .int (ws.getD i 0)) (turn := kTurn (callN tb (n + 1)) [3] (.nm 3) .nop (.bin .sub (.call 20 [(.var 0), (.cst (.int 7))]) (.cst (.int 3))) ρ)
    (fun i acc h => ∃ ds : List Int, acc = ds.map .int ∧ Dr l h0 h (m + i) ∧ h[B]? = some (.lst (ws.map .int)) ∧ ds.length = i ∧ ∀ d ∈ ds, -3 ≤ d ∧ d ≤ 3)
    (fun i acc h hi ⟨ds, _, _, hb, _⟩ => by
      rw [live_next hb, List.getElem?_map, List.getElem?_eq_getElem hi]
      simp [List.getD_eq_getElem?_getD, List.getElem?_eq_getElem hi])
    (fun acc h ⟨ds, _, _, hb, _⟩ => by rw [live_next hb, List.getElem?_eq_none (by rw [List.length_map]; exact Nat.le_refl _)])
    (fun i acc h hi ⟨ds, e1, d, hb, ld, vd⟩ => by
      obtain ⟨x, h2, e2, x0, x1, d2, l2⟩ := draw_ok n (many := 7) d.src (by decide) (by decide) (by omega)
      refine ⟨some (.int (x - 3)), h2, ?_, ds ++ [x - 3], by rw [e1, List.map_append]; rfl, (d.trans d2).mono (by omega), d2.fr.at hb (by omega), by rw [List.length_append, ld]; rfl, fun y hy => ?_⟩
      · have hw : ((wipeP ρ [3]).set 3 (some (.int (ws.getD i 0))))[0]? = some (some (.loc l)) := by
          unfold wipeP wipeP
          rw [List.getElem?_set_ne (by decide), List.getElem?_set_ne (by decide)]
          exact hρ
        simp only [kTurn, bindT, isNop, if_true, EV, EVB, kT2, noExc, hw, e2]
      · rcases List.mem_append.mp hy with z | z
        · exact vd y z
        · rw [List.mem_singleton.mp z]; omega)
    ws.length 0 [] h (by omega) ⟨[], rfl, d0.mono (by omega), eB, rfl, (fun _ z => (nomatch z))⟩
  obtain ⟨vs, h', e, ds, e1, d, hb, ld, vd⟩ := key
  rw [List.nil_append] at e1
  subst e1
  exact ⟨ds, h', e, d, hb, ld, vd⟩
theorem ring_ok (n : Nat) {l : Nat} {size total m : Int} {h : PHeap} (s : SrcOk h l m) (hs : 1 ≤ size) (hs2 : size ≤ 8) (ht : -1 ≤ total) (ht2 : total ≤ 1) (h6 : m ≤ 800000) :
    ∃ (rs : List Ru) (h' : PHeap), callN tb (n + 2) 23 [.loc l, .int size, .int total] h = .ok (.lst (rs.map ruP)) h' ∧ (∀ r ∈ rs, VR size r) ∧ rs.length ≤ 8 ∧ Dr l h h' (m + 20) := by
  rw [callN_at (n + 1) 23 _ h ir__law_ring rfl rfl]
  show ∃ (rs : List Ru) (h' : PHeap), (evalSs (callN tb (n + 1)) ir__law_ring.body [some (.loc l), some (.int size), some (.int total), none, none, none, none, none, none] h).res = _ ∧ _
  unfold ir__law_ring
  obtain ⟨lf, elf, llf, vlf⟩ := rngV_eq size
  have d1 : Dr l h (h ++ [.lst (rngV 0 size)] ++ [.lst []]) m := ((Dr.refl s).push _).push _
  have lh1 : (h ++ [PO.lst (rngV 0 size)]).length = h.length + 1 := by rw [List.length_append]; rfl
  obtain ⟨k0, h2, e2, k1, k2, d2, l2⟩ := draw_ok n (many := size) d1.src (by omega) (by omega) (by omega)
  have eA : h2[h.length]? = some (.lst (lf.map .int)) := by
    refine d2.fr.at ?_ (by have := s.lt; omega)
    rw [List.append_assoc, List.getElem?_append_right (Nat.le_refl _), Nat.sub_self, ← elf]
    rfl
  have eB : h2[(h ++ [PO.lst (rngV 0 size)]).length]? = some (.lst []) := d2.fr.at (push_at _ _) (by rw [lh1]; have := s.lt; omega)
  obtain ⟨ws, o3, h3, e3, d3, eB3, lr, vr⟩ := ring_row n (A := h.length) (B := (h ++ [PO.lst (rngV 0 size)]).length) (total := total) (k := 1 + k0) s.lt hs hs2 (by omega) (by omega) (by omega) (d1.trans d2) (Nat.le_refl _) (by rw [lh1]; omega) (by rw [lh1]; omega) eA llf vlf eB none none none none
  obtain ⟨ds, h4, e4, d4, eB4, ld, vd⟩ := ring_delays n (m := m + 1 + (1 + k0)) s.lt d3 (by rw [lh1]; omega) eB3 (by omega) (by omega) [some (.loc l), some (.int size), some (.int total), o3, none, some (.loc h.length), some (.loc (h ++ [PO.lst (rngV 0 size)]).length), none, none] rfl (by show 3 < 9; decide)
  have hD : (h4 ++ [PO.lst (ds.map .int)])[h4.length]? = some (.lst (ds.map .int)) := push_at _ _
  have hds : 1 ≤ ds.length := by omega
  have ecut : cutL (ds.map PV.int) (some 1) none = (ds.drop 1).map PV.int := by
    have := cut_from (ds.map PV.int) 1 (by rw [List.length_map]; exact hds)
    rw [List.map_drop]
    exact this
  have e5 : slcOp false (.loc h4.length) (some 1) none (h4 ++ [PO.lst (ds.map .int)]) = .ok (.lst ((ds.drop 1).map .int)) (h4 ++ [PO.lst (ds.map .int)]) := by rw [slc_loc hD, ecut]
  have e6 : ∀ x, setOp (.loc h4.length) (.int 0) (.int x) (h4 ++ [PO.lst (ds.map .int)]) = some ((h4 ++ [PO.lst (ds.map .int)]).set h4.length (.lst ((ds.set 0 x).map .int))) := fun x => by
    rw [set_loc (j := 0) hD (by unfold L2.ixN; rw [if_pos (by decide), if_pos (by rw [List.length_map]; omega)]; rfl), List.map_set]
  generalize htt : total - (ds.drop 1).sum = tt
  have hsum := sum_bd 3 (ds.drop 1) fun d hd => vd d (List.mem_of_mem_drop hd)
  rw [List.length_drop] at hsum
  have t1 : -60 ≤ tt ∧ tt ≤ 59 := by omega
  generalize h6e : (h4 ++ [PO.lst (ds.map .int)]).set h4.length (.lst ((ds.set 0 tt).map .int)) = hh at *
  have lB : (h ++ [PO.lst (rngV 0 size)]).length < h4.length := (List.getElem?_eq_some_iff.mp eB4).1
  have hB6 : hh[(h ++ [PO.lst (rngV 0 size)]).length]? = some (.lst (ws.map .int)) := by
    rw [← h6e, List.getElem?_set_ne (by omega), List.getElem?_append_left lB]
    exact eB4
  have hD6 : hh[h4.length]? = some (.lst ((ds.set 0 tt).map .int)) := by rw [← h6e]; exact set_at hD
  have d6 : Dr l h hh (m + 20) := by
    rw [← h6e]
    exact ((d4.push _).setNew (by have := d4.fr.1; omega) s.lt _).mono (by omega)
  have ves : ∀ d ∈ ds.set 0 tt, -60 ≤ d ∧ d ≤ 59 := fun d hd => by
    rcases List.mem_or_eq_of_mem_set hd with z | rfl
    · have := vd d z; omega
    · exact t1
  let f' : PV → Option Ru := fun x => match x with
    | .tup [.int i, .int one] => some (one, [(ws.getD (if i = 0 then ws.length - 1 else i.toNat - 1) 0, (ds.set 0 tt).getD i.toNat 0)])
    | _ => none
  have hlen : ((ws.map PV.int).mapIdx fun i x => PV.tup [.int (i : Int), x]).length = ws.length := by rw [List.length_mapIdx, List.length_map]
  have hmem : ∀ x ∈ (ws.map PV.int).mapIdx (fun i x => PV.tup [.int (i : Int), x]), ∃ (i : Nat) (hi : i < ws.length), x = .tup [.int (i : Int), .int ws[i]] := fun x hx => by
    obtain ⟨i, hi, e⟩ := List.mem_mapIdx.mp hx
    rw [List.length_map] at hi
    exact ⟨i, hi, by rw [← e, List.getElem_map]⟩
  have hget : ∀ (xs : List Int) (i : Nat), i < xs.length → xs[i]? = some (xs.getD i 0) := fun xs i hi => by
    rw [List.getElem?_eq_getElem hi, List.getD_eq_getElem?_getD, List.getElem?_eq_getElem hi]
    rfl
  have hcomp : compN (.enm (.live (h ++ [PO.lst (rngV 0 size)]).length)) (kTurn (callN tb (n + 1)) [7, 8] (.tp [(.nm 7), (.nm 8)]) .nop (.tup [(.var 8), (.tup [(.tup [(.idx (.var 6) (.bin .sub (.var 7) (.cst (.int 1)))), (.idx (.var 4) (.var 7))])])])
      [some (.loc l), some (.int size), some (.int total), o3, some (.loc h4.length), some (.loc h.length), some (.loc (h ++ [PO.lst (rngV 0 size)]).length), none, none]) (((ws.map PV.int).mapIdx fun i x => PV.tup [.int (i : Int), x]).length + 1) 0 hh = .ok (((ws.map PV.int).mapIdx fun i x => PV.tup [.int (i : Int), x]).filterMap fun x => (f' x).map ruP) hh := by
    refine comp_map (fun i => by rw [enm_live_next hB6, List.getElem?_mapIdx]) fun x hx => ?_
    obtain ⟨i, hi, rfl⟩ := hmem x hx
    have g1 : idxOp (.loc (h ++ [PO.lst (rngV 0 size)]).length) (.int ((i : Int) - 1)) hh = .ok (.int (ws.getD (if (i : Int) = 0 then ws.length - 1 else (i : Int).toNat - 1) 0)) hh := by
      refine idx_loc hB6 ?_
      by_cases h0 : (i : Int) = 0
      · rw [if_pos h0, h0]
        refine atI_last ?_
        rw [List.getElem?_map, List.length_map, hget ws (ws.length - 1) (by omega)]
        rfl
      · rw [if_neg h0]
        have e : (i : Int) - 1 = ((i - 1 : Nat) : Int) := by omega
        rw [e]
        refine atI_nat ?_
        rw [List.getElem?_map, Int.toNat_natCast, hget ws (i - 1) (by omega)]
        rfl
    have g2 : idxOp (.loc h4.length) (.int (i : Int)) hh = .ok (.int ((ds.set 0 tt).getD (i : Int).toNat 0)) hh := by
      refine idx_loc hD6 (atI_nat ?_)
      rw [List.getElem?_map, Int.toNat_natCast, hget (ds.set 0 tt) i (by rw [List.length_set]; omega)]
      rfl
    have z1 : ∀ a : PV, ([a] : List PV).length ≤ szB := fun a => (by decide : 1 ≤ szB)
    have z2 : ∀ a b : PV, ([a, b] : List PV).length ≤ szB := fun a b => (by decide : 2 ≤ szB)
    simp only [kTurn, bindT, bindTs, seqOf, deref, wipeP, isNop, if_true, EV, EVB, kT2, noExc, g1, g2, guard_yes (z1 _), guard_yes (z2 _ _), List.getElem?_cons_zero, List.getElem?_cons_succ, List.set_cons_zero, List.set_cons_succ]
    rfl
  have hw1 : walkOf .seq [.loc (h ++ [PO.lst (rngV 0 size)]).length] h3 = some (.one (.live (h ++ [PO.lst (rngV 0 size)]).length)) := by
    simp only [walkOf, srcOf, eB3, Option.map_some]
  have hw2 : walkOf .enm [.loc (h ++ [PO.lst (rngV 0 size)]).length] hh = some (.enm (.live (h ++ [PO.lst (rngV 0 size)]).length)) := by
    simp only [walkOf, srcOf, hB6, Option.bind_some, Src.isT, Bool.false_eq_true, if_false]
  have hln1 : (Walk.one (.live (h ++ [PO.lst (rngV 0 size)]).length)).len h3 = ws.length := by
    simp only [Walk.len, Src.len, eB3, List.length_map]
  have hln2 : (Walk.enm (.live (h ++ [PO.lst (rngV 0 size)]).length)).len hh = ws.length := by
    simp only [Walk.len, Src.len, hB6, List.length_map]
  have gsz : ws.length ≤ szB := by unfold szB; omega
  rw [hlen] at hcomp
  have e3' : loopN (.rng 0 (1 + k0).toNat) (kBody (callN tb (n + 1)) (.nm 3) [.ex (.mth .append (.var 6) [(.mth .pop (.var 5) [(.call 20 [(.var 0), (.bi .len false [(.var 5)])])])])]) ((Walk.rng 0 (1 + k0).toNat).len h2 + 1) 0 _ h2 = _ := e3
  have z2 : ∀ a b : PV, ([a, b] : List PV).length ≤ szB := fun a b => (by decide : 2 ≤ szB)
  have z0 : ([] : List PV).length ≤ szB := by decide
  refine ⟨((ws.map PV.int).mapIdx fun i x => PV.tup [.int (i : Int), x]).filterMap f', hh, ?_, fun r hr => ?_, ?_, d6⟩
  · simp only [EV, EVS, EVB, lrng1 true size h (by omega) (by omega), guard_yes z0, guard_yes (z2 _ _), bindT, bindTs, seqOf, deref, e2, kFor, kForW, walk_rng1 (1 + k0) h2 (by omega) (by omega), e3', kLc, kLcW, hw1, hln1, guard_yes gsz, e4, e5, sum_lst, e6, htt, h6e, hw2, hln2, hcomp, List.map_filterMap,
      List.getElem?_cons_zero, List.getElem?_cons_succ, List.set_cons_zero, List.set_cons_succ]
  · obtain ⟨x, hx, e⟩ := List.mem_filterMap.mp hr
    obtain ⟨i, hi, rfl⟩ := hmem x hx
    have e : some (ws[i], [(ws.getD (if (i : Int) = 0 then ws.length - 1 else (i : Int).toNat - 1) 0, (ds.set 0 tt).getD (i : Int).toNat 0)]) = some r := e
    cases e
    have b1 := vr ws[i] (List.getElem_mem hi)
    have hpi : (if (i : Int) = 0 then ws.length - 1 else (i : Int).toNat - 1) < ws.length := by split <;> omega
    have b2 := vr _ (List.mem_of_getElem? (hget ws _ hpi))
    have b3 := ves _ (List.mem_of_getElem? (hget (ds.set 0 tt) i (by rw [List.length_set]; omega)))
    refine ⟨b1.1, b1.2, fun t ht => ?_, List.pairwise_singleton _ _⟩
    rw [List.mem_singleton.mp ht]
    exact ⟨b2.1, b2.2, b3.1, b3.2⟩
  · have := List.length_filterMap_le f' ((ws.map PV.int).mapIdx fun i x => PV.tup [.int (i : Int), x])
    omega
end K85
end

section
set_option Elab.async false
set_option linter.all false
set_option maxRecDepth 100000
set_option maxHeartbeats 4000000
namespace K85
open PySem Rf
theorem cmp_in' (h : PHeap) (v w : PV) : cmpP .in_ h v w = inP h v w := rfl
theorem cmp_ne' (h : PHeap) (v w : PV) : cmpP .ne h v w = (eqP h v w).map (!·) := rfl
theorem cmp_eq' (h : PHeap) (v w : PV) : cmpP .eq h v w = eqP h v w := rfl
theorem add_tup (xs ys : List PV) (h : PHeap) : binOp .add (.tup xs) (.tup ys) h = guardR (xs.length + ys.length ≤ szB) (.ok (.tup (xs ++ ys)) h) := rfl
theorem sorted_tup (xs : List PV) (h : PHeap) : biOp .sorted false [.tup xs] h = guardR (sortOk xs = true) (mkL false (sortPV xs) h) := rfl
theorem tuple_lst (xs : List PV) (mu : Bool) (h : PHeap) : biOp .tuple mu [.lst xs] h = .ok (.tup xs) h := rfl
theorem one_le (a : PV) : ([a] : List PV).length ≤ szB := (by decide : 1 ≤ szB)
theorem two_le (a b : PV) : ([a, b] : List PV).length ≤ szB := (by decide : 2 ≤ szB)
theorem nil_le : ([] : List PV).length ≤ szB := by decide
theorem widened_ok (n : Nat) {l : Nat} {size reach m : Int} {r : Ru} {h : PHeap} (s : SrcOk h l m) (hs : 1 ≤ size) (hs2 : size ≤ 8) (hr : 0 ≤ reach) (hr2 : reach ≤ 59) (v : VR size r) (h6 : m ≤ 900000) :
    ∃ (r' : Ru) (h' : PHeap), callN tb (n + 3) 24 [.loc l, .int size, ruP r, .int reach] h = .ok (ruP r') h' ∧ VR size r' ∧ Dr l h h' (m + 4) := by
  rw [callN_at (n + 2) 24 _ h ir__law_widened rfl rfl]
  show ∃ r' h', (evalSs (callN tb (n + 2)) ir__law_widened.body [some (.loc l), some (.int size), some (ruP r), some (.int reach), none, none, none, none, none] h).res = _ ∧ _
  unfold ir__law_widened
  obtain ⟨o, h1, e1, o0, o1, d1, l1⟩ := draw_ok (n + 1) (many := size) s (by omega) (by omega) (by omega)
  have hlen := v.len hs2 (by omega)
  have gsz : (r.2.map tmP).length ≤ szB := by rw [List.length_map]; unfold szB; omega
  have hw : walkOf .seq [tsP r.2] h1 = some (.one (.fixT (r.2.map tmP))) := rfl
  have hln : (Walk.one (.fixT (r.2.map tmP))).len h1 = (r.2.map tmP).length := rfl
  have hcomp : compN (.one (.fixT (r.2.map tmP))) (kTurn (callN tb (n + 2)) [7, 8] (.tp [(.nm 7), (.nm 8)]) .nop (.var 7) [some (.loc l), some (.int size), some (ruP r), some (.int reach), some (.int o), some (.int r.1), some (tsP r.2), none, none]) ((r.2.map tmP).length + 1) 0 h1 =
      .ok ((r.2.map (·.1)).map .int) h1 := by
    have := comp_map (w := .one (.fixT (r.2.map tmP))) (xs := r.2.map tmP) (h := h1) (turn := kTurn (callN tb (n + 2)) [7, 8] (.tp [(.nm 7), (.nm 8)]) .nop (.var 7) [some (.loc l), some (.int size), some (ruP r), some (.int reach), some (.int o), some (.int r.1), some (tsP r.2), none, none])
      (g := fun x => match x with
        | .tup [a, b] => some a
        | _ => none) (fun i => fixT_next _ i _) fun x hx => by
      obtain ⟨t, _, rfl⟩ := List.mem_map.mp hx
      simp only [tmP, kTurn, bindT, bindTs, seqOf, deref, wipeP, isNop, if_true, EV, EVB, kT2, noExc, List.getElem?_cons_zero, List.getElem?_cons_succ, List.set_cons_zero, List.set_cons_succ]
    rw [this, List.filterMap_map, List.map_map]
    show Res.ok (r.2.filterMap (fun t => some (PV.int t.1))) h1 = _
    rw [List.filterMap_eq_map']
    rfl
  by_cases hin : o ∈ r.2.map (·.1)
  · refine ⟨r, h1, ?_, v, d1.mono (by omega)⟩
    simp only [EV, EVS, EVB, ruP, bindT, bindTs, seqOf, deref, kLc, kLcW, hw, hln, guard_yes gsz, e1, hcomp, cmp_in', in_ints, hin, decide_true, List.getElem?_cons_zero, List.getElem?_cons_succ, List.set_cons_zero, List.set_cons_succ] at hcomp ⊢
  · obtain ⟨w, h2, e2, w0, w1, d2, l2⟩ := draw_ok (n + 1) (many := 3) d1.src (by decide) (by decide) (by omega)
    by_cases hw0 : 0 < w
    · refine ⟨r, h2, ?_, v, (d1.trans d2).mono (by omega)⟩
      simp only [EV, EVS, EVB, ruP, bindT, bindTs, seqOf, deref, kLc, kLcW, hw, hln, guard_yes gsz, e1, hcomp, cmp_in', in_ints, hin, decide_false, e2, hw0, decide_true, List.getElem?_cons_zero, List.getElem?_cons_succ, List.set_cons_zero, List.set_cons_succ] at hcomp ⊢
    · obtain ⟨dl, h3, e3, b1, b2, d3, l3⟩ := delay_ok n d2.src hr hr2 (by omega)
      obtain ⟨ms, e4, hp, hsd⟩ := sort_tm (r.2 ++ [(o, dl)])
      have ea : (r.2.map tmP ++ [PV.tup [.int o, .int dl]]) = (r.2 ++ [(o, dl)]).map tmP := by rw [List.map_append]; rfl
      have gad : (r.2.map tmP).length + [PV.tup [.int o, .int dl]].length ≤ szB := by
        rw [List.length_map]
        show r.2.length + 1 ≤ szB
        unfold szB
        omega
      refine ⟨(r.1, ms), h3, ?_, ⟨v.1, v.2.1, fun t ht => ?_, ?_⟩, ((d1.trans d2).trans d3).mono (by omega)⟩
      · simp only [EV, EVS, EVB, ruP, bindT, bindTs, seqOf, deref, kLc, kLcW, hw, hln, guard_yes gsz, e1, hcomp, cmp_in', in_ints, hin, decide_false, e2, hw0, e3, guard_yes (one_le _), guard_yes (two_le _ _), List.getElem?_cons_zero, List.getElem?_cons_succ, List.set_cons_zero, List.set_cons_succ] at hcomp ⊢
        simp only [EV, EVS, EVB, hcomp, cmp_in', in_ints, hin, e2, hw0, decide_true, decide_false, e3, guard_yes (one_le _), guard_yes (two_le _ _), tsP, add_tup, guard_yes gad, ea, sorted_tup, guard_yes (sortOk_tm _), e4, tuple_lst, List.getElem?_cons_zero, List.getElem?_cons_succ]
      · have ht := hp.mem_iff.mp ht
        rcases List.mem_append.mp ht with z | z
        · exact v.2.2.1 t z
        · rw [List.mem_singleton.mp z]; exact ⟨o0, o1, b1, b2⟩
      · refine asc_of hsd ?_
        have hpm := hp.map (fun t : Tm => t.1)
        rw [hpm.nodup_iff, List.map_append, List.nodup_append]
        refine ⟨?_, by simp, fun a ha b hb e => hin ?_⟩
        · have := v.2.2.2
          rw [List.Nodup, List.pairwise_map]
          exact this.imp fun h => by omega
        · have hb : b = o := by simpa using hb
          rw [← hb, ← e]
          exact ha

theorem pick4 {x : Int} (h0 : 0 ≤ x) (h1 : x < 4) : ∃ v, L2.atI [PV.int (-1), .int (-1), .int 0, .int 1] x = some (.int v) ∧ -1 ≤ v ∧ v ≤ 1 := by
  have hx : x = 0 ∨ x = 1 ∨ x = 2 ∨ x = 3 := by omega
  rcases hx with rfl | rfl | rfl | rfl
  · exact ⟨-1, rfl, by decide, by decide⟩
  · exact ⟨-1, rfl, by decide, by decide⟩
  · exact ⟨0, rfl, by decide, by decide⟩
  · exact ⟨1, rfl, by decide, by decide⟩
theorem pick3 {x : Int} (h0 : 0 ≤ x) (h1 : x < 4) : ∃ v, L2.atI [PV.int 0, .int 1, .int 1, .int 2] x = some (.int v) ∧ 0 ≤ v ∧ v ≤ 2 := by
  have hx : x = 0 ∨ x = 1 ∨ x = 2 ∨ x = 3 := by omega
  rcases hx with rfl | rfl | rfl | rfl
  · exact ⟨0, rfl, by decide, by decide⟩
  · exact ⟨1, rfl, by decide, by decide⟩
  · exact ⟨1, rfl, by decide, by decide⟩
  · exact ⟨2, rfl, by decide, by decide⟩
theorem pick7 {x size : Int} (h0 : 0 ≤ x) (h1 : x < 7) (hs : 1 ≤ size) (hs2 : size ≤ 8) : ∃ v, L2.atI [PV.int 1, .int 1, .int 2, .int 2, .int 3, .int size, .int 0] x = some (.int v) ∧ 0 ≤ v ∧ v ≤ 8 := by
  have hx : x = 0 ∨ x = 1 ∨ x = 2 ∨ x = 3 ∨ x = 4 ∨ x = 5 ∨ x = 6 := by omega
  rcases hx with rfl | rfl | rfl | rfl | rfl | rfl | rfl
  · exact ⟨1, rfl, by decide, by decide⟩
  · exact ⟨1, rfl, by decide, by decide⟩
  · exact ⟨2, rfl, by decide, by decide⟩
  · exact ⟨2, rfl, by decide, by decide⟩
  · exact ⟨3, rfl, by decide, by decide⟩
  · exact ⟨size, rfl, by omega, hs2⟩
  · exact ⟨0, rfl, by decide, by decide⟩
abbrev cW : E := .cmpr false false [9] .seq [(.var 6)] (.nm 9) .nop (.ite (.cmp .eq (.var 7) (.cst (.int 1))) (.call 24 [(.var 0), (.var 1), (.var 9), (.var 2)]) (.var 9))
/-- the rows of a ring, widened or not -/
theorem wide_rows (n : Nat) {l A : Nat} {size reach m wd : Int} {h0 h : PHeap} {rg : List Ru} (hl : l < h0.length) (d0 : Dr l h0 h m) (hs : 1 ≤ size) (hs2 : size ≤ 8) (hr : 0 ≤ reach) (hr2 : reach ≤ 59) (h6 : m ≤ 800000) (vg : ∀ r ∈ rg, VR size r) (lg : rg.length ≤ 8) {fs : List PV} (hA : l ≠ A) (eA : h[A]? = some (.lst fs)) (o4 o5 o8 o9 : Option PV) :
    ∃ (rs : List Ru) (h' : PHeap), evalE (callN tb (n + 3)) cW [some (.loc l), some (.int size), some (.int reach), some (.loc A), o4, o5, some (.lst (rg.map ruP)), some (.int wd), o8, o9] h = .ok (.lst (rs.map ruP)) h' ∧ (∀ r ∈ rs, VR size r) ∧ rs.length = rg.length ∧ Dr l h0 h' (m + 32) ∧ h'[A]? = some (.lst fs) := by
  have key := comp_rel (w := .one (.fixL (rg.map ruP))) (n := rg.length) (xs := fun i => ruP (rg.getD i (0, []))) (turn := kTurn (callN tb (n + 3)) [9] (.nm 9) .nop (.ite (.cmp .eq (.var 7) (.cst (.int 1))) (.call 24 [(.var 0), (.var 1), (.var 9), (.var 2)]) (.var 9)) [some (.loc l), some (.int size), some (.int reach), some (.loc A), o4, o5, some (.lst (rg.map ruP)), some (.int wd), o8, o9])
    (fun i acc h => ∃ rs : List Ru, acc = rs.map ruP ∧ (∀ r ∈ rs, VR size r) ∧ rs.length = i ∧ Dr l h0 h (m + 4 * i) ∧ h[A]? = some (.lst fs))
    (fun i acc h hi _ => by
      rw [fixL_next, List.getElem?_map, List.getElem?_eq_getElem hi]
      simp [List.getD_eq_getElem?_getD, List.getElem?_eq_getElem hi])
    (fun acc h _ => by rw [fixL_next, List.getElem?_eq_none (by rw [List.length_map]; exact Nat.le_refl _)])
    (fun i acc h hi ⟨rs, e1, v1, l1, d1, a1⟩ => by
      have hr : rg.getD i (0, []) ∈ rg := by
        rw [List.getD_eq_getElem?_getD, List.getElem?_eq_getElem hi]
        exact List.getElem_mem hi
      by_cases hw : wd = 1
      · obtain ⟨r', h2, e2, v2, d2⟩ := widened_ok n d1.src hs hs2 ‹0 ≤ reach› hr2 (vg _ hr) (by omega)
        refine ⟨some (ruP r'), h2, ?_, rs ++ [r'], by rw [e1, List.map_append]; rfl, fun r h => ?_, by rw [List.length_append, l1]; rfl, (d1.trans d2).mono (by omega), d2.fr.at a1 (Ne.symm hA)⟩
        · simp only [kTurn, bindT, wipeP, isNop, if_true, EV, EVB, kT2, noExc, cmp_eq', eq_int, hw, decide_true, e2, List.getElem?_cons_zero, List.getElem?_cons_succ, List.set_cons_zero, List.set_cons_succ]
        · rcases List.mem_append.mp h with z | z
          · exact v1 r z
          · rw [List.mem_singleton.mp z]; exact v2
      · refine ⟨some (ruP (rg.getD i (0, []))), h, ?_, rs ++ [rg.getD i (0, [])], by rw [e1, List.map_append]; rfl, fun r h => ?_, by rw [List.length_append, l1]; rfl, d1.mono (by omega), a1⟩
        · simp only [kTurn, bindT, wipeP, isNop, if_true, EV, EVB, kT2, noExc, cmp_eq', eq_int, hw, decide_false, List.getElem?_cons_zero, List.getElem?_cons_succ, List.set_cons_zero, List.set_cons_succ]
        · rcases List.mem_append.mp h with z | z
          · exact v1 r z
          · rw [List.mem_singleton.mp z]; exact vg _ hr)
    rg.length 0 [] h (by omega) ⟨[], rfl, (fun _ z => (nomatch z)), rfl, d0.mono (by omega), eA⟩
  obtain ⟨vs, h', e, rs, e1, v1, l1, d1, a1⟩ := key
  rw [List.nil_append] at e1
  subst e1
  have hw : walkOf .seq [.lst (rg.map ruP)] h = some (.one (.fixL (rg.map ruP))) := rfl
  have hln : (Walk.one (.fixL (rg.map ruP))).len h = rg.length := by show (rg.map ruP).length = _; rw [List.length_map]
  refine ⟨rs, h', ?_, v1, l1, d1.mono (by omega), a1⟩
  simp only [cW, EV, EVB, kLc, kLcW, hw, hln, guard_yes (show rg.length ≤ szB by unfold szB; omega), e, List.getElem?_cons_zero, List.getElem?_cons_succ]
abbrev bR1 : List S := [.set 6 (.call 23 [(.var 0), (.var 1), (.idx (.lst false [(.neg (.cst (.int 1))), (.neg (.cst (.int 1))), (.cst (.int 0)), (.cst (.int 1))]) (.call 20 [(.var 0), (.cst (.int 4))]))]), .set 7 (.call 20 [(.var 0), (.cst (.int 2))]), .ex (.mth .extend (.var 3) [cW])]
theorem rules_loop1 (n : Nat) {l A : Nat} {size reach m k : Int} {h0 h : PHeap} (hl : l < h0.length) (d0 : Dr l h0 h m) (hs : 1 ≤ size) (hs2 : size ≤ 8) (hr : 0 ≤ reach) (hr2 : reach ≤ 59) (h6 : m ≤ 700000) (hk : 0 ≤ k) (hk2 : k ≤ 2) (hA : h0.length ≤ A) (eA : h[A]? = some (.lst [])) (o4 o5 o6 o7 o8 o9 : Option PV) :
    ∃ (rs : List Ru) (q4 q6 q7 : Option PV) (h' : PHeap), loopN (.rng 0 k.toNat) (kBody (callN tb (n + 3)) (.nm 4) bR1) (k.toNat + 1) 0 [some (.loc l), some (.int size), some (.int reach), some (.loc A), o4, o5, o6, o7, o8, o9] h =
      .nx [some (.loc l), some (.int size), some (.int reach), some (.loc A), q4, o5, q6, q7, o8, o9] h' ∧ (∀ r ∈ rs, VR size r) ∧ rs.length ≤ 16 ∧ Dr l h0 h' (m + 120) ∧ h'[A]? = some (.lst (rs.map ruP)) := by
  obtain ⟨ρ', h', e, p⟩ := loop_rng (lo := 0) (n := k.toNat) (body := kBody (callN tb (n + 3)) (.nm 4) bR1)
    (fun i ρ h => ∃ (rs : List Ru) (q4 q6 q7 : Option PV), ρ = [some (.loc l), some (.int size), some (.int reach), some (.loc A), q4, o5, q6, q7, o8, o9] ∧ (∀ r ∈ rs, VR size r) ∧ rs.length ≤ 8 * i ∧ Dr l h0 h (m + 60 * i) ∧ h[A]? = some (.lst (rs.map ruP)))
    (fun i ρ h hi ⟨rs, q4, q6, q7, e1, v1, l1, d1, a1⟩ => by
      subst e1
      obtain ⟨x, h2, e2, x0, x1, d2, l2⟩ := draw_ok (n + 2) (many := 4) d1.src (by decide) (by decide) (by omega)
      obtain ⟨tt, e3, t0, t1⟩ := pick4 x0 x1
      obtain ⟨rg, h3, e4, v3, l3, d3⟩ := ring_ok (n + 1) d2.src hs hs2 t0 t1 (by omega)
      obtain ⟨wd, h4, e5, w0, w1, d4, l4⟩ := draw_ok (n + 2) (many := 2) d3.src (by decide) (by decide) (by omega)
      have d14 := ((d1.trans d2).trans d3).trans d4
      have hlA : l ≠ A := by omega
      have a4 : h4[A]? = some (.lst (rs.map ruP)) := d4.fr.at (d3.fr.at (d2.fr.at a1 (Ne.symm hlA)) (Ne.symm hlA)) (Ne.symm hlA)
      obtain ⟨ws, h5, e6, v5, l5, d5, a5⟩ := wide_rows n (wd := wd) hl d14 hs hs2 hr hr2 (by omega) v3 l3 hlA a4 (some (.int (0 + i))) o5 o8 o9
      have e7 := m_ext (ys := ws.map ruP) a5 (by rw [List.length_map, List.length_map]; unfold szB; omega)
      have g4 : ([PV.int (-1), .int (-1), .int 0, .int 1] : List PV).length ≤ szB := by decide
      refine ⟨[some (.loc l), some (.int size), some (.int reach), some (.loc A), some (.int (0 + i)), o5, some (.lst (rg.map ruP)), some (.int wd), o8, o9], _, ?_, rs ++ ws, _, _, _, rfl, fun r hr => ?_, by rw [List.length_append]; omega, (d5.setNew hA hl _).mono (by omega), by rw [set_at a5, List.map_append]⟩
      · have e6' : evalE (callN tb (n + 3)) cW [some (.loc l), some (.int size), some (.int reach), some (.loc A), some (.int (0 + i)), o5, some (.lst (rg.map ruP)), some (.int wd), o8, o9] h4 = .ok (.lst (ws.map ruP)) h5 := e6
        generalize hcw : (cW : E) = cw at e6'
        simp only [kBody, bindT, EV, EVS, EVB, kB2, bR1, hcw, guard_yes g4, e2, e3, e4, e5, kMth_of (pre_ext a4), e6', e7, List.getElem?_cons_zero, List.getElem?_cons_succ, List.set_cons_zero, List.set_cons_succ]
      · rcases List.mem_append.mp hr with z | z
        · exact v1 r z
        · exact v5 r z)
    k.toNat 0 _ h (by omega) ⟨[], o4, o6, o7, rfl, (fun _ z => (nomatch z)), Nat.le_refl _, d0.mono (by omega), eA⟩
  obtain ⟨rs, q4, q6, q7, e1, v1, l1, d1, a1⟩ := p
  subst e1
  exact ⟨rs, q4, q6, q7, h', e, v1, by omega, d1.mono (by omega), a1⟩
end K85
end

section
set_option Elab.async false
set_option linter.all false
set_option maxRecDepth 100000
set_option maxHeartbeats 4000000
namespace K85
open PySem Rf
def bApp : List S := [.ex (.mth .append (.var 3) [(.tup [(.call 20 [(.var 0), (.var 1)]), (.call 22 [(.var 0), (.var 1), (.var 8), (.var 2)])])])]
abbrev bR2 : List S := [.set 8 (.idx (.lst false [(.cst (.int 1)), (.cst (.int 1)), (.cst (.int 2)), (.cst (.int 2)), (.cst (.int 3)), (.var 1), (.cst (.int 0))]) (.call 20 [(.var 0), (.cst (.int 7))])), .ifs (.or (.cmp .gt (.var 8) (.cst (.int 0))) (.cmp .eq (.call 20 [(.var 0), (.cst (.int 6))]) (.cst (.int 0)))) bApp []]
theorem rules_loop2 (n : Nat) {l A : Nat} {size reach m k : Int} {h0 h : PHeap} {r0 : List Ru} (hl : l < h0.length) (d0 : Dr l h0 h m) (hs : 1 ≤ size) (hs2 : size ≤ 8) (hr : 0 ≤ reach) (hr2 : reach ≤ 59) (h6 : m ≤ 700000) (hk : 0 ≤ k) (hk2 : k ≤ 18) (hA : h0.length ≤ A) (eA : h[A]? = some (.lst (r0.map ruP))) (v0 : ∀ r ∈ r0, VR size r) (l0 : r0.length ≤ 16) (o4 o5 o6 o7 o8 o9 : Option PV) :
    ∃ (rs : List Ru) (q4 q8 : Option PV) (h' : PHeap), loopN (.rng 0 k.toNat) (kBody (callN tb (n + 3)) (.nm 4) bR2) (k.toNat + 1) 0 [some (.loc l), some (.int size), some (.int reach), some (.loc A), o4, o5, o6, o7, o8, o9] h =
      .nx [some (.loc l), some (.int size), some (.int reach), some (.loc A), q4, o5, o6, o7, q8, o9] h' ∧ (∀ r ∈ rs, VR size r) ∧ rs.length ≤ 34 ∧ Dr l h0 h' (m + 540) ∧ h'[A]? = some (.lst (rs.map ruP)) := by
  obtain ⟨ρ', h', e, p⟩ := loop_rng (lo := 0) (n := k.toNat) (body := kBody (callN tb (n + 3)) (.nm 4) bR2)
    (fun i ρ h => ∃ (rs : List Ru) (q4 q8 : Option PV), ρ = [some (.loc l), some (.int size), some (.int reach), some (.loc A), q4, o5, o6, o7, q8, o9] ∧ (∀ r ∈ rs, VR size r) ∧ rs.length ≤ 16 + i ∧ Dr l h0 h (m + 30 * i) ∧ h[A]? = some (.lst (rs.map ruP)))
    (fun i ρ h hi ⟨rs, q4, q8, e1, v1, l1, d1, a1⟩ => by
      subst e1
      have hlA : l ≠ A := by omega
      obtain ⟨x, h2, e2, x0, x1, d2, l2⟩ := draw_ok (n + 2) (many := 7) d1.src (by decide) (by decide) (by omega)
      obtain ⟨mm, e3, t0, t1⟩ := pick7 (size := size) x0 x1 hs hs2
      have a2 : h2[A]? = some (.lst (rs.map ruP)) := d2.fr.at a1 (Ne.symm hlA)
      have g7 : ([PV.int 1, .int 1, .int 2, .int 2, .int 3, .int size, .int 0] : List PV).length ≤ szB := (by decide : 7 ≤ szB)
      -- the rule that is put in
      have put : ∀ {h3 : PHeap} {m3 : Int}, Dr l h0 h3 m3 → m3 ≤ m + 30 * i + 2 → h3[A]? = some (.lst (rs.map ruP)) → ∃ (r : Ru) (h5 : PHeap), evalSs (callN tb (n + 3)) bApp [some (.loc l), some (.int size), some (.int reach), some (.loc A), some (.int (0 + i)), o5, o6, o7, some (.int mm), o9] h3 =
          .nx [some (.loc l), some (.int size), some (.int reach), some (.loc A), some (.int (0 + i)), o5, o6, o7, some (.int mm), o9] h5 ∧ VR size r ∧ Dr l h0 h5 (m + 30 * i + 30) ∧ h5[A]? = some (.lst ((rs ++ [r]).map ruP)) := fun {h3 m3} d3 hm3 a3 => by
        obtain ⟨lf, h4, e4, f0, f1, d4, l4⟩ := draw_ok (n + 2) (many := size) d3.src (by omega) (by omega) (by omega)
        obtain ⟨ts, h5, e5, vt, pt, d5⟩ := terms_ok n (many := mm) d4.src hs hs2 hr hr2 t0 t1 (by omega)
        have d35 := (d3.trans d4).trans d5
        have a5 : h5[A]? = some (.lst (rs.map ruP)) := d5.fr.at (d4.fr.at a3 (Ne.symm hlA)) (Ne.symm hlA)
        have e6 := m_app (y := ruP (lf, ts)) a5 (by rw [List.length_map]; unfold szB; omega)
        refine ⟨(lf, ts), h5.set A (.lst (rs.map ruP ++ [ruP (lf, ts)])), ?_, ⟨f0, f1, vt, pt⟩, (d35.setNew hA hl _).mono (by omega), by rw [set_at a5, List.map_append]; rfl⟩
        have e6' : mthOp .append (.loc A) [.tup [.int lf, tsP ts]] h5 = _ := e6
        simp only [bApp, EV, EVS, EVB, kMth_of (pre_app a3), e4, e5, guard_yes (two_le _ _), e6', List.getElem?_cons_zero, List.getElem?_cons_succ]
      by_cases hm : 0 < mm
      · obtain ⟨r, h5, e5, vr, d5, a5⟩ := put (d1.trans d2) (by omega) a2
        refine ⟨[some (.loc l), some (.int size), some (.int reach), some (.loc A), some (.int (0 + i)), o5, o6, o7, some (.int mm), o9], h5, ?_, rs ++ [r], some (.int (0 + i)), some (.int mm), rfl, fun r' hr' => ?_, by rw [List.length_append]; simp; omega, d5.mono (by omega), a5⟩
        · simp only [kBody, bindT, EV, EVS, EVB, kB2, bR2, guard_yes g7, e2, e3, hm, decide_true, e5, List.getElem?_cons_zero, List.getElem?_cons_succ, List.set_cons_zero, List.set_cons_succ]
        · rcases List.mem_append.mp hr' with z | z
          · exact v1 r' z
          · rw [List.mem_singleton.mp z]; exact vr
      · obtain ⟨y, h3, e3', y0, y1, d3, l3⟩ := draw_ok (n + 2) (many := 6) d2.src (by decide) (by decide) (by omega)
        have a3 : h3[A]? = some (.lst (rs.map ruP)) := d3.fr.at a2 (Ne.symm hlA)
        by_cases hy : y = 0
        · obtain ⟨r, h5, e5, vr, d5, a5⟩ := put ((d1.trans d2).trans d3) (by omega) a3
          refine ⟨[some (.loc l), some (.int size), some (.int reach), some (.loc A), some (.int (0 + i)), o5, o6, o7, some (.int mm), o9], h5, ?_, rs ++ [r], some (.int (0 + i)), some (.int mm), rfl, fun r' hr' => ?_, by rw [List.length_append]; simp; omega, d5.mono (by omega), a5⟩
          · simp only [kBody, bindT, EV, EVS, EVB, kB2, bR2, guard_yes g7, e2, e3, hm, e3', cmp_eq', eq_int, hy, decide_true, decide_false, e5, List.getElem?_cons_zero, List.getElem?_cons_succ, List.set_cons_zero, List.set_cons_succ]
          · rcases List.mem_append.mp hr' with z | z
            · exact v1 r' z
            · rw [List.mem_singleton.mp z]; exact vr
        · refine ⟨[some (.loc l), some (.int size), some (.int reach), some (.loc A), some (.int (0 + i)), o5, o6, o7, some (.int mm), o9], h3, ?_, rs, _, _, rfl, v1, by omega, ((d1.trans d2).trans d3).mono (by omega), a3⟩
          simp only [kBody, bindT, EV, EVS, EVB, kB2, bR2, guard_yes g7, e2, e3, hm, e3', cmp_eq', eq_int, hy, decide_false, List.getElem?_cons_zero, List.getElem?_cons_succ, List.set_cons_zero, List.set_cons_succ])
    k.toNat 0 _ h (by omega) ⟨r0, o4, o8, rfl, v0, by omega, d0.mono (by omega), eA⟩
  obtain ⟨rs, q4, q8, e1, v1, l1, d1, a1⟩ := p
  subst e1
  exact ⟨rs, q4, q8, h', e, v1, by omega, d1.mono (by omega), a1⟩
abbrev tW : E := .cmp .ne (.var 3) (.lst false [])
abbrev bW : List S := [.ex (.mth .append (.var 5) [(.mth .pop (.var 3) [(.call 20 [(.var 0), (.bi .len false [(.var 3)])])])])]
theorem rules_while (n : Nat) {l A B : Nat} {size reach m : Int} {h0 h : PHeap} {r0 : List Ru} (hl : l < h0.length) (d0 : Dr l h0 h m) (h6 : m ≤ 700000) (hA : h0.length ≤ A) (hB : h0.length ≤ B) (hAB : A ≠ B) (eA : h[A]? = some (.lst (r0.map ruP))) (eB : h[B]? = some (.lst [])) (v0 : ∀ r ∈ r0, VR size r) (l0 : r0.length ≤ 100) (o4 o6 o7 o8 o9 : Option PV) :
    ∃ (rs : List Ru) (h' : PHeap), whileN (evalE (callN tb (n + 1)) tW) (evalSs (callN tb (n + 1)) bW) fuelW [some (.loc l), some (.int size), some (.int reach), some (.loc A), o4, some (.loc B), o6, o7, o8, o9] h =
      .nx [some (.loc l), some (.int size), some (.int reach), some (.loc A), o4, some (.loc B), o6, o7, o8, o9] h' ∧ (∀ r ∈ rs, VR size r) ∧ rs.length ≤ 100 ∧ Dr l h0 h' (m + 100) ∧ h'[B]? = some (.lst (rs.map ruP)) := by
  have test : ∀ {fs : List Ru} {h : PHeap}, h[A]? = some (.lst (fs.map ruP)) → evalE (callN tb (n + 1)) tW [some (.loc l), some (.int size), some (.int reach), some (.loc A), o4, some (.loc B), o6, o7, o8, o9] h = .ok (.bl (!decide (fs.map ruP = []))) h := fun {fs h} a => by
    simp only [tW, EV, EVB, guard_yes nil_le, cmp_ne', ne_nil_at a (toDs_map ruP ruD toD_ru fs), Option.map_some, List.getElem?_cons_zero, List.getElem?_cons_succ]
  obtain ⟨ρ', h', e, q⟩ := while_rel (test := evalE (callN tb (n + 1)) tW) (body := evalSs (callN tb (n + 1)) bW)
    (fun k ρ h => ∃ (fs ms : List Ru), ρ = [some (.loc l), some (.int size), some (.int reach), some (.loc A), o4, some (.loc B), o6, o7, o8, o9] ∧ fs.length = k ∧ fs.length + ms.length = r0.length ∧ (∀ r ∈ fs, VR size r) ∧ (∀ r ∈ ms, VR size r) ∧ Dr l h0 h (m + ms.length) ∧ h[A]? = some (.lst (fs.map ruP)) ∧ h[B]? = some (.lst (ms.map ruP)))
    (fun ρ h => ∃ (ms : List Ru), ρ = [some (.loc l), some (.int size), some (.int reach), some (.loc A), o4, some (.loc B), o6, o7, o8, o9] ∧ ms.length ≤ r0.length ∧ (∀ r ∈ ms, VR size r) ∧ Dr l h0 h (m + ms.length) ∧ h[B]? = some (.lst (ms.map ruP)))
    (fun k ρ h ⟨fs, ms, e1, lk, lt, v1, v2, d, a, b⟩ => by
      subst e1
      have hne : ¬ (fs.map ruP = []) := fun z => by
        have := congrArg List.length z
        rw [List.length_map] at this
        simp at this
        subst this
        simp at lk
      have hlen : ((fs.map ruP).length : Int) = fs.length := by rw [List.length_map]
      obtain ⟨p, h2, e2, p0, p1, d2, l2⟩ := draw_ok n (many := ((fs.map ruP).length : Int)) d.src (by rw [hlen]; omega) (by rw [hlen]; omega) (by omega)
      rw [hlen] at p1
      have hlA : l ≠ A := by omega
      have hlB : l ≠ B := by omega
      have a2 : h2[A]? = some (.lst (fs.map ruP)) := d2.fr.at a (Ne.symm hlA)
      have b2 : h2[B]? = some (.lst (ms.map ruP)) := d2.fr.at b (Ne.symm hlB)
      have hp : p.toNat < fs.length := by omega
      have hy : (fs.map ruP)[p.toNat]? = some (ruP fs[p.toNat]) := by rw [List.getElem?_map, List.getElem?_eq_getElem hp]; rfl
      have e3 := m_pop a2 p0 (by omega) hy
      have b3 : (h2.set A (.lst ((fs.map ruP).eraseIdx p.toNat)))[B]? = some (.lst (ms.map ruP)) := by rw [List.getElem?_set_ne hAB]; exact b2
      have e4 := m_app (y := ruP fs[p.toNat]) b3 (by rw [List.length_map]; unfold szB; omega)
      have dd := (((d.trans d2).setNew hA hl (.lst ((fs.map ruP).eraseIdx p.toNat))).setNew hB hl (.lst (ms.map ruP ++ [ruP fs[p.toNat]])))
      refine ⟨_, h, _, _, test a, by rw [decide_eq_false hne]; rfl, ?_, fs.eraseIdx p.toNat, ms ++ [fs[p.toNat]], rfl, ?_, ?_, fun r hr => v1 r (List.mem_of_mem_eraseIdx hr), fun r hr => ?_, dd.mono (by rw [List.length_append]; simp; omega), ?_, ?_⟩
      · simp only [bW, EV, EVS, EVB, kMth_of (pre_app b), kMth_of (pre_pop a), len_loc false a, e2, e3, e4, List.getElem?_cons_zero, List.getElem?_cons_succ, List.set_cons_zero, List.set_cons_succ]
      · rw [List.length_eraseIdx_of_lt hp]; omega
      · rw [List.length_eraseIdx_of_lt hp, List.length_append]; simp; omega
      · rcases List.mem_append.mp hr with z | z
        · exact v2 r z
        · rw [List.mem_singleton.mp z]; exact v1 _ (List.getElem_mem hp)
      · rw [List.getElem?_set_ne (Ne.symm hAB), set_at a2, erase_map]
      · rw [set_at b3, List.map_append]
        rfl)
    (fun ρ h ⟨fs, ms, e1, lk, lt, v1, v2, d, a, b⟩ => by
      subst e1
      have hfs : fs = [] := List.eq_nil_of_length_eq_zero lk
      refine ⟨_, h, test a, by rw [hfs]; rfl, ms, rfl, by omega, v2, d, b⟩)
    r0.length _ h fuelW (by unfold fuelW; omega) ⟨r0, [], rfl, rfl, rfl, v0, (fun _ z => (nomatch z)), d0.mono (by simp), eA, eB⟩
  obtain ⟨ms, e1, lm, v2, d, b⟩ := q
  subst e1
  exact ⟨ms, h', e, v2, by omega, d.mono (by omega), b⟩
theorem rules_ok (n : Nat) {l : Nat} {size reach m : Int} {h : PHeap} (s : SrcOk h l m) (hs : 1 ≤ size) (hs2 : size ≤ 8) (hr : 0 ≤ reach) (hr2 : reach ≤ 59) (h6 : m ≤ 600000) :
    ∃ (rs : List Ru) (h' : PHeap), callN tb (n + 4) 25 [.loc l, .int size, .int reach] h = .ok (rsP size rs) h' ∧ (∀ r ∈ rs, VR size r) ∧ rs.length ≤ 24 ∧ Dr l h h' (m + 1000) := by
  rw [callN_at (n + 3) 25 _ h ir__law_rules rfl rfl]
  show ∃ (rs : List Ru) (h' : PHeap), (evalSs (callN tb (n + 3)) ir__law_rules.body [some (.loc l), some (.int size), some (.int reach), none, none, none, none, none, none, none] h).res = _ ∧ _
  have hlA : l ≠ h.length := by have := s.lt; omega
  have d1 := (Dr.refl s).push (.lst [])
  obtain ⟨x, h2, e2, x0, x1, d2, l2⟩ := draw_ok (n + 2) (many := 4) d1.src (by decide) (by decide) (by omega)
  obtain ⟨c1, e3, t0, t1⟩ := pick3 x0 x1
  have a2 : h2[h.length]? = some (.lst []) := d2.fr.at (push_at _ _) (Ne.symm hlA)
  obtain ⟨r1, q4, q6, q7, h3, e4, v3, l3, d3, a3⟩ := rules_loop1 n (k := c1) s.lt (d1.trans d2) hs hs2 hr hr2 (by omega) t0 t1 (Nat.le_refl _) a2 none none none none none none
  have g1 : MulOk 2 size := mul_l (by decide) (by decide)
  obtain ⟨c2, h4, e5, c20, c21, d4, l4⟩ := draw_ok (n + 2) (many := 2 * size + 2) d3.src (by omega) (by omega) (by omega)
  have a4 : h4[h.length]? = some (.lst (r1.map ruP)) := d4.fr.at a3 (Ne.symm hlA)
  obtain ⟨r2, p4, p8, h5, e6, v5, l5, d5, a5⟩ := rules_loop2 n (k := c2) s.lt (d3.trans d4) hs hs2 hr hr2 (by omega) c20 (by omega) (Nat.le_refl _) a4 v3 l3 q4 none q6 q7 none none
  have hlt5 : h.length < h5.length := (List.getElem?_eq_some_iff.mp a5).1
  have a6 : (h5 ++ [PO.lst []])[h.length]? = some (.lst (r2.map ruP)) := by rw [List.getElem?_append_left hlt5]; exact a5
  obtain ⟨ms, h6, e7, v7, l7, d7, b7⟩ := rules_while (n + 2) (A := h.length) (B := h5.length) (size := size) (reach := reach) s.lt (d5.push (.lst [])) (by omega) (Nat.le_refl _) (by omega) (by omega) a6 (push_at _ _) v5 (by omega) p4 q6 q7 p8 none
  have e4' : loopN (.rng 0 c1.toNat) (kBody (callN tb (n + 3)) (.nm 4) bR1) ((Walk.rng 0 c1.toNat).len h2 + 1) 0 _ h2 = _ := e4
  have e6' : loopN (.rng 0 c2.toNat) (kBody (callN tb (n + 3)) (.nm 4) bR2) ((Walk.rng 0 c2.toNat).len h4 + 1) 0 _ h4 = _ := e6
  have ecut : cutL (ms.map ruP) none (some 24) = (ms.take 24).map ruP := by
    rw [List.map_take]
    exact cut_to (ms.map ruP) 24
  have e8 : slcOp false (.loc h5.length) none (some 24) h6 = .ok (.lst ((ms.take 24).map ruP)) h6 := by rw [slc_loc b7, ecut]
  have g4 : ([PV.int 0, .int 1, .int 1, .int 2] : List PV).length ≤ szB := by decide
  refine ⟨ms.take 24, h6, ?_, fun r hr => v7 r (List.mem_of_mem_take hr), by rw [List.length_take]; omega, d7.mono (by omega)⟩
  have hb : ir__law_rules.body = [.set 3 (.lst true []), .for_ (.nm 4) .rng [(.idx (.lst false [(.cst (.int 0)), (.cst (.int 1)), (.cst (.int 1)), (.cst (.int 2))]) (.call 20 [(.var 0), (.cst (.int 4))]))] bR1, .for_ (.nm 4) .rng [(.call 20 [(.var 0), (.bin .add (.bin .mul (.cst (.int 2)) (.var 1)) (.cst (.int 2)))])] bR2, .set 5 (.lst true []), .whl tW bW, .ret (.tup [(.var 1), (.bi .tuple false [(.slc false (.var 5) .nop (.cst (.int 24)))])])] := rfl
  rw [hb]
  generalize bR1 = B1 at e4'
  generalize bR2 = B2 at e6'
  generalize tW = T1 at e7
  generalize bW = B3 at e7
  simp only [EV, EVS, EVB, s_whl, guard_yes nil_le, guard_yes g4, guard_yes g1, guard_yes (two_le _ _), e2, e3, kFor, kForW, walk_rng1 c1 h2 t0 (by omega), e4', e5, walk_rng1 c2 h4 c20 (by omega), e6', e7, e8, tuple_lst, List.getElem?_cons_zero, List.getElem?_cons_succ, List.set_cons_zero, List.set_cons_succ]
  rfl
end K85
end

section
set_option Elab.async false
set_option linter.all false
set_option maxRecDepth 100000
set_option maxHeartbeats 1000000
/-! Comprehensions of bools; isinstance. -/
namespace Rf
open PySem
theorem comp_fuel {w : Walk} {xs : List PV} {turn : PV → PHeap → Res (Option PV)} {h : PHeap} {g : PV → Option PV} (hw : ∀ i, w.next i h = some xs[i]?) (hs : ∀ x ∈ xs, turn x h = .ok (g x) h) (e : Nat) :
    compN w turn (xs.length + 1 + e) 0 h = .ok (xs.filterMap g) h := by
  have key : ∀ (ys zs : List PV), xs = zs ++ ys → compN w turn (ys.length + 1 + e) zs.length h = .ok (ys.filterMap g) h := by
    intro ys
    induction ys with
    | nil =>
      intro zs e0
      rw [List.append_nil] at e0
      subst e0
      rw [show ([] : List PV).length + 1 + e = e + 1 by simp; omega]
      simp only [compN, hw, List.getElem?_eq_none (Nat.le_refl _), List.filterMap_nil]
    | cons y ys ih =>
      intro zs e0
      have hx : xs[zs.length]? = some y := by rw [e0, List.getElem?_append_right (Nat.le_refl _), Nat.sub_self]; rfl
      have ih' := ih (zs ++ [y]) (by rw [e0, List.append_assoc]; rfl)
      rw [List.length_append] at ih'
      have hy : turn y h = .ok (g y) h := hs y (by rw [e0]; simp)
      have e2 : compN w turn (ys.length + 1 + e) (zs.length + 1) h = .ok (ys.filterMap g) h := ih'
      rw [show (y :: ys).length + 1 + e = (ys.length + 1 + e) + 1 by simp; omega, compN]
      simp only [hw, hx, hy, Res.bind, e2]
      cases hg : g y <;> simp [List.filterMap_cons, hg]
  exact key xs [] rfl
/-- all turns are True -/
theorem comp_true {w : Walk} {xs : List PV} {turn : PV → PHeap → Res (Option PV)} {h : PHeap} {n : Nat} (hw : ∀ i, w.next i h = some xs[i]?) (hs : ∀ x ∈ xs, turn x h = .ok (some (.bl true)) h) (hn : xs.length ≤ n) :
    compN w turn (n + 1) 0 h = .ok ((List.replicate xs.length true).map .bl) h := by
  have e := comp_fuel (g := fun _ => some (.bl true)) hw hs (n - xs.length)
  rw [show xs.length + 1 + (n - xs.length) = n + 1 by omega] at e
  rw [e]
  congr 1
  rw [List.map_replicate]
  clear e hn hs hw
  induction xs with
  | nil => rfl
  | cons x xs ih => rw [List.filterMap_cons, ih]; rfl
theorem all_true (n : Nat) (h : PHeap) (mu : Bool) : biOp .all mu [.lst ((List.replicate n true).map .bl)] h = .ok (.bl true) h := by
  rw [all_lst]
  simp
def zipP (a b : List PV) : List PV := (a.zip b).map fun p => PV.tup [p.1, p.2]
theorem zipP_get : ∀ (a b : List PV) (i : Nat), (zipP a b)[i]? = match a[i]?, b[i]? with
    | some x, some y => some (.tup [x, y])
    | _, _ => none
  | [], b, i => by simp [zipP]
  | _ :: _, [], i => by simp [zipP]
  | x :: a, y :: b, 0 => rfl
  | x :: a, y :: b, i + 1 => by
    have := zipP_get a b i
    simpa [zipP] using this
theorem zip_next' (a b : List PV) (i : Nat) (h : PHeap) : (Walk.zip (.fixT a) (.fixT b)).next i h = some (zipP a b)[i]? := by
  rw [zipP_get]
  simp only [Walk.next, Src.next]
  cases a[i]? <;> cases b[i]? <;> rfl
theorem zipP_len (a b : List PV) : (zipP a b).length ≤ a.length := by
  unfold zipP
  rw [List.length_map, List.length_zip]
  omega
theorem isi (v : PV) (t T : String) (b mu : Bool) (h : PHeap) (e1 : tyOf h v = some t) (e2 : isiTab t T = some b) : biOp .isinst mu [v, .ty T] h = .ok (.bl b) h := by
  simp only [biOp, e1, Option.bind_some, e2, orStuck]
theorem isi_ii (i : Int) (mu : Bool) (h : PHeap) : biOp .isinst mu [.int i, .ty "int"] h = .ok (.bl true) h := isi _ "int" _ _ _ _ rfl (by decide)
theorem isi_ib (i : Int) (mu : Bool) (h : PHeap) : biOp .isinst mu [.int i, .ty "bool"] h = .ok (.bl false) h := isi _ "int" _ _ _ _ rfl (by decide)
theorem isi_tt (xs : List PV) (mu : Bool) (h : PHeap) : biOp .isinst mu [.tup xs, .ty "tuple"] h = .ok (.bl true) h := isi _ "tuple" _ _ _ _ rfl (by decide)
theorem isi_ss (x : Str) (mu : Bool) (h : PHeap) : biOp .isinst mu [.str x, .ty "str"] h = .ok (.bl true) h := isi _ "str" _ _ _ _ rfl (by decide)
theorem isi_yy (x : Array UInt8) (mu : Bool) (h : PHeap) : biOp .isinst mu [.byt x, .ty "bytes"] h = .ok (.bl true) h := isi _ "bytes" _ _ _ _ rfl (by decide)
end Rf
end

section
set_option Elab.async false
set_option linter.all false
set_option maxRecDepth 100000
set_option maxHeartbeats 4000000
namespace K85
open PySem Rf
/-! the checks of valid rule sets -/
theorem v_int (n : Nat) (i : Int) (h : PHeap) : callN tb (n + 1) 0 [.int i] h = .ok (.bl true) h := by
  rw [callN_at n 0 _ h ir_is_integer rfl rfl]
  show (evalSs (callN tb n) ir_is_integer.body [some (.int i)] h).res = _
  unfold ir_is_integer
  simp only [EV, EVS, EVB, isi_ii, isi_ib, Bool.not_false, List.getElem?_cons_zero, List.getElem?_cons_succ]
theorem v_btw (n : Nat) {i lo hi : Int} (h1 : lo ≤ i) (h2 : i ≤ hi) (h : PHeap) : callN tb (n + 2) 1 [.int i, .int lo, .int hi] h = .ok (.bl true) h := by
  rw [callN_at (n + 1) 1 _ h ir_is_between rfl rfl]
  show (evalSs (callN tb (n + 1)) ir_is_between.body [some (.int i), some (.int lo), some (.int hi)] h).res = _
  unfold ir_is_between
  simp only [EV, EVS, EVB, v_int, h1, h2, decide_true, List.getElem?_cons_zero, List.getElem?_cons_succ]
theorem v_delay (n : Nat) {i : Int} (h1 : -60 ≤ i) (h2 : i ≤ 59) (h : PHeap) : callN tb (n + 3) 2 [.int i] h = .ok (.bl true) h := by
  rw [callN_at (n + 2) 2 _ h ir_is_delay rfl rfl]
  show (evalSs (callN tb (n + 2)) ir_is_delay.body [some (.int i)] h).res = _
  unfold ir_is_delay
  have e := v_btw n (i := i) (lo := 0 - 60) (hi := 60 - 1) (by omega) (by omega) h
  simp only [EV, EVS, EVB, e, List.getElem?_cons_zero, List.getElem?_cons_succ]
theorem v_pair (n : Nat) (a b : PV) (h : PHeap) : callN tb (n + 1) 3 [.tup [a, b]] h = .ok (.bl true) h := by
  rw [callN_at n 3 _ h ir_is_pair rfl rfl]
  show (evalSs (callN tb n) ir_is_pair.body [some (.tup [a, b])] h).res = _
  unfold ir_is_pair
  have e : (([a, b] : List PV).length : Int) = 2 := rfl
  simp only [EV, EVS, EVB, isi_tt, len_tup, cmp_eq', eq_int, e, decide_true, List.getElem?_cons_zero, List.getElem?_cons_succ]
theorem atI_0 (a b : PV) : L2.atI [a, b] 0 = some a := rfl
theorem atI_1 (a b : PV) : L2.atI [a, b] 1 = some b := rfl
theorem v_terms (n : Nat) {size : Int} {ts : List Tm} (hs2 : size ≤ 8) (hv : ∀ t ∈ ts, VT size t) (hp : ts.Pairwise fun a b => a.1 < b.1) (hl : ts.length ≤ 8) (h : PHeap) : callN tb (n + 3) 4 [.int size, tsP ts] h = .ok (.bl true) h := by
  rw [callN_at (n + 2) 4 _ h ir_are_terms rfl rfl]
  show (evalSs (callN tb (n + 2)) ir_are_terms.body [some (.int size), some (tsP ts), none, none, none, none, none] h).res = _
  unfold ir_are_terms
  have gsz : (ts.map tmP).length ≤ szB := by rw [List.length_map]; unfold szB; omega
  have hw : walkOf .seq [.tup (ts.map tmP)] h = some (.one (.fixT (ts.map tmP))) := rfl
  have hln : (Walk.one (.fixT (ts.map tmP))).len h = (ts.map tmP).length := rfl
  have c1 : compN (.one (.fixT (ts.map tmP))) (kTurn (callN tb (n + 2)) [4] (.nm 4) .nop (.call 3 [(.var 4)]) [some (.int size), some (.tup (ts.map tmP)), none, none, none, none, none]) ((ts.map tmP).length + 1) 0 h = .ok ((List.replicate (ts.map tmP).length true).map .bl) h := by
    refine comp_true (fun i => fixT_next _ i _) (fun x hx => ?_) (Nat.le_refl _)
    obtain ⟨t, _, rfl⟩ := List.mem_map.mp hx
    simp only [tmP, kTurn, bindT, wipeP, isNop, if_true, EV, EVB, kT2, noExc, v_pair, List.getElem?_cons_zero, List.getElem?_cons_succ, List.set_cons_zero, List.set_cons_succ]
  have c2 : compN (.one (.fixT (ts.map tmP))) (kTurn (callN tb (n + 2)) [5, 6] (.tp [(.nm 5), (.nm 6)]) .nop (.and (.call 1 [(.var 5), (.cst (.int 0)), (.bin .sub (.var 0) (.cst (.int 1)))]) (.call 0 [(.var 6)])) [some (.int size), some (.tup (ts.map tmP)), none, none, none, none, none]) ((ts.map tmP).length + 1) 0 h = .ok ((List.replicate (ts.map tmP).length true).map .bl) h := by
    refine comp_true (fun i => fixT_next _ i _) (fun x hx => ?_) (Nat.le_refl _)
    obtain ⟨t, ht, rfl⟩ := List.mem_map.mp hx
    have hvt := hv t ht
    have e := v_btw n (i := t.1) (lo := 0) (hi := size - 1) hvt.1 (by have := hvt.2.1; omega) h
    simp only [tmP, kTurn, bindT, bindTs, seqOf, deref, wipeP, isNop, if_true, EV, EVB, kT2, noExc, e, v_int, List.getElem?_cons_zero, List.getElem?_cons_succ, List.set_cons_zero, List.set_cons_succ]
  have hw3 : walkOf .zip [.tup (ts.map tmP), .tup ((ts.map tmP).drop 1)] h = some (.zip (.fixT (ts.map tmP)) (.fixT ((ts.map tmP).drop 1))) := by
    simp only [walkOf, srcOf, Option.bind_some, Src.isT, if_true]
  have hln3 : (Walk.zip (.fixT (ts.map tmP)) (.fixT ((ts.map tmP).drop 1))).len h = (ts.map tmP).length := rfl
  have c3 : compN (.zip (.fixT (ts.map tmP)) (.fixT ((ts.map tmP).drop 1))) (kTurn (callN tb (n + 2)) [2, 3] (.tp [(.nm 2), (.nm 3)]) .nop (.cmp .lt (.idx (.var 2) (.cst (.int 0))) (.idx (.var 3) (.cst (.int 0)))) [some (.int size), some (.tup (ts.map tmP)), none, none, none, none, none]) ((ts.map tmP).length + 1) 0 h = .ok ((List.replicate (zipP (ts.map tmP) ((ts.map tmP).drop 1)).length true).map .bl) h := by
    refine comp_true (fun i => zip_next' _ _ i _) (fun x hx => ?_) (zipP_len _ _)
    obtain ⟨i, hi⟩ := List.getElem?_of_mem hx
    rw [zipP_get, List.getElem?_drop, List.getElem?_map, List.getElem?_map] at hi
    cases ea : ts[i]? with
    | none => rw [ea] at hi; cases hi
    | some a =>
      cases eb : ts[1 + i]? with
      | none => rw [ea, eb] at hi; cases hi
      | some b =>
        rw [ea, eb] at hi
        cases hi
        obtain ⟨i1, e1⟩ := List.getElem?_eq_some_iff.mp ea
        obtain ⟨i2, e2⟩ := List.getElem?_eq_some_iff.mp eb
        have hlt : a.1 < b.1 := by
          have := List.pairwise_iff_getElem.mp hp i (1 + i) i1 i2 (by omega)
          rw [e1, e2] at this
          exact this
        simp only [tmP, kTurn, bindT, bindTs, seqOf, deref, wipeP, isNop, if_true, EV, EVB, kT2, noExc, atI_0, hlt, decide_true, List.getElem?_cons_zero, List.getElem?_cons_succ, List.set_cons_zero, List.set_cons_succ]
  have es : slcOp false (.tup (ts.map tmP)) (some 1) none h = .ok (.tup ((ts.map tmP).drop 1)) h := by
    have e : cutL (ts.map tmP) (some 1) none = (ts.map tmP).drop 1 := by
      by_cases hz : 1 ≤ (ts.map tmP).length
      · exact cut_from _ 1 hz
      · have : ts.map tmP = [] := List.eq_nil_of_length_eq_zero (by omega)
        rw [this]
        rfl
    simp only [slcOp, deref, e]
  simp only [tsP, EV, EVS, EVB, isi_tt, Bool.not_true, kLc, kLcW, hw, hln, guard_yes gsz, c1, all_true, c2, es, hw3, hln3, c3, List.getElem?_cons_zero, List.getElem?_cons_succ]
theorem v_loose (n : Nat) {size : Int} {r : Ru} (hs : 0 ≤ size) (hs2 : size ≤ 8) (v : VR size r) (h : PHeap) : callN tb (n + 4) 5 [.int size, ruP r] h = .ok (.bl true) h := by
  rw [callN_at (n + 3) 5 _ h ir_is_loose_rule rfl rfl]
  show (evalSs (callN tb (n + 3)) ir_is_loose_rule.body [some (.int size), some (ruP r)] h).res = _
  unfold ir_is_loose_rule
  have e1 := v_pair (n + 2) (.int r.1) (tsP r.2) h
  have e2 := v_btw (n + 1) (i := r.1) (lo := 0) (hi := size - 1) v.1 (by have := v.2.1; omega) h
  have e3 := v_terms n hs2 v.2.2.1 v.2.2.2 (v.len hs2 hs) h
  simp only [ruP, EV, EVS, EVB, e1, e2, e3, atI_0, atI_1, List.getElem?_cons_zero, List.getElem?_cons_succ]
theorem v_looses (n : Nat) {size : Int} {rs : List Ru} (hs : 1 ≤ size) (hs2 : size ≤ 8) (v : ∀ r ∈ rs, VR size r) (hl : rs.length ≤ 24) (h : PHeap) : callN tb (n + 5) 6 [rsP size rs] h = .ok (.bl true) h := by
  rw [callN_at (n + 4) 6 _ h ir_is_loose_rules rfl rfl]
  show (evalSs (callN tb (n + 4)) ir_is_loose_rules.body [some (rsP size rs), none] h).res = _
  unfold ir_is_loose_rules
  have e1 := v_pair (n + 3) (.int size) (.tup (rs.map ruP)) h
  have e2 := v_btw (n + 2) (i := size) (lo := 1) (hi := 8) hs hs2 h
  have hw : walkOf .seq [.tup (rs.map ruP)] h = some (.one (.fixT (rs.map ruP))) := rfl
  have hln : (Walk.one (.fixT (rs.map ruP))).len h = (rs.map ruP).length := rfl
  have gsz : (rs.map ruP).length ≤ szB := by rw [List.length_map]; unfold szB; omega
  have c1 : compN (.one (.fixT (rs.map ruP))) (kTurn (callN tb (n + 4)) [1] (.nm 1) .nop (.call 5 [(.idx (.var 0) (.cst (.int 0))), (.var 1)]) [some (.tup [.int size, .tup (rs.map ruP)]), none]) ((rs.map ruP).length + 1) 0 h = .ok ((List.replicate (rs.map ruP).length true).map .bl) h := by
    refine comp_true (fun i => fixT_next _ i _) (fun x hx => ?_) (Nat.le_refl _)
    obtain ⟨r, hr, rfl⟩ := List.mem_map.mp hx
    have e := v_loose n (by omega) hs2 (v r hr) h
    simp only [kTurn, bindT, wipeP, isNop, if_true, EV, EVB, kT2, noExc, atI_0, e, List.getElem?_cons_zero, List.getElem?_cons_succ, List.set_cons_zero, List.set_cons_succ]
  simp only [rsP, EV, EVS, EVB, e1, e2, atI_0, atI_1, Bool.not_true, isi_tt, kLc, kLcW, hw, hln, guard_yes gsz, c1, all_true, List.getElem?_cons_zero, List.getElem?_cons_succ]
theorem v_by (n : Nat) {size : Int} {r : Ru} (hs : 0 ≤ size) (hs2 : size ≤ 8) (v : VR size r) (h : PHeap) : callN tb (n + 5) 7 [.int size, ruP r] h = .ok (.bl true) h := by
  rw [callN_at (n + 4) 7 _ h ir_is_rule_by rfl rfl]
  show (evalSs (callN tb (n + 4)) ir_is_rule_by.body [some (.int size), some (ruP r), none, none] h).res = _
  unfold ir_is_rule_by
  have e1 : callN tb (n + 4) 5 [.int size, .tup [.int r.1, tsP r.2]] h = .ok (.bl true) h := v_loose n hs hs2 v h
  have hw : walkOf .seq [tsP r.2] h = some (.one (.fixT (r.2.map tmP))) := rfl
  have hln : (Walk.one (.fixT (r.2.map tmP))).len h = (r.2.map tmP).length := rfl
  have gsz : (r.2.map tmP).length ≤ szB := by rw [List.length_map]; have := v.len hs2 hs; unfold szB; omega
  have c1 : compN (.one (.fixT (r.2.map tmP))) (kTurn (callN tb (n + 4)) [2, 3] (.tp [(.nm 2), (.nm 3)]) .nop (.call 2 [(.var 3)]) [some (.int size), some (.tup [.int r.1, tsP r.2]), none, none]) ((r.2.map tmP).length + 1) 0 h = .ok ((List.replicate (r.2.map tmP).length true).map .bl) h := by
    refine comp_true (fun i => fixT_next _ i _) (fun x hx => ?_) (Nat.le_refl _)
    obtain ⟨t, ht, rfl⟩ := List.mem_map.mp hx
    have hvt := v.2.2.1 t ht
    have e := v_delay (n + 1) hvt.2.2.1 hvt.2.2.2 h
    simp only [tmP, kTurn, bindT, bindTs, seqOf, deref, wipeP, isNop, if_true, EV, EVB, kT2, noExc, e, List.getElem?_cons_zero, List.getElem?_cons_succ, List.set_cons_zero, List.set_cons_succ]
  simp only [ruP, EV, EVS, EVB, e1, atI_1, kLc, kLcW, hw, hln, guard_yes gsz, c1, all_true, List.getElem?_cons_zero, List.getElem?_cons_succ]
theorem v_set (n : Nat) {size : Int} {rs : List Ru} (hs : 1 ≤ size) (hs2 : size ≤ 8) (v : ∀ r ∈ rs, VR size r) (hl : rs.length ≤ 24) (h : PHeap) : callN tb (n + 6) 8 [rsP size rs] h = .ok (.bl true) h := by
  rw [callN_at (n + 5) 8 _ h ir_is_rule_set rfl rfl]
  show (evalSs (callN tb (n + 5)) ir_is_rule_set.body [some (rsP size rs), none] h).res = _
  unfold ir_is_rule_set
  have e1 : callN tb (n + 5) 6 [.tup [.int size, .tup (rs.map ruP)]] h = .ok (.bl true) h := v_looses n hs hs2 v hl h
  have hw : walkOf .seq [.tup (rs.map ruP)] h = some (.one (.fixT (rs.map ruP))) := rfl
  have hln : (Walk.one (.fixT (rs.map ruP))).len h = (rs.map ruP).length := rfl
  have gsz : (rs.map ruP).length ≤ szB := by rw [List.length_map]; unfold szB; omega
  have c1 : compN (.one (.fixT (rs.map ruP))) (kTurn (callN tb (n + 5)) [1] (.nm 1) .nop (.call 7 [(.idx (.var 0) (.cst (.int 0))), (.var 1)]) [some (.tup [.int size, .tup (rs.map ruP)]), none]) ((rs.map ruP).length + 1) 0 h = .ok ((List.replicate (rs.map ruP).length true).map .bl) h := by
    refine comp_true (fun i => fixT_next _ i _) (fun x hx => ?_) (Nat.le_refl _)
    obtain ⟨r, hr, rfl⟩ := List.mem_map.mp hx
    have e := v_by n (by omega) hs2 (v r hr) h
    simp only [kTurn, bindT, wipeP, isNop, if_true, EV, EVB, kT2, noExc, atI_0, e, List.getElem?_cons_zero, List.getElem?_cons_succ, List.set_cons_zero, List.set_cons_succ]
  have hgt : ¬ (24 : Int) < ((rs.map ruP).length : Nat) := by rw [List.length_map]; omega
  simp only [rsP, EV, EVS, EVB, e1, Bool.not_true, atI_1, len_tup, hgt, decide_false, kLc, kLcW, hw, hln, guard_yes gsz, c1, all_true, List.getElem?_cons_zero, List.getElem?_cons_succ]
theorem v_check (n : Nat) {size : Int} {rs : List Ru} (hs : 1 ≤ size) (hs2 : size ≤ 8) (v : ∀ r ∈ rs, VR size r) (hl : rs.length ≤ 24) (h : PHeap) : callN tb (n + 7) 9 [rsP size rs] h = .ok .non h := by
  rw [callN_at (n + 6) 9 _ h ir_check_rules rfl rfl]
  show (evalSs (callN tb (n + 6)) ir_check_rules.body [some (rsP size rs)] h).res = _
  unfold ir_check_rules
  have e1 := v_set n hs hs2 v hl h
  simp only [EV, EVS, EVB, e1, Bool.not_true, List.getElem?_cons_zero, List.getElem?_cons_succ]
end K85
end

section
set_option Elab.async false
set_option linter.all false
set_option maxRecDepth 100000
set_option maxHeartbeats 1000000
/-! Splitting what was joined. -/
namespace Rf
open PySem PySem.Builtin PySem.Builtin.Str PySem.StrLaws
def NoC (c : Nat) (x : PySem.Str) : Prop := c ∉ x.cps.toList
theorem NoC.app {c : Nat} {x y : PySem.Str} (a : NoC c x) (b : NoC c y) : NoC c (x ++ y) := by
  unfold NoC at *
  rw [Str.cps_append, Array.toList_append, List.mem_append]
  exact fun h => h.elim a b
theorem NoC.join {c : Nat} {y : PySem.Str} (b : NoC c y) : ∀ {qs : List PySem.Str}, (∀ q ∈ qs, NoC c q) → NoC c (Str.join y qs)
  | [], _ => fun h => nomatch h
  | [q], a => a q (List.mem_singleton.mpr rfl)
  | q :: q' :: r, a => ((a q List.mem_cons_self).app b).app (NoC.join b fun z hz => a z (List.mem_cons_of_mem _ hz))
theorem at_has {x y : PySem.Str} {c : Nat} {u v : List Nat} (hy : y.cps.toList = u ++ c :: v) {i : Nat} (h : PySem.StrLaws.At x y x.length i) : x.cps.toList[i + u.length]? = some c := by
  have h2 := h.2
  rw [subAt_eq, beq_iff_eq, hy] at h2
  have e : (u ++ c :: v)[u.length]? = some c := by simp
  rw [← h2] at e
  have hlt := (List.getElem?_eq_some_iff.mp e).1
  rw [List.getElem?_take] at e
  split at e
  · rw [List.getElem?_drop] at e
    exact e
  · cases e
theorem at_none {x y : PySem.Str} {c : Nat} {u v : List Nat} (hy : y.cps.toList = u ++ c :: v) {a : Nat} {p : List Nat} (hx : x.cps.toList.drop a = p) (hp : c ∉ p) (k : Nat) (hk : a ≤ k) : ¬ PySem.StrLaws.At x y x.length k := fun h => by
  have e := at_has hy h
  refine hp ?_
  rw [← hx]
  have e2 : (x.cps.toList.drop a)[k + u.length - a]? = some c := by
    rw [List.getElem?_drop]
    rw [show a + (k + u.length - a) = k + u.length by omega]
    exact e
  exact List.mem_of_getElem? e2
theorem at_first {x y : PySem.Str} {c : Nat} {u v : List Nat} (hy : y.cps.toList = u ++ c :: v) (hu : c ∉ u) {a : Nat} {p J : List Nat} (hx : x.cps.toList.drop a = p ++ (y.cps.toList ++ J)) (hp : c ∉ p) :
    PySem.StrLaws.At x y x.length (a + p.length) ∧ ∀ k, a ≤ k → k < a + p.length → ¬ PySem.StrLaws.At x y x.length k := by
  have hn : x.cps.toList.length = x.length := by simp [Str.length]
  have hm : y.cps.toList.length = y.length := by simp [Str.length]
  have hm2 := congrArg List.length hy
  have h1 := congrArg List.length hx
  rw [List.length_drop, List.length_append, List.length_append, hm, hn] at h1
  rw [hm, List.length_append, List.length_cons] at hm2
  refine ⟨⟨by omega, ?_⟩, fun k hk1 hk2 h => ?_⟩
  · rw [subAt_eq, beq_iff_eq, ← List.drop_drop, hx, List.drop_left, ← hm]
    exact List.take_left
  · have e := at_has hy h
    have e2 : (x.cps.toList.drop a)[k + u.length - a]? = some c := by
      rw [List.getElem?_drop]
      rw [show a + (k + u.length - a) = k + u.length by omega]
      exact e
    rw [hx] at e2
    by_cases hj : k + u.length - a < p.length
    · rw [List.getElem?_append_left hj] at e2
      exact hp (List.mem_of_getElem? e2)
    · rw [List.getElem?_append_right (by omega), hy, List.append_assoc, List.getElem?_append_left (by omega)] at e2
      exact hu (List.mem_of_getElem? e2)
theorem sub_from {x : PySem.Str} {a : Nat} {q : PySem.Str} (hx : x.cps.toList.drop a = q.cps.toList) : strSub x a x.length = q := by
  apply Str.ext'
  apply Array.toList_inj.mp
  rw [strSub_toList, hx]
  refine List.take_of_length_le ?_
  have := congrArg List.length hx
  rw [List.length_drop] at this
  have hn : x.cps.toList.length = x.length := by simp [Str.length]
  omega
theorem sub_to {x : PySem.Str} {a : Nat} {q : PySem.Str} {J : List Nat} (hx : x.cps.toList.drop a = q.cps.toList ++ J) : strSub x a (a + q.cps.toList.length) = q := by
  apply Str.ext'
  apply Array.toList_inj.mp
  rw [strSub_toList, hx, Nat.add_sub_cancel_left]
  exact List.take_left
theorem parts_join {x y : PySem.Str} {c : Nat} {u v : List Nat} (hy : y.cps.toList = u ++ c :: v) (hu : c ∉ u) : ∀ (qs : List PySem.Str) (a f : Nat) (cuts : List Nat), qs ≠ [] → (∀ q ∈ qs, NoC c q) → x.cps.toList.drop a = (Str.join y qs).cps.toList →
    ChainG x y x.length a cuts f → (∀ k, f ≤ k → ¬ PySem.StrLaws.At x y x.length k) → partsFrom x y.length a cuts = qs
  | [], _, _, _, h0, _, _, _, _ => absurd rfl h0
  | [q], a, f, cuts, _, hq, hx, hc, hf => by
    have hx' : x.cps.toList.drop a = q.cps.toList := hx
    have hn := at_none hy hx' (hq q (List.mem_singleton.mpr rfl))
    cases cuts with
    | nil =>
      show [strSub x a x.length] = [q]
      rw [sub_from hx']
    | cons d r => exact absurd hc.2.1 (hn d hc.1)
  | q :: q' :: r, a, f, cuts, _, hq, hx, hc, hf => by
    have hx' : x.cps.toList.drop a = q.cps.toList ++ (y.cps.toList ++ (Str.join y (q' :: r)).cps.toList) := by
      rw [hx, ← List.append_assoc, ← Array.toList_append, ← Array.toList_append]
      rfl
    obtain ⟨h1, h2⟩ := at_first hy hu hx' (hq q List.mem_cons_self)
    cases cuts with
    | nil =>
      have e : f = a := hc
      exact absurd h1 (hf _ (by omega))
    | cons d t =>
      obtain ⟨c1, c2, c3, c4⟩ := hc
      have e : d = a + q.cps.toList.length := by
        rcases Nat.lt_trichotomy d (a + q.cps.toList.length) with z | z | z
        · exact absurd c2 (h2 d c1 z)
        · exact z
        · exact absurd h1 (c3 _ (by omega) z)
      subst e
      have hm : y.cps.toList.length = y.length := by simp [Str.length]
      have ih := parts_join hy hu (q' :: r) (a + q.cps.toList.length + y.length) f t (List.cons_ne_nil _ _) (fun z hz => hq z (List.mem_cons_of_mem _ hz))
        (by rw [← List.drop_drop, ← List.drop_drop, hx', List.drop_left, ← hm, List.drop_left]) c4 hf
      show strSub x a (a + q.cps.toList.length) :: partsFrom x y.length (a + q.cps.toList.length + y.length) t = _
      rw [ih, sub_to hx']
theorem kind_pos (x : PySem.Str) : 1 ≤ Builtin.Str.strKind x := by
  unfold Builtin.Str.strKind
  split
  · exact Nat.le_refl _
  · split <;> decide
/-- what was joined, split -/
theorem split_joined {y : PySem.Str} {c : Nat} {u v : List Nat} (hy : y.cps.toList = u ++ c :: v) (hu : c ∉ u) (hk : Builtin.Str.strKind y = 1) (qs : List PySem.Str) (h0 : qs ≠ []) (hq : ∀ q ∈ qs, NoC c q) : Txt.split (Str.join y qs) y = qs := by
  have hm : y.cps.toList.length = y.length := by simp [Str.length]
  have hm2 := congrArg List.length hy
  rw [hm, List.length_append, List.length_cons] at hm2
  obtain ⟨f, h1, h2⟩ := occ_tight (Str.join y qs) y (by omega)
  have key := parts_join hy hu qs 0 f _ h0 hq rfl h1 h2
  have hk2 := kind_pos (Str.join y qs)
  unfold Txt.split
  split
  · rename_i hc
    rw [Bool.or_eq_true, decide_eq_true_eq, decide_eq_true_eq] at hc
    have hlt : (Str.join y qs).length < y.length := by omega
    match qs, h0, hlt with
    | [q], _, _ => rfl
    | q :: q' :: r, _, hlt =>
      have e : (Str.join y (q :: q' :: r)).length = q.length + y.length + (Str.join y (q' :: r)).length := by
        show (q ++ y ++ Str.join y (q' :: r)).length = _
        rw [Str.length_append, Str.length_append]
      omega
  · split
    · rename_i he
      have e0 := List.isEmpty_iff.mp he
      rw [e0] at key
      have e1 : [strSub (Str.join y qs) 0 (Str.join y qs).length] = qs := key
      rw [sub_whole] at e1
      exact e1
    · rw [partsBetween_eq]
      exact key
/-- what was put together, taken apart -/
theorem partition_joined {y : PySem.Str} {c : Nat} {u v : List Nat} (hy : y.cps.toList = u ++ c :: v) (hu : c ∉ u) (p r : PySem.Str) (hp : NoC c p) : Txt.partition (p ++ y ++ r) y = (p, y, r) := by
  have hx : (p ++ y ++ r).cps.toList.drop 0 = p.cps.toList ++ (y.cps.toList ++ r.cps.toList) := by
    rw [List.drop_zero, Str.cps_append, Str.cps_append, Array.toList_append, Array.toList_append, List.append_assoc]
  have hm : y.cps.toList.length = y.length := by simp [Str.length]
  obtain ⟨h1, h2⟩ := at_first hy hu hx hp
  rw [Nat.zero_add] at h1 h2
  unfold Txt.partition
  rcases occ_head (p ++ y ++ r) y 1 (Nat.le_refl 1) with ⟨h0, hn⟩ | ⟨i, t, h0, hi, hn⟩
  · exact absurd h1 (hn _)
  · have e : i = p.cps.toList.length := by
      rcases Nat.lt_trichotomy i p.cps.toList.length with z | z | z
      · exact absurd hi (h2 i (Nat.zero_le _) z)
      · exact z
      · exact absurd h1 (hn _ z)
    subst e
    rw [h0]
    have e1 : strSub (p ++ y ++ r) 0 p.cps.toList.length = p := by
      have := sub_to hx
      rwa [Nat.zero_add] at this
    have e2 : strSub (p ++ y ++ r) (p.cps.toList.length + y.length) (p ++ y ++ r).length = r := by
      refine sub_from ?_
      rw [List.drop_zero] at hx
      rw [← List.drop_drop, hx, List.drop_left, ← hm, List.drop_left]
    show (strSub _ _ _, y, strSub _ _ _) = _
    rw [e1, e2]
end Rf
end

section
set_option Elab.async false
set_option linter.all false
set_option maxRecDepth 100000
set_option maxHeartbeats 1000000
/-! The texts of numbers, terms, rules, rule sets. -/
namespace Rf
open PySem
def nT (i : Int) : PySem.Str := PySem.Str.ofString (toString i)
/-- what is known of a number's text -/
def nOk (i : Int) : Bool := (nT i).cps.toList.all (fun c => decide (48 ≤ c ∧ c ≤ 57)) && decide (1 ≤ (nT i).length) && decide ((nT i).length ≤ 2) && decide (PySem.intText? (nT i) = some i) && decide (i.natAbs.log2 < 1920)
theorem nOk_all : ∀ k : Fin 61, nOk ((k.val : Nat) : Int) = true := by decide +kernel
theorem nOk_at {i : Int} (h0 : 0 ≤ i) (h1 : i ≤ 60) : nOk i = true := by
  have := nOk_all ⟨i.toNat, by omega⟩
  have e : (((⟨i.toNat, by omega⟩ : Fin 61).val : Nat) : Int) = i := by show ((i.toNat : Nat) : Int) = i; omega
  rwa [e] at this
structure NOk (i : Int) : Prop where
  dig : ∀ c ∈ (nT i).cps.toList, 48 ≤ c ∧ c ≤ 57
  l1 : 1 ≤ (nT i).length
  l2 : (nT i).length ≤ 2
  rd : PySem.intText? (nT i) = some i
  lg : i.natAbs.log2 < 1920
theorem nOk_of {i : Int} (h0 : 0 ≤ i) (h1 : i ≤ 60) : NOk i := by
  have h := nOk_at h0 h1
  unfold nOk at h
  simp only [Bool.and_eq_true, decide_eq_true_eq, List.all_eq_true] at h
  exact ⟨h.1.1.1.1, h.1.1.1.2, h.1.1.2, h.1.2, h.2⟩
theorem NOk.no {i : Int} (n : NOk i) {c : Nat} (h : c < 48 ∨ 57 < c) : NoC c (nT i) := fun hm => by
  have := n.dig c hm
  omega
def sgT (d : Int) : PySem.Str := if 0 ≤ d then ("+" : PySem.Str) else ("-" : PySem.Str)
def abT (d : Int) : Int := if d < 0 then -d else d
def tmT (t : Tm) : PySem.Str := nT t.1 ++ sgT t.2 ++ nT (abT t.2)
def tsT (ts : List Tm) : PySem.Str := if ts = [] then ("never" : PySem.Str) else Str.join (" | " : PySem.Str) (ts.map tmT)
def ruT (r : Ru) : PySem.Str := nT r.1 ++ (" <= " : PySem.Str) ++ tsT r.2
def rsT (size : Int) (rs : List Ru) : PySem.Str := Str.join ("; " : PySem.Str) (nT size :: rs.map ruT)
theorem tjoin (y : PySem.Str) (xs : List PySem.Str) : Txt.join y xs = Str.join y xs := StrLaws.glued_eq_join y xs
theorem sg_no {d : Int} {c : Nat} (h : c ≠ 43 ∧ c ≠ 45) : NoC c (sgT d) := by
  unfold sgT NoC
  split
  · rw [show ("+" : PySem.Str).cps.toList = [43] by decide +kernel]; simp; exact h.1
  · rw [show ("-" : PySem.Str).cps.toList = [45] by decide +kernel]; simp; exact h.2
theorem abT_b {d : Int} (h1 : -60 ≤ d) (h2 : d ≤ 59) : 0 ≤ abT d ∧ abT d ≤ 60 := by unfold abT; split <;> omega
theorem VT.n1 {size : Int} (hs : size ≤ 8) {t : Tm} (v : VT size t) : NOk t.1 := nOk_of v.1 (by have := v.2.1; omega)
theorem VT.n2 {size : Int} {t : Tm} (v : VT size t) : NOk (abT t.2) := nOk_of (abT_b v.2.2.1 v.2.2.2).1 (abT_b v.2.2.1 v.2.2.2).2
theorem tm_no {size : Int} (hs : size ≤ 8) {t : Tm} (v : VT size t) {c : Nat} (h : c < 48 ∨ 57 < c) (h2 : c ≠ 43 ∧ c ≠ 45) : NoC c (tmT t) :=
  (((v.n1 hs).no h).app (sg_no h2)).app (v.n2.no h)
theorem lit_bar : (" | " : PySem.Str).cps.toList = [32] ++ 124 :: [32] := by decide +kernel
theorem lit_le : (" <= " : PySem.Str).cps.toList = [32] ++ 60 :: [61, 32] := by decide +kernel
theorem lit_semi : ("; " : PySem.Str).cps.toList = [] ++ 59 :: [32] := by decide +kernel
theorem lit_never : ("never" : PySem.Str).cps.toList = [110, 101, 118, 101, 114] := by decide +kernel
theorem lit_plus : ("+" : PySem.Str).cps.toList = [] ++ 43 :: [] := by decide +kernel
theorem lit_minus : ("-" : PySem.Str).cps.toList = [] ++ 45 :: [] := by decide +kernel
theorem cps_len {x : PySem.Str} {l : List Nat} (h : x.cps.toList = l) : x.length = l.length := by
  rw [← h]
  simp [Str.length]
theorem ts_no {size : Int} (hs : size ≤ 8) {ts : List Tm} (v : ∀ t ∈ ts, VT size t) : NoC 59 (tsT ts) := by
  unfold tsT
  split
  · unfold NoC; rw [lit_never]; decide
  · refine NoC.join (by unfold NoC; rw [lit_bar]; decide) fun q hq => ?_
    obtain ⟨t, ht, rfl⟩ := List.mem_map.mp hq
    exact tm_no hs (v t ht) (by decide) (by decide)
theorem ru_no {size : Int} (hs : size ≤ 8) {r : Ru} (v : VR size r) : NoC 59 (ruT r) :=
  (((nOk_of v.1 (by have := v.2.1; omega)).no (by decide)).app (by unfold NoC; rw [lit_le]; decide)).app (ts_no hs v.2.2.1)
theorem rs_split {size : Int} (hs : 1 ≤ size) (hs2 : size ≤ 8) {rs : List Ru} (v : ∀ r ∈ rs, VR size r) : Txt.split (rsT size rs) ("; " : PySem.Str) = nT size :: rs.map ruT :=
  split_joined lit_semi (by decide) (by decide +kernel) _ (List.cons_ne_nil _ _) fun q hq => by
    rcases List.mem_cons.mp hq with rfl | hq
    · exact (nOk_of (by omega) (by omega)).no (by decide)
    · obtain ⟨r, hr, rfl⟩ := List.mem_map.mp hq
      exact ru_no hs2 (v r hr)
theorem ts_split {size : Int} (hs2 : size ≤ 8) {ts : List Tm} (h0 : ts ≠ []) (v : ∀ t ∈ ts, VT size t) : Txt.split (tsT ts) (" | " : PySem.Str) = ts.map tmT := by
  unfold tsT
  rw [if_neg h0]
  exact split_joined lit_bar (by decide) (by decide +kernel) _ (by simpa using h0) fun q hq => by
    obtain ⟨t, ht, rfl⟩ := List.mem_map.mp hq
    exact tm_no hs2 (v t ht) (by decide) (by decide)
theorem ru_part {size : Int} (hs2 : size ≤ 8) {r : Ru} (v : VR size r) : Txt.partition (ruT r) (" <= " : PySem.Str) = (nT r.1, (" <= " : PySem.Str), tsT r.2) :=
  partition_joined lit_le (by decide) _ _ ((nOk_of v.1 (by have := v.2.1; omega)).no (by decide))
theorem tm_part {size : Int} (hs2 : size ≤ 8) {t : Tm} (v : VT size t) : Txt.partition (tmT t) (sgT t.2) = (nT t.1, sgT t.2, nT (abT t.2)) := by
  unfold tmT
  by_cases h : 0 ≤ t.2
  · exact partition_joined (c := 43) (u := []) (v := []) (by unfold sgT; rw [if_pos h]; exact lit_plus) (by decide) _ _ ((v.n1 hs2).no (by decide))
  · exact partition_joined (c := 45) (u := []) (v := []) (by unfold sgT; rw [if_neg h]; exact lit_minus) (by decide) _ _ ((v.n1 hs2).no (by decide))
/-- a minus sign is there just if the delay is below zero -/
theorem tm_minus {size : Int} (hs2 : size ≤ 8) {t : Tm} (v : VT size t) : (!(Builtin.Str.occurrences (tmT t) ("-" : PySem.Str) 0 (tmT t).length 1).isEmpty) = decide (t.2 < 0) := by
  have e : ("-" : PySem.Str) = ⟨#[45]⟩ := by decide +kernel
  rw [e, StrLaws.found_one]
  have hp : (tmT t).cps.toList = (nT t.1).cps.toList ++ (sgT t.2).cps.toList ++ (nT (abT t.2)).cps.toList := by
    unfold tmT
    rw [Str.cps_append, Str.cps_append, Array.toList_append, Array.toList_append]
  congr 1
  rw [hp]
  refine propext ⟨fun h => ?_, fun h => ?_⟩
  · refine Classical.byContradiction fun hn => ?_
    have h0 : 0 ≤ t.2 := by omega
    rw [List.mem_append, List.mem_append] at h
    rcases h with (h | h) | h
    · exact (v.n1 hs2).no (c := 45) (by decide) h
    · unfold sgT at h
      rw [if_pos h0, lit_plus] at h
      simp at h
    · exact v.n2.no (c := 45) (by decide) h
  · rw [List.mem_append, List.mem_append]
    refine .inl (.inr ?_)
    unfold sgT
    rw [if_neg (by omega), lit_minus]
    simp
theorem ts_never {size : Int} (hs2 : size ≤ 8) {ts : List Tm} (h0 : ts ≠ []) (v : ∀ t ∈ ts, VT size t) : tsT ts ≠ ("never" : PySem.Str) := by
  match ts, h0, v with
  | t :: r, _, v =>
    intro h
    have n := (v t List.mem_cons_self).n1 hs2
    unfold tsT at h
    rw [if_neg (by simp)] at h
    have key : (Str.join (" | " : PySem.Str) ((t :: r).map tmT)).cps.toList.head? = (nT t.1).cps.toList.head? := by
      have hne : (nT t.1).cps.toList ≠ [] := fun z => by
        have := n.l1
        rw [cps_len z] at this
        simp at this
      obtain ⟨a, l, e⟩ := List.exists_cons_of_ne_nil hne
      cases r with
      | nil =>
        show (tmT t).cps.toList.head? = _
        unfold tmT
        rw [Str.cps_append, Str.cps_append, Array.toList_append, Array.toList_append, e]
        rfl
      | cons u r =>
        show (tmT t ++ (" | " : PySem.Str) ++ Str.join (" | " : PySem.Str) ((u :: r).map tmT)).cps.toList.head? = _
        unfold tmT
        simp only [Str.cps_append, Array.toList_append, e]
        rfl
    rw [h, lit_never] at key
    have hm : (110 : Nat) ∈ (nT t.1).cps.toList := List.mem_of_head? key.symm
    exact n.no (c := 110) (by decide) hm
/-! lengths -/
theorem tm_len {size : Int} (hs : size ≤ 8) {t : Tm} (v : VT size t) : (tmT t).length ≤ 5 := by
  unfold tmT
  rw [Str.length_append, Str.length_append]
  have := (v.n1 hs).l2
  have := v.n2.l2
  have : (sgT t.2).length ≤ 1 := by
    unfold sgT
    split
    · rw [cps_len lit_plus]; simp
    · rw [cps_len lit_minus]; simp
  omega
theorem sum_le {B : Nat} : ∀ (texts : List PySem.Str), (∀ y ∈ texts, y.length ≤ B) → (texts.map (·.length)).sum ≤ texts.length * B := StrLaws.sumLen_le
theorem ts_sum {size : Int} (hs : size ≤ 8) {ts : List Tm} (v : ∀ t ∈ ts, VT size t) (hl : ts.length ≤ 8) : ((ts.map tmT).map (·.length)).sum + (ts.map tmT).length * (" | " : PySem.Str).length ≤ 64 := by
  have h := sum_le (B := 5) (ts.map tmT) fun y hy => by
    obtain ⟨t, ht, rfl⟩ := List.mem_map.mp hy
    exact tm_len hs (v t ht)
  rw [cps_len lit_bar]
  rw [List.length_map] at h ⊢
  simp
  simp at h
  omega
theorem ts_len {size : Int} (hs : size ≤ 8) {ts : List Tm} (v : ∀ t ∈ ts, VT size t) (hl : ts.length ≤ 8) : (tsT ts).length ≤ 64 := by
  unfold tsT
  split
  · rw [cps_len lit_never]; decide
  · exact Nat.le_trans (StrLaws.join_length_le _ _) (ts_sum hs v hl)
theorem ru_len {size : Int} (hs : size ≤ 8) (hs0 : 0 ≤ size) {r : Ru} (v : VR size r) : (ruT r).length ≤ 70 := by
  unfold ruT
  rw [Str.length_append, Str.length_append, cps_len lit_le]
  have := (nOk_of v.1 (by have := v.2.1; omega) : NOk r.1).l2
  have := ts_len hs v.2.2.1 (v.len hs hs0)
  simp
  omega
theorem rs_sum {size : Int} (hs0 : 0 ≤ size) (hs : size ≤ 8) {rs : List Ru} (v : ∀ r ∈ rs, VR size r) (hl : rs.length ≤ 24) : ((nT size :: rs.map ruT).map (·.length)).sum + (nT size :: rs.map ruT).length * ("; " : PySem.Str).length ≤ 2000 := by
  have h := sum_le (B := 70) (nT size :: rs.map ruT) fun y hy => by
    rcases List.mem_cons.mp hy with rfl | hy
    · have := (nOk_of hs0 (by omega) : NOk size).l2; omega
    · obtain ⟨t, ht, rfl⟩ := List.mem_map.mp hy
      exact ru_len hs hs0 (v t ht)
  rw [cps_len lit_semi]
  simp only [List.length_cons, List.length_map] at h ⊢
  simp only [List.length_append, List.length_cons, List.length_nil]
  omega
theorem rs_len {size : Int} (hs0 : 0 ≤ size) (hs : size ≤ 8) {rs : List Ru} (v : ∀ r ∈ rs, VR size r) (hl : rs.length ≤ 24) : (rsT size rs).length ≤ 2000 :=
  Nat.le_trans (StrLaws.join_length_le _ _) (rs_sum hs0 hs v hl)
end Rf
end

section
set_option Elab.async false
set_option linter.all false
set_option maxRecDepth 100000
set_option maxHeartbeats 4000000
namespace K85
open PySem Rf
/-! the texts, written and read -/
theorem eq_str (h : PHeap) (x y : PySem.Str) : eqP h (.str x) (.str y) = some (decide (x = y)) := by
  have e : eqP h (.str x) (.str y) = if min (PyData.str x).depth (PyData.str y).depth ≤ 60 then some (PyData.eqv (.str x) (.str y)) else none := rfl
  rw [e, if_pos (by show min 0 0 ≤ 60; decide)]
  congr 1
theorem cmp_ne_str (h : PHeap) (x y : PySem.Str) : cmpP .ne h (.str x) (.str y) = some (!decide (x = y)) := by
  show (eqP h (.str x) (.str y)).map (!·) = _
  rw [eq_str]
  rfl
theorem cmp_eq_str (h : PHeap) (x y : PySem.Str) : cmpP .eq h (.str x) (.str y) = some (decide (x = y)) := eq_str h x y
theorem abs_i (mu : Bool) (d : Int) (h : PHeap) : biOp .abs mu [.int d] h = .ok (.int (abT d)) h := rfl
theorem str_i (mu : Bool) {i : Int} (n : NOk i) (h : PHeap) : biOp .str mu [.int i] h = .ok (.str (nT i)) h := by
  show guardR (i.natAbs.log2 < 1920) (Res.ok (PV.str (nT i)) h) = _
  rw [guard_yes n.lg]
theorem abT_eq (d : Int) : (if d < 0 then -d else d) = abT d := rfl
theorem fld_i {i : Int} (n : NOk i) (h : PHeap) : kFld (.int i) h = .ok (.str (nT i)) h := by
  show orStuck (if i.natAbs.log2 < 1920 then some (nT i) else none) (fun x => Res.ok (PV.str x) h) = _
  rw [if_pos n.lg]
  rfl
theorem len_str (mu : Bool) (x : PySem.Str) (h : PHeap) : biOp .len mu [.str x] h = .ok (.int x.length) h := rfl
theorem int_s (mu : Bool) {i : Int} (n : NOk i) (h : PHeap) : biOp .int mu [.str (nT i)] h = .ok (.int i) h := by
  show orStuck (PySem.intText? (nT i)) (fun k => guardR ((nT i).length ≤ 640) (Res.ok (PV.int k) h)) = _
  rw [n.rd]
  show guardR ((nT i).length ≤ 640) (Res.ok (PV.int i) h) = _
  rw [guard_yes (by have := n.l2; omega)]
theorem in_dig (h : PHeap) {c : Nat} (h1 : 48 ≤ c) (h2 : c ≤ 57) : cmpP .in_ h (.str ⟨#[c]⟩) (.str ("0123456789" : PySem.Str)) = some true := by
  show some (!(Builtin.Str.occurrences ("0123456789" : PySem.Str) ⟨#[c]⟩ 0 ("0123456789" : PySem.Str).length 1).isEmpty) = _
  rw [StrLaws.found_one, show ("0123456789" : PySem.Str).cps.toList = [48, 49, 50, 51, 52, 53, 54, 55, 56, 57] by decide +kernel]
  congr 1
  rw [decide_eq_true_eq]
  simp only [List.mem_cons, List.not_mem_nil, or_false]
  omega
theorem str_next (x : PySem.Str) (i : Nat) (h : PHeap) : (Walk.str x).next i h = some (x.cps.toList.map fun c => PV.str ⟨#[c]⟩)[i]? := by
  show some (x.cps[i]?.map fun c => PV.str ⟨#[c]⟩) = _
  rw [List.getElem?_map, Array.getElem?_toList]
theorem num_of (n : Nat) {i : Int} (k : NOk i) (h : PHeap) : callN tb (n + 1) 10 [.str (nT i)] h = .ok (.int i) h := by
  rw [callN_at n 10 _ h ir_number_of rfl rfl]
  show (evalSs (callN tb n) ir_number_of.body [some (.str (nT i)), none] h).res = _
  unfold ir_number_of
  have l1 : (1 : Int) ≤ ((nT i).length : Nat) := by have := k.l1; omega
  have l2 : ((nT i).length : Int) ≤ 2 := by have := k.l2; omega
  have hw : walkOf .seq [.str (nT i)] h = some (.str (nT i)) := rfl
  have hln : (Walk.str (nT i)).len h = ((nT i).cps.toList.map fun c => PV.str ⟨#[c]⟩).length := by rw [List.length_map, Array.length_toList]; rfl
  have gsz : ((nT i).cps.toList.map fun c => PV.str ⟨#[c]⟩).length ≤ szB := by
    rw [List.length_map, Array.length_toList]
    have : (nT i).cps.size ≤ 2 := k.l2
    unfold szB
    omega
  have c1 : compN (.str (nT i)) (kTurn (callN tb n) [1] (.nm 1) .nop (.cmp .in_ (.var 1) (.glb (("DIGITS" : Str)) (.str (("0123456789" : Str))))) [some (.str (nT i)), none]) (((nT i).cps.toList.map fun c => PV.str ⟨#[c]⟩).length + 1) 0 h = .ok ((List.replicate ((nT i).cps.toList.map fun c => PV.str ⟨#[c]⟩).length true).map .bl) h := by
    refine comp_true (fun i => str_next _ i _) (fun x hx => ?_) (Nat.le_refl _)
    obtain ⟨c, hc, rfl⟩ := List.mem_map.mp hx
    have hd := k.dig c hc
    simp only [kTurn, bindT, wipeP, isNop, if_true, EV, EVB, kT2, noExc, in_dig h hd.1 hd.2, List.getElem?_cons_zero, List.getElem?_cons_succ, List.set_cons_zero, List.set_cons_succ]
  simp only [EV, EVS, EVB, len_str, l1, l2, decide_true, Bool.not_true, kLc, kLcW, hw, hln, guard_yes gsz, c1, all_true, int_s false k, List.getElem?_cons_zero, List.getElem?_cons_succ]
theorem kJ'_of (c : Call) (es : List E) (acc : PySem.Str) (ρ : PSt) (h : PHeap) (y : PySem.Str) (g : (acc ++ y).length ≤ szB) : kJ' c es acc ρ h y = evalJ c es (acc ++ y) ρ h := guard_yes g _
theorem tm_text (n : Nat) {size : Int} (hs2 : size ≤ 8) {t : Tm} (v : VT size t) (h : PHeap) : callN tb (n + 1) 11 [tmP t] h = .ok (.str (tmT t)) h := by
  rw [callN_at n 11 _ h ir_term_text rfl rfl]
  show (evalSs (callN tb n) ir_term_text.body [some (tmP t), none, none] h).res = _
  unfold ir_term_text
  have hl := tm_len hs2 v
  have hl' : (nT t.1).length + (sgT t.2).length + (nT (abT t.2)).length ≤ 5 := by
    unfold tmT at hl
    rwa [Str.length_append, Str.length_append] at hl
  have g1 : (Str.empty ++ nT t.1).length ≤ szB := by rw [Str.empty_append]; unfold szB; omega
  have g2 : (nT t.1 ++ sgT t.2).length ≤ szB := by rw [Str.length_append]; unfold szB; omega
  have g3 : (nT t.1 ++ sgT t.2 ++ nT (abT t.2)).length ≤ szB := by rw [Str.length_append, Str.length_append]; unfold szB; omega
  by_cases hd : 0 ≤ t.2
  · have es : ("+" : PySem.Str) = sgT t.2 := by unfold sgT; rw [if_pos hd]
    rw [es]
    simp only [tmP, EV, EVS, EVB, bindT, bindTs, seqOf, deref, fld_i (v.n1 hs2), kJ'_of _ _ _ _ _ _ g1, Str.empty_append, hd, decide_true, kJ'_of _ _ _ _ _ _ g2, abT_eq, fld_i v.n2, kJ'_of _ _ _ _ _ _ g3, List.getElem?_cons_zero, List.getElem?_cons_succ, List.set_cons_zero, List.set_cons_succ]
    rfl
  · have es : ("-" : PySem.Str) = sgT t.2 := by unfold sgT; rw [if_neg hd]
    rw [es]
    simp only [tmP, EV, EVS, EVB, bindT, bindTs, seqOf, deref, fld_i (v.n1 hs2), kJ'_of _ _ _ _ _ _ g1, Str.empty_append, hd, decide_false, kJ'_of _ _ _ _ _ _ g2, abT_eq, fld_i v.n2, kJ'_of _ _ _ _ _ _ g3, List.getElem?_cons_zero, List.getElem?_cons_succ, List.set_cons_zero, List.set_cons_succ]
    rfl
theorem comp_strs {w : Walk} {α : Type} {xs : List α} {f : α → PV} {g : α → PySem.Str} {turn : PV → PHeap → Res (Option PV)} {h : PHeap} (hw : ∀ i, w.next i h = some (xs.map f)[i]?) (hs : ∀ x ∈ xs, turn (f x) h = .ok (some (.str (g x))) h) :
    compN w turn ((xs.map f).length + 1) 0 h = .ok ((xs.map g).map .str) h := by
  have key : ∀ (ys zs : List α), xs = zs ++ ys → compN w turn (ys.length + 1) zs.length h = .ok ((ys.map g).map .str) h := by
    intro ys
    induction ys with
    | nil =>
      intro zs e
      rw [List.append_nil] at e
      subst e
      have e0 : w.next xs.length h = some none := by rw [hw, List.getElem?_eq_none (by rw [List.length_map]; exact Nat.le_refl _)]
      show compN w turn 1 xs.length h = _
      simp only [compN, e0]
      rfl
    | cons y ys ih =>
      intro zs e
      have hx : (xs.map f)[zs.length]? = some (f y) := by rw [List.getElem?_map, e, List.getElem?_append_right (Nat.le_refl _), Nat.sub_self]; rfl
      have ih' := ih (zs ++ [y]) (by rw [e, List.append_assoc]; rfl)
      rw [List.length_append] at ih'
      have hy := hs y (by rw [e]; simp)
      have e2 : compN w turn (ys.length + 1) (zs.length + 1) h = .ok ((ys.map g).map .str) h := ih'
      rw [List.length_cons, compN]
      simp only [hw, hx, hy, Res.bind, e2, Option.toList]
      rfl
  rw [List.length_map]
  exact key xs [] rfl
theorem m_join (z : PySem.Str) (ys : List PySem.Str) (h : PHeap) (g : (ys.map (·.length)).sum + ys.length * z.length ≤ szB) : mthOp .join (.str z) [.lst (ys.map .str)] h = .ok (.str (Str.join z ys)) h := by
  rw [← tjoin]
  simp only [mthOp, seqOf, deref, Option.bind_some, all_str, orStuck]
  exact guard_yes g _
theorem pre_join (h : PHeap) (z : PySem.Str) : mthPre .join h (.str z) = true := rfl
theorem ne_tup_nil (h : PHeap) {ts : List Tm} : cmpP .ne h (.tup (ts.map tmP)) (.tup []) = some (!decide (ts = [])) := by
  have hd : toDs (ts.map tmP) = some (ts.map tmD) := toDs_map tmP tmD (fun _ => rfl) ts
  have e : eqP h (.tup (ts.map tmP)) (.tup []) = some (PyData.eqv (.tuple (ts.map tmD)) (.tuple [])) := by
    have e1 : toD (.tup (ts.map tmP)) = some (.tuple (ts.map tmD)) := by simp only [toD, hd, Option.map_some]
    have e2 : toD (.tup []) = some (.tuple []) := rfl
    show (match toD (.tup (ts.map tmP)), toD (.tup []) with
      | some d, some e => if min d.depth e.depth ≤ 60 then some (PyData.eqv d e) else none
      | _, _ => none) = _
    rw [e1, e2]
    show (if min _ _ ≤ 60 then _ else _) = _
    rw [if_pos (Nat.le_trans (Nat.min_le_right _ _) (by decide))]
  show (eqP h (.tup (ts.map tmP)) (.tup [])).map (!·) = _
  rw [e]
  cases ts with
  | nil => simp [PyData.eqv, PyData.eqvAll]
  | cons t r => simp [PyData.eqv, PyData.eqvAll]
end K85
end

section
set_option Elab.async false
set_option linter.all false
set_option maxRecDepth 100000
set_option maxHeartbeats 1000000
/-! repr of rule sets and of their texts. -/
namespace Rf
open PySem
def Lo (x : PySem.Str) : Prop := ∀ c ∈ x.cps.toList, c < 16 ^ 8
theorem Lo.app {x y : PySem.Str} (a : Lo x) (b : Lo y) : Lo (x ++ y) := by
  intro c hc
  rw [Str.cps_append, Array.toList_append, List.mem_append] at hc
  exact hc.elim (a c) (b c)
theorem Lo.join {y : PySem.Str} (b : Lo y) : ∀ {qs : List PySem.Str}, (∀ q ∈ qs, Lo q) → Lo (Str.join y qs)
  | [], _ => fun c h => nomatch h
  | [q], a => a q (List.mem_singleton.mpr rfl)
  | q :: q' :: r, a => ((a q List.mem_cons_self).app b).app (Lo.join b fun z hz => a z (List.mem_cons_of_mem _ hz))
theorem NOk.lo {i : Int} (n : NOk i) : Lo (nT i) := fun c hc => by
  have := n.dig c hc
  omega
theorem lo_lit {x : PySem.Str} {l : List Nat} (h : x.cps.toList = l) (g : l.all (fun c => decide (c < 16 ^ 8)) = true) : Lo x := fun c hc => by
  rw [h] at hc
  exact of_decide_eq_true (List.all_eq_true.mp g c hc)
theorem tm_lo {size : Int} (hs : size ≤ 8) {t : Tm} (v : VT size t) : Lo (tmT t) := by
  refine ((v.n1 hs).lo.app ?_).app v.n2.lo
  unfold sgT
  split
  · exact lo_lit lit_plus (by decide)
  · exact lo_lit lit_minus (by decide)
theorem ts_lo {size : Int} (hs : size ≤ 8) {ts : List Tm} (v : ∀ t ∈ ts, VT size t) : Lo (tsT ts) := by
  unfold tsT
  split
  · exact lo_lit lit_never (by decide)
  · refine Lo.join (lo_lit lit_bar (by decide)) fun q hq => ?_
    obtain ⟨t, ht, rfl⟩ := List.mem_map.mp hq
    exact tm_lo hs (v t ht)
theorem ru_lo {size : Int} (hs : size ≤ 8) {r : Ru} (v : VR size r) : Lo (ruT r) :=
  ((nOk_of v.1 (by have := v.2.1; omega)).lo.app (lo_lit lit_le (by decide))).app (ts_lo hs v.2.2.1)
theorem rs_lo {size : Int} (hs0 : 0 ≤ size) (hs : size ≤ 8) {rs : List Ru} (v : ∀ r ∈ rs, VR size r) : Lo (rsT size rs) :=
  Lo.join (lo_lit lit_semi (by decide)) fun q hq => by
    rcases List.mem_cons.mp hq with rfl | hq
    · exact (nOk_of (by omega) (by omega)).lo
    · obtain ⟨r, hr, rfl⟩ := List.mem_map.mp hq
      exact ru_lo hs (v r hr)
theorem repr_str (mu : Bool) (x : PySem.Str) (hl : x.length ≤ 2000) (lo : Lo x) (h : PHeap) : biOp .repr mu [.str x] h = .ok (.str (reprText x)) h := by
  have e : biOp .repr mu [.str x] h = guardR ((PyData.str x).showable = true ∧ (PyData.str x).hasDict = false ∧ (PyData.str x).depth ≤ 60 ∧ (PyData.str x).shown.length ≤ szB) (.ok (.str (PyData.str x).shown) h) := rfl
  rw [e, guard_yes]
  · simp only [PyData.shown]
  · refine ⟨by simp only [PyData.showable], by simp only [PyData.hasDict], by simp only [PyData.depth]; decide, ?_⟩
    simp only [PyData.shown]
    have := StrLaws.reprText_len x lo
    unfold szB
    omega
/-! of the data -/
def iOk (i : Int) : Bool := decide ((PyData.int i).shown.length ≤ 3) && (PyData.int i).showable
theorem iOk_all : ∀ k : Fin 128, iOk ((k.val : Nat) - 64) = true := by
  have key : ∀ k : Fin 128, (decide ((nT ((k.val : Nat) - 64)).length ≤ 3) && decide ((((k.val : Nat) - 64 : Int)).natAbs.log2 < 1920)) = true := by decide +kernel
  intro k
  have := key k
  unfold iOk
  simp only [PyData.shown, PyData.showable]
  exact this
theorem iOk_at {i : Int} (h0 : -60 ≤ i) (h1 : i ≤ 60) : (PyData.int i).shown.length ≤ 3 ∧ (PyData.int i).showable = true := by
  have := iOk_all ⟨(i + 64).toNat, by omega⟩
  have e : (((⟨(i + 64).toNat, by omega⟩ : Fin 128).val : Nat) : Int) - 64 = i := by show (((i + 64).toNat : Nat) : Int) - 64 = i; omega
  rw [e] at this
  unfold iOk at this
  simpa using this
/-- a datum whose text is short -/
structure Sh (d : PyData) (n k : Nat) : Prop where
  s : d.showable = true
  hd : d.hasDict = false
  dp : d.depth ≤ k
  l : d.shown.length ≤ n
theorem Sh.int {i : Int} (h0 : -60 ≤ i) (h1 : i ≤ 60) : Sh (.int i) 3 0 := ⟨(iOk_at h0 h1).2, by simp only [PyData.hasDict], by simp only [PyData.depth]; decide, (iOk_at h0 h1).1⟩
theorem Sh.mono {d : PyData} {n k n' k' : Nat} (a : Sh d n k) (h : n ≤ n') (h' : k ≤ k') : Sh d n' k' := ⟨a.s, a.hd, Nat.le_trans a.dp h', Nat.le_trans a.l h⟩
theorem sh_all {n k : Nat} : ∀ {ds : List PyData}, (∀ d ∈ ds, Sh d n k) → PyData.showableAll ds = true ∧ PyData.hasDictAll ds = false ∧ PyData.depthAll ds ≤ k ∧ (PyData.shownAll ds).length = ds.length ∧ ((PyData.shownAll ds).map (·.length)).sum ≤ ds.length * n
  | [], _ => ⟨by simp only [PyData.showableAll], by simp only [PyData.hasDictAll], by simp only [PyData.depthAll]; exact Nat.zero_le _, by simp only [PyData.shownAll]; rfl, by simp only [PyData.shownAll]; exact Nat.zero_le _⟩
  | d :: ds, h => by
    obtain ⟨a, b, c, e, f⟩ := sh_all fun x hx => h x (List.mem_cons_of_mem _ hx)
    have g := h d List.mem_cons_self
    simp only [PyData.showableAll, PyData.hasDictAll, PyData.depthAll, PyData.shownAll]
    refine ⟨by rw [g.s, a]; rfl, by rw [g.hd, b]; rfl, Nat.max_le.mpr ⟨g.dp, c⟩, by rw [List.length_cons, List.length_cons, e], ?_⟩
    rw [List.map_cons, List.sum_cons, List.length_cons, Nat.succ_mul]
    have := g.l
    omega
theorem Sh.tuple {ds : List PyData} {n k m : Nat} (h : ∀ d ∈ ds, Sh d n k) (hm : ds.length ≤ m) : Sh (.tuple ds) (m * (n + 2) + 3) (k + 1) := by
  obtain ⟨a, b, c, e, f⟩ := sh_all h
  refine ⟨by simp only [PyData.showable]; exact a, by simp only [PyData.hasDict]; exact b, by simp only [PyData.depth]; omega, ?_⟩
  simp only [PyData.shown]
  unfold tupleText
  rw [Str.length_append, Str.length_append]
  have h1 := StrLaws.join_length_le (", " : PySem.Str) (PyData.shownAll ds)
  rw [e, cps_len (show (", " : PySem.Str).cps.toList = [44, 32] by decide +kernel)] at h1
  have h2 : ("(" : PySem.Str).length = 1 := by rw [cps_len (show ("(" : PySem.Str).cps.toList = [40] by decide +kernel)]; rfl
  have h3 : (PySem.Str.ofString (if (PyData.shownAll ds).length == 1 then ",)" else ")" : String)).length ≤ 2 := by
    split
    · rw [cps_len (show (",)" : PySem.Str).cps.toList = [44, 41] by decide +kernel)]; decide
    · rw [cps_len (show (")" : PySem.Str).cps.toList = [41] by decide +kernel)]; decide
  have h4 : ds.length * n + ds.length * 2 ≤ m * (n + 2) := by
    rw [← Nat.mul_add]
    exact Nat.mul_le_mul_right _ hm
  have h5 : ([44, 32] : List Nat).length = 2 := rfl
  rw [h5] at h1
  omega
def rsD (size : Int) (rs : List Ru) : PyData := .tuple [.int size, .tuple (rs.map ruD)]
theorem rs_sh {size : Int} (hs0 : 1 ≤ size) (hs : size ≤ 8) {rs : List Ru} (v : ∀ r ∈ rs, VR size r) (hl : rs.length ≤ 24) : Sh (rsD size rs) 100000 10 := by
  have h3 : ∀ t, VT size t → Sh (tmD t) 13 1 := fun t v => Sh.tuple (m := 2) (n := 3) (fun d hd => by
    rcases List.mem_cons.mp hd with rfl | hd
    · exact Sh.int (by have := v.1; omega) (by have := v.2.1; omega)
    · rw [List.mem_singleton.mp hd]
      exact Sh.int v.2.2.1 (by have := v.2.2.2; omega)) (Nat.le_refl _)
  have h2 : ∀ r, VR size r → Sh (ruD r) 255 3 := fun r v => Sh.mono (Sh.tuple (m := 2) (n := 123) (k := 2) (fun d hd => by
    rcases List.mem_cons.mp hd with rfl | hd
    · exact (Sh.int (by have := v.1; omega) (by have := v.2.1; omega)).mono (by decide) (by decide)
    · rw [List.mem_singleton.mp hd]
      exact (Sh.tuple (m := 8) (n := 13) (k := 1) (fun d hd => by
        obtain ⟨t, ht, rfl⟩ := List.mem_map.mp hd
        exact h3 t (v.2.2.1 t ht)) (by rw [List.length_map]; exact v.len hs (by omega)))) (Nat.le_refl _)) (by decide) (by decide)
  have h1 : Sh (.tuple (rs.map ruD)) 6171 4 := Sh.tuple (m := 24) (n := 255) (fun d hd => by
    obtain ⟨r, hr, rfl⟩ := List.mem_map.mp hd
    exact h2 r (v r hr)) (by rw [List.length_map]; exact hl)
  exact (Sh.tuple (m := 2) (n := 6171) (k := 4) (fun d hd => by
    rcases List.mem_cons.mp hd with rfl | hd
    · exact (Sh.int (by omega) (by omega)).mono (by decide) (by decide)
    · rw [List.mem_singleton.mp hd]
      exact h1) (Nat.le_refl _)).mono (by decide) (by decide)
theorem repr_rs (mu : Bool) {size : Int} (hs0 : 1 ≤ size) (hs : size ≤ 8) {rs : List Ru} (v : ∀ r ∈ rs, VR size r) (hl : rs.length ≤ 24) (h : PHeap) : biOp .repr mu [rsP size rs] h = .ok (.str (rsD size rs).shown) h := by
  have g := rs_sh hs0 hs v hl
  have e : biOp .repr mu [rsP size rs] h = match toD (rsP size rs) with
    | some d => guardR (d.showable = true ∧ d.hasDict = false ∧ d.depth ≤ 60 ∧ d.shown.length ≤ szB) (.ok (.str d.shown) h)
    | none => .stuck := rfl
  rw [e, toD_rs]
  show guardR ((rsD size rs).showable = true ∧ (rsD size rs).hasDict = false ∧ (rsD size rs).depth ≤ 60 ∧ (rsD size rs).shown.length ≤ szB) _ = _
  rw [guard_yes ⟨g.s, g.hd, by have := g.dp; omega, by have := g.l; unfold szB; omega⟩]
  rfl
end Rf
end

section
set_option Elab.async false
set_option linter.all false
set_option maxRecDepth 100000
set_option maxHeartbeats 4000000
namespace K85
open PySem Rf
theorem ru_text (n : Nat) {size : Int} (hs : 0 ≤ size) (hs2 : size ≤ 8) {r : Ru} (v : VR size r) (h : PHeap) : callN tb (n + 2) 12 [ruP r] h = .ok (.str (ruT r)) h := by
  rw [callN_at (n + 1) 12 _ h ir_rule_text rfl rfl]
  show (evalSs (callN tb (n + 1)) ir_rule_text.body [some (ruP r), none, none, none, none] h).res = _
  unfold ir_rule_text
  have k := (nOk_of v.1 (by have := v.2.1; omega) : NOk r.1)
  have hl := ts_len hs2 v.2.2.1 (v.len hs2 hs)
  have hr := ru_len hs2 hs v
  have hr' : (nT r.1).length + (" <= " : PySem.Str).length + (tsT r.2).length ≤ 70 := by
    unfold ruT at hr
    rwa [Str.length_append, Str.length_append] at hr
  have g1 : (Str.empty ++ nT r.1).length ≤ szB := by rw [Str.empty_append]; unfold szB; omega
  have g2 : (nT r.1 ++ (" <= " : PySem.Str)).length ≤ szB := by rw [Str.length_append]; unfold szB; omega
  have g3 : (nT r.1 ++ (" <= " : PySem.Str) ++ tsT r.2).length ≤ szB := by rw [Str.length_append, Str.length_append]; unfold szB; omega
  by_cases h0 : r.2 = []
  · have et : ("never" : PySem.Str) = tsT r.2 := by unfold tsT; rw [if_pos h0]
    rw [et]
    simp only [ruP, tsP, EV, EVS, EVB, bindT, bindTs, seqOf, deref, guard_yes nil_le, ne_tup_nil, h0, decide_true, Bool.not_true, fld_i k, kJ'_of _ _ _ _ _ _ g1, Str.empty_append, kJ'_of _ _ _ _ _ _ g2, List.getElem?_cons_zero, List.getElem?_cons_succ, List.set_cons_zero, List.set_cons_succ]
    rw [h0] at g3
    simp only [kJ'_of _ _ _ _ _ _ g3, EV, EVS, EVB]
    unfold ruT
    rw [h0]
  · have et : Str.join (" | " : PySem.Str) (r.2.map tmT) = tsT r.2 := by unfold tsT; rw [if_neg h0]
    have hw : walkOf .seq [.tup (r.2.map tmP)] h = some (.one (.fixT (r.2.map tmP))) := rfl
    have hln : (Walk.one (.fixT (r.2.map tmP))).len h = (r.2.map tmP).length := rfl
    have gsz : (r.2.map tmP).length ≤ szB := by rw [List.length_map]; have := v.len hs2 hs; unfold szB; omega
    have c1 : compN (.one (.fixT (r.2.map tmP))) (kTurn (callN tb (n + 1)) [4] (.nm 4) .nop (.call 11 [(.var 4)]) [some (.tup [.int r.1, .tup (r.2.map tmP)]), none, some (.int r.1), some (.tup (r.2.map tmP)), none]) ((r.2.map tmP).length + 1) 0 h = .ok ((r.2.map tmT).map .str) h := by
      refine comp_strs (fun i => fixT_next _ i _) fun t ht => ?_
      simp only [kTurn, bindT, wipeP, isNop, if_true, EV, EVB, kT2, noExc, tm_text n hs2 (v.2.2.1 t ht), List.getElem?_cons_zero, List.getElem?_cons_succ, List.set_cons_zero, List.set_cons_succ]
    have gj := m_join (" | " : PySem.Str) (r.2.map tmT) h (Nat.le_trans (ts_sum hs2 v.2.2.1 (v.len hs2 hs)) (by decide))
    simp only [ruP, tsP, EV, EVS, EVB, bindT, bindTs, seqOf, deref, guard_yes nil_le, ne_tup_nil, h0, decide_false, Bool.not_false, kMth_of (pre_join _ _), kLc, kLcW, hw, hln, guard_yes gsz, c1, gj, et, fld_i k, kJ'_of _ _ _ _ _ _ g1, Str.empty_append, kJ'_of _ _ _ _ _ _ g2, kJ'_of _ _ _ _ _ _ g3, List.getElem?_cons_zero, List.getElem?_cons_succ, List.set_cons_zero, List.set_cons_succ]
    rfl
theorem cat_lst (xs ys : List PV) (h : PHeap) (g : xs.length + ys.length ≤ szB) : catOp false (.lst xs) (.lst ys) h = .ok (.lst (xs ++ ys)) h := by
  show guardR (xs.length + ys.length ≤ szB) (mkL false (xs ++ ys) h) = _
  rw [guard_yes g]
  rfl
theorem rs_text (n : Nat) {size : Int} (hs : 1 ≤ size) (hs2 : size ≤ 8) {rs : List Ru} (v : ∀ r ∈ rs, VR size r) (hl : rs.length ≤ 24) (h : PHeap) : callN tb (n + 3) 13 [rsP size rs] h = .ok (.str (rsT size rs)) h := by
  rw [callN_at (n + 2) 13 _ h ir_rules_text rfl rfl]
  show (evalSs (callN tb (n + 2)) ir_rules_text.body [some (rsP size rs), none] h).res = _
  unfold ir_rules_text
  have k := (nOk_of (by omega) (by omega) : NOk size)
  have hw : walkOf .seq [.tup (rs.map ruP)] h = some (.one (.fixT (rs.map ruP))) := rfl
  have hln : (Walk.one (.fixT (rs.map ruP))).len h = (rs.map ruP).length := rfl
  have gsz : (rs.map ruP).length ≤ szB := by rw [List.length_map]; unfold szB; omega
  have c1 : compN (.one (.fixT (rs.map ruP))) (kTurn (callN tb (n + 2)) [1] (.nm 1) .nop (.call 12 [(.var 1)]) [some (.tup [.int size, .tup (rs.map ruP)]), none]) ((rs.map ruP).length + 1) 0 h = .ok ((rs.map ruT).map .str) h := by
    refine comp_strs (fun i => fixT_next _ i _) fun r hr => ?_
    simp only [kTurn, bindT, wipeP, isNop, if_true, EV, EVB, kT2, noExc, ru_text n (by omega) hs2 (v r hr), List.getElem?_cons_zero, List.getElem?_cons_succ, List.set_cons_zero, List.set_cons_succ]
  have gc := cat_lst [.str (nT size)] ((rs.map ruT).map .str) h (by rw [List.length_map, List.length_map, List.length_singleton]; unfold szB; omega)
  have gj : mthOp .join (.str ("; " : PySem.Str)) [.lst ([.str (nT size)] ++ (rs.map ruT).map .str)] h = _ := m_join ("; " : PySem.Str) (nT size :: rs.map ruT) h (Nat.le_trans (rs_sum (by omega) hs2 v hl) (by decide))
  simp only [rsP, EV, EVS, EVB, kMth_of (pre_join _ _), atI_0, atI_1, str_i false k, guard_yes (one_le _), kLc, kLcW, hw, hln, guard_yes gsz, c1, gc, gj, List.getElem?_cons_zero, List.getElem?_cons_succ]
  rfl
theorem fmt_rs (n : Nat) {size : Int} (hs : 1 ≤ size) (hs2 : size ≤ 8) {rs : List Ru} (v : ∀ r ∈ rs, VR size r) (hl : rs.length ≤ 24) (h : PHeap) : callN tb (n + 8) 17 [rsP size rs] h = .ok (.str (rsT size rs)) h := by
  rw [callN_at (n + 7) 17 _ h ir_format_rules rfl rfl]
  show (evalSs (callN tb (n + 7)) ir_format_rules.body [some (rsP size rs)] h).res = _
  unfold ir_format_rules
  simp only [EV, EVS, EVB, v_check n hs hs2 v hl h, rs_text (n + 4) hs hs2 v hl h, List.getElem?_cons_zero, List.getElem?_cons_succ]
/-! reading -/
theorem pre_part (h : PHeap) (z : PySem.Str) : mthPre .partition h (.str z) = true := rfl
theorem pre_split (h : PHeap) (z : PySem.Str) : mthPre .split h (.str z) = true := rfl
theorem m_part {x y a b c : PySem.Str} (h : PHeap) (hy : (y.length == 0) = false) (e : Txt.partition x y = (a, b, c)) : mthOp .partition (.str x) [.str y] h = .ok (.tup [.str a, .str b, .str c]) h := by
  show guardR ((y.length == 0) = false) (Res.ok (PV.tup [.str (Txt.partition x y).1, .str (Txt.partition x y).2.1, .str (Txt.partition x y).2.2]) h) = _
  rw [guard_yes hy, e]
theorem m_split {x y : PySem.Str} {qs : List PySem.Str} (h : PHeap) (hy : (y.length == 0) = false) (hx : x.length + 2 ≤ szB) (e : Txt.split x y = qs) : mthOp .split (.str x) [.str y] h = .ok (.lst (qs.map .str)) h := by
  show guardR ((y.length == 0) = false ∧ x.length + 2 ≤ szB) (Res.ok (PV.lst ((Txt.split x y).map .str)) h) = _
  rw [guard_yes ⟨hy, hx⟩, e]
theorem cmp_in_str (h : PHeap) (x y : PySem.Str) : cmpP .in_ h (.str x) (.str y) = some (!(Builtin.Str.occurrences y x 0 y.length 1).isEmpty) := rfl
theorem sg_len (d : Int) : ((sgT d).length == 0) = false := by
  unfold sgT
  split
  · rw [cps_len lit_plus]; rfl
  · rw [cps_len lit_minus]; rfl
theorem sg_minus (d : Int) : decide (sgT d = ("-" : PySem.Str)) = decide (d < 0) := by
  unfold sgT
  split
  · rename_i h
    rw [decide_eq_false (by omega : ¬ d < 0), decide_eq_false]
    decide +kernel
  · rename_i h
    rw [decide_eq_true (by omega : d < 0), decide_eq_true rfl]
theorem chk_text (n : Nat) (x : PySem.Str) (h : PHeap) : callN tb (n + 1) 16 [.str x] h = .ok .non h := by
  rw [callN_at n 16 _ h ir_check_text rfl rfl]
  show (evalSs (callN tb n) ir_check_text.body [some (.str x)] h).res = _
  unfold ir_check_text
  simp only [EV, EVS, EVB, isi_ss, Bool.not_true, List.getElem?_cons_zero, List.getElem?_cons_succ]
end K85
end

section
set_option Elab.async false
set_option linter.all false
set_option maxRecDepth 100000
set_option maxHeartbeats 1000000
/-! Any text, read in two ways: as the program does, as the law does. -/
namespace Rf
open PySem PySem.Builtin PySem.Builtin.Str PySem.StrLaws
def isD (c : Nat) : Bool := decide (48 ≤ c ∧ c ≤ 57)
/-- a number of one or two digits -/
def dgO (x : PySem.Str) : Option Int := match x.cps.toList with
  | [c] => if isD c = true then some ((c : Int) - 48) else none
  | [c, d] => if isD c = true ∧ isD d = true then some (10 * ((c : Int) - 48) + ((d : Int) - 48)) else none
  | _ => none
theorem d1_all : ∀ k : Fin 10, PySem.intText? ⟨#[48 + k.val]⟩ = some ((k.val : Nat) : Int) := by decide +kernel
theorem d2_all : ∀ k l : Fin 10, PySem.intText? ⟨#[48 + k.val, 48 + l.val]⟩ = some ((10 * k.val + l.val : Nat) : Int) := by decide +kernel
theorem str_ext {x y : PySem.Str} (h : x.cps.toList = y.cps.toList) : x = y := by
  obtain ⟨a⟩ := x
  obtain ⟨b⟩ := y
  have h : a.toList = b.toList := h
  rw [Array.ext' h]
structure DgOk (x : PySem.Str) (n : Int) : Prop where
  rd : PySem.intText? x = some n
  l1 : 1 ≤ x.length
  l2 : x.length ≤ 2
  dig : ∀ c ∈ x.cps.toList, isD c = true
  lo : 0 ≤ n
  hi : n ≤ 99
theorem dg_ok {x : PySem.Str} {n : Int} (h : dgO x = some n) : DgOk x n := by
  unfold dgO at h
  have hl : x.cps.toList.length = x.length := by rw [Array.length_toList]; rfl
  split at h
  · rename_i c hx
    split at h
    · rename_i hc
      cases h
      have hc' := of_decide_eq_true hc
      have hx' : x = ⟨#[c]⟩ := str_ext hx
      rw [hx] at hl
      have hl : 1 = x.length := hl
      refine ⟨?_, by omega, by omega, fun k hk => ?_, by omega, by omega⟩
      · have := d1_all ⟨c - 48, by omega⟩
        rw [hx']
        simp only at this
        rw [show 48 + (c - 48) = c by omega] at this
        rw [this]
        congr 1
        omega
      · rw [hx] at hk
        rw [List.mem_singleton.mp hk]; exact hc
    · cases h
  · rename_i c d hx
    split at h
    · rename_i hc
      cases h
      have hc' := of_decide_eq_true hc.1
      have hd' := of_decide_eq_true hc.2
      have hx' : x = ⟨#[c, d]⟩ := str_ext hx
      rw [hx] at hl
      have hl : 2 = x.length := hl
      refine ⟨?_, by omega, by omega, fun k hk => ?_, by omega, by omega⟩
      · have := d2_all ⟨c - 48, by omega⟩ ⟨d - 48, by omega⟩
        rw [hx']
        simp only at this
        rw [show 48 + (c - 48) = c by omega, show 48 + (d - 48) = d by omega] at this
        rw [this]
        congr 1
        omega
      · rw [hx] at hk
        rcases List.mem_cons.mp hk with z | z
        · rw [z]; exact hc.1
        · rw [List.mem_singleton.mp z]; exact hc.2
    · cases h
  · cases h
theorem dg_of {x : PySem.Str} (l1 : 1 ≤ x.length) (l2 : x.length ≤ 2) (hd : ∀ c ∈ x.cps.toList, isD c = true) : ∃ n, dgO x = some n := by
  have hl : x.cps.toList.length = x.length := by rw [Array.length_toList]; rfl
  unfold dgO
  split
  · rename_i c hx
    rw [if_pos (hd c (by rw [hx]; exact List.mem_cons_self))]
    exact ⟨_, rfl⟩
  · rename_i c d hx
    rw [if_pos ⟨hd c (by rw [hx]; exact List.mem_cons_self), hd d (by rw [hx]; exact List.mem_cons_of_mem _ List.mem_cons_self)⟩]
    exact ⟨_, rfl⟩
  · rename_i h1 h2
    exfalso
    match hx : x.cps.toList with
    | [] => rw [hx] at hl; simp at hl; omega
    | [c] => exact h1 c hx
    | [c, d] => exact h2 c d hx
    | _ :: _ :: _ :: _ => rw [hx] at hl; simp at hl; omega
/-- the canonical text -/
theorem dg_nT {i : Int} (n : NOk i) : dgO (nT i) = some i := by
  obtain ⟨m, e⟩ := dg_of n.l1 n.l2 fun c hc => decide_eq_true (n.dig c hc)
  have := (dg_ok e).rd
  rw [n.rd] at this
  cases this
  exact e
/-! ### lists of texts -/
def mapO {α β : Type} (g : α → Option β) : List α → Option (List β)
  | [] => some []
  | x :: xs => match g x, mapO g xs with
    | some y, some ys => some (y :: ys)
    | _, _ => none
theorem mapO_map {α β : Type} {g : α → Option β} {f : β → α} {xs : List β} (h : ∀ b ∈ xs, g (f b) = some b) : mapO g (xs.map f) = some xs := by
  induction xs with
  | nil => rfl
  | cons x xs ih =>
    rw [List.map_cons]
    unfold mapO
    rw [h x List.mem_cons_self, ih fun b hb => h b (List.mem_cons_of_mem _ hb)]
theorem mapO_back {α β : Type} {g : α → Option β} {f : β → α} {p : β → Prop} (h : ∀ a b, g a = some b → f b = a ∧ p b) : ∀ {as : List α} {bs : List β}, mapO g as = some bs → bs.map f = as ∧ ∀ b ∈ bs, p b
  | [], bs, e => by unfold mapO at e; cases e; exact ⟨rfl, fun _ z => nomatch z⟩
  | a :: as, bs, e => by
    unfold mapO at e
    split at e
    · rename_i b bs' e1 e2
      cases e
      obtain ⟨h1, h2⟩ := h a b e1
      obtain ⟨h3, h4⟩ := mapO_back h e2
      exact ⟨by rw [List.map_cons, h1, h3], fun c hc => by
        rcases List.mem_cons.mp hc with z | z
        · rw [z]; exact h2
        · exact h4 c z⟩
    · cases e
/-! ### as the program reads -/
def hasM (x : PySem.Str) : Bool := !(occurrences x ("-" : PySem.Str) 0 x.length 1).isEmpty
def cutM (x : PySem.Str) : PySem.Str := if hasM x = true then ("-" : PySem.Str) else ("+" : PySem.Str)
def tmO (x : PySem.Str) : Option Tm := match dgO (Txt.partition x (cutM x)).2.2, dgO (Txt.partition x (cutM x)).1 with
  | some b, some a => some (a, if (Txt.partition x (cutM x)).2.1 = ("-" : PySem.Str) then 0 - b else b)
  | _, _ => none
def tsO (x : PySem.Str) : Option (List Tm) := if x = ("never" : PySem.Str) then some [] else mapO tmO (Txt.split x (" | " : PySem.Str))
def ruO (x : PySem.Str) : Option Ru := match tsO (Txt.partition x (" <= " : PySem.Str)).2.2, dgO (Txt.partition x (" <= " : PySem.Str)).1 with
  | some ts, some a => some (a, ts)
  | _, _ => none
def headS (xs : List PySem.Str) : PySem.Str := xs.headD Str.empty
def rsO (x : PySem.Str) : Option (Int × List Ru) := match dgO (headS (Txt.split x ("; " : PySem.Str))), mapO ruO (Txt.split x ("; " : PySem.Str)).tail with
  | some n, some rs => some (n, rs)
  | _, _ => none
/-! the checks -/
def ascB (ts : List Tm) : Bool := decide (ts.Pairwise fun a b => a.1 < b.1)
def loB (size : Int) (r : Ru) : Bool := decide (0 ≤ r.1 ∧ r.1 < size) && (r.2.all fun t => decide (0 ≤ t.1 ∧ t.1 < size)) && ascB r.2
def ruB (size : Int) (r : Ru) : Bool := loB size r && r.2.all fun t => decide (-60 ≤ t.2 ∧ t.2 ≤ 59)
def rsB (size : Int) (rs : List Ru) : Bool := decide (1 ≤ size ∧ size ≤ 8) && (rs.all fun r => loB size r) && decide (rs.length ≤ 24) && rs.all fun r => ruB size r
theorem ruB_iff {size : Int} {r : Ru} : ruB size r = true ↔ VR size r := by
  unfold ruB loB ascB VR VT
  simp only [Bool.and_eq_true, decide_eq_true_eq, List.all_eq_true]
  constructor
  · rintro ⟨⟨⟨⟨h1, h2⟩, h3⟩, h4⟩, h5⟩
    exact ⟨h1, h2, fun t ht => ⟨(h3 t ht).1, (h3 t ht).2, (h5 t ht).1, (h5 t ht).2⟩, h4⟩
  · rintro ⟨h1, h2, h3, h4⟩
    exact ⟨⟨⟨⟨h1, h2⟩, fun t ht => ⟨(h3 t ht).1, (h3 t ht).2.1⟩⟩, h4⟩, fun t ht => (h3 t ht).2.2⟩
theorem rsB_iff {size : Int} {rs : List Ru} : rsB size rs = true ↔ (1 ≤ size ∧ size ≤ 8) ∧ rs.length ≤ 24 ∧ ∀ r ∈ rs, VR size r := by
  unfold rsB
  simp only [Bool.and_eq_true, decide_eq_true_eq, List.all_eq_true, ruB_iff]
  constructor
  · rintro ⟨⟨⟨h1, h2⟩, h3⟩, h4⟩
    exact ⟨h1, h3, h4⟩
  · rintro ⟨h1, h3, h4⟩
    refine ⟨⟨⟨h1, fun r hr => ?_⟩, h3⟩, h4⟩
    have := ruB_iff.mpr (h4 r hr)
    unfold ruB at this
    rw [Bool.and_eq_true] at this
    exact this.1
/-- what the program makes of a text -/
def prO (x : PySem.Str) : Option (Int × List Ru) := match rsO x with
  | some (n, rs) => if rsB n rs = true ∧ rsT n rs = x then some (n, rs) else none
  | none => none
/-! ### as the law reads -/
def dgL (x : PySem.Str) (high : Int) : Option Int := match dgO x with
  | some n => if nT n = x ∧ n < high then some n else none
  | none => none
def isSg (o : Option Nat) : Bool := match o with
  | some c => decide (c = 43 ∨ c = 45)
  | none => false
def sgs (x : PySem.Str) : List Nat := (List.range x.cps.size).filter fun i => isSg x.cps[i]?
def tmL (size : Int) (x : PySem.Str) : Option Tm := match sgs x with
  | [i] => match dgL (strSub x 0 i) size, dgL (strSub x (i + 1) x.length) 61 with
    | some v, some d => if d = (if x.cps[i]? = some 45 then 0 else 60) then none else some (v, if x.cps[i]? = some 43 then d else 0 - d)
    | _, _ => none
  | _ => none
def ruL (size : Int) (x : PySem.Str) : Option Ru := match Txt.split x (" <= " : PySem.Str) with
  | [a, b] => match dgL a size with
    | some l => if b = ("never" : PySem.Str) then some (l, []) else match mapO (tmL size) (Txt.split b (" | " : PySem.Str)) with
      | some ts => if ts.map (·.1) = sortU (ts.map (·.1)) then some (l, ts) else none
      | none => none
    | none => none
  | _ => none
def rsL (x : PySem.Str) : Option (Int × List Ru) := match dgL (headS (Txt.split x ("; " : PySem.Str))) 9 with
  | some n => if n = 0 ∨ 25 < (Txt.split x ("; " : PySem.Str)).length then none else match mapO (ruL n) (Txt.split x ("; " : PySem.Str)).tail with
    | some rs => some (n, rs)
    | none => none
  | none => none
end Rf
end

section
set_option Elab.async false
set_option linter.all false
set_option maxRecDepth 100000
set_option maxHeartbeats 1000000
/-! Both readings agree. -/
namespace Rf
open PySem PySem.Builtin PySem.Builtin.Str PySem.StrLaws
/-! the program reads the texts of rule sets -/
theorem hasM_tm {size : Int} (hs : size ≤ 8) {t : Tm} (v : VT size t) : hasM (tmT t) = decide (t.2 < 0) := tm_minus hs v
theorem cutM_tm {size : Int} (hs : size ≤ 8) {t : Tm} (v : VT size t) : cutM (tmT t) = sgT t.2 := by
  unfold cutM sgT
  rw [hasM_tm hs v]
  by_cases h : t.2 < 0
  · rw [decide_eq_true h, if_pos rfl, if_neg (by omega)]
  · rw [decide_eq_false h, if_neg Bool.false_ne_true, if_pos (by omega)]
theorem sg_eq {d : Int} : (sgT d = ("-" : PySem.Str)) ↔ d < 0 := by
  unfold sgT
  by_cases h : 0 ≤ d
  · rw [if_pos h]
    constructor
    · intro z; exact absurd z (by decide +kernel)
    · intro z; omega
  · rw [if_neg h]
    exact ⟨fun _ => by omega, fun _ => rfl⟩
theorem tmO_tm {size : Int} (hs : size ≤ 8) {t : Tm} (v : VT size t) : tmO (tmT t) = some t := by
  unfold tmO
  rw [cutM_tm hs v, tm_part hs v]
  simp only [dg_nT v.n2, dg_nT (v.n1 hs), sg_eq]
  by_cases h : t.2 < 0
  · rw [if_pos h]
    unfold abT
    rw [if_pos h]
    simp
  · rw [if_neg h]
    unfold abT
    rw [if_neg h]
theorem tsO_ts {size : Int} (hs : size ≤ 8) {ts : List Tm} (v : ∀ t ∈ ts, VT size t) : tsO (tsT ts) = some ts := by
  unfold tsO
  by_cases h : ts = []
  · subst h
    rw [if_pos (by unfold tsT; rw [if_pos rfl])]
  · rw [if_neg (ts_never hs h v), ts_split hs h v]
    exact mapO_map fun t ht => tmO_tm hs (v t ht)
theorem VR.n1 {size : Int} (hs : size ≤ 8) {r : Ru} (v : VR size r) : NOk r.1 := nOk_of v.1 (by have := v.2.1; omega)
theorem ruO_ru {size : Int} (hs : size ≤ 8) {r : Ru} (v : VR size r) : ruO (ruT r) = some r := by
  unfold ruO
  rw [ru_part hs v]
  simp only [tsO_ts hs v.2.2.1, dg_nT (v.n1 hs)]
theorem rsO_rs {size : Int} (hs : 1 ≤ size) (hs2 : size ≤ 8) {rs : List Ru} (v : ∀ r ∈ rs, VR size r) : rsO (rsT size rs) = some (size, rs) := by
  unfold rsO
  rw [rs_split hs hs2 v]
  simp only [headS, List.headD_cons, List.tail_cons, dg_nT (nOk_of (show 0 ≤ size by omega) (by omega) : NOk size), mapO_map fun r hr => ruO_ru hs2 (v r hr)]
/-! the law reads them, too -/
theorem dgL_nT {i high : Int} (n : NOk i) (h : i < high) : dgL (nT i) high = some i := by
  unfold dgL
  rw [dg_nT n]
  exact if_pos ⟨rfl, h⟩
theorem dgL_back {x : PySem.Str} {high n : Int} (h : dgL x high = some n) : nT n = x ∧ 0 ≤ n ∧ n < high := by
  unfold dgL at h
  split at h
  · rename_i m e
    split at h
    · rename_i hc
      cases h
      exact ⟨hc.1, (dg_ok e).lo, hc.2⟩
    · cases h
  · cases h
theorem sgs_of {p r : PySem.Str} {c : Nat} (hp : ∀ k ∈ p.cps.toList, ¬ (k = 43 ∨ k = 45)) (hr : ∀ k ∈ r.cps.toList, ¬ (k = 43 ∨ k = 45)) (hc : c = 43 ∨ c = 45) {x : PySem.Str} (hx : x.cps.toList = p.cps.toList ++ c :: r.cps.toList) : sgs x = [p.length] := by
  have hn : x.cps.size = p.length + (1 + r.length) := by
    have := congrArg List.length hx
    rw [List.length_append, List.length_cons, Array.length_toList, Array.length_toList, Array.length_toList] at this
    have e1 : p.cps.size = p.length := rfl
    have e2 : r.cps.size = r.length := rfl
    omega
  have hp1 : p.cps.toList.length = p.length := by rw [Array.length_toList]; rfl
  have get : ∀ i, x.cps[i]? = (p.cps.toList ++ c :: r.cps.toList)[i]? := fun i => by rw [← hx, Array.getElem?_toList]
  unfold sgs
  rw [hn, List.range_add, List.filter_append]
  have f1 : ∀ (q : Nat → Bool), (∀ i, i < p.length → q i = false) → (List.range p.length).filter q = [] := fun q hq => List.filter_eq_nil_iff.mpr fun i hi => by rw [hq i (List.mem_range.mp hi)]; exact Bool.false_ne_true
  rw [f1, List.nil_append, List.range_add, List.map_append, List.filter_append]
  · have e1 : (List.range 1).map (fun x => p.length + x) = [p.length] := rfl
    rw [e1]
    have h1 : ([p.length] : List Nat).filter (fun i => isSg x.cps[i]?) = [p.length] := by
      refine List.filter_cons_of_pos ?_
      rw [get, List.getElem?_append_right (by omega), hp1, Nat.sub_self]
      exact decide_eq_true hc
    rw [h1]
    have h2 : ((List.map (fun x => 1 + x) (List.range r.length)).map (fun x => p.length + x)).filter (fun i => isSg x.cps[i]?) = [] := List.filter_eq_nil_iff.mpr fun i hi => by
      obtain ⟨j, hj, rfl⟩ := List.mem_map.mp hi
      obtain ⟨k, hk, rfl⟩ := List.mem_map.mp hj
      have hk := List.mem_range.mp hk
      rw [get, List.getElem?_append_right (by omega), hp1, show p.length + (1 + k) - p.length = k + 1 by omega, List.getElem?_cons_succ]
      cases e : r.cps.toList[k]? with
      | none => exact Bool.false_ne_true
      | some d =>
        have := hr d (List.mem_of_getElem? e)
        show ¬ decide (d = 43 ∨ d = 45) = true
        rw [decide_eq_false this]
        exact Bool.false_ne_true
    rw [h2]
    rfl
  · intro i hi
    rw [get, List.getElem?_append_left (by omega)]
    cases e : p.cps.toList[i]? with
    | none => rfl
    | some d =>
      have := hp d (List.mem_of_getElem? e)
      exact decide_eq_false this
/-- a text with one sign -/
theorem sgs_one {x : PySem.Str} {i : Nat} (h : sgs x = [i]) : ∃ c, x.cps[i]? = some c ∧ (c = 43 ∨ c = 45) := by
  have hm : i ∈ sgs x := by rw [h]; exact List.mem_cons_self
  unfold sgs at hm
  have h2 := (List.mem_filter.mp hm).2
  unfold isSg at h2
  split at h2
  · rename_i c e
    exact ⟨c, e, of_decide_eq_true h2⟩
  · cases h2
theorem cut_at {x : PySem.Str} {i c : Nat} (h : x.cps[i]? = some c) : strSub x 0 i ++ (⟨#[c]⟩ : PySem.Str) ++ strSub x (i + 1) x.length = x := by
  refine str_ext ?_
  have hi : i < x.cps.size := (Array.getElem?_eq_some_iff.mp h).1
  have hl : x.cps.toList.length = x.cps.size := Array.length_toList
  rw [Str.cps_append, Array.toList_append, Str.cps_append, Array.toList_append]
  have e1 : (strSub x 0 i).cps.toList = x.cps.toList.take i := by
    unfold strSub
    simp
  have e2 : (strSub x (i + 1) x.length).cps.toList = x.cps.toList.drop (i + 1) := by
    unfold strSub
    simp
    rw [List.take_of_length_le]
    rw [List.length_drop, hl]; exact Nat.le_refl _
  rw [e1, e2]
  have e3 : x.cps.toList[i]? = some c := by rw [Array.getElem?_toList]; exact h
  have e4 : x.cps.toList = x.cps.toList.take i ++ c :: x.cps.toList.drop (i + 1) := by
    have hi' : i < x.cps.toList.length := by rw [hl]; exact hi
    rw [List.getElem?_eq_getElem hi'] at e3
    cases e3
    rw [← List.drop_eq_getElem_cons hi', List.take_append_drop]
  show x.cps.toList.take i ++ [c] ++ _ = _
  rw [List.append_assoc]
  exact e4.symm
end Rf
end

section
set_option Elab.async false
set_option linter.all false
set_option maxRecDepth 100000
set_option maxHeartbeats 1000000
/-! Both readings agree. -/
namespace Rf
open PySem PySem.Builtin PySem.Builtin.Str PySem.StrLaws
theorem split_ne (x y : PySem.Str) : Txt.split x y ≠ [] := by
  unfold Txt.split
  split
  · exact List.cons_ne_nil _ _
  · split
    · exact List.cons_ne_nil _ _
    · rw [partsBetween_eq]
      generalize occurrences x y 0 x.length _ = cuts
      cases cuts with
      | nil => exact List.cons_ne_nil _ _
      | cons d r => exact List.cons_ne_nil _ _
theorem ddI_asc : ∀ {ns : List Int}, ns.Pairwise (· < ·) → ns = sortU ns := fun {ns} h => asc_unique h (sortU_nodup ns) fun k => sortU_mem.symm
theorem sgT_c {c : Nat} {d e : Int} (hc : c = 43 ∨ c = 45) (h : (⟨#[c]⟩ : PySem.Str) = sgT d) : True := trivial
theorem sg43 : (⟨#[43]⟩ : PySem.Str) = ("+" : PySem.Str) := by decide +kernel
theorem sg45 : (⟨#[45]⟩ : PySem.Str) = ("-" : PySem.Str) := by decide +kernel
theorem tmL_back {size : Int} {x : PySem.Str} {t : Tm} (h : tmL size x = some t) : tmT t = x ∧ VT size t := by
  unfold tmL at h
  split at h
  · rename_i i e
    obtain ⟨c, hi, hc⟩ := sgs_one e
    split at h
    · rename_i v d e1 e2
      obtain ⟨a1, a2, a3⟩ := dgL_back e1
      obtain ⟨b1, b2, b3⟩ := dgL_back e2
      by_cases hd : d = (if x.cps[i]? = some 45 then 0 else 60)
      · rw [if_pos hd] at h; cases h
      · rw [if_neg hd] at h
        cases h
        have hx := cut_at hi
        rw [hi] at hd
        rcases hc with rfl | rfl
        · rw [if_neg (by simp)] at hd
          have hs : (if x.cps[i]? = some 43 then d else 0 - d) = d := by rw [hi]; exact if_pos rfl
          rw [hs]
          refine ⟨?_, a2, a3, by show -60 ≤ d; omega, by show d ≤ 59; omega⟩
          unfold tmT
          show nT v ++ sgT d ++ nT (abT d) = x
          have h1 : sgT d = ("+" : PySem.Str) := if_pos b2
          have h2 : abT d = d := if_neg (by omega)
          rw [h1, h2, a1, b1, ← sg43]
          exact hx
        · rw [if_pos rfl] at hd
          have hs : (if x.cps[i]? = some 43 then d else 0 - d) = 0 - d := by rw [hi]; exact if_neg (by simp)
          rw [hs]
          refine ⟨?_, a2, a3, by show -60 ≤ 0 - d; omega, by show 0 - d ≤ 59; omega⟩
          unfold tmT
          show nT v ++ sgT (0 - d) ++ nT (abT (0 - d)) = x
          have h1 : sgT (0 - d) = ("-" : PySem.Str) := if_neg (by omega)
          have h2 : abT (0 - d) = d := by unfold abT; rw [if_pos (by omega)]; omega
          rw [h1, h2, a1, b1, ← sg45]
          exact hx
    · cases h
  · cases h
theorem ruL_back {size : Int} {x : PySem.Str} {r : Ru} (h : ruL size x = some r) : ruT r = x ∧ VR size r := by
  unfold ruL at h
  split at h
  · rename_i a b e
    have hx : a ++ (" <= " : PySem.Str) ++ b = x := by
      have := join_split x (" <= " : PySem.Str)
      rw [e] at this
      exact this
    split at h
    · rename_i l e1
      obtain ⟨a1, a2, a3⟩ := dgL_back e1
      split at h
      · rename_i hb
        cases h
        refine ⟨?_, a2, a3, (fun _ z => (List.not_mem_nil z).elim), List.Pairwise.nil⟩
        show nT l ++ (" <= " : PySem.Str) ++ tsT [] = x
        have : tsT [] = ("never" : PySem.Str) := if_pos rfl
        rw [this, a1, ← hb]
        exact hx
      · split at h
        · rename_i ts e2
          split at h
          · rename_i hs
            cases h
            obtain ⟨m1, m2⟩ := mapO_back (f := tmT) (p := VT size) (fun _ _ => tmL_back) e2
            have hne : ts ≠ [] := fun z => by rw [z] at m1; exact split_ne _ _ m1.symm
            refine ⟨?_, a2, a3, m2, ?_⟩
            · show nT l ++ (" <= " : PySem.Str) ++ tsT ts = x
              have : tsT ts = Str.join (" | " : PySem.Str) (ts.map tmT) := if_neg hne
              rw [this, m1, join_split, a1]
              exact hx
            · have := sortU_nodup (ts.map (·.1))
              rw [← hs, List.pairwise_map] at this
              exact this
          · cases h
        · cases h
    · cases h
  · cases h
theorem rsL_back {x : PySem.Str} {p : Int × List Ru} (h : rsL x = some p) : (1 ≤ p.1 ∧ p.1 ≤ 8) ∧ p.2.length ≤ 24 ∧ (∀ r ∈ p.2, VR p.1 r) ∧ rsT p.1 p.2 = x := by
  unfold rsL at h
  split at h
  · rename_i n e1
    obtain ⟨a1, a2, a3⟩ := dgL_back e1
    split at h
    · cases h
    · rename_i hc
      split at h
      · rename_i rs e2
        cases h
        obtain ⟨m1, m2⟩ := mapO_back (f := ruT) (p := VR n) (fun _ _ => ruL_back) e2
        have hs : Txt.split x ("; " : PySem.Str) = nT n :: rs.map ruT := by
          have h0 := split_ne x ("; " : PySem.Str)
          rw [m1]
          generalize Txt.split x ("; " : PySem.Str) = ps at *
          cases ps with
          | nil => exact absurd rfl h0
          | cons p ps =>
            show p :: ps = nT n :: ps
            rw [a1]
            rfl
        refine ⟨⟨by show 1 ≤ n; omega, by show n ≤ 8; omega⟩, ?_, m2, ?_⟩
        · show rs.length ≤ 24
          rw [hs, List.length_cons, List.length_map] at hc
          omega
        · show Str.join _ _ = x
          rw [← hs, join_split]
      · cases h
  · cases h
/-! the law reads the texts of rule sets -/
theorem strSub_cut {p r : PySem.Str} {c : Nat} {x : PySem.Str} (hx : x.cps.toList = p.cps.toList ++ c :: r.cps.toList) : strSub x 0 p.length = p ∧ strSub x (p.length + 1) x.length = r ∧ x.cps[p.length]? = some c := by
  have hp1 : p.cps.toList.length = p.length := by rw [Array.length_toList]; rfl
  have hn : x.length = p.length + (1 + r.length) := by
    have := congrArg List.length hx
    rw [List.length_append, List.length_cons, Array.length_toList, Array.length_toList, Array.length_toList] at this
    have e1 : p.cps.size = p.length := rfl
    have e2 : r.cps.size = r.length := rfl
    have e3 : x.cps.size = x.length := rfl
    omega
  refine ⟨?_, ?_, ?_⟩
  · have := sub_to (x := x) (a := 0) (q := p) (J := c :: r.cps.toList) (by rw [List.drop_zero]; exact hx)
    rwa [Nat.zero_add, hp1] at this
  · refine sub_from ?_
    rw [hx, ← hp1, ← List.drop_drop, List.drop_left]
    rfl
  · rw [← Array.getElem?_toList, hx, List.getElem?_append_right (by omega), hp1, Nat.sub_self]
    rfl
theorem tmL_tm {size : Int} (hs : size ≤ 8) {t : Tm} (v : VT size t) : tmL size (tmT t) = some t := by
  have key : ∀ c : Nat, (c = 43 ∨ c = 45) → sgT t.2 = ⟨#[c]⟩ → (sgs (tmT t) = [(nT t.1).length] ∧ strSub (tmT t) 0 (nT t.1).length = nT t.1 ∧ strSub (tmT t) ((nT t.1).length + 1) (tmT t).length = nT (abT t.2) ∧ (tmT t).cps[(nT t.1).length]? = some c) := by
    intro c hc e
    have hx : (tmT t).cps.toList = (nT t.1).cps.toList ++ c :: (nT (abT t.2)).cps.toList := by
      unfold tmT
      rw [e, Str.cps_append, Str.cps_append, Array.toList_append, Array.toList_append, List.append_assoc]
      rfl
    have s1 := sgs_of (fun k hk => by have := (v.n1 hs).dig k hk; omega) (fun k hk => by have := v.n2.dig k hk; omega) hc hx
    exact ⟨s1, strSub_cut hx⟩
  have b := abT_b v.2.2.1 v.2.2.2
  by_cases h : 0 ≤ t.2
  · obtain ⟨k1, k2, k3, k4⟩ := key 43 (.inl rfl) (by unfold sgT; rw [if_pos h]; exact sg43.symm)
    unfold tmL
    rw [k1]
    simp only [k2, k3, k4]
    rw [dgL_nT (v.n1 hs) v.2.1, dgL_nT v.n2 (by omega)]
    have e : abT t.2 = t.2 := if_neg (by omega)
    have := v.2.2.2
    simp only [e]
    have h60 : t.2 ≠ 60 := by omega
    simp [h60]
  · obtain ⟨k1, k2, k3, k4⟩ := key 45 (.inr rfl) (by unfold sgT; rw [if_neg h]; exact sg45.symm)
    unfold tmL
    rw [k1]
    simp only [k2, k3, k4]
    rw [dgL_nT (v.n1 hs) v.2.1, dgL_nT v.n2 (by omega)]
    have e : abT t.2 = -t.2 := if_pos (by omega)
    simp only [e]
    have h60 : t.2 ≠ 0 := by omega
    simp [h60]
theorem lit_le_no : NoC 60 ("never" : PySem.Str) := by unfold NoC; rw [lit_never]; decide
theorem ts_no60 {size : Int} (hs : size ≤ 8) {ts : List Tm} (v : ∀ t ∈ ts, VT size t) : NoC 60 (tsT ts) := by
  unfold tsT
  split
  · exact lit_le_no
  · refine NoC.join (by unfold NoC; rw [lit_bar]; decide) fun q hq => ?_
    obtain ⟨t, ht, rfl⟩ := List.mem_map.mp hq
    exact tm_no hs (v t ht) (by decide) (by decide)
theorem ru_split {size : Int} (hs : size ≤ 8) {r : Ru} (v : VR size r) : Txt.split (ruT r) (" <= " : PySem.Str) = [nT r.1, tsT r.2] :=
  split_joined (qs := [nT r.1, tsT r.2]) lit_le (by decide) (by decide +kernel) (List.cons_ne_nil _ _) fun q hq => by
    rcases List.mem_cons.mp hq with rfl | hq
    · exact (v.n1 hs).no (by decide)
    · rw [List.mem_singleton.mp hq]
      exact ts_no60 hs v.2.2.1
theorem ruL_ru {size : Int} (hs : size ≤ 8) {r : Ru} (v : VR size r) : ruL size (ruT r) = some r := by
  unfold ruL
  rw [ru_split hs v]
  simp only [dgL_nT (v.n1 hs) v.2.1]
  by_cases h : r.2 = []
  · have e : tsT r.2 = ("never" : PySem.Str) := by unfold tsT; rw [if_pos h]
    rw [if_pos e]
    congr 1
    exact Prod.ext rfl h.symm
  · rw [if_neg (ts_never hs h v.2.2.1), ts_split hs h v.2.2.1, mapO_map fun t ht => tmL_tm hs (v.2.2.1 t ht)]
    exact if_pos (ddI_asc (by rw [List.pairwise_map]; exact v.2.2.2))
theorem rsL_rs {size : Int} (hs : 1 ≤ size) (hs2 : size ≤ 8) {rs : List Ru} (hl : rs.length ≤ 24) (v : ∀ r ∈ rs, VR size r) : rsL (rsT size rs) = some (size, rs) := by
  unfold rsL
  rw [rs_split hs hs2 v]
  simp only [headS, List.headD_cons, List.tail_cons]
  rw [dgL_nT (nOk_of (by omega) (by omega)) (by omega)]
  simp only
  rw [if_neg (by rw [List.length_cons, List.length_map]; omega), mapO_map fun r hr => ruL_ru hs2 (v r hr)]
theorem read_same (x : PySem.Str) : rsL x = prO x := by
  cases e : rsL x with
  | some p =>
    obtain ⟨h1, h2, h3, h4⟩ := rsL_back e
    unfold prO
    rw [← h4, rsO_rs h1.1 h1.2 h3]
    simp only
    rw [if_pos ⟨rsB_iff.mpr ⟨h1, h2, h3⟩, trivial⟩]
  | none =>
    unfold prO
    cases e2 : rsO x with
    | none => rfl
    | some p =>
      simp only
      by_cases hc : rsB p.1 p.2 = true ∧ rsT p.1 p.2 = x
      · obtain ⟨h1, h2, h3⟩ := rsB_iff.mp hc.1
        rw [← hc.2, rsL_rs h1.1 h1.2 h2 h3] at e
        cases e
      · rw [if_neg hc]
end Rf
end

section
set_option Elab.async false
set_option linter.all false
set_option maxRecDepth 100000
set_option maxHeartbeats 4000000
namespace K85
open PySem Rf
/-! the checks of any value -/
def isI : PV → Bool
  | .int _ => true
  | _ => false
def isTup : PV → Bool
  | .tup _ => true
  | _ => false
def fineB : Nat → PHeap → PV → Bool
  | 0, h, v => (tyOf h v).isSome
  | n + 1, h, v => match v with
    | .tup xs => decide (xs.length ≤ szB) && xs.all (fineB n h)
    | v => (tyOf h v).isSome
theorem fine_ty {n : Nat} {h : PHeap} {v : PV} (f : fineB n h v = true) : ∃ t, tyOf h v = some t := by
  cases n with
  | zero => exact Option.isSome_iff_exists.mp f
  | succ n =>
    cases v with
    | tup xs => exact ⟨_, rfl⟩
    | _ => exact Option.isSome_iff_exists.mp f
theorem fine_len {n : Nat} {h : PHeap} {xs : List PV} (f : fineB (n + 1) h (.tup xs) = true) : xs.length ≤ szB := by
  unfold fineB at f
  rw [Bool.and_eq_true, decide_eq_true_eq] at f
  exact f.1
theorem fine_mem {n : Nat} {h : PHeap} {xs : List PV} (f : fineB (n + 1) h (.tup xs) = true) : ∀ x ∈ xs, fineB n h x = true := by
  unfold fineB at f
  rw [Bool.and_eq_true, List.all_eq_true] at f
  exact f.2
theorem ty_loc {h : PHeap} {l : Nat} {t : String} (e : tyOf h (.loc l) = some t) : t = "list" ∨ t = "dict" := by
  cases eo : h[l]? with
  | none =>
    simp only [tyOf, deref, eo] at e
    cases e
  | some o =>
    cases o with
    | lst xs => simp only [tyOf, deref, eo] at e; cases e; exact .inl rfl
    | dK kvs => simp only [tyOf, deref, eo] at e; cases e; exact .inr rfl
    | dT kvs => simp only [tyOf, deref, eo] at e; cases e; exact .inr rfl
    | ins c fs => simp only [tyOf, deref, eo] at e; cases e
theorem isi_tup (mu : Bool) {n : Nat} {h : PHeap} {v : PV} (f : fineB n h v = true) : biOp .isinst mu [v, .ty "tuple"] h = .ok (.bl (isTup v)) h := by
  obtain ⟨t, e⟩ := fine_ty f
  refine isi v t _ _ _ _ e ?_
  cases v with
  | loc l =>
    rcases ty_loc e with rfl | rfl
    · show _ = some false; decide
    · show _ = some false; decide
  | ty n => cases e
  | tup xs => cases e; show _ = some true; decide
  | _ => cases e; show _ = some false; decide
theorem isi_int (mu : Bool) {n : Nat} {h : PHeap} {v : PV} (f : fineB n h v = true) : ∃ b, biOp .isinst mu [v, .ty "int"] h = .ok (.bl b) h ∧ ∃ b', biOp .isinst mu [v, .ty "bool"] h = .ok (.bl b') h ∧ isI v = (b && !b') := by
  obtain ⟨t, e⟩ := fine_ty f
  cases v with
  | loc l =>
    rcases ty_loc e with rfl | rfl
    · exact ⟨false, isi _ _ _ _ _ _ e (by decide), false, isi _ _ _ _ _ _ e (by decide), rfl⟩
    · exact ⟨false, isi _ _ _ _ _ _ e (by decide), false, isi _ _ _ _ _ _ e (by decide), rfl⟩
  | ty n => cases e
  | int i => exact ⟨true, isi _ _ _ _ _ _ e (by cases e; first | (show _ = some false; decide) | (show _ = some true; decide)), false, isi _ _ _ _ _ _ e (by cases e; first | (show _ = some false; decide) | (show _ = some true; decide)), rfl⟩
  | bl i => exact ⟨true, isi _ _ _ _ _ _ e (by cases e; first | (show _ = some false; decide) | (show _ = some true; decide)), true, isi _ _ _ _ _ _ e (by cases e; first | (show _ = some false; decide) | (show _ = some true; decide)), rfl⟩
  | _ => exact ⟨false, isi _ _ _ _ _ _ e (by cases e; first | (show _ = some false; decide) | (show _ = some true; decide)), false, isi _ _ _ _ _ _ e (by cases e; first | (show _ = some false; decide) | (show _ = some true; decide)), rfl⟩
theorem g_int (n k : Nat) {v : PV} {h : PHeap} (f : fineB k h v = true) : callN tb (n + 1) 0 [v] h = .ok (.bl (isI v)) h := by
  rw [callN_at n 0 _ h ir_is_integer rfl rfl]
  show (evalSs (callN tb n) ir_is_integer.body [some v] h).res = _
  unfold ir_is_integer
  obtain ⟨b, e1, b', e2, e3⟩ := isi_int false f
  rw [e3]
  cases b <;> cases b' <;> simp only [EV, EVS, EVB, e1, e2, Bool.not_false, Bool.not_true, Bool.and_false, Bool.and_true, List.getElem?_cons_zero, List.getElem?_cons_succ]
def okBt (v : PV) (lo hi : Int) : Bool := match v with
  | .int i => decide (lo ≤ i) && decide (i ≤ hi)
  | _ => false
theorem g_btw (n k : Nat) {v : PV} {lo hi : Int} {h : PHeap} (f : fineB k h v = true) : callN tb (n + 2) 1 [v, .int lo, .int hi] h = .ok (.bl (okBt v lo hi)) h := by
  rw [callN_at (n + 1) 1 _ h ir_is_between rfl rfl]
  show (evalSs (callN tb (n + 1)) ir_is_between.body [some v, some (.int lo), some (.int hi)] h).res = _
  unfold ir_is_between
  have e := g_int n k f
  cases v with
  | int i =>
    simp only [isI] at e
    by_cases h1 : lo ≤ i
    · simp only [EV, EVS, EVB, e, h1, okBt, decide_true, Bool.true_and, List.getElem?_cons_zero, List.getElem?_cons_succ]
    · simp only [EV, EVS, EVB, e, h1, okBt, decide_false, Bool.false_and, List.getElem?_cons_zero, List.getElem?_cons_succ]
  | _ =>
    simp only [isI] at e
    simp only [EV, EVS, EVB, e, okBt, List.getElem?_cons_zero, List.getElem?_cons_succ]
theorem g_delay (n k : Nat) {v : PV} {h : PHeap} (f : fineB k h v = true) : callN tb (n + 3) 2 [v] h = .ok (.bl (okBt v (-60) 59)) h := by
  rw [callN_at (n + 2) 2 _ h ir_is_delay rfl rfl]
  show (evalSs (callN tb (n + 2)) ir_is_delay.body [some v] h).res = _
  unfold ir_is_delay
  have e : callN tb (n + 2) 1 [v, .int (0 - 60), .int (60 - 1)] h = .ok (.bl (okBt v (-60) 59)) h := g_btw n k f
  simp only [EV, EVS, EVB, e, List.getElem?_cons_zero, List.getElem?_cons_succ]
def okPair (v : PV) : Bool := match v with
  | .tup [_, _] => true
  | _ => false
theorem g_pair (n k : Nat) {v : PV} {h : PHeap} (f : fineB k h v = true) : callN tb (n + 1) 3 [v] h = .ok (.bl (okPair v)) h := by
  rw [callN_at n 3 _ h ir_is_pair rfl rfl]
  show (evalSs (callN tb n) ir_is_pair.body [some v] h).res = _
  unfold ir_is_pair
  have e := isi_tup false f
  cases v with
  | tup xs =>
    simp only [isTup] at e
    have e2 : okPair (.tup xs) = decide ((xs.length : Int) = 2) := by
      match xs with
      | [] => decide
      | [_] => rfl
      | [_, _] => rfl
      | _ :: _ :: _ :: r =>
        show false = _
        symm
        rw [decide_eq_false_iff_not]
        simp only [List.length_cons]
        omega
    simp only [EV, EVS, EVB, e, e2, len_tup, cmp_eq', eq_int, List.getElem?_cons_zero, List.getElem?_cons_succ]
  | _ =>
    simp only [isTup] at e
    simp only [EV, EVS, EVB, e, okPair, List.getElem?_cons_zero, List.getElem?_cons_succ]
theorem pair_of {v : PV} (h : okPair v = true) : ∃ a b, v = .tup [a, b] := by
  unfold okPair at h
  split at h
  · exact ⟨_, _, rfl⟩
  · cases h
theorem comp_bool {w : Walk} {xs : List PV} {turn : PV → PHeap → Res (Option PV)} {h : PHeap} {n : Nat} (g : PV → Bool) (hw : ∀ i, w.next i h = some xs[i]?) (hs : ∀ x ∈ xs, turn x h = .ok (some (.bl (g x))) h) (hn : xs.length ≤ n) :
    compN w turn (n + 1) 0 h = .ok ((xs.map g).map .bl) h := by
  have e := comp_fuel (g := fun x => some (.bl (g x))) hw hs (n - xs.length)
  rw [show xs.length + 1 + (n - xs.length) = n + 1 by omega] at e
  rw [e]
  congr 1
  clear e hn hs hw
  induction xs with
  | nil => rfl
  | cons x xs ih => rw [List.filterMap_cons, ih]; rfl
theorem all_map' (xs : List PV) (g : PV → Bool) (h : PHeap) (mu : Bool) : biOp .all mu [.lst ((xs.map g).map .bl)] h = .ok (.bl (xs.all g)) h := by
  rw [all_lst, List.all_map]
  rfl
def okTm (size : Int) (t : PV) : Bool := match t with
  | .tup [a, b] => okBt a 0 (size - 1) && isI b
  | _ => false
def okLt (p : PV) : Bool := match p with
  | .tup [.tup [.int a, _], .tup [.int b, _]] => decide (a < b)
  | _ => false
def okTerms (size : Int) (v : PV) : Bool := match v with
  | .tup xs => xs.all okPair && (xs.all (okTm size) && (zipP xs (xs.drop 1)).all okLt)
  | _ => false
theorem slc_1 (xs : List PV) (h : PHeap) : slcOp false (.tup xs) (some 1) none h = .ok (.tup (xs.drop 1)) h := by
  have e : cutL xs (some 1) none = xs.drop 1 := by
    by_cases hz : 1 ≤ xs.length
    · exact cut_from _ 1 hz
    · have : xs = [] := List.eq_nil_of_length_eq_zero (by omega)
      rw [this]
      rfl
  simp only [slcOp, deref, e]
theorem okTm_of {size : Int} {t : PV} (h : okTm size t = true) : ∃ i d, t = .tup [.int i, .int d] := by
  unfold okTm at h
  split at h
  · rename_i a b
    rw [Bool.and_eq_true] at h
    cases a with
    | int i =>
      cases b with
      | int d => exact ⟨i, d, rfl⟩
      | _ => exact absurd h.2 Bool.false_ne_true
    | _ => exact absurd h.1 Bool.false_ne_true
  · cases h
theorem g_terms (n k : Nat) {size : Int} {v : PV} {h : PHeap} (f : fineB (k + 2) h v = true) : callN tb (n + 3) 4 [.int size, v] h = .ok (.bl (okTerms size v)) h := by
  rw [callN_at (n + 2) 4 _ h ir_are_terms rfl rfl]
  show (evalSs (callN tb (n + 2)) ir_are_terms.body [some (.int size), some v, none, none, none, none, none] h).res = _
  unfold ir_are_terms
  have e := isi_tup false f
  cases v with
  | tup xs =>
    simp only [isTup] at e
    have gsz := fine_len f
    have fm := fine_mem f
    have hw : walkOf .seq [.tup xs] h = some (.one (.fixT xs)) := rfl
    have hln : (Walk.one (.fixT xs)).len h = xs.length := rfl
    have c1 : compN (.one (.fixT xs)) (kTurn (callN tb (n + 2)) [4] (.nm 4) .nop (.call 3 [(.var 4)]) [some (.int size), some (.tup xs), none, none, none, none, none]) (xs.length + 1) 0 h = .ok ((xs.map okPair).map .bl) h := by
      refine comp_bool okPair (fun i => fixT_next _ i _) (fun x hx => ?_) (Nat.le_refl _)
      have e3 := g_pair (n + 1) (k + 1) (fm x hx)
      simp only [kTurn, bindT, wipeP, isNop, if_true, EV, EVB, kT2, noExc, e3, List.getElem?_cons_zero, List.getElem?_cons_succ, List.set_cons_zero, List.set_cons_succ]
    by_cases hp : xs.all okPair = true
    · have hp' := List.all_eq_true.mp hp
      have c2 : compN (.one (.fixT xs)) (kTurn (callN tb (n + 2)) [5, 6] (.tp [(.nm 5), (.nm 6)]) .nop (.and (.call 1 [(.var 5), (.cst (.int 0)), (.bin .sub (.var 0) (.cst (.int 1)))]) (.call 0 [(.var 6)])) [some (.int size), some (.tup xs), none, none, none, none, none]) (xs.length + 1) 0 h = .ok ((xs.map (okTm size)).map .bl) h := by
        refine comp_bool (okTm size) (fun i => fixT_next _ i _) (fun x hx => ?_) (Nat.le_refl _)
        obtain ⟨a, b, rfl⟩ := pair_of (hp' x hx)
        have fx := fine_mem (n := k) (fm _ hx)
        have e1 := g_btw n k (lo := 0) (hi := size - 1) (fx a List.mem_cons_self)
        have e2 := g_int (n + 1) k (fx b (List.mem_cons_of_mem _ List.mem_cons_self))
        cases hb : okBt a 0 (size - 1)
        · rw [hb] at e1
          simp only [okTm, hb, Bool.false_and, kTurn, bindT, bindTs, seqOf, deref, wipeP, isNop, if_true, EV, EVB, kT2, noExc, e1, List.getElem?_cons_zero, List.getElem?_cons_succ, List.set_cons_zero, List.set_cons_succ]
        · rw [hb] at e1
          simp only [okTm, hb, Bool.true_and, kTurn, bindT, bindTs, seqOf, deref, wipeP, isNop, if_true, EV, EVB, kT2, noExc, e1, e2, List.getElem?_cons_zero, List.getElem?_cons_succ, List.set_cons_zero, List.set_cons_succ]
      by_cases ht : xs.all (okTm size) = true
      · have ht' := List.all_eq_true.mp ht
        have hw3 : walkOf .zip [.tup xs, .tup (xs.drop 1)] h = some (.zip (.fixT xs) (.fixT (xs.drop 1))) := by
          simp only [walkOf, srcOf, Option.bind_some, Src.isT, if_true]
        have hln3 : (Walk.zip (.fixT xs) (.fixT (xs.drop 1))).len h = xs.length := rfl
        have c3 : compN (.zip (.fixT xs) (.fixT (xs.drop 1))) (kTurn (callN tb (n + 2)) [2, 3] (.tp [(.nm 2), (.nm 3)]) .nop (.cmp .lt (.idx (.var 2) (.cst (.int 0))) (.idx (.var 3) (.cst (.int 0)))) [some (.int size), some (.tup xs), none, none, none, none, none]) (xs.length + 1) 0 h = .ok (((zipP xs (xs.drop 1)).map okLt).map .bl) h := by
          refine comp_bool okLt (fun i => zip_next' _ _ i _) (fun x hx => ?_) (zipP_len _ _)
          unfold zipP at hx
          obtain ⟨⟨a, b⟩, hab, rfl⟩ := List.mem_map.mp hx
          obtain ⟨ha, hb⟩ := List.of_mem_zip hab
          obtain ⟨i, d, rfl⟩ := okTm_of (ht' a ha)
          obtain ⟨j, d', rfl⟩ := okTm_of (ht' b (List.mem_of_mem_drop hb))
          simp only [okLt, kTurn, bindT, bindTs, seqOf, deref, wipeP, isNop, if_true, EV, EVB, kT2, noExc, atI_0, List.getElem?_cons_zero, List.getElem?_cons_succ, List.set_cons_zero, List.set_cons_succ]
        simp only [okTerms, EV, EVS, EVB, e, Bool.not_true, kLc, kLcW, hw, hln, guard_yes gsz, c1, all_map', hp, c2, ht, slc_1, hw3, hln3, c3, Bool.true_and, List.getElem?_cons_zero, List.getElem?_cons_succ]
      · have ht := Bool.eq_false_iff.mpr ht
        simp only [okTerms, EV, EVS, EVB, e, Bool.not_true, Bool.not_false, kLc, kLcW, hw, hln, guard_yes gsz, c1, all_map', hp, c2, ht, Bool.true_and, Bool.false_and, List.getElem?_cons_zero, List.getElem?_cons_succ]
    · have hp := Bool.eq_false_iff.mpr hp
      simp only [okTerms, EV, EVS, EVB, e, Bool.not_true, Bool.not_false, kLc, kLcW, hw, hln, guard_yes gsz, c1, all_map', hp, Bool.true_and, Bool.false_and, List.getElem?_cons_zero, List.getElem?_cons_succ]
  | _ =>
    simp only [isTup] at e
    simp only [okTerms, EV, EVS, EVB, e, Bool.not_false, List.getElem?_cons_zero, List.getElem?_cons_succ]
def okLoose (size : Int) (v : PV) : Bool := match v with
  | .tup [a, b] => okBt a 0 (size - 1) && okTerms size b
  | _ => false
theorem g_loose (n k : Nat) {size : Int} {v : PV} {h : PHeap} (f : fineB (k + 3) h v = true) : callN tb (n + 4) 5 [.int size, v] h = .ok (.bl (okLoose size v)) h := by
  rw [callN_at (n + 3) 5 _ h ir_is_loose_rule rfl rfl]
  show (evalSs (callN tb (n + 3)) ir_is_loose_rule.body [some (.int size), some v] h).res = _
  unfold ir_is_loose_rule
  have e1 := g_pair (n + 2) (k + 3) f
  cases hp : okPair v
  · rw [hp] at e1
    have : okLoose size v = false := by
      unfold okLoose
      split
      · cases hp
      · rfl
    simp only [this, EV, EVS, EVB, e1, List.getElem?_cons_zero, List.getElem?_cons_succ]
  · rw [hp] at e1
    obtain ⟨a, b, rfl⟩ := pair_of hp
    have fx := fine_mem f
    have e2 := g_btw (n + 1) (k + 2) (lo := 0) (hi := size - 1) (fx a List.mem_cons_self)
    have e3 := g_terms n k (size := size) (fx b (List.mem_cons_of_mem _ List.mem_cons_self))
    cases hb : okBt a 0 (size - 1)
    · rw [hb] at e2
      simp only [okLoose, hb, Bool.false_and, EV, EVS, EVB, e1, e2, atI_0, atI_1, List.getElem?_cons_zero, List.getElem?_cons_succ]
    · rw [hb] at e2
      simp only [okLoose, hb, Bool.true_and, EV, EVS, EVB, e1, e2, e3, atI_0, atI_1, List.getElem?_cons_zero, List.getElem?_cons_succ]
def okLooses (v : PV) : Bool := match v with
  | .tup [.int s, .tup rs] => okBt (.int s) 1 8 && rs.all (okLoose s)
  | _ => false
theorem g_looses (n k : Nat) {v : PV} {h : PHeap} (f : fineB (k + 5) h v = true) : callN tb (n + 5) 6 [v] h = .ok (.bl (okLooses v)) h := by
  rw [callN_at (n + 4) 6 _ h ir_is_loose_rules rfl rfl]
  show (evalSs (callN tb (n + 4)) ir_is_loose_rules.body [some v, none] h).res = _
  unfold ir_is_loose_rules
  have e1 := g_pair (n + 3) (k + 5) f
  cases hp : okPair v
  · rw [hp] at e1
    have : okLooses v = false := by
      unfold okLooses
      split
      · cases hp
      · rfl
    simp only [this, EV, EVS, EVB, e1, Bool.not_false, List.getElem?_cons_zero, List.getElem?_cons_succ]
  · rw [hp] at e1
    obtain ⟨a, b, rfl⟩ := pair_of hp
    have fx := fine_mem f
    have fb := fx b (List.mem_cons_of_mem _ List.mem_cons_self)
    have e2 := g_btw (n + 2) (k + 4) (lo := 1) (hi := 8) (fx a List.mem_cons_self)
    have e3 := isi_tup false fb
    cases hb : okBt a 1 8
    · rw [hb] at e2
      have : okLooses (.tup [a, b]) = false := by
        unfold okLooses
        split
        · rename_i s rs z
          cases z
          rw [hb]
          rfl
        · rfl
      simp only [this, EV, EVS, EVB, e1, e2, atI_0, Bool.not_false, Bool.not_true, List.getElem?_cons_zero, List.getElem?_cons_succ]
    · rw [hb] at e2
      cases a with
      | int s =>
        cases b with
        | tup rs =>
          simp only [isTup] at e3
          have gsz := fine_len fb
          have fm := fine_mem fb
          have hw : walkOf .seq [.tup rs] h = some (.one (.fixT rs)) := rfl
          have hln : (Walk.one (.fixT rs)).len h = rs.length := rfl
          have c1 : compN (.one (.fixT rs)) (kTurn (callN tb (n + 4)) [1] (.nm 1) .nop (.call 5 [(.idx (.var 0) (.cst (.int 0))), (.var 1)]) [some (.tup [.int s, .tup rs]), none]) (rs.length + 1) 0 h = .ok ((rs.map (okLoose s)).map .bl) h := by
            refine comp_bool (okLoose s) (fun i => fixT_next _ i _) (fun x hx => ?_) (Nat.le_refl _)
            have e := g_loose n k (size := s) (fm x hx)
            simp only [kTurn, bindT, wipeP, isNop, if_true, EV, EVB, kT2, noExc, atI_0, e, List.getElem?_cons_zero, List.getElem?_cons_succ, List.set_cons_zero, List.set_cons_succ]
          simp only [okLooses, hb, Bool.true_and, EV, EVS, EVB, e1, e2, e3, atI_0, atI_1, Bool.not_false, Bool.not_true, kLc, kLcW, hw, hln, guard_yes gsz, c1, all_map', List.getElem?_cons_zero, List.getElem?_cons_succ]
        | _ =>
          simp only [isTup] at e3
          simp only [okLooses, EV, EVS, EVB, e1, e2, e3, atI_0, atI_1, Bool.not_false, Bool.not_true, List.getElem?_cons_zero, List.getElem?_cons_succ]
      | _ => exact absurd hb Bool.false_ne_true
def okDl (t : PV) : Bool := match t with
  | .tup [_, d] => okBt d (-60) 59
  | _ => false
def okBy (size : Int) (v : PV) : Bool := match v with
  | .tup [a, .tup ts] => okLoose size (.tup [a, .tup ts]) && ts.all okDl
  | _ => false
theorem loose_of {size : Int} {v : PV} (h : okLoose size v = true) : ∃ a ts, v = .tup [a, .tup ts] ∧ ∀ t ∈ ts, ∃ i d, t = .tup [.int i, .int d] := by
  unfold okLoose at h
  split at h
  · rename_i a b
    rw [Bool.and_eq_true] at h
    cases b with
    | tup ts =>
      have h2 := h.2
      unfold okTerms at h2
      rw [Bool.and_eq_true, Bool.and_eq_true, List.all_eq_true, List.all_eq_true] at h2
      exact ⟨a, ts, rfl, fun t ht => okTm_of (h2.2.1 t ht)⟩
    | _ => exact absurd h.2 Bool.false_ne_true
  · cases h
theorem g_by (n k : Nat) {size : Int} {v : PV} {h : PHeap} (f : fineB (k + 3) h v = true) : callN tb (n + 5) 7 [.int size, v] h = .ok (.bl (okBy size v)) h := by
  rw [callN_at (n + 4) 7 _ h ir_is_rule_by rfl rfl]
  show (evalSs (callN tb (n + 4)) ir_is_rule_by.body [some (.int size), some v, none, none] h).res = _
  unfold ir_is_rule_by
  have e1 := g_loose n k (size := size) f
  cases hl : okLoose size v
  · rw [hl] at e1
    have : okBy size v = false := by
      unfold okBy
      split
      · rw [hl]; rfl
      · rfl
    simp only [this, EV, EVS, EVB, e1, List.getElem?_cons_zero, List.getElem?_cons_succ]
  · obtain ⟨a, ts, rfl, ht⟩ := loose_of hl
    rw [hl] at e1
    have fx := fine_mem f
    have fb := fx _ (List.mem_cons_of_mem _ List.mem_cons_self)
    have gsz := fine_len fb
    have fm := fine_mem fb
    have hw : walkOf .seq [.tup ts] h = some (.one (.fixT ts)) := rfl
    have hln : (Walk.one (.fixT ts)).len h = ts.length := rfl
    have c1 : compN (.one (.fixT ts)) (kTurn (callN tb (n + 4)) [2, 3] (.tp [(.nm 2), (.nm 3)]) .nop (.call 2 [(.var 3)]) [some (.int size), some (.tup [a, .tup ts]), none, none]) (ts.length + 1) 0 h = .ok ((ts.map okDl).map .bl) h := by
      refine comp_bool okDl (fun i => fixT_next _ i _) (fun x hx => ?_) (Nat.le_refl _)
      obtain ⟨i, d, rfl⟩ := ht x hx
      have e := g_delay (n + 1) 0 (v := .int d) (h := h) rfl
      simp only [okDl, kTurn, bindT, bindTs, seqOf, deref, wipeP, isNop, if_true, EV, EVB, kT2, noExc, e, List.getElem?_cons_zero, List.getElem?_cons_succ, List.set_cons_zero, List.set_cons_succ]
    simp only [okBy, hl, Bool.true_and, EV, EVS, EVB, e1, atI_1, kLc, kLcW, hw, hln, guard_yes gsz, c1, all_map', List.getElem?_cons_zero, List.getElem?_cons_succ]
def okSet (v : PV) : Bool := match v with
  | .tup [.int s, .tup rs] => okLooses (.tup [.int s, .tup rs]) && (decide (rs.length ≤ 24) && rs.all (okBy s))
  | _ => false
theorem looses_of {v : PV} (h : okLooses v = true) : ∃ s rs, v = .tup [.int s, .tup rs] := by
  unfold okLooses at h
  split at h
  · exact ⟨_, _, rfl⟩
  · cases h
theorem g_set (n k : Nat) {v : PV} {h : PHeap} (f : fineB (k + 5) h v = true) : callN tb (n + 6) 8 [v] h = .ok (.bl (okSet v)) h := by
  rw [callN_at (n + 5) 8 _ h ir_is_rule_set rfl rfl]
  show (evalSs (callN tb (n + 5)) ir_is_rule_set.body [some v, none] h).res = _
  unfold ir_is_rule_set
  have e1 := g_looses n k f
  cases hl : okLooses v
  · rw [hl] at e1
    have : okSet v = false := by
      unfold okSet
      split
      · rw [hl]; rfl
      · rfl
    simp only [this, EV, EVS, EVB, e1, Bool.not_false, List.getElem?_cons_zero, List.getElem?_cons_succ]
  · obtain ⟨s, rs, rfl⟩ := looses_of hl
    rw [hl] at e1
    have fx := fine_mem f
    have fb := fx _ (List.mem_cons_of_mem _ List.mem_cons_self)
    have gsz := fine_len fb
    have fm := fine_mem fb
    by_cases h24 : rs.length ≤ 24
    · have hgt : ¬ (24 : Int) < (rs.length : Nat) := by omega
      have hw : walkOf .seq [.tup rs] h = some (.one (.fixT rs)) := rfl
      have hln : (Walk.one (.fixT rs)).len h = rs.length := rfl
      have c1 : compN (.one (.fixT rs)) (kTurn (callN tb (n + 5)) [1] (.nm 1) .nop (.call 7 [(.idx (.var 0) (.cst (.int 0))), (.var 1)]) [some (.tup [.int s, .tup rs]), none]) (rs.length + 1) 0 h = .ok ((rs.map (okBy s)).map .bl) h := by
        refine comp_bool (okBy s) (fun i => fixT_next _ i _) (fun x hx => ?_) (Nat.le_refl _)
        have e := g_by n k (size := s) (fm x hx)
        simp only [kTurn, bindT, wipeP, isNop, if_true, EV, EVB, kT2, noExc, atI_0, e, List.getElem?_cons_zero, List.getElem?_cons_succ, List.set_cons_zero, List.set_cons_succ]
      simp only [okSet, hl, h24, decide_true, Bool.true_and, EV, EVS, EVB, e1, Bool.not_true, atI_0, atI_1, len_tup, hgt, decide_false, kLc, kLcW, hw, hln, guard_yes gsz, c1, all_map', List.getElem?_cons_zero, List.getElem?_cons_succ]
    · have hgt : (24 : Int) < (rs.length : Nat) := by omega
      simp only [okSet, hl, h24, decide_false, decide_true, Bool.true_and, Bool.false_and, EV, EVS, EVB, e1, Bool.not_true, atI_1, len_tup, hgt, List.getElem?_cons_zero, List.getElem?_cons_succ]
theorem g_check (n k : Nat) {v : PV} {h : PHeap} (f : fineB (k + 5) h v = true) : callN tb (n + 7) 9 [v] h = if okSet v = true then .ok .non h else .exc ⟨1, none⟩ h := by
  rw [callN_at (n + 6) 9 _ h ir_check_rules rfl rfl]
  show (evalSs (callN tb (n + 6)) ir_check_rules.body [some v] h).res = _
  unfold ir_check_rules
  have e1 := g_set n k f
  cases hs : okSet v
  · rw [hs] at e1
    simp only [EV, EVS, EVB, EVX, e1, Bool.not_false, List.getElem?_cons_zero, List.getElem?_cons_succ]
    rfl
  · rw [hs] at e1
    simp only [EV, EVS, EVB, e1, Bool.not_true, List.getElem?_cons_zero, List.getElem?_cons_succ]
    rfl
/-! .. on data made of numbers -/
theorem asc_zip : ∀ ts : List Tm, (zipP (ts.map tmP) ((ts.map tmP).drop 1)).all okLt = ascB ts
  | [] => rfl
  | [a] => by
    unfold ascB
    rw [decide_eq_true (List.pairwise_singleton _ _)]
    rfl
  | a :: b :: r => by
    have ih := asc_zip (b :: r)
    have e : (zipP ((a :: b :: r).map tmP) (((a :: b :: r).map tmP).drop 1)).all okLt = (decide (a.1 < b.1) && (zipP ((b :: r).map tmP) (((b :: r).map tmP).drop 1)).all okLt) := rfl
    rw [e, ih]
    unfold ascB
    rw [Bool.eq_iff_iff, Bool.and_eq_true, decide_eq_true_eq, decide_eq_true_eq, decide_eq_true_eq, List.pairwise_cons (a := a)]
    constructor
    · rintro ⟨h1, h2⟩
      refine ⟨fun x hx => ?_, h2⟩
      rcases List.mem_cons.mp hx with rfl | hx
      · exact h1
      · have := (List.pairwise_cons.mp h2).1 x hx
        omega
    · rintro ⟨h1, h2⟩
      exact ⟨h1 b List.mem_cons_self, h2⟩
theorem ok_bt (i lo hi : Int) : okBt (.int i) lo hi = decide (lo ≤ i ∧ i ≤ hi) := by
  show (decide (lo ≤ i) && decide (i ≤ hi)) = _
  rw [Bool.decide_and]
theorem bt_lt (i s : Int) : okBt (.int i) 0 (s - 1) = decide (0 ≤ i ∧ i < s) := by
  rw [ok_bt]
  exact decide_eq_decide.mpr (by omega)
theorem ok_loose (s : Int) (r : Ru) : okLoose s (ruP r) = loB s r := by
  have e : okLoose s (ruP r) = (okBt (.int r.1) 0 (s - 1) && ((r.2.map tmP).all okPair && ((r.2.map tmP).all (okTm s) && (zipP (r.2.map tmP) ((r.2.map tmP).drop 1)).all okLt))) := rfl
  have e1 : (r.2.map tmP).all okPair = true := List.all_eq_true.mpr fun x hx => by
    obtain ⟨t, _, rfl⟩ := List.mem_map.mp hx
    rfl
  have e2 : (r.2.map tmP).all (okTm s) = r.2.all fun t => decide (0 ≤ t.1 ∧ t.1 < s) := by
    rw [List.all_map]
    congr 1
    funext t
    show (okBt (.int t.1) 0 (s - 1) && isI (.int t.2)) = _
    rw [bt_lt]
    exact Bool.and_true _
  rw [e, e1, e2, asc_zip, bt_lt]
  unfold loB
  rw [Bool.true_and, Bool.and_assoc]
theorem ok_by (s : Int) (r : Ru) : okBy s (ruP r) = ruB s r := by
  have e : okBy s (ruP r) = (okLoose s (ruP r) && (r.2.map tmP).all okDl) := rfl
  have e2 : (r.2.map tmP).all okDl = r.2.all fun t => decide (-60 ≤ t.2 ∧ t.2 ≤ 59) := by
    rw [List.all_map]
    congr 1
    funext t
    exact ok_bt t.2 (-60) 59
  rw [e, e2, ok_loose]
  rfl
theorem ok_set (s : Int) (rs : List Ru) : okSet (rsP s rs) = rsB s rs := by
  have e : okSet (rsP s rs) = ((okBt (.int s) 1 8 && (rs.map ruP).all (okLoose s)) && (decide ((rs.map ruP).length ≤ 24) && (rs.map ruP).all (okBy s))) := rfl
  have e1 : (rs.map ruP).all (okLoose s) = rs.all fun r => loB s r := by
    rw [List.all_map]
    congr 1
    funext r
    exact ok_loose s r
  have e2 : (rs.map ruP).all (okBy s) = rs.all fun r => ruB s r := by
    rw [List.all_map]
    congr 1
    funext r
    exact ok_by s r
  rw [e, e1, e2, ok_bt, List.length_map]
  unfold rsB
  simp only [Bool.and_assoc]
theorem fine_int (n : Nat) (h : PHeap) (i : Int) : fineB n h (.int i) = true := by cases n <;> rfl
theorem fine_tm (n : Nat) (h : PHeap) (t : Tm) : fineB n h (tmP t) = true := by
  cases n with
  | zero => rfl
  | succ n =>
    show (decide (2 ≤ szB) && (fineB n h (.int t.1) && (fineB n h (.int t.2) && true))) = true
    rw [fine_int, fine_int]
    decide
theorem fine_ts (n : Nat) (h : PHeap) (ts : List Tm) (hl : ts.length ≤ szB) : fineB n h (tsP ts) = true := by
  cases n with
  | zero => rfl
  | succ n =>
    show (decide ((ts.map tmP).length ≤ szB) && (ts.map tmP).all (fineB n h)) = true
    rw [List.length_map, decide_eq_true hl, Bool.true_and, List.all_eq_true]
    intro x hx
    obtain ⟨t, _, rfl⟩ := List.mem_map.mp hx
    exact fine_tm n h t
theorem fine_ru (n : Nat) (h : PHeap) (r : Ru) (hl : r.2.length ≤ szB) : fineB n h (ruP r) = true := by
  cases n with
  | zero => rfl
  | succ n =>
    show (decide (2 ≤ szB) && (fineB n h (.int r.1) && (fineB n h (tsP r.2) && true))) = true
    rw [fine_int, fine_ts n h r.2 hl]
    decide
theorem fine_rus (n : Nat) (h : PHeap) (rs : List Ru) (hl : rs.length ≤ szB) (hr : ∀ r ∈ rs, r.2.length ≤ szB) : fineB n h (.tup (rs.map ruP)) = true := by
  cases n with
  | zero => rfl
  | succ n =>
    show (decide ((rs.map ruP).length ≤ szB) && (rs.map ruP).all (fineB n h)) = true
    rw [List.length_map, decide_eq_true hl, Bool.true_and, List.all_eq_true]
    intro x hx
    obtain ⟨r, hr', rfl⟩ := List.mem_map.mp hx
    exact fine_ru n h r (hr r hr')
theorem fine_rs (n : Nat) (h : PHeap) (s : Int) (rs : List Ru) (hl : rs.length ≤ szB) (hr : ∀ r ∈ rs, r.2.length ≤ szB) : fineB n h (rsP s rs) = true := by
  cases n with
  | zero => rfl
  | succ n =>
    show (decide (2 ≤ szB) && (fineB n h (.int s) && (fineB n h (.tup (rs.map ruP)) && true))) = true
    rw [fine_int, fine_rus n h rs hl hr]
    decide
end K85
end

section
set_option Elab.async false
set_option linter.all false
set_option maxRecDepth 100000
set_option maxHeartbeats 1000000
/-! lengths -/
namespace Rf
open PySem PySem.Builtin PySem.Builtin.Str PySem.StrLaws
theorem join_len (y : PySem.Str) : ∀ qs : List PySem.Str, qs ≠ [] → (Str.join y qs).length + y.length = (qs.map (·.length)).sum + qs.length * y.length
  | [], h => absurd rfl h
  | [q], _ => by
    show q.length + y.length = (q.length + 0) + 1 * y.length
    omega
  | q :: r :: rs, _ => by
    have ih := join_len y (r :: rs) (List.cons_ne_nil _ _)
    show (q ++ y ++ Str.join y (r :: rs)).length + y.length = (q.length + ((r :: rs).map (·.length)).sum) + ((r :: rs).length + 1) * y.length
    rw [Str.length_append, Str.length_append, Nat.succ_mul]
    omega
theorem sum_mem {n : Nat} : ∀ {ns : List Nat}, n ∈ ns → n ≤ ns.sum
  | m :: ms, h => by
    rw [List.sum_cons]
    rcases List.mem_cons.mp h with rfl | h
    · omega
    · have := sum_mem h; omega
theorem split_len (x : PySem.Str) {y : PySem.Str} (hy : 1 ≤ y.length) : (Txt.split x y).length ≤ x.length + 1 ∧ ∀ q ∈ Txt.split x y, q.length ≤ x.length := by
  have e := join_len y (Txt.split x y) (split_ne x y)
  rw [join_split] at e
  obtain ⟨k, hk⟩ : ∃ k, (Txt.split x y).length = k + 1 := by
    have h0 := split_ne x y
    cases h : Txt.split x y with
    | nil => exact absurd h h0
    | cons p r => exact ⟨r.length, rfl⟩
  rw [hk, Nat.succ_mul] at e
  have hm : k ≤ k * y.length := Nat.le_mul_of_pos_right k hy
  refine ⟨by omega, fun q hq => ?_⟩
  have := sum_mem (List.mem_map_of_mem (f := fun z : PySem.Str => z.length) hq)
  omega
theorem sub_le (x : PySem.Str) (a b : Nat) : (strSub x a b).length ≤ x.length := by
  have h1 : (strSub x a b).length = (strSub x a b).cps.toList.length := by rw [Array.length_toList]; rfl
  have h2 : x.length = x.cps.toList.length := by rw [Array.length_toList]; rfl
  rw [h1, h2, strSub_toList, List.length_take, List.length_drop]
  omega
theorem part_le (x y : PySem.Str) : (Txt.partition x y).1.length ≤ x.length ∧ (Txt.partition x y).2.2.length ≤ x.length := by
  unfold Txt.partition
  split
  · exact ⟨sub_le _ _ _, sub_le _ _ _⟩
  · exact ⟨Nat.le_refl _, Nat.zero_le _⟩
theorem dgO_none {x : PySem.Str} (h : ¬ (1 ≤ x.length ∧ x.length ≤ 2 ∧ ∀ c ∈ x.cps.toList, isD c = true)) : dgO x = none := by
  cases e : dgO x with
  | none => rfl
  | some n =>
    have k := dg_ok e
    exact absurd ⟨k.l1, k.l2, k.dig⟩ h
end Rf
end

section
set_option Elab.async false
set_option linter.all false
set_option maxRecDepth 100000
set_option maxHeartbeats 4000000
namespace K85
open PySem Rf
/-! any text, read -/
def exP : PX := ⟨2, none⟩
def oR {β : Type} (p : β → PV) (x : PX) (h : PHeap) (o : Option β) : Res (Option PV) := match o with
  | some b => .ok (some (p b)) h
  | none => .exc x h
def oRs {β : Type} (p : β → PV) (x : PX) (h : PHeap) (o : Option (List β)) : Res (List PV) := match o with
  | some bs => .ok (bs.map p) h
  | none => .exc x h
theorem comp_opt {w : Walk} {α β : Type} {xs : List α} {f : α → PV} {g : α → Option β} {p : β → PV} {turn : PV → PHeap → Res (Option PV)} {x : PX} {h : PHeap} (hw : ∀ i, w.next i h = some (xs.map f)[i]?)
    (hs : ∀ a ∈ xs, turn (f a) h = oR p x h (g a)) :
    compN w turn ((xs.map f).length + 1) 0 h = oRs p x h (mapO g xs) := by
  have key : ∀ (ys zs : List α), xs = zs ++ ys → compN w turn (ys.length + 1) zs.length h = oRs p x h (mapO g ys) := by
    intro ys
    induction ys with
    | nil =>
      intro zs e
      rw [List.append_nil] at e
      subst e
      have e0 : w.next xs.length h = some none := by rw [hw, List.getElem?_eq_none (by rw [List.length_map]; exact Nat.le_refl _)]
      show compN w turn 1 xs.length h = _
      simp only [compN, e0]
      rfl
    | cons y ys ih =>
      intro zs e
      have hx : (xs.map f)[zs.length]? = some (f y) := by rw [List.getElem?_map, e, List.getElem?_append_right (Nat.le_refl _), Nat.sub_self]; rfl
      have ih' := ih (zs ++ [y]) (by rw [e, List.append_assoc]; rfl)
      rw [List.length_append] at ih'
      have hy := hs y (by rw [e]; simp)
      have e2 : compN w turn (ys.length + 1) (zs.length + 1) h = _ := ih'
      rw [List.length_cons, compN]
      unfold mapO
      cases hg : g y with
      | none =>
        rw [hg] at hy
        simp only [hw, hx, hy, Res.bind, oR, oRs]
      | some b =>
        rw [hg] at hy
        cases hm : mapO g ys with
        | none =>
          rw [hm] at e2
          simp only [hw, hx, hy, Res.bind, e2, oR, oRs]
        | some bs =>
          rw [hm] at e2
          simp only [hw, hx, hy, Res.bind, e2, oR, oRs, Option.toList]
          rfl
  rw [List.length_map]
  exact key xs [] rfl
def gD (v : PV) : Bool := match v with
  | .str z => match z.cps.toList with
    | [c] => isD c
    | _ => false
  | _ => false
theorem in_digB (h : PHeap) (c : Nat) : cmpP .in_ h (.str ⟨#[c]⟩) (.str ("0123456789" : PySem.Str)) = some (isD c) := by
  show some (!(Builtin.Str.occurrences ("0123456789" : PySem.Str) ⟨#[c]⟩ 0 ("0123456789" : PySem.Str).length 1).isEmpty) = _
  rw [StrLaws.found_one, show ("0123456789" : PySem.Str).cps.toList = [48, 49, 50, 51, 52, 53, 54, 55, 56, 57] by decide +kernel]
  congr 1
  unfold isD
  refine decide_eq_decide.mpr ?_
  simp only [List.mem_cons, List.not_mem_nil, or_false]
  omega
theorem all_gD (x : PySem.Str) : ((x.cps.toList.map fun c => PV.str ⟨#[c]⟩).all gD) = x.cps.toList.all isD := by
  rw [List.all_map]
  rfl
def rsDg (o : Option Int) (h : PHeap) : Res PV := match o with
  | some i => .ok (.int i) h
  | none => .exc exP h
theorem num_gen (n : Nat) (x : PySem.Str) (h : PHeap) : callN tb (n + 1) 10 [.str x] h = rsDg (dgO x) h := by
  rw [callN_at n 10 _ h ir_number_of rfl rfl]
  show (evalSs (callN tb n) ir_number_of.body [some (.str x), none] h).res = _
  unfold ir_number_of
  by_cases l1 : 1 ≤ x.length
  · by_cases l2 : x.length ≤ 2
    · have k1 : (1 : Int) ≤ (x.length : Nat) := by omega
      have k2 : ((x.length : Nat) : Int) ≤ 2 := by omega
      have hw : walkOf .seq [.str x] h = some (.str x) := rfl
      have hln : (Walk.str x).len h = (x.cps.toList.map fun c => PV.str ⟨#[c]⟩).length := by rw [List.length_map, Array.length_toList]; rfl
      have gsz : (x.cps.toList.map fun c => PV.str ⟨#[c]⟩).length ≤ szB := by
        rw [List.length_map, Array.length_toList]
        have : x.cps.size ≤ 2 := l2
        unfold szB
        omega
      have c1 : compN (.str x) (kTurn (callN tb n) [1] (.nm 1) .nop (.cmp .in_ (.var 1) (.glb (("DIGITS" : Str)) (.str (("0123456789" : Str))))) [some (.str x), none]) ((x.cps.toList.map fun c => PV.str ⟨#[c]⟩).length + 1) 0 h = .ok (((x.cps.toList.map fun c => PV.str ⟨#[c]⟩).map gD).map .bl) h := by
        refine comp_bool gD (fun i => str_next _ i _) (fun y hy => ?_) (Nat.le_refl _)
        obtain ⟨c, _, rfl⟩ := List.mem_map.mp hy
        have eg : gD (.str ⟨#[c]⟩) = isD c := rfl
        simp only [kTurn, bindT, wipeP, isNop, if_true, EV, EVB, kT2, noExc, in_digB, eg, List.getElem?_cons_zero, List.getElem?_cons_succ, List.set_cons_zero, List.set_cons_succ]
      cases hd : x.cps.toList.all isD
      · have e : dgO x = none := dgO_none fun z => by
          rw [List.all_eq_true.mpr z.2.2] at hd
          cases hd
        rw [e]
        simp only [EV, EVS, EVB, EVX, len_str, k1, k2, decide_true, Bool.not_true, Bool.not_false, kLc, kLcW, hw, hln, guard_yes gsz, c1, all_map', all_gD, hd, List.getElem?_cons_zero, List.getElem?_cons_succ]
        rfl
      · obtain ⟨i, e⟩ := dg_of l1 l2 (List.all_eq_true.mp hd)
        have ei : biOp .int false [.str x] h = .ok (.int i) h := by
          show orStuck (PySem.intText? x) (fun k => guardR (x.length ≤ 640) (Res.ok (PV.int k) h)) = _
          rw [(dg_ok e).rd]
          show guardR (x.length ≤ 640) (Res.ok (PV.int i) h) = _
          rw [guard_yes (by omega)]
        rw [e]
        simp only [EV, EVS, EVB, len_str, k1, k2, decide_true, Bool.not_true, kLc, kLcW, hw, hln, guard_yes gsz, c1, all_map', all_gD, hd, ei, List.getElem?_cons_zero, List.getElem?_cons_succ]
        rfl
    · have k1 : (1 : Int) ≤ (x.length : Nat) := by omega
      have k2 : ¬ ((x.length : Nat) : Int) ≤ 2 := by omega
      have e : dgO x = none := dgO_none fun z => l2 z.2.1
      rw [e]
      simp only [EV, EVS, EVB, EVX, len_str, k1, k2, decide_true, decide_false, Bool.not_false, List.getElem?_cons_zero, List.getElem?_cons_succ]
      rfl
  · have k1 : ¬ (1 : Int) ≤ (x.length : Nat) := by omega
    have e : dgO x = none := dgO_none fun z => l1 z.1
    rw [e]
    simp only [EV, EVS, EVB, EVX, len_str, k1, decide_false, Bool.not_false, List.getElem?_cons_zero, List.getElem?_cons_succ]
    rfl
def rsTm (o : Option Tm) (h : PHeap) : Res PV := match o with
  | some t => .ok (tmP t) h
  | none => .exc exP h
theorem m_part' {x y : PySem.Str} (h : PHeap) (hy : (y.length == 0) = false) : mthOp .partition (.str x) [.str y] h = .ok (.tup [.str (Txt.partition x y).1, .str (Txt.partition x y).2.1, .str (Txt.partition x y).2.2]) h := m_part h hy rfl
theorem cut_len (x : PySem.Str) : ((cutM x).length == 0) = false := by
  unfold cutM
  split
  · rw [cps_len lit_minus]; rfl
  · rw [cps_len lit_plus]; rfl
theorem term_gen (n : Nat) (x : PySem.Str) (h : PHeap) : callN tb (n + 2) 14 [.str x] h = rsTm (tmO x) h := by
  rw [callN_at (n + 1) 14 _ h ir_term_of rfl rfl]
  show (evalSs (callN tb (n + 1)) ir_term_of.body [some (.str x), none, none, none, none] h).res = _
  unfold ir_term_of
  have hp := m_part' (x := x) h (cut_len x)
  have ein : cmpP .in_ h (.str ("-" : PySem.Str)) (.str x) = some (hasM x) := rfl
  have ec : ∀ ρ, evalE (callN tb (n + 1)) (.ite (.cmp .in_ (.cst (.str (("-" : Str)))) (.var 0)) (.cst (.str (("-" : Str)))) (.cst (.str (("+" : Str))))) (some (.str x) :: ρ) h = .ok (.str (cutM x)) h := by
    intro ρ
    unfold cutM
    cases hm : hasM x
    · rw [hm] at ein
      simp only [EV, EVB, ein, List.getElem?_cons_zero]
      rfl
    · rw [hm] at ein
      simp only [EV, EVB, ein, List.getElem?_cons_zero]
      rfl
  have e1 := num_gen n (Txt.partition x (cutM x)).2.2 h
  have e2 := num_gen n (Txt.partition x (cutM x)).1 h
  unfold tmO
  generalize (Txt.partition x (cutM x)).1 = a at *
  generalize (Txt.partition x (cutM x)).2.1 = b at *
  generalize (Txt.partition x (cutM x)).2.2 = c at *
  generalize E.ite (.cmp .in_ (.cst (.str (("-" : Str)))) (.var 0)) (.cst (.str (("-" : Str)))) (.cst (.str (("+" : Str)))) = EE at *
  cases hc : dgO c with
  | none =>
    rw [hc] at e1
    simp only [EV, EVS, EVB, EVX, kMth_of (pre_part _ _), ec, hp, bindT, bindTs, seqOf, deref, e1, rsDg, rsTm, List.getElem?_cons_zero, List.getElem?_cons_succ, List.set_cons_zero, List.set_cons_succ]
  | some j =>
    rw [hc] at e1
    cases ha : dgO a with
    | none =>
      rw [ha] at e2
      simp only [EV, EVS, EVB, EVX, kMth_of (pre_part _ _), ec, hp, bindT, bindTs, seqOf, deref, e1, e2, rsDg, rsTm, List.getElem?_cons_zero, List.getElem?_cons_succ, List.set_cons_zero, List.set_cons_succ]
    | some i =>
      rw [ha] at e2
      by_cases hb : b = ("-" : PySem.Str)
      · simp only [EV, EVS, EVB, EVX, kMth_of (pre_part _ _), ec, hp, bindT, bindTs, seqOf, deref, e1, e2, rsDg, rsTm, cmp_eq_str, hb, decide_true, guard_yes (two_le _ _), if_true, List.getElem?_cons_zero, List.getElem?_cons_succ, List.set_cons_zero, List.set_cons_succ]
        rfl
      · simp only [EV, EVS, EVB, EVX, kMth_of (pre_part _ _), ec, hp, bindT, bindTs, seqOf, deref, e1, e2, rsDg, rsTm, cmp_eq_str, hb, decide_false, guard_yes (two_le _ _), if_false, List.getElem?_cons_zero, List.getElem?_cons_succ, List.set_cons_zero, List.set_cons_succ]
        rfl
def rsRu (o : Option Ru) (h : PHeap) : Res PV := match o with
  | some t => .ok (ruP t) h
  | none => .exc exP h
theorem rule_gen (n : Nat) (x : PySem.Str) (h : PHeap) (hl : x.length + 2 ≤ szB) : callN tb (n + 3) 15 [.str x] h = rsRu (ruO x) h := by
  rw [callN_at (n + 2) 15 _ h ir_rule_of rfl rfl]
  show (evalSs (callN tb (n + 2)) ir_rule_of.body [some (.str x), none, none, none, none, none] h).res = _
  unfold ir_rule_of
  have hp := m_part' (x := x) (y := (" <= " : PySem.Str)) h (by rw [cps_len lit_le]; rfl)
  have hc3 := (part_le x (" <= " : PySem.Str)).2
  have e1 := num_gen (n + 1) (Txt.partition x (" <= " : PySem.Str)).1 h
  unfold ruO
  generalize (Txt.partition x (" <= " : PySem.Str)).1 = a at *
  generalize (Txt.partition x (" <= " : PySem.Str)).2.1 = b at *
  generalize (Txt.partition x (" <= " : PySem.Str)).2.2 = c at *
  by_cases h0 : c = ("never" : PySem.Str)
  · have et : tsO c = some [] := if_pos h0
    rw [et]
    cases ha : dgO a with
    | none =>
      rw [ha] at e1
      simp only [EV, EVS, EVB, EVX, kMth_of (pre_part _ _), hp, bindT, bindTs, seqOf, deref, cmp_eq_str, h0, decide_true, guard_yes nil_le, e1, rsDg, rsRu, List.getElem?_cons_zero, List.getElem?_cons_succ, List.set_cons_zero, List.set_cons_succ]
    | some i =>
      rw [ha] at e1
      simp only [EV, EVS, EVB, EVX, kMth_of (pre_part _ _), hp, bindT, bindTs, seqOf, deref, cmp_eq_str, h0, decide_true, guard_yes nil_le, e1, rsDg, rsRu, tuple_lst, guard_yes (two_le _ _), List.getElem?_cons_zero, List.getElem?_cons_succ, List.set_cons_zero, List.set_cons_succ]
      rfl
  · have et : tsO c = mapO tmO (Txt.split c (" | " : PySem.Str)) := if_neg h0
    rw [et]
    have hb3 : (" | " : PySem.Str).length = 3 := cps_len lit_bar
    have hsp := m_split (x := c) (y := (" | " : PySem.Str)) h (by rw [hb3]; rfl) (by omega) rfl
    have hsl := (split_len c (y := (" | " : PySem.Str)) (by omega)).1
    generalize Txt.split c (" | " : PySem.Str) = ps at *
    have hw : walkOf .seq [.lst (ps.map .str)] h = some (.one (.fixL (ps.map .str))) := rfl
    have hln : (Walk.one (.fixL (ps.map .str))).len h = (ps.map PV.str).length := rfl
    have gsz : (ps.map PV.str).length ≤ szB := by rw [List.length_map]; omega
    have c1 : compN (.one (.fixL (ps.map .str))) (kTurnX (callN tb (n + 2)) [5] (.nm 5) .nop (.call 14 [(.var 5)]) [some (.str x), none, some (.str a), some (.str b), some (.str c), none]) ((ps.map PV.str).length + 1) 0 h = oRs tmP exP h (mapO tmO ps) := by
      refine comp_opt (fun i => fixL_next _ i _) fun t _ => ?_
      have e := term_gen n t h
      simp only [kTurnX, bindT, wipeP, isNop, if_true, EV, EVB, kT2, e, List.getElem?_cons_zero, List.getElem?_cons_succ, List.set_cons_zero, List.set_cons_succ]
      cases tmO t <;> rfl
    cases hm : mapO tmO ps with
    | none =>
      rw [hm] at c1
      simp only [EV, EVS, EVB, EVX, kMth_of (pre_part _ _), hp, bindT, bindTs, seqOf, deref, cmp_eq_str, h0, decide_false, kMth_of (pre_split _ _), hsp, kLcX, kLcWX, hw, hln, guard_yes gsz, c1, oRs, rsRu, List.getElem?_cons_zero, List.getElem?_cons_succ, List.set_cons_zero, List.set_cons_succ]
    | some ts =>
      rw [hm] at c1
      cases ha : dgO a with
      | none =>
        rw [ha] at e1
        simp only [EV, EVS, EVB, EVX, kMth_of (pre_part _ _), hp, bindT, bindTs, seqOf, deref, cmp_eq_str, h0, decide_false, kMth_of (pre_split _ _), hsp, kLcX, kLcWX, hw, hln, guard_yes gsz, c1, oRs, e1, rsDg, rsRu, List.getElem?_cons_zero, List.getElem?_cons_succ, List.set_cons_zero, List.set_cons_succ]
      | some i =>
        rw [ha] at e1
        simp only [EV, EVS, EVB, EVX, kMth_of (pre_part _ _), hp, bindT, bindTs, seqOf, deref, cmp_eq_str, h0, decide_false, kMth_of (pre_split _ _), hsp, kLcX, kLcWX, hw, hln, guard_yes gsz, c1, oRs, e1, rsDg, rsRu, tuple_lst, guard_yes (two_le _ _), List.getElem?_cons_zero, List.getElem?_cons_succ, List.set_cons_zero, List.set_cons_succ]
        rfl
end K85
end

section
set_option Elab.async false
set_option linter.all false
set_option maxRecDepth 100000
set_option maxHeartbeats 1000000
/-! lists that were read -/
namespace Rf
open PySem PySem.Builtin PySem.Builtin.Str PySem.StrLaws
theorem mapO_len {α β : Type} {g : α → Option β} : ∀ {xs : List α} {ys : List β}, mapO g xs = some ys → ys.length = xs.length ∧ ∀ y ∈ ys, ∃ x ∈ xs, g x = some y
  | [], ys, e => by unfold mapO at e; cases e; exact ⟨rfl, fun _ z => (List.not_mem_nil z).elim⟩
  | x :: xs, ys, e => by
    unfold mapO at e
    split at e
    · rename_i b bs e1 e2
      cases e
      obtain ⟨h1, h2⟩ := mapO_len e2
      refine ⟨by rw [List.length_cons, List.length_cons, h1], fun y hy => ?_⟩
      rcases List.mem_cons.mp hy with rfl | hy
      · exact ⟨x, List.mem_cons_self, e1⟩
      · obtain ⟨z, hz, ez⟩ := h2 y hy
        exact ⟨z, List.mem_cons_of_mem _ hz, ez⟩
    · cases e
theorem ruO_len {x : PySem.Str} {r : Ru} (h : ruO x = some r) : r.2.length ≤ x.length + 1 := by
  unfold ruO at h
  split at h
  · rename_i ts a e1 e2
    cases h
    unfold tsO at e1
    split at e1
    · cases e1
      exact Nat.zero_le _
    · obtain ⟨h1, _⟩ := mapO_len e1
      have h2 := (split_len (Txt.partition x (" <= " : PySem.Str)).2.2 (y := (" | " : PySem.Str)) (by rw [cps_len lit_bar]; decide)).1
      have h3 := (part_le x (" <= " : PySem.Str)).2
      show ts.length ≤ _
      omega
  · cases h
theorem rsO_len {x : PySem.Str} {p : Int × List Ru} (h : rsO x = some p) : p.2.length ≤ x.length ∧ ∀ r ∈ p.2, r.2.length ≤ x.length + 1 := by
  unfold rsO at h
  split at h
  · rename_i n rs e1 e2
    cases h
    obtain ⟨h1, h2⟩ := mapO_len e2
    have h3 := split_len x (y := ("; " : PySem.Str)) (by rw [cps_len lit_semi]; decide)
    refine ⟨?_, fun r hr => ?_⟩
    · show rs.length ≤ _
      rw [h1, List.length_tail]
      omega
    · obtain ⟨q, hq, e⟩ := h2 r hr
      have := ruO_len e
      have := h3.2 q (List.mem_of_mem_tail hq)
      omega
  · cases h
end Rf
end

section
set_option Elab.async false
set_option linter.all false
set_option maxRecDepth 100000
set_option maxHeartbeats 4000000
namespace K85
open PySem Rf
def rsPr (o : Option (Int × List Ru)) (h : PHeap) : Res PV := match o with
  | some p => .ok (rsP p.1 p.2) h
  | none => .exc exP h
theorem parse_gen (n : Nat) (x : PySem.Str) (h : PHeap) (hl : x.length ≤ 1000000) : callN tb (n + 7) 18 [.str x] h = rsPr (prO x) h := by
  rw [callN_at (n + 6) 18 _ h ir_parse_rules rfl rfl]
  show (evalSs (callN tb (n + 6)) ir_parse_rules.body [some (.str x), none, none, none, none] h).res = _
  unfold ir_parse_rules
  have h2 : ("; " : PySem.Str).length = 2 := cps_len lit_semi
  have hsp := m_split (x := x) (y := ("; " : PySem.Str)) h (by rw [h2]; rfl) (by unfold szB; omega) rfl
  have hsl := split_len x (y := ("; " : PySem.Str)) (by omega)
  have hne := split_ne x ("; " : PySem.Str)
  have hro : rsO x = match dgO (headS (Txt.split x ("; " : PySem.Str))), mapO ruO (Txt.split x ("; " : PySem.Str)).tail with
    | some n, some rs => some (n, rs)
    | _, _ => none := rfl
  have hfl := fun p (e : rsO x = some p) => rsO_len e
  unfold prO
  cases hps : Txt.split x ("; " : PySem.Str) with
  | nil => exact absurd hps hne
  | cons q qs =>
    rw [hps] at hsp hsl hro
    have hq : headS (q :: qs) = q := rfl
    have ht : (q :: qs).tail = qs := rfl
    rw [hq, ht] at hro
    rw [List.map_cons] at hsp
    have hb : bindT h (.tps [(.nm 2)] 3) (.lst (.str q :: qs.map .str)) [some (.str x), none, none, none, none] = some [some (.str x), none, some (.str q), some (.lst (qs.map .str)), none] := rfl
    have e1 := num_gen (n + 5) q h
    have hw : walkOf .seq [.lst (qs.map .str)] h = some (.one (.fixL (qs.map .str))) := rfl
    have hln : (Walk.one (.fixL (qs.map .str))).len h = (qs.map PV.str).length := rfl
    have gsz : (qs.map PV.str).length ≤ szB := by
      have := hsl.1
      rw [List.length_cons] at this
      rw [List.length_map]
      unfold szB
      omega
    have c1 : compN (.one (.fixL (qs.map .str))) (kTurnX (callN tb (n + 6)) [4] (.nm 4) .nop (.call 15 [(.var 4)]) [some (.str x), none, some (.str q), some (.lst (qs.map .str)), none]) ((qs.map PV.str).length + 1) 0 h = oRs ruP exP h (mapO ruO qs) := by
      refine comp_opt (fun i => fixL_next _ i _) fun t ht => ?_
      have e := rule_gen (n + 3) t h (by have := hsl.2 t (List.mem_cons_of_mem _ ht); unfold szB; omega)
      simp only [kTurnX, bindT, wipeP, isNop, if_true, EV, EVB, kT2, e, List.getElem?_cons_zero, List.getElem?_cons_succ, List.set_cons_zero, List.set_cons_succ]
      cases ruO t <;> rfl
    cases hd : dgO q with
    | none =>
      rw [hd] at e1 hro
      rw [hro]
      simp only [EV, EVS, EVB, EVX, chk_text (n + 5), kMth_of (pre_split _ _), hsp, hb, e1, rsDg, rsPr, List.getElem?_cons_zero, List.getElem?_cons_succ, List.set_cons_zero, List.set_cons_succ]
    | some s =>
      rw [hd] at e1 hro
      cases hm : mapO ruO qs with
      | none =>
        rw [hm] at c1 hro
        rw [hro]
        simp only [EV, EVS, EVB, EVX, chk_text (n + 5), kMth_of (pre_split _ _), hsp, hb, e1, rsDg, rsPr, kLcX, kLcWX, hw, hln, guard_yes gsz, c1, oRs, List.getElem?_cons_zero, List.getElem?_cons_succ, List.set_cons_zero, List.set_cons_succ]
      | some rs =>
        rw [hm] at c1 hro
        have hf := hfl _ hro
        have f : fineB 5 h (rsP s rs) = true := fine_rs 5 h s rs (by have : rs.length ≤ x.length := hf.1; unfold szB; omega) fun r hr => by have := hf.2 r hr; unfold szB; omega
        have e2 : callN tb (n + 6) 8 [.tup [.int s, .tup (rs.map ruP)]] h = .ok (.bl (rsB s rs)) h := by
          rw [← ok_set]
          exact g_set n 0 f
        rw [hro]
        show _ = rsPr (if rsB s rs = true ∧ rsT s rs = x then some (s, rs) else none) h
        cases hv : rsB s rs
        · rw [hv] at e2
          rw [if_neg fun z => Bool.false_ne_true z.1]
          simp only [EV, EVS, EVB, EVX, chk_text (n + 5), kMth_of (pre_split _ _), hsp, hb, e1, rsDg, rsPr, kLcX, kLcWX, hw, hln, guard_yes gsz, c1, oRs, tuple_lst, guard_yes (two_le _ _), e2, Bool.not_false, List.getElem?_cons_zero, List.getElem?_cons_succ, List.set_cons_zero, List.set_cons_succ]
          rfl
        · rw [hv] at e2
          obtain ⟨v1, v2, v3⟩ := rsB_iff.mp hv
          have e3 : callN tb (n + 6) 13 [.tup [.int s, .tup (rs.map ruP)]] h = .ok (.str (rsT s rs)) h := rs_text (n + 3) v1.1 v1.2 v3 v2 h
          by_cases hx : rsT s rs = x
          · rw [if_pos ⟨rfl, hx⟩]
            simp only [EV, EVS, EVB, EVX, chk_text (n + 5), kMth_of (pre_split _ _), hsp, hb, e1, rsDg, rsPr, kLcX, kLcWX, hw, hln, guard_yes gsz, c1, oRs, tuple_lst, guard_yes (two_le _ _), e2, Bool.not_true, e3, cmp_ne_str, decide_eq_true hx, List.getElem?_cons_zero, List.getElem?_cons_succ, List.set_cons_zero, List.set_cons_succ]
            rfl
          · rw [if_neg fun z => hx z.2]
            simp only [EV, EVS, EVB, EVX, chk_text (n + 5), kMth_of (pre_split _ _), hsp, hb, e1, rsDg, rsPr, kLcX, kLcWX, hw, hln, guard_yes gsz, c1, oRs, tuple_lst, guard_yes (two_le _ _), e2, Bool.not_true, Bool.not_false, e3, cmp_ne_str, decide_eq_false hx, List.getElem?_cons_zero, List.getElem?_cons_succ, List.set_cons_zero, List.set_cons_succ]
            rfl
/-! told -/
def toldV (x : PySem.Str) : PV := match prO x with
  | some p => rsP p.1 p.2
  | none => .str ("refused" : PySem.Str)
theorem told_gen (n : Nat) (x : PySem.Str) (h : PHeap) (hl : x.length ≤ 1000000) : callN tb (n + 8) 33 [.str x] h = .ok (toldV x) h := by
  rw [callN_at (n + 7) 33 _ h ir__law_told rfl rfl]
  show (evalSs (callN tb (n + 7)) ir__law_told.body [some (.str x), none] h).res = _
  unfold ir__law_told
  have e := parse_gen n x h hl
  unfold toldV
  cases hp : prO x with
  | none =>
    rw [hp] at e
    simp only [EV, EVS, EVB, EVX, e, rsPr, List.getElem?_cons_zero, List.getElem?_cons_succ]
    rfl
  | some p =>
    rw [hp] at e
    simp only [EV, EVS, EVB, EVX, e, rsPr, List.getElem?_cons_zero, List.getElem?_cons_succ]
/-- no text -/
theorem told_odd (n : Nat) {v : PV} {h : PHeap} (hs : biOp .isinst false [v, .ty "str"] h = .ok (.bl false) h) : callN tb (n + 8) 33 [v] h = .ok (.str ("refused" : PySem.Str)) h := by
  have e1 : callN tb (n + 6) 16 [v] h = .exc exP h := by
    rw [callN_at (n + 5) 16 _ h ir_check_text rfl rfl]
    show (evalSs (callN tb (n + 5)) ir_check_text.body [some v] h).res = _
    unfold ir_check_text
    simp only [EV, EVS, EVB, EVX, hs, Bool.not_false, List.getElem?_cons_zero, List.getElem?_cons_succ]
    rfl
  have e2 : callN tb (n + 7) 18 [v] h = .exc exP h := by
    rw [callN_at (n + 6) 18 _ h ir_parse_rules rfl rfl]
    show (evalSs (callN tb (n + 6)) ir_parse_rules.body [some v, none, none, none, none] h).res = _
    unfold ir_parse_rules
    simp only [EV, EVS, EVB, EVX, e1, List.getElem?_cons_zero, List.getElem?_cons_succ]
  rw [callN_at (n + 7) 33 _ h ir__law_told rfl rfl]
  show (evalSs (callN tb (n + 7)) ir__law_told.body [some v, none] h).res = _
  unfold ir__law_told
  simp only [EV, EVS, EVB, EVX, e2, List.getElem?_cons_zero, List.getElem?_cons_succ]
  rfl
theorem refused_gen (n k : Nat) {v : PV} {h : PHeap} (f : fineB (k + 5) h v = true) (hs : okSet v = false) : callN tb (n + 9) 34 [v] h = .ok (.bl true) h := by
  have e1 : callN tb (n + 7) 9 [v] h = .exc ⟨1, none⟩ h := by
    rw [g_check n k f, hs]
    rfl
  have e2 : callN tb (n + 8) 17 [v] h = .exc ⟨1, none⟩ h := by
    rw [callN_at (n + 7) 17 _ h ir_format_rules rfl rfl]
    show (evalSs (callN tb (n + 7)) ir_format_rules.body [some v] h).res = _
    unfold ir_format_rules
    simp only [EV, EVS, EVB, EVX, e1, List.getElem?_cons_zero, List.getElem?_cons_succ]
  rw [callN_at (n + 8) 34 _ h ir__law_refused rfl rfl]
  show (evalSs (callN tb (n + 8)) ir__law_refused.body [some v, none] h).res = _
  unfold ir__law_refused
  simp only [EV, EVS, EVB, EVX, e2, List.getElem?_cons_zero, List.getElem?_cons_succ]
  rfl
end K85
end

section
set_option Elab.async false
set_option linter.all false
set_option maxRecDepth 100000
set_option maxHeartbeats 4000000
namespace K85
open PySem Rf
theorem add_str {x y : PySem.Str} (h : PHeap) (g : x.length + y.length ≤ szB) : binOp .add (.str x) (.str y) h = .ok (.str (x ++ y)) h := guard_yes g _
theorem ne_strs_nil (h : PHeap) (xs : List PySem.Str) : cmpP .ne h (.lst (xs.map .str)) (.lst []) = some (!decide (xs = [])) := by
  have hd : toDs (xs.map .str) = some (xs.map PyData.str) := toDs_map PV.str PyData.str (fun _ => rfl) xs
  have e : eqP h (.lst (xs.map .str)) (.lst []) = some (PyData.eqv (.list (xs.map PyData.str)) (.list [])) := by
    have e1 : toD (.lst (xs.map .str)) = some (.list (xs.map PyData.str)) := by simp only [toD, hd, Option.map_some]
    have e2 : toD (.lst []) = some (.list []) := rfl
    show (match toD (.lst (xs.map .str)), toD (.lst []) with
      | some d, some e => if min d.depth e.depth ≤ 60 then some (PyData.eqv d e) else none
      | _, _ => none) = _
    rw [e1, e2]
    show (if min _ _ ≤ 60 then _ else _) = _
    rw [if_pos (Nat.le_trans (Nat.min_le_right _ _) (by decide))]
  show (eqP h (.lst (xs.map .str)) (.lst [])).map (!·) = _
  rw [e]
  cases xs with
  | nil => simp [PyData.eqv, PyData.eqvAll]
  | cons t r => simp [PyData.eqv, PyData.eqvAll]
theorem m_join_loc (z : PySem.Str) {l : Nat} {ys : List PySem.Str} {h : PHeap} (e : h[l]? = some (.lst (ys.map .str))) (g : (ys.map (·.length)).sum + ys.length * z.length ≤ szB) : mthOp .join (.str z) [.loc l] h = .ok (.str (Str.join z ys)) h := by
  rw [← tjoin]
  simp only [mthOp, seqOf, deref, e, Option.bind_some, all_str, orStuck]
  exact guard_yes g _
theorem set_push (h : PHeap) (o o' : PO) : (h ++ [o]).set h.length o' = h ++ [o'] := by
  rw [List.set_append_right _ _ (Nat.le_refl _), Nat.sub_self]
  rfl
def bTx : List S := match ir__law_text.body with
  | [_, .for_ _ _ _ b, _] => b
  | _ => []
theorem text_words (n : Nat) {size : Int} (hs : 0 ≤ size) (hs2 : size ≤ 8) {ts : List Tm} (v : ∀ t ∈ ts, VT size t) (hl : ts.length ≤ 8) (h : PHeap) (a b c d e : Option PV) :
    compN (.one (.fixT (ts.map tmP))) (kTurn (callN tb n) [5, 6] (.tp [(.nm 5), (.nm 6)]) .nop (.bin .add (.bin .add (.bi .str false [(.var 5)]) (.idx (.lst false [(.cst (.str (("-" : Str)))), (.cst (.str (("+" : Str))))]) (.bi .int false [(.cmp .ge (.var 6) (.cst (.int 0)))]))) (.bi .str false [(.bi .abs false [(.var 6)])])) [a, b, c, d, e, none, none]) ((ts.map tmP).length + 1) 0 h = .ok ((ts.map tmT).map .str) h := by
  refine comp_strs (fun i => fixT_next _ i _) fun t ht => ?_
  have vt := v t ht
  have hl := tm_len hs2 vt
  have hl' : (nT t.1).length + (sgT t.2).length + (nT (abT t.2)).length ≤ 5 := by
    unfold tmT at hl
    rwa [Str.length_append, Str.length_append] at hl
  have g1 := add_str (x := nT t.1) (y := sgT t.2) h (by unfold szB; omega)
  have g2 := add_str (x := nT t.1 ++ sgT t.2) (y := nT (abT t.2)) h (by rw [Str.length_append]; unfold szB; omega)
  by_cases hd : 0 ≤ t.2
  · have es : sgT t.2 = ("+" : PySem.Str) := by unfold sgT; rw [if_pos hd]
    rw [es] at g1 g2
    simp only [tmP, kTurn, bindT, bindTs, seqOf, deref, wipeP, isNop, if_true, EV, EVB, kT2, noExc, str_i false (vt.n1 hs2), guard_yes (two_le _ _), hd, decide_true, atI_1, g1, abT_eq, str_i false vt.n2, g2, List.getElem?_cons_zero, List.getElem?_cons_succ, List.set_cons_zero, List.set_cons_succ]
    unfold tmT
    rw [es]
  · have es : sgT t.2 = ("-" : PySem.Str) := by unfold sgT; rw [if_neg hd]
    rw [es] at g1 g2
    simp only [tmP, kTurn, bindT, bindTs, seqOf, deref, wipeP, isNop, if_true, EV, EVB, kT2, noExc, str_i false (vt.n1 hs2), guard_yes (two_le _ _), hd, decide_false, Bool.false_eq_true, if_false, atI_0, g1, abT_eq, str_i false vt.n2, g2, List.getElem?_cons_zero, List.getElem?_cons_succ, List.set_cons_zero, List.set_cons_succ]
    unfold tmT
    rw [es]
theorem law_text (n : Nat) {size : Int} (hs : 1 ≤ size) (hs2 : size ≤ 8) {rs : List Ru} (v : ∀ r ∈ rs, VR size r) (hl : rs.length ≤ 24) (h : PHeap) : ∃ o, callN tb (n + 1) 28 [rsP size rs] h = .ok (.str (rsT size rs)) (h ++ [o]) := by
  rw [callN_at n 28 _ h ir__law_text rfl rfl]
  show ∃ o, (evalSs (callN tb n) ir__law_text.body [some (rsP size rs), none, none, none, none, none, none] h).res = _
  have k := (nOk_of (by omega) (by omega) : NOk size)
  have hw : walkOf .seq [.tup (rs.map ruP)] (h ++ [.lst [.str (nT size)]]) = some (.one (.fixT (rs.map ruP))) := rfl
  have hln : (Walk.one (.fixT (rs.map ruP))).len (h ++ [.lst [.str (nT size)]]) = (rs.map ruP).length := rfl
  have lp := loop_xs (w := .one (.fixT (rs.map ruP))) (body := kBody (callN tb n) (.tp [(.nm 2), (.nm 3)]) bTx) (fun i h => fixT_next _ i h)
    (fun i ρ h' => ∃ a b c, ρ = [some (.tup [.int size, .tup (rs.map ruP)]), some (.loc h.length), a, b, c, none, none] ∧ h' = h ++ [.lst ((nT size :: (rs.take i).map ruT).map .str)])
    (by
      rintro i x ρ h' hx ⟨a, b, c, rfl, rfl⟩
      rw [List.getElem?_map] at hx
      cases er : rs[i]? with
      | none => rw [er] at hx; cases hx
      | some r =>
        rw [er] at hx
        cases hx
        have hi := (List.getElem?_eq_some_iff.mp er).1
        have vr := v r (List.mem_of_getElem? er)
        have kr := (nOk_of vr.1 (by have := vr.2.1; omega) : NOk r.1)
        have hr := ru_len hs2 (by omega) vr
        have hr' : (nT r.1).length + (" <= " : PySem.Str).length + (tsT r.2).length ≤ 70 := by
          unfold ruT at hr
          rwa [Str.length_append, Str.length_append] at hr
        have e1 := text_words n (by omega) hs2 vr.2.2.1 (vr.len hs2 (by omega)) (h ++ [.lst ((nT size :: (rs.take i).map ruT).map .str)]) (some (.tup [.int size, .tup (rs.map ruP)])) (some (.loc h.length)) (some (.int r.1)) (some (.tup (r.2.map tmP))) c
        have hw2 : walkOf .seq [.tup (r.2.map tmP)] (h ++ [.lst ((nT size :: (rs.take i).map ruT).map .str)]) = some (.one (.fixT (r.2.map tmP))) := rfl
        have hln2 : (Walk.one (.fixT (r.2.map tmP))).len (h ++ [.lst ((nT size :: (rs.take i).map ruT).map .str)]) = (r.2.map tmP).length := rfl
        have gsz : (r.2.map tmP).length ≤ szB := by rw [List.length_map]; have := vr.len hs2 (by omega); unfold szB; omega
        have g1 := add_str (x := nT r.1) (y := (" <= " : PySem.Str)) (h ++ [.lst ((nT size :: (rs.take i).map ruT).map .str)]) (by unfold szB; omega)
        have g2 := add_str (x := nT r.1 ++ (" <= " : PySem.Str)) (y := tsT r.2) (h ++ [.lst ((nT size :: (rs.take i).map ruT).map .str)]) (by rw [Str.length_append]; unfold szB; omega)
        have pa := pre_app (push_at h (.lst ((nT size :: (rs.take i).map ruT).map .str)))
        have ma := m_app (y := .str (nT r.1 ++ (" <= " : PySem.Str) ++ tsT r.2)) (push_at h (.lst ((nT size :: (rs.take i).map ruT).map .str))) (by rw [List.length_map, List.length_cons, List.length_map, List.length_take]; unfold szB; omega)
        rw [set_push] at ma
        have et : (nT size :: (rs.take (i + 1)).map ruT).map PV.str = (nT size :: (rs.take i).map ruT).map PV.str ++ [.str (nT r.1 ++ (" <= " : PySem.Str) ++ tsT r.2)] := by
          rw [List.take_add_one, er, List.map_append, List.map_cons, List.map_cons, List.map_append]
          rfl
        rw [← et] at ma
        refine ⟨_, _, ?_, some (.int r.1), some (.tup (r.2.map tmP)), some (.lst ((r.2.map tmT).map .str)), rfl, rfl⟩
        by_cases h0 : r.2 = []
        · have e0 : tsT r.2 = ("never" : PySem.Str) := by unfold tsT; rw [if_pos h0]
          rw [e0] at g2 ma
          have em : (r.2.map tmT) = [] := by rw [h0]; rfl
          rw [em] at e1
          simp only [ruP, tsP, kBody, bindT, bindTs, seqOf, deref, EV, EVS, EVB, kB2, bTx, ir__law_text, kLc, kLcW, hw2, hln2, guard_yes gsz, e1, guard_yes nil_le, kMth_of pa, str_i false kr, g1, ne_strs_nil, em, decide_true, Bool.not_true, g2, ma, List.getElem?_cons_zero, List.getElem?_cons_succ, List.set_cons_zero, List.set_cons_succ]
        · have e0 : Str.join (" | " : PySem.Str) (r.2.map tmT) = tsT r.2 := by unfold tsT; rw [if_neg h0]
          have em : ¬ (r.2.map tmT) = [] := by simpa using h0
          have gj := m_join (" | " : PySem.Str) (r.2.map tmT) (h ++ [.lst ((nT size :: (rs.take i).map ruT).map .str)]) (Nat.le_trans (ts_sum hs2 vr.2.2.1 (vr.len hs2 (by omega))) (by decide))
          simp only [ruP, tsP, kBody, bindT, bindTs, seqOf, deref, EV, EVS, EVB, kB2, bTx, ir__law_text, kLc, kLcW, hw2, hln2, guard_yes gsz, e1, guard_yes nil_le, kMth_of pa, kMth_of (pre_join _ _), gj, e0, str_i false kr, g1, ne_strs_nil, em, decide_false, Bool.not_false, g2, ma, List.getElem?_cons_zero, List.getElem?_cons_succ, List.set_cons_zero, List.set_cons_succ])
    (rs.map ruP).length 0 [some (.tup [.int size, .tup (rs.map ruP)]), some (.loc h.length), none, none, none, none, none] (h ++ [.lst [.str (nT size)]]) (by omega) ⟨none, none, none, rfl, rfl⟩
  obtain ⟨ρ', h', e, a, b, c, rfl, rfl⟩ := lp
  rw [List.length_map, List.take_length] at e
  have gj := m_join_loc ("; " : PySem.Str) (push_at h (.lst ((nT size :: rs.map ruT).map .str))) (Nat.le_trans (rs_sum (by omega) hs2 v hl) (by decide))
  refine ⟨.lst ((nT size :: rs.map ruT).map .str), ?_⟩
  have hb : ir__law_text.body = [.set 1 (.lst true [(.bi .str false [(.idx (.var 0) (.cst (.int 0)))])]), .for_ (.tp [(.nm 2), (.nm 3)]) .seq [(.idx (.var 0) (.cst (.int 1)))] bTx, .ret (.mth .join (.cst (.str (("; " : Str)))) [(.var 1)])] := rfl
  rw [hb]
  generalize bTx = B1 at e
  rw [List.length_map] at hln
  simp only [rsP, EV, EVS, EVB, atI_0, atI_1, str_i false k, guard_yes (one_le _), kFor, kForW, hw, hln, e, kMth_of (pre_join _ _), gj, List.getElem?_cons_zero, List.getElem?_cons_succ, List.set_cons_zero, List.set_cons_succ]
  rfl
end K85
end

section
set_option Elab.async false
set_option linter.all false
set_option maxRecDepth 100000
set_option maxHeartbeats 1000000
/-! for the law's walks -/
namespace Rf
open PySem PySem.Builtin PySem.Builtin.Str PySem.StrLaws
theorem split_len3 (x : PySem.Str) {y : PySem.Str} (hy : y.length = 3) : 3 * (Txt.split x y).length ≤ x.length + 3 := by
  have e := join_len y (Txt.split x y) (split_ne x y)
  rw [join_split, hy] at e
  omega
theorem empty_of {x : PySem.Str} (h : x.length = 0) : x = ("" : PySem.Str) := by
  refine str_ext ?_
  have h1 : x.cps.toList.length = 0 := by rw [Array.length_toList]; exact h
  rw [List.eq_nil_of_length_eq_zero h1]
  decide +kernel
theorem cut_to_str {x : PySem.Str} {i : Nat} (hi : i ≤ x.length) : L2.cutS x none (some (i : Int)) = strSub x 0 i := by
  refine str_ext ?_
  rw [strSub_toList]
  unfold L2.cutS
  show List.take (HT.sIx x.length x.length (some (i : Int)) - HT.sIx x.length 0 none) (List.drop (HT.sIx x.length 0 none) x.cps.toList) = _
  rw [HT.sIx_none, HT.sIx_nat, Nat.min_eq_left hi]
theorem cut_from_str {x : PySem.Str} {i : Nat} (hi : i ≤ x.length) : L2.cutS x (some (i : Int)) none = strSub x i x.length := by
  refine str_ext ?_
  rw [strSub_toList]
  unfold L2.cutS
  show List.take (HT.sIx x.length x.length none - HT.sIx x.length 0 (some (i : Int))) (List.drop (HT.sIx x.length 0 (some (i : Int))) x.cps.toList) = _
  rw [HT.sIx_none, HT.sIx_nat, Nat.min_eq_left hi]
/-! options as values -/
def oV {α : Type} (p : α → PV) : Option α → PV
  | some a => p a
  | none => .non
theorem mapO_os {α β : Type} {g : α → Option β} : ∀ (xs : List α), if (xs.map g).any (·.isNone) = true then mapO g xs = none else ∃ ys, mapO g xs = some ys ∧ xs.map g = ys.map some
  | [] => ⟨[], rfl, rfl⟩
  | x :: xs => by
    have ih := mapO_os (g := g) xs
    rw [List.map_cons, List.any_cons]
    unfold mapO
    cases hg : g x with
    | none => rfl
    | some y =>
      show if (false || _) = true then _ else _
      rw [Bool.false_or]
      split at ih
      · rename_i hc
        rw [if_pos hc, ih]
      · rename_i hc
        obtain ⟨ys, e1, e2⟩ := ih
        rw [if_neg hc, e1]
        exact ⟨y :: ys, rfl, by rw [e2]; rfl⟩
theorem none_in {α : Type} {p : α → PV} {d : α → PyData} (hp : ∀ a, toD (p a) = some (d a)) (hd : ∀ a, PyData.eqv (d a) .none = false) (os : List (Option α)) (h : PHeap) : inP h .non (.lst (os.map (oV p))) = some (os.any (·.isNone)) := by
  have ed : toDs (os.map (oV p)) = some (os.map fun o => match o with | some a => d a | none => PyData.none) := by
    induction os with
    | nil => rfl
    | cons o os ih =>
      rw [List.map_cons]
      unfold toDs
      rw [ih]
      cases o with
      | none => rfl
      | some a =>
        have : toD (oV p (some a)) = some (d a) := hp a
        rw [this]
        rfl
  have e1 : toD (.lst (os.map (oV p))) = some (.list (os.map fun o => match o with | some a => d a | none => PyData.none)) := by simp only [toD, ed, Option.map_some]
  have e0 : toD .non = some .none := rfl
  have e2 : inP h .non (.lst (os.map (oV p))) = match toD .non, toD (.lst (os.map (oV p))) with
    | some d, some (.list ds) => if min (PyData.depthAll ds) d.depth ≤ 60 then some (ds.any fun y => PyData.eqv y d) else none
    | some d, some (.tuple ds) => if min (PyData.depthAll ds) d.depth ≤ 60 then some (ds.any fun y => PyData.eqv y d) else none
    | _, _ => none := rfl
  rw [e2, e1, e0]
  show (if min _ (PyData.depth .none) ≤ 60 then _ else _) = _
  rw [if_pos (Nat.le_trans (Nat.min_le_right _ _) (by decide))]
  congr 1
  rw [List.any_map]
  congr 1
  funext o
  cases o with
  | none => rfl
  | some a => exact hd a
theorem depth_ints : ∀ ns : List Int, PyData.depthAll (ns.map .int) = 0
  | [] => by simp only [List.map_nil, PyData.depthAll]
  | n :: ns => by
    simp only [List.map_cons, PyData.depthAll, depth_ints ns, PyData.depth]
    rfl
theorem eqv_ints : ∀ ns ms : List Int, PyData.eqvAll (ns.map .int) (ms.map .int) = decide (ns = ms)
  | [], [] => by simp [PyData.eqvAll]
  | [], _ :: _ => by simp [PyData.eqvAll]
  | _ :: _, [] => by simp [PyData.eqvAll]
  | n :: ns, m :: ms => by
    have e : PyData.eqv (.int n) (.int m) = decide (n = m) := rfl
    simp only [List.map_cons, PyData.eqvAll, eqv_ints ns ms, e]
    by_cases h1 : n = m <;> by_cases h2 : ns = ms <;> simp [h1, h2]
theorem eq_ints (h : PHeap) (ns ms : List Int) : eqP h (.lst (ns.map .int)) (.lst (ms.map .int)) = some (decide (ns = ms)) := by
  have e1 : ∀ ks : List Int, toD (.lst (ks.map .int)) = some (.list (ks.map .int)) := fun ks => by simp only [toD, toDs_map .int .int (fun _ => rfl) ks, Option.map_some]
  have e : eqP h (.lst (ns.map .int)) (.lst (ms.map .int)) = match toD (.lst (ns.map .int)), toD (.lst (ms.map .int)) with
    | some d, some e => if min d.depth e.depth ≤ 60 then some (PyData.eqv d e) else none
    | _, _ => none := rfl
  rw [e, e1, e1]
  show (if min (PyData.depth (.list (ns.map .int))) _ ≤ 60 then _ else _) = _
  rw [if_pos (Nat.le_trans (Nat.min_le_left _ _) (by simp only [PyData.depth, depth_ints]; decide))]
  congr 1
  simp only [PyData.eqv]
  exact eqv_ints ns ms
end Rf
end

section
set_option Elab.async false
set_option linter.all false
set_option maxRecDepth 100000
set_option maxHeartbeats 4000000
namespace K85
open PySem Rf
/-! the law's own reading -/
theorem pE_idx (c : Call) (ρ : PSt) (h : PHeap) (a i : E) : partE c (.idx a i) ρ h = (evalE c (.idx a i) ρ h).bind kPart := by simp only [partE, isNop]; rfl
theorem pE_bin (c : Call) (ρ : PSt) (h : PHeap) (o : BO) (a b : E) : partE c (.bin o a b) ρ h = (evalE c (.bin o a b) ρ h).bind kPart := by simp only [partE, isNop]; rfl
theorem pE_call (c : Call) (ρ : PSt) (h : PHeap) (f : Nat) (a : List E) : partE c (.call f a) ρ h = (evalE c (.call f a) ρ h).bind kPart := by simp only [partE, isNop]; rfl
theorem is_non (h : PHeap) (v : PV) : cmpP .is_ h v .non = some (isNon v) := rfl
def gN (v : PV) : Option PV := if gD v = true then none else some v
theorem cmp_notin (h : PHeap) (c : Nat) : cmpP .notin h (.str ⟨#[c]⟩) (.str ("0123456789" : PySem.Str)) = some (!isD c) := by
  have e : cmpP .notin h (.str ⟨#[c]⟩) (.str ("0123456789" : PySem.Str)) = (cmpP .in_ h (.str ⟨#[c]⟩) (.str ("0123456789" : PySem.Str))).map (!·) := rfl
  rw [e, in_digB]
  rfl
theorem not_digs (cs : List Nat) : (cs.map fun c => PV.str ⟨#[c]⟩).filterMap gN = ((cs.filter fun c => !isD c).map fun c => (⟨#[c]⟩ : PySem.Str)).map PV.str := by
  induction cs with
  | nil => rfl
  | cons c cs ih =>
    rw [List.map_cons, List.filterMap_cons, List.filter_cons, ih]
    have e : gN (.str ⟨#[c]⟩) = if isD c = true then none else some (.str ⟨#[c]⟩) := rfl
    rw [e]
    cases isD c <;> rfl
theorem no_not_digs (cs : List Nat) : decide ((cs.filter fun c => !isD c).map (fun c => (⟨#[c]⟩ : PySem.Str)) = []) = cs.all isD := by
  rw [Bool.eq_iff_iff, decide_eq_true_eq, List.map_eq_nil_iff, List.filter_eq_nil_iff, List.all_eq_true]
  refine forall_congr' fun c => forall_congr' fun _ => ?_
  cases isD c <;> simp
theorem str_small (mu : Bool) {i : Int} (h0 : 0 ≤ i) (h1 : i ≤ 99) (h : PHeap) : biOp .str mu [.int i] h = .ok (.str (nT i)) h := by
  have hlog : i.natAbs.log2 < 1920 := by
    by_cases hz : i.natAbs = 0
    · rw [hz]; decide
    · exact (Nat.log2_lt hz).mpr (Nat.lt_of_lt_of_le (show i.natAbs < 2 ^ 7 by omega) (Nat.pow_le_pow_right (by decide) (by decide)))
  show guardR (i.natAbs.log2 < 1920) (Res.ok (PV.str (nT i)) h) = _
  rw [guard_yes hlog]
theorem int_dg (mu : Bool) {x : PySem.Str} {i : Int} (e : dgO x = some i) (h : PHeap) : biOp .int mu [.str x] h = .ok (.int i) h := by
  have k := dg_ok e
  show orStuck (PySem.intText? x) (fun k => guardR (x.length ≤ 640) (Res.ok (PV.int k) h)) = _
  rw [k.rd]
  show guardR (x.length ≤ 640) (Res.ok (PV.int i) h) = _
  rw [guard_yes (by have := k.l2; omega)]
theorem digits_gen (n : Nat) (x : PySem.Str) (high : Int) (h : PHeap) : callN tb (n + 1) 29 [.str x, .int high] h = .ok (oV .int (dgL x high)) h := by
  rw [callN_at n 29 _ h ir__law_digits rfl rfl]
  show (evalSs (callN tb n) ir__law_digits.body [some (.str x), some (.int high), none] h).res = _
  unfold ir__law_digits
  have dn : ¬ (1 ≤ x.length ∧ x.length ≤ 2 ∧ ∀ c ∈ x.cps.toList, isD c = true) → dgL x high = none := fun z => by
    unfold dgL
    rw [dgO_none z]
  by_cases h0 : x = ("" : PySem.Str)
  · have e : dgL x high = none := dn fun z => by
      rw [h0] at z
      exact absurd z.1 (by decide +kernel)
    rw [e]
    simp only [EV, EVS, EVB, cmp_eq_str, decide_eq_true h0, oV, List.getElem?_cons_zero, List.getElem?_cons_succ]
  · have l1 : 1 ≤ x.length := by
      by_cases z : x.length = 0
      · exact absurd (empty_of z) h0
      · omega
    by_cases l2 : x.length ≤ 2
    · have k2 : ¬ (2 : Int) < (x.length : Nat) := by omega
      have hw : walkOf .seq [.str x] h = some (.str x) := rfl
      have hln : (Walk.str x).len h = (x.cps.toList.map fun c => PV.str ⟨#[c]⟩).length := by rw [List.length_map, Array.length_toList]; rfl
      have gsz : (x.cps.toList.map fun c => PV.str ⟨#[c]⟩).length ≤ szB := by
        rw [List.length_map, Array.length_toList]
        have : x.cps.size ≤ 2 := l2
        unfold szB
        omega
      have c1 : compN (.str x) (kTurn (callN tb n) [2] (.nm 2) (.cmp .notin (.var 2) (.cst (.str (("0123456789" : Str))))) (.var 2) [some (.str x), some (.int high), none]) ((x.cps.toList.map fun c => PV.str ⟨#[c]⟩).length + 1) 0 h = .ok ((x.cps.toList.map fun c => PV.str ⟨#[c]⟩).filterMap gN) h := by
        refine comp_fuel (fun i => str_next _ i _) (fun y hy => ?_) 0
        obtain ⟨c, _, rfl⟩ := List.mem_map.mp hy
        have eg : gN (.str ⟨#[c]⟩) = if isD c = true then none else some (.str ⟨#[c]⟩) := rfl
        rw [eg]
        have en := cmp_notin h c
        cases hc : isD c
        · rw [hc] at en
          simp only [kTurn, bindT, wipeP, isNop, EV, EVB, kT, kT1, kT2, noExc, en, Bool.not_false, Bool.false_eq_true, if_true, if_false, List.getElem?_cons_zero, List.getElem?_cons_succ, List.set_cons_zero, List.set_cons_succ]
        · rw [hc] at en
          simp only [kTurn, bindT, wipeP, isNop, EV, EVB, kT, kT1, kT2, noExc, en, Bool.not_true, Bool.false_eq_true, if_true, if_false, List.getElem?_cons_zero, List.getElem?_cons_succ, List.set_cons_zero, List.set_cons_succ]
      rw [not_digs] at c1
      cases hd : x.cps.toList.all isD
      · have e : dgL x high = none := dn fun z => by
          rw [List.all_eq_true.mpr z.2.2] at hd
          cases hd
        rw [e]
        simp only [EV, EVS, EVB, cmp_eq_str, decide_eq_false h0, len_str, k2, decide_false, kLc, kLcW, hw, hln, guard_yes gsz, c1, guard_yes nil_le, ne_strs_nil, no_not_digs, hd, Bool.not_false, oV, List.getElem?_cons_zero, List.getElem?_cons_succ]
      · obtain ⟨i, e⟩ := dg_of l1 l2 (List.all_eq_true.mp hd)
        have k := dg_ok e
        have ei := int_dg false e h
        have es := str_small false k.lo k.hi h
        have el : dgL x high = if nT i = x ∧ i < high then some i else none := by unfold dgL; rw [e]
        rw [el]
        by_cases c2 : nT i = x
        · by_cases c3 : i < high
          · rw [if_pos ⟨c2, c3⟩]
            simp only [EV, EVS, EVB, cmp_eq_str, decide_eq_false h0, len_str, k2, decide_false, kLc, kLcW, hw, hln, guard_yes gsz, c1, guard_yes nil_le, ne_strs_nil, no_not_digs, hd, Bool.not_true, ei, es, decide_eq_true c2, decide_eq_true c3, oV, List.getElem?_cons_zero, List.getElem?_cons_succ]
          · rw [if_neg fun z => c3 z.2]
            simp only [EV, EVS, EVB, cmp_eq_str, decide_eq_false h0, len_str, k2, decide_false, kLc, kLcW, hw, hln, guard_yes gsz, c1, guard_yes nil_le, ne_strs_nil, no_not_digs, hd, Bool.not_true, ei, es, decide_eq_true c2, decide_eq_false c3, oV, List.getElem?_cons_zero, List.getElem?_cons_succ]
        · rw [if_neg fun z => c2 z.1]
          simp only [EV, EVS, EVB, cmp_eq_str, decide_eq_false h0, len_str, k2, decide_false, kLc, kLcW, hw, hln, guard_yes gsz, c1, guard_yes nil_le, ne_strs_nil, no_not_digs, hd, Bool.not_true, ei, es, decide_eq_false c2, oV, List.getElem?_cons_zero, List.getElem?_cons_succ]
    · have k2 : (2 : Int) < (x.length : Nat) := by omega
      have e : dgL x high = none := dn fun z => l2 z.2.1
      rw [e]
      simp only [EV, EVS, EVB, cmp_eq_str, decide_eq_false h0, len_str, k2, decide_true, oV, List.getElem?_cons_zero, List.getElem?_cons_succ]
/-! a term -/
def tagP (x : PySem.Str) (i : Nat) : PV := .tup [.int (i : Nat), .str ⟨#[x.cps.getD i 0]⟩]
theorem enmS_next (x : PySem.Str) (i : Nat) (h : PHeap) : (Walk.enmS x).next i h = some ((List.range x.cps.size).map (tagP x))[i]? := by
  show some (x.cps[i]?.map fun c => PV.tup [.int (i : Int), .str ⟨#[c]⟩]) = _
  congr 1
  rw [List.getElem?_map]
  by_cases hi : i < x.cps.size
  · rw [List.getElem?_range hi, Array.getElem?_eq_getElem hi]
    show some _ = some (tagP x i)
    unfold tagP
    rw [Array.getD_eq_getD_getElem?, Array.getElem?_eq_getElem hi]
    rfl
  · rw [Array.getElem?_eq_none (by omega), List.getElem?_eq_none (by rw [List.length_range]; omega)]
    rfl
theorem in_sg (h : PHeap) (c : Nat) : cmpP .in_ h (.str ⟨#[c]⟩) (.str ("+-" : PySem.Str)) = some (decide (c = 43 ∨ c = 45)) := by
  show some (!(Builtin.Str.occurrences ("+-" : PySem.Str) ⟨#[c]⟩ 0 ("+-" : PySem.Str).length 1).isEmpty) = _
  rw [StrLaws.found_one, show ("+-" : PySem.Str).cps.toList = [43, 45] by decide +kernel]
  congr 1
  refine decide_eq_decide.mpr ?_
  simp only [List.mem_cons, List.not_mem_nil, or_false]
def gS (v : PV) : Option PV := match v with
  | .tup [i, .str z] => if isSg z.cps[0]? = true then some i else none
  | _ => none
theorem sgs_list (x : PySem.Str) : ((List.range x.cps.size).map (tagP x)).filterMap gS = (sgs x).map fun i => PV.int (i : Nat) := by
  unfold sgs
  have key : ∀ l : List Nat, (∀ i ∈ l, i < x.cps.size) → (l.map (tagP x)).filterMap gS = (l.filter fun i => isSg x.cps[i]?).map fun i => PV.int (i : Nat) := by
    intro l
    induction l with
    | nil => intro _; rfl
    | cons i l ih =>
      intro hl
      have hi := hl i List.mem_cons_self
      rw [List.map_cons, List.filterMap_cons, List.filter_cons, ih fun j hj => hl j (List.mem_cons_of_mem _ hj)]
      have e : gS (tagP x i) = if isSg x.cps[i]? = true then some (.int (i : Nat)) else none := by
        show (if isSg (some (x.cps.getD i 0)) = true then some (PV.int (i : Nat)) else none) = _
        rw [Array.getD_eq_getD_getElem?, Array.getElem?_eq_getElem hi]
        rfl
      rw [e]
      cases isSg x.cps[i]? <;> rfl
  exact key _ fun i hi => List.mem_range.mp hi
theorem idx_str {x : PySem.Str} {i c : Nat} (e : x.cps[i]? = some c) (h : PHeap) : idxOp (.str x) (.int (i : Nat)) h = .ok (.str ⟨#[c]⟩) h := by
  have : L2.atI x.cps.toList ((i : Nat) : Int) = some c := atI_nat (by rw [Array.getElem?_toList]; exact e)
  show orStuck (L2.atI x.cps.toList ((i : Nat) : Int)) (fun c => Res.ok (PV.str ⟨#[c]⟩) h) = _
  rw [this]
  rfl
theorem slc_str_to {x : PySem.Str} {i : Nat} (hi : i ≤ x.length) (h : PHeap) : slcOp false (.str x) none (some (i : Int)) h = .ok (.str (Builtin.Str.strSub x 0 i)) h := by
  simp only [slcOp, deref, cut_to_str hi]
theorem slc_str_from {x : PySem.Str} {i : Nat} (hi : i ≤ x.length) (h : PHeap) : slcOp false (.str x) (some (i : Int)) none h = .ok (.str (Builtin.Str.strSub x i x.length)) h := by
  simp only [slcOp, deref, cut_from_str hi]
theorem len_lst (mu : Bool) (xs : List PV) (h : PHeap) : biOp .len mu [.lst xs] h = .ok (.int xs.length) h := rfl
theorem atI_h (a : PV) (xs : List PV) : L2.atI (a :: xs) 0 = some a := atI_nat (i := 0) rfl
theorem lterm_gen (n : Nat) (x : PySem.Str) (size : Int) (h : PHeap) (hl : x.length ≤ 1000000) : callN tb (n + 2) 30 [.str x, .int size] h = .ok (oV tmP (tmL size x)) h := by
  rw [callN_at (n + 1) 30 _ h ir__law_term rfl rfl]
  show (evalSs (callN tb (n + 1)) ir__law_term.body [some (.str x), some (.int size), none, none, none, none, none] h).res = _
  unfold ir__law_term
  have hsz : x.cps.size = x.length := rfl
  have hw : walkOf .enm [.str x] h = some (.enmS x) := rfl
  have hln : (Walk.enmS x).len h = ((List.range x.cps.size).map (tagP x)).length := by rw [List.length_map, List.length_range]; rfl
  have gsz : ((List.range x.cps.size).map (tagP x)).length ≤ szB := by
    rw [List.length_map, List.length_range]
    unfold szB
    omega
  have c1 : compN (.enmS x) (kTurn (callN tb (n + 1)) [4, 6] (.tp [(.nm 6), (.nm 4)]) (.cmp .in_ (.var 4) (.cst (.str (("+-" : Str))))) (.var 6) [some (.str x), some (.int size), none, none, none, none, none]) (((List.range x.cps.size).map (tagP x)).length + 1) 0 h = .ok (((List.range x.cps.size).map (tagP x)).filterMap gS) h := by
    refine comp_fuel (fun i => enmS_next _ i _) (fun y hy => ?_) 0
    obtain ⟨i, _, rfl⟩ := List.mem_map.mp hy
    have eg : gS (tagP x i) = if decide (x.cps.getD i 0 = 43 ∨ x.cps.getD i 0 = 45) = true then some (.int (i : Nat)) else none := rfl
    rw [eg]
    unfold tagP
    have en := in_sg h (x.cps.getD i 0)
    cases hc : decide (x.cps.getD i 0 = 43 ∨ x.cps.getD i 0 = 45)
    · rw [hc] at en
      simp only [kTurn, bindT, bindTs, seqOf, deref, wipeP, isNop, EV, EVB, kT, kT1, kT2, noExc, en, Bool.false_eq_true, if_true, if_false, List.getElem?_cons_zero, List.getElem?_cons_succ, List.set_cons_zero, List.set_cons_succ]
    · rw [hc] at en
      simp only [kTurn, bindT, bindTs, seqOf, deref, wipeP, isNop, EV, EVB, kT, kT1, kT2, noExc, en, Bool.false_eq_true, if_true, if_false, List.getElem?_cons_zero, List.getElem?_cons_succ, List.set_cons_zero, List.set_cons_succ]
  rw [sgs_list] at c1
  by_cases h1 : (sgs x).length = 1
  · obtain ⟨i, hi⟩ := List.length_eq_one_iff.mp h1
    obtain ⟨c, hc, hcc⟩ := sgs_one hi
    have hlt : i < x.length := by rw [← hsz]; exact (Array.getElem?_eq_some_iff.mp hc).1
    rw [hi] at c1
    have el : (((([i] : List Nat).map fun i => PV.int (i : Nat)).length : Nat) : Int) = 1 := rfl
    have em : (([i] : List Nat).map fun i => PV.int (i : Nat)) = [PV.int (i : Nat)] := rfl
    have e1 := idx_str hc h
    have e2 := slc_str_to (x := x) (i := i) (by omega) h
    have e3 : slcOp false (.str x) (some ((i : Int) + 1)) none h = .ok (.str (Builtin.Str.strSub x (i + 1) x.length)) h := slc_str_from (x := x) (i := i + 1) (by omega) h
    have e4 := digits_gen n (Builtin.Str.strSub x 0 i) size h
    have e5 := digits_gen n (Builtin.Str.strSub x (i + 1) x.length) 61 h
    have et : tmL size x = match dgL (Builtin.Str.strSub x 0 i) size, dgL (Builtin.Str.strSub x (i + 1) x.length) 61 with
      | some v, some d => if d = (if x.cps[i]? = some 45 then 0 else 60) then none else some (v, if x.cps[i]? = some 43 then d else 0 - d)
      | _, _ => none := by
      unfold tmL
      rw [hi]
      all_goals rfl
    rw [et]
    rw [em] at c1
    cases ea : dgL (Builtin.Str.strSub x 0 i) size with
    | none =>
      rw [ea] at e4
      simp only [oV] at e4
      cases eb : dgL (Builtin.Str.strSub x (i + 1) x.length) 61 with
      | none =>
        rw [eb] at e5
        simp only [oV] at e5
        simp only [EV, EVS, EVB, kLc, kLcW, hw, hln, guard_yes gsz, c1, len_lst, List.length_singleton, Int.natCast_one, cmp_ne', eq_int, decide_true, Option.map_some, Bool.not_true, atI_h, e1, pE_idx, pE_bin, e2, e3, e4, e5, is_non, isNon, oV, List.getElem?_cons_zero, List.getElem?_cons_succ, List.set_cons_zero, List.set_cons_succ]
      | some d =>
        rw [eb] at e5
        simp only [oV] at e5
        simp only [EV, EVS, EVB, kLc, kLcW, hw, hln, guard_yes gsz, c1, len_lst, List.length_singleton, Int.natCast_one, cmp_ne', eq_int, decide_true, Option.map_some, Bool.not_true, atI_h, e1, pE_idx, pE_bin, e2, e3, e4, e5, is_non, isNon, oV, List.getElem?_cons_zero, List.getElem?_cons_succ, List.set_cons_zero, List.set_cons_succ]
    | some v =>
      rw [ea] at e4
      simp only [oV] at e4
      cases eb : dgL (Builtin.Str.strSub x (i + 1) x.length) 61 with
      | none =>
        rw [eb] at e5
        simp only [oV] at e5
        simp only [EV, EVS, EVB, kLc, kLcW, hw, hln, guard_yes gsz, c1, len_lst, List.length_singleton, Int.natCast_one, cmp_ne', eq_int, decide_true, Option.map_some, Bool.not_true, atI_h, e1, pE_idx, pE_bin, e2, e3, e4, e5, is_non, isNon, oV, List.getElem?_cons_zero, List.getElem?_cons_succ, List.set_cons_zero, List.set_cons_succ]
      | some d =>
        rw [eb] at e5
        simp only [oV] at e5
        rw [hc]
        rcases hcc with rfl | rfl
        · have q1 : decide ((⟨#[43]⟩ : PySem.Str) = ("-" : PySem.Str)) = false := by decide +kernel
          have q2 : decide ((⟨#[43]⟩ : PySem.Str) = ("+" : PySem.Str)) = true := by decide +kernel
          by_cases h60 : d = 60
          · simp only [EV, EVS, EVB, kLc, kLcW, hw, hln, guard_yes gsz, c1, len_lst, List.length_singleton, Int.natCast_one, cmp_ne', cmp_eq', eq_int, decide_true, Option.map_some, Bool.not_true, atI_h, e1, pE_idx, pE_bin, e2, e3, e4, e5, is_non, isNon, eq_str, q1, guard_yes (two_le _ _), Bool.false_eq_true, if_false, atI_0, h60, oV, List.getElem?_cons_zero, List.getElem?_cons_succ, List.set_cons_zero, List.set_cons_succ]
            rfl
          · have er : (if d = (if (some 43 : Option Nat) = some 45 then 0 else 60) then (none : Option Tm) else some (v, if (some 43 : Option Nat) = some 43 then d else 0 - d)) = some (v, d) := by simp [h60]
            show _ = Res.ok (oV tmP (if d = (if (some 43 : Option Nat) = some 45 then 0 else 60) then (none : Option Tm) else some (v, if (some 43 : Option Nat) = some 43 then d else 0 - d))) h
            rw [er]
            simp only [EV, EVS, EVB, kLc, kLcW, hw, hln, guard_yes gsz, c1, len_lst, List.length_singleton, Int.natCast_one, cmp_ne', cmp_eq', eq_int, decide_true, Option.map_some, Bool.not_true, atI_h, e1, pE_idx, pE_bin, e2, e3, e4, e5, is_non, isNon, eq_str, q1, q2, guard_yes (two_le _ _), Bool.false_eq_true, if_false, atI_0, decide_eq_false h60, List.getElem?_cons_zero, List.getElem?_cons_succ, List.set_cons_zero, List.set_cons_succ]
            rfl
        · have q1 : decide ((⟨#[45]⟩ : PySem.Str) = ("-" : PySem.Str)) = true := by decide +kernel
          have q2 : decide ((⟨#[45]⟩ : PySem.Str) = ("+" : PySem.Str)) = false := by decide +kernel
          by_cases h60 : d = 0
          · simp only [EV, EVS, EVB, kLc, kLcW, hw, hln, guard_yes gsz, c1, len_lst, List.length_singleton, Int.natCast_one, cmp_ne', cmp_eq', eq_int, decide_true, Option.map_some, Bool.not_true, atI_h, e1, pE_idx, pE_bin, e2, e3, e4, e5, is_non, isNon, eq_str, q1, guard_yes (two_le _ _), if_true, atI_1, h60, oV, List.getElem?_cons_zero, List.getElem?_cons_succ, List.set_cons_zero, List.set_cons_succ]
          · have er : (if d = (if (some 45 : Option Nat) = some 45 then 0 else 60) then (none : Option Tm) else some (v, if (some 45 : Option Nat) = some 43 then d else 0 - d)) = some (v, 0 - d) := by simp [h60]
            show _ = Res.ok (oV tmP (if d = (if (some 45 : Option Nat) = some 45 then 0 else 60) then (none : Option Tm) else some (v, if (some 45 : Option Nat) = some 43 then d else 0 - d))) h
            rw [er]
            simp only [EV, EVS, EVB, kLc, kLcW, hw, hln, guard_yes gsz, c1, len_lst, List.length_singleton, Int.natCast_one, cmp_ne', cmp_eq', eq_int, decide_true, Option.map_some, Bool.not_true, atI_h, e1, pE_idx, pE_bin, e2, e3, e4, e5, is_non, isNon, eq_str, q1, q2, guard_yes (two_le _ _), if_true, atI_1, decide_eq_false h60, List.getElem?_cons_zero, List.getElem?_cons_succ, List.set_cons_zero, List.set_cons_succ]
            rfl
  · have et : tmL size x = none := by
      unfold tmL
      split
      · rename_i i hi
        rw [hi] at h1
        exact absurd rfl h1
      · rfl
    have hne : ¬ ((((sgs x).map fun i => PV.int (i : Nat)).length : Nat) : Int) = 1 := by rw [List.length_map]; omega
    rw [et]
    simp only [EV, EVS, EVB, kLc, kLcW, hw, hln, guard_yes gsz, c1, len_lst, cmp_ne', eq_int, decide_eq_false hne, Option.map_some, Bool.not_false, oV, List.getElem?_cons_zero, List.getElem?_cons_succ, List.set_cons_zero, List.set_cons_succ]
end K85
end

section
set_option Elab.async false
set_option linter.all false
set_option maxRecDepth 100000
set_option maxHeartbeats 4000000
namespace K85
open PySem Rf
theorem comp_vals {w : Walk} {α : Type} {xs : List α} {f g : α → PV} {turn : PV → PHeap → Res (Option PV)} {h : PHeap} (hw : ∀ i, w.next i h = some (xs.map f)[i]?) (hs : ∀ x ∈ xs, turn (f x) h = .ok (some (g x)) h) :
    compN w turn ((xs.map f).length + 1) 0 h = .ok (xs.map g) h := by
  have key : ∀ (ys zs : List α), xs = zs ++ ys → compN w turn (ys.length + 1) zs.length h = .ok (ys.map g) h := by
    intro ys
    induction ys with
    | nil =>
      intro zs e
      rw [List.append_nil] at e
      subst e
      have e0 : w.next xs.length h = some none := by rw [hw, List.getElem?_eq_none (by rw [List.length_map]; exact Nat.le_refl _)]
      show compN w turn 1 xs.length h = _
      simp only [compN, e0]
      rfl
    | cons y ys ih =>
      intro zs e
      have hx : (xs.map f)[zs.length]? = some (f y) := by rw [List.getElem?_map, e, List.getElem?_append_right (Nat.le_refl _), Nat.sub_self]; rfl
      have ih' := ih (zs ++ [y]) (by rw [e, List.append_assoc]; rfl)
      rw [List.length_append] at ih'
      have hy := hs y (by rw [e]; simp)
      have e2 : compN w turn (ys.length + 1) (zs.length + 1) h = .ok (ys.map g) h := ih'
      rw [List.length_cons, compN]
      simp only [hw, hx, hy, Res.bind, e2, Option.toList]
      rfl
  rw [List.length_map]
  exact key xs [] rfl
theorem none_tm (os : List (Option Tm)) (h : PHeap) : cmpP .in_ h .non (.lst (os.map (oV tmP))) = some (os.any (·.isNone)) := none_in (d := tmD) (fun _ => rfl) (fun _ => rfl) os h
theorem toD_ru (r : Ru) : toD (ruP r) = some (ruD r) := by
  have h1 : toDs (r.2.map tmP) = some (r.2.map tmD) := toDs_map tmP tmD (fun _ => rfl) r.2
  have h2 : toD (tsP r.2) = some (.tuple (r.2.map tmD)) := by
    show toD (.tup (r.2.map tmP)) = _
    simp only [toD, h1, Option.map_some]
  show toD (.tup [.int r.1, tsP r.2]) = _
  simp only [toD, toDs, h2, Option.map_some]
  rfl
theorem none_ru (os : List (Option Ru)) (h : PHeap) : cmpP .in_ h .non (.lst (os.map (oV ruP))) = some (os.any (·.isNone)) := none_in (d := ruD) toD_ru (fun _ => rfl) os h
theorem tmL_lo {size : Int} {x : PySem.Str} {t : Tm} (h : tmL size x = some t) : 0 ≤ t.1 ∧ t.1 < size := by
  have := (tmL_back h).2
  exact ⟨this.1, this.2.1⟩
theorem sortU_few {ns : List Int} {size : Int} (h8 : size ≤ 8) (h : ∀ i ∈ ns, 0 ≤ i ∧ i < size) : (sortU ns).length < 60 := by
  have := asc_len (sortU ns) 0 8 (sortU_nodup ns) fun t ht => by
    have := h t (sortU_mem.mp ht)
    omega
  omega
theorem ssrt_ok (ns : List Int) (h : PHeap) (g1 : ns.length < 4000) (g2 : (sortU ns).length < 60) : kSsrt false (.lst (ns.map .int)) h = .ok (.lst ((sortU ns).map .int)) h := by
  have e : kSsrt false (.lst (ns.map .int)) h = orStuck (allOf intOf (ns.map .int)) fun ns => guardR (ns.length < 4000 ∧ (sortU ns).length < 60) (mkL false ((sortU ns).map .int) h) := rfl
  rw [e, all_int]
  show guardR (ns.length < 4000 ∧ (sortU ns).length < 60) (mkL false ((sortU ns).map .int) h) = _
  rw [guard_yes ⟨g1, g2⟩]
  rfl
theorem lrule_gen (n : Nat) (x : PySem.Str) {size : Int} (h8 : size ≤ 8) (h : PHeap) (hl : x.length ≤ 10000) : callN tb (n + 3) 31 [.str x, .int size] h = .ok (oV ruP (ruL size x)) h := by
  rw [callN_at (n + 2) 31 _ h ir__law_rule rfl rfl]
  show (evalSs (callN tb (n + 2)) ir__law_rule.body [some (.str x), some (.int size), none, none, none, none, none] h).res = _
  unfold ir__law_rule
  have l4 : (" <= " : PySem.Str).length = 4 := cps_len lit_le
  have l3 : (" | " : PySem.Str).length = 3 := cps_len lit_bar
  have hsp := m_split (x := x) (y := (" <= " : PySem.Str)) h (by rw [l4]; rfl) (by unfold szB; omega) rfl
  have hsl := split_len x (y := (" <= " : PySem.Str)) (by omega)
  by_cases hp : (Txt.split x (" <= " : PySem.Str)).length = 2
  · obtain ⟨a, b, hab⟩ : ∃ a b, Txt.split x (" <= " : PySem.Str) = [a, b] := by
      revert hp
      generalize Txt.split x (" <= " : PySem.Str) = ps
      intro hp
      match ps, hp with
      | [a, b], _ => exact ⟨a, b, rfl⟩
    have er : ruL size x = match dgL a size with
      | some l => if b = ("never" : PySem.Str) then some (l, []) else match mapO (tmL size) (Txt.split b (" | " : PySem.Str)) with
        | some ts => if ts.map (·.1) = sortU (ts.map (·.1)) then some (l, ts) else none
        | none => none
      | none => none := by
      unfold ruL
      rw [hab]
      all_goals rfl
    rw [er]
    rw [hab] at hsp hsl
    have e1 := digits_gen (n + 1) a size h
    have hb := hsl.2 b (List.mem_cons_of_mem _ List.mem_cons_self)
    have hsp' : mthOp .split (.str x) [.str (" <= " : PySem.Str)] h = .ok (.lst [.str a, .str b]) h := hsp
    have el : ((([PV.str a, .str b] : List PV).length : Nat) : Int) = 2 := rfl
    cases hd : dgL a size with
    | none =>
      rw [hd] at e1
      simp only [oV] at e1
      simp only [EV, EVS, EVB, kMth_of (pre_split _ _), hsp', len_lst, el, cmp_ne', eq_int, decide_true, Option.map_some, Bool.not_true, atI_0, e1, is_non, isNon, oV, List.getElem?_cons_zero, List.getElem?_cons_succ, List.set_cons_zero, List.set_cons_succ]
    | some l =>
      rw [hd] at e1
      simp only [oV] at e1
      have ei : biOp .int false [.str a] h = .ok (.int l) h := by
        have : dgO a = some l := by
          unfold dgL at hd
          split at hd
          · rename_i m em
            split at hd
            · cases hd; exact em
            · cases hd
          · cases hd
        exact int_dg false this h
      by_cases hn : b = ("never" : PySem.Str)
      · have eq1 : (if b = ("never" : PySem.Str) then some (l, ([] : List Tm)) else match mapO (tmL size) (Txt.split b (" | " : PySem.Str)) with
          | some ts => if ts.map (·.1) = sortU (ts.map (·.1)) then some (l, ts) else none
          | none => none) = some (l, []) := if_pos hn
        show _ = Res.ok (oV ruP (if b = ("never" : PySem.Str) then some (l, ([] : List Tm)) else match mapO (tmL size) (Txt.split b (" | " : PySem.Str)) with
          | some ts => if ts.map (·.1) = sortU (ts.map (·.1)) then some (l, ts) else none
          | none => none)) h
        rw [eq1]
        simp only [EV, EVS, EVB, kMth_of (pre_split _ _), hsp', len_lst, el, cmp_ne', eq_int, decide_true, Option.map_some, Bool.not_true, atI_0, atI_1, e1, is_non, isNon, oV, cmp_eq_str, decide_eq_true hn, ei, guard_yes nil_le, guard_yes (two_le _ _), List.getElem?_cons_zero, List.getElem?_cons_succ, List.set_cons_zero, List.set_cons_succ]
        rfl
      · have eq1 : (if b = ("never" : PySem.Str) then some (l, ([] : List Tm)) else match mapO (tmL size) (Txt.split b (" | " : PySem.Str)) with
          | some ts => if ts.map (·.1) = sortU (ts.map (·.1)) then some (l, ts) else none
          | none => none) = match mapO (tmL size) (Txt.split b (" | " : PySem.Str)) with
          | some ts => if ts.map (·.1) = sortU (ts.map (·.1)) then some (l, ts) else none
          | none => none := if_neg hn
        show _ = Res.ok (oV ruP (if b = ("never" : PySem.Str) then some (l, ([] : List Tm)) else match mapO (tmL size) (Txt.split b (" | " : PySem.Str)) with
          | some ts => if ts.map (·.1) = sortU (ts.map (·.1)) then some (l, ts) else none
          | none => none)) h
        rw [eq1]
        have hsp2 := m_split (x := b) (y := (" | " : PySem.Str)) h (by rw [l3]; rfl) (by unfold szB; omega) rfl
        have hsl2 := split_len b (y := (" | " : PySem.Str)) (by omega)
        have hs3 := split_len3 b l3
        generalize Txt.split b (" | " : PySem.Str) = ps at *
        have hw : walkOf .seq [.lst (ps.map .str)] h = some (.one (.fixL (ps.map .str))) := rfl
        have hln : (Walk.one (.fixL (ps.map .str))).len h = (ps.map PV.str).length := rfl
        have gsz : (ps.map PV.str).length ≤ szB := by rw [List.length_map]; unfold szB; omega
        have c1 : compN (.one (.fixL (ps.map .str))) (kTurn (callN tb (n + 2)) [5] (.nm 5) .nop (.call 30 [(.var 5), (.var 1)]) [some (.str x), some (.int size), some (.lst [.str a, .str b]), none, none, none, none]) ((ps.map PV.str).length + 1) 0 h = .ok (ps.map fun p => oV tmP (tmL size p)) h := by
          refine comp_vals (fun i => fixL_next _ i _) fun p hp => ?_
          have e := lterm_gen n p size h (by have := hsl2.2 p hp; omega)
          simp only [kTurn, bindT, wipeP, isNop, if_true, EV, EVB, kT2, noExc, e, List.getElem?_cons_zero, List.getElem?_cons_succ, List.set_cons_zero, List.set_cons_succ]
        have em : (ps.map fun p => oV tmP (tmL size p)) = (ps.map (tmL size)).map (oV tmP) := by rw [List.map_map]; rfl
        rw [em] at c1
        have hin := none_tm (ps.map (tmL size)) h
        have hos := mapO_os (g := tmL size) ps
        cases hany : (ps.map (tmL size)).any (·.isNone)
        · rw [hany] at hin hos
          obtain ⟨ts, e2, e3⟩ := hos
          have ev : (ps.map (tmL size)).map (oV tmP) = ts.map tmP := by rw [e3, List.map_map]; rfl
          rw [ev] at c1 hin
          rw [e2]
          have hmem := (mapO_len e2)
          have hlen : ts.length = ps.length := hmem.1
          have hw2 : walkOf .seq [.lst (ts.map tmP)] h = some (.one (.fixL (ts.map tmP))) := rfl
          have hln2 : (Walk.one (.fixL (ts.map tmP))).len h = (ts.map tmP).length := rfl
          have gsz2 : (ts.map tmP).length ≤ szB := by rw [List.length_map, hlen]; unfold szB; omega
          have c2 : compN (.one (.fixL (ts.map tmP))) (kTurn (callN tb (n + 2)) [6] (.nm 6) .nop (.idx (.var 6) (.cst (.int 0))) [some (.str x), some (.int size), some (.lst [.str a, .str b]), some (.lst (ts.map tmP)), none, none, none]) ((ts.map tmP).length + 1) 0 h = .ok (ts.map fun t => PV.int t.1) h := by
            refine comp_vals (fun i => fixL_next _ i _) fun t _ => ?_
            simp only [tmP, kTurn, bindT, wipeP, isNop, if_true, EV, EVB, kT2, noExc, atI_0, List.getElem?_cons_zero, List.getElem?_cons_succ, List.set_cons_zero, List.set_cons_succ]
          have em2 : (ts.map fun t => PV.int t.1) = (ts.map (·.1)).map .int := by rw [List.map_map]; rfl
          rw [em2] at c2
          have es := ssrt_ok (ts.map (·.1)) h (by rw [List.length_map, hlen]; omega) (sortU_few h8 fun i hi => by
            obtain ⟨t, ht, rfl⟩ := List.mem_map.mp hi
            obtain ⟨p, _, ep⟩ := hmem.2 t ht
            exact tmL_lo ep)
          by_cases hs : ts.map (·.1) = sortU (ts.map (·.1))
          · have eq2 : (if ts.map (·.1) = sortU (ts.map (·.1)) then some (l, ts) else none) = some (l, ts) := if_pos hs
            show _ = Res.ok (oV ruP (if ts.map (·.1) = sortU (ts.map (·.1)) then some (l, ts) else none)) h
            rw [eq2]
            simp only [EV, EVS, EVB, EVX, kMth_of (pre_split _ _), hsp', len_lst, el, cmp_ne', eq_int, decide_true, Option.map_some, Bool.not_true, atI_0, atI_1, e1, is_non, isNon, oV, cmp_eq_str, eq_str, decide_eq_false hn, hsp2, kLc, kLcW, hw, hln, guard_yes gsz, c1, hin, hw2, hln2, guard_yes gsz2, c2, es, cmp_eq', eq_ints, decide_eq_true hs, ei, tuple_lst, guard_yes (two_le _ _), List.getElem?_cons_zero, List.getElem?_cons_succ, List.set_cons_zero, List.set_cons_succ]
            rfl
          · have eq2 : (if ts.map (·.1) = sortU (ts.map (·.1)) then some (l, ts) else none) = none := if_neg hs
            show _ = Res.ok (oV ruP (if ts.map (·.1) = sortU (ts.map (·.1)) then some (l, ts) else none)) h
            rw [eq2]
            simp only [EV, EVS, EVB, EVX, kMth_of (pre_split _ _), hsp', len_lst, el, cmp_ne', eq_int, decide_true, Option.map_some, Bool.not_true, atI_0, atI_1, e1, is_non, isNon, oV, cmp_eq_str, eq_str, decide_eq_false hn, hsp2, kLc, kLcW, hw, hln, guard_yes gsz, c1, hin, hw2, hln2, guard_yes gsz2, c2, es, cmp_eq', eq_ints, decide_eq_false hs, List.getElem?_cons_zero, List.getElem?_cons_succ, List.set_cons_zero, List.set_cons_succ]
        · rw [hany] at hin hos
          have e2 : mapO (tmL size) ps = none := hos
          rw [e2]
          simp only [EV, EVS, EVB, EVX, kMth_of (pre_split _ _), hsp', len_lst, el, cmp_ne', eq_int, decide_true, Option.map_some, Bool.not_true, atI_0, atI_1, e1, is_non, isNon, oV, cmp_eq_str, eq_str, decide_eq_false hn, hsp2, kLc, kLcW, hw, hln, guard_yes gsz, c1, hin, List.getElem?_cons_zero, List.getElem?_cons_succ, List.set_cons_zero, List.set_cons_succ]
  · have er : ruL size x = none := by
      unfold ruL
      split
      · rename_i a b hab
        rw [hab] at hp
        exact absurd rfl hp
      · rfl
    have hne : ¬ ((((Txt.split x (" <= " : PySem.Str)).map PV.str).length : Nat) : Int) = 2 := by rw [List.length_map]; omega
    rw [er]
    simp only [EV, EVS, EVB, kMth_of (pre_split _ _), hsp, len_lst, cmp_ne', eq_int, decide_eq_false hne, Option.map_some, Bool.not_false, oV, List.getElem?_cons_zero, List.getElem?_cons_succ, List.set_cons_zero, List.set_cons_succ]
def rsV (p : Int × List Ru) : PV := rsP p.1 p.2
theorem slc_1l (xs : List PV) (h : PHeap) : slcOp false (.lst xs) (some 1) none h = .ok (.lst (xs.drop 1)) h := by
  have e : cutL xs (some 1) none = xs.drop 1 := by
    by_cases hz : 1 ≤ xs.length
    · exact cut_from _ 1 hz
    · have : xs = [] := List.eq_nil_of_length_eq_zero (by omega)
      rw [this]
      rfl
  simp only [slcOp, deref, e]
  rfl
theorem lparsed_gen (n : Nat) (x : PySem.Str) (h : PHeap) (hl : x.length ≤ 10000) : callN tb (n + 4) 32 [.str x] h = .ok (oV rsV (rsL x)) h := by
  rw [callN_at (n + 3) 32 _ h ir__law_parsed rfl rfl]
  show (evalSs (callN tb (n + 3)) ir__law_parsed.body [some (.str x), none, none, none, none] h).res = _
  unfold ir__law_parsed
  have h2 : ("; " : PySem.Str).length = 2 := cps_len lit_semi
  have hsp := m_split (x := x) (y := ("; " : PySem.Str)) h (by rw [h2]; rfl) (by unfold szB; omega) rfl
  have hsl := split_len x (y := ("; " : PySem.Str)) (by omega)
  have hne := split_ne x ("; " : PySem.Str)
  have hrl : rsL x = match dgL (headS (Txt.split x ("; " : PySem.Str))) 9 with
    | some n => if n = 0 ∨ 25 < (Txt.split x ("; " : PySem.Str)).length then none else match mapO (ruL n) (Txt.split x ("; " : PySem.Str)).tail with
      | some rs => some (n, rs)
      | none => none
    | none => none := rfl
  rw [hrl]
  cases hps : Txt.split x ("; " : PySem.Str) with
  | nil => exact absurd hps hne
  | cons q qs =>
    rw [hps] at hsp hsl
    have hq : headS (q :: qs) = q := rfl
    have ht : (q :: qs).tail = qs := rfl
    rw [hq, ht]
    rw [List.map_cons] at hsp
    have e1 := digits_gen (n + 2) q 9 h
    cases hd : dgL q 9 with
    | none =>
      rw [hd] at e1
      simp only [oV] at e1
      simp only [EV, EVS, EVB, kMth_of (pre_split _ _), hsp, atI_h, e1, is_non, isNon, oV, List.getElem?_cons_zero, List.getElem?_cons_succ, List.set_cons_zero, List.set_cons_succ]
    | some s =>
      rw [hd] at e1
      simp only [oV] at e1
      have hs8 : s ≤ 8 := by have := (dgL_back hd).2.2; omega
      show _ = Res.ok (oV rsV (if s = 0 ∨ 25 < (q :: qs).length then none else match mapO (ruL s) qs with
        | some rs => some (s, rs)
        | none => none)) h
      by_cases h0 : s = 0
      · have eq1 : (if s = 0 ∨ 25 < (q :: qs).length then (none : Option (Int × List Ru)) else match mapO (ruL s) qs with
          | some rs => some (s, rs)
          | none => none) = none := if_pos (.inl h0)
        rw [eq1]
        simp only [EV, EVS, EVB, kMth_of (pre_split _ _), hsp, atI_h, e1, is_non, isNon, cmp_eq', eq_int, decide_eq_true h0, oV, List.getElem?_cons_zero, List.getElem?_cons_succ, List.set_cons_zero, List.set_cons_succ]
      · by_cases h25 : 25 < (q :: qs).length
        · have eq1 : (if s = 0 ∨ 25 < (q :: qs).length then (none : Option (Int × List Ru)) else match mapO (ruL s) qs with
            | some rs => some (s, rs)
            | none => none) = none := if_pos (.inr h25)
          rw [eq1]
          have k25 : (25 : Int) < (((PV.str q :: qs.map .str).length : Nat) : Int) := by
            rw [List.length_cons, List.length_map]
            rw [List.length_cons] at h25
            omega
          simp only [EV, EVS, EVB, kMth_of (pre_split _ _), hsp, atI_h, e1, is_non, isNon, cmp_eq', eq_int, decide_eq_false h0, len_lst, k25, decide_true, oV, List.getElem?_cons_zero, List.getElem?_cons_succ, List.set_cons_zero, List.set_cons_succ]
        · have eq1 : (if s = 0 ∨ 25 < (q :: qs).length then (none : Option (Int × List Ru)) else match mapO (ruL s) qs with
            | some rs => some (s, rs)
            | none => none) = match mapO (ruL s) qs with
            | some rs => some (s, rs)
            | none => none := if_neg fun z => z.elim h0 h25
          rw [eq1]
          have k25 : ¬ (25 : Int) < (((PV.str q :: qs.map .str).length : Nat) : Int) := by
            rw [List.length_cons, List.length_map]
            rw [List.length_cons] at h25
            omega
          have hw : walkOf .seq [.lst (qs.map .str)] h = some (.one (.fixL (qs.map .str))) := rfl
          have hln : (Walk.one (.fixL (qs.map .str))).len h = (qs.map PV.str).length := rfl
          have gsz : (qs.map PV.str).length ≤ szB := by
            rw [List.length_cons] at h25
            rw [List.length_map]
            unfold szB
            omega
          have hdr : (PV.str q :: qs.map PV.str).drop 1 = qs.map .str := rfl
          have c1 : compN (.one (.fixL (qs.map .str))) (kTurn (callN tb (n + 3)) [4] (.nm 4) .nop (.call 31 [(.var 4), (.var 2)]) [some (.str x), some (.lst (PV.str q :: qs.map PV.str)), some (.int s), none, none]) ((qs.map PV.str).length + 1) 0 h = .ok (qs.map fun p => oV ruP (ruL s p)) h := by
            refine comp_vals (fun i => fixL_next _ i _) fun p hp => ?_
            have e := lrule_gen n p hs8 h (by have := hsl.2 p (List.mem_cons_of_mem _ hp); omega)
            simp only [kTurn, bindT, wipeP, isNop, if_true, EV, EVB, kT2, noExc, e, List.getElem?_cons_zero, List.getElem?_cons_succ, List.set_cons_zero, List.set_cons_succ]
          have em : (qs.map fun p => oV ruP (ruL s p)) = (qs.map (ruL s)).map (oV ruP) := by rw [List.map_map]; rfl
          rw [em] at c1
          have hin := none_ru (qs.map (ruL s)) h
          have hos := mapO_os (g := ruL s) qs
          cases hany : (qs.map (ruL s)).any (·.isNone)
          · rw [hany] at hin hos
            obtain ⟨rs, e2, e3⟩ := hos
            have ev : (qs.map (ruL s)).map (oV ruP) = rs.map ruP := by rw [e3, List.map_map]; rfl
            rw [ev] at c1 hin
            rw [e2]
            simp only [EV, EVS, EVB, kMth_of (pre_split _ _), hsp, atI_h, e1, is_non, isNon, cmp_eq', eq_int, decide_eq_false h0, len_lst, k25, decide_false, slc_1l, hdr, kLc, kLcW, hw, hln, guard_yes gsz, c1, hin, tuple_lst, guard_yes (two_le _ _), oV, List.getElem?_cons_zero, List.getElem?_cons_succ, List.set_cons_zero, List.set_cons_succ]
            rfl
          · rw [hany] at hin hos
            have e2 : mapO (ruL s) qs = none := hos
            rw [e2]
            simp only [EV, EVS, EVB, kMth_of (pre_split _ _), hsp, atI_h, e1, is_non, isNon, cmp_eq', eq_int, decide_eq_false h0, len_lst, k25, decide_false, slc_1l, hdr, kLc, kLcW, hw, hln, guard_yes gsz, c1, hin, oV, List.getElem?_cons_zero, List.getElem?_cons_succ, List.set_cons_zero, List.set_cons_succ]
end K85
end

section
set_option Elab.async false
set_option linter.all false
set_option maxRecDepth 100000
set_option maxHeartbeats 4000000
namespace K85
open PySem Rf
/-! the source -/
theorem pow_a (h : PHeap) : guardR (PowOk 10 60) (Res.ok (PV.int (10 ^ (Int.toNat 60))) h) = .ok (.int (10 ^ 60)) h := by
  rw [guard_yes (by decide +kernel)]
  rfl
def big : Int := (10 ^ 60) ^ 11
theorem pow_b (h : PHeap) : guardR (PowOk (10 ^ 60) 11) (Res.ok (PV.int ((10 ^ 60) ^ (Int.toNat 11))) h) = .ok (.int big) h := by
  rw [guard_yes (by decide +kernel)]
  rfl
theorem big_pos : 0 < big := by decide +kernel
theorem pow_c (h : PHeap) : guardR (PowOk 10 18) (Res.ok (PV.int (10 ^ (Int.toNat 18))) h) = .ok (.int (10 ^ 18)) h := by
  rw [guard_yes (by decide +kernel)]
  rfl
theorem len_scr (mu : Bool) (xs : List PV) (h : PHeap) : biOp .len mu [.scr xs] h = .ok (.int xs.length) h := rfl
theorem three_le (a b c : PV) : ([a, b, c] : List PV).length ≤ szB := (by decide : 3 ≤ szB)
theorem source_ok (n : Nat) (ns : List Int) (i : Nat) (h : PHeap) : ∃ a b, callN tb (n + 1) 19 [.scr (ns.map .int), .int ((i : Nat) : Int)] h = .ok (.loc h.length) (h ++ [.lst [.int a, .int b, .int 0]]) ∧ 0 ≤ a ∧ 0 ≤ b := by
  rw [callN_at n 19 _ h ir__law_source rfl rfl]
  show ∃ a b, (evalSs (callN tb n) ir__law_source.body [some (.scr (ns.map .int)), some (.int ((i : Nat) : Int)), none, none, none] h).res = _ ∧ _
  have key : ∃ cell : Int, evalE (callN tb n) (.ite (.cmp .lt (.var 1) (.bi .len false [(.var 0)])) (.idx (.var 0) (.var 1)) (.bin .add (.bin .mul (.cst (.int 5)) (.var 1)) (.cst (.int 4)))) [some (.scr (ns.map .int)), some (.int ((i : Nat) : Int)), none, none, none] h = .ok (.int cell) h := by
    by_cases hi : i < ns.length
    · have h1 : ((i : Nat) : Int) < (((ns.map PV.int).length : Nat) : Int) := by rw [List.length_map]; omega
      have ei : L2.atI (ns.map PV.int) ((i : Nat) : Int) = some (.int ns[i]) := atI_nat (by rw [List.getElem?_map, List.getElem?_eq_getElem hi]; rfl)
      exact ⟨ns[i], by simp only [EV, EVB, len_scr, h1, decide_true, ei, List.getElem?_cons_zero, List.getElem?_cons_succ]⟩
    · have h1 : ¬ ((i : Nat) : Int) < (((ns.map PV.int).length : Nat) : Int) := by rw [List.length_map]; omega
      have gm : MulOk 5 ((i : Nat) : Int) := mul_l (by decide) (by decide)
      exact ⟨5 * ((i : Nat) : Int) + 4, by simp only [EV, EVB, len_scr, h1, decide_false, guard_yes gm, List.getElem?_cons_zero, List.getElem?_cons_succ]⟩
  obtain ⟨cell, ec⟩ := key
  have g1 : ∀ x : Int, MulOk x 6364136223846793005 := fun x => mul_r (by decide) (by decide)
  have g2 : ∀ x : Int, MulOk 1181783497 x := fun x => mul_l (by decide) (by decide)
  have g3 : (0 : Int) < 9007199254740881 := by decide
  have key2 : ∀ x : Int, 0 ≤ (if x > 0 then x else 0) := fun x => by split <;> omega
  refine ⟨(if ((if cell < 0 then -cell else cell) % big) - 10 ^ 18 + 1 > 0 then ((if cell < 0 then -cell else cell) % big) - 10 ^ 18 + 1 else 0), (((if cell < 0 then -cell else cell) % big) * 6364136223846793005 + 1181783497 * ((i : Nat) : Int) + (if decide (cell < 0) = true then 1 else 0)) % 9007199254740881, ?_, ?_, ?_⟩
  rotate_left
  · exact key2 (((if cell < 0 then -cell else cell) % big) - 10 ^ 18 + 1)
  · exact Int.emod_nonneg (((if cell < 0 then -cell else cell) % big) * 6364136223846793005 + 1181783497 * ((i : Nat) : Int) + (if decide (cell < 0) = true then 1 else 0)) (by decide : (9007199254740881 : Int) ≠ 0)
  · have hb : ir__law_source.body = .set 2 (.ite (.cmp .lt (.var 1) (.bi .len false [(.var 0)])) (.idx (.var 0) (.var 1)) (.bin .add (.bin .mul (.cst (.int 5)) (.var 1)) (.cst (.int 4)))) :: ir__law_source.body.drop 1 := rfl
    have hd : ir__law_source.body.drop 1 = [.set 3 (.bin .mod (.bi .abs false [(.var 2)]) (.bin .pow (.bin .pow (.cst (.int 10)) (.cst (.int 60))) (.cst (.int 11)))),
      .set 4 (.bin .mod (.bin .add (.bin .add (.bin .mul (.var 3) (.cst (.int 6364136223846793005))) (.bin .mul (.cst (.int 1181783497)) (.var 1))) (.bi .int false [(.cmp .lt (.var 2) (.cst (.int 0)))])) (.cst (.int 9007199254740881))),
      .ret (.lst true [(.bi .max false [(.cst (.int 0)), (.bin .add (.bin .sub (.var 3) (.bin .pow (.cst (.int 10)) (.cst (.int 18)))) (.cst (.int 1)))]), (.var 4), (.cst (.int 0))])] := rfl
    rw [hb, hd, ss_cons, s_set, ec]
    simp only [EV, EVS, EVB, pow_a, pow_b, pow_c, guard_yes big_pos, guard_yes (g1 _), guard_yes (g2 _), guard_yes g3, guard_yes (three_le _ _ _), List.getElem?_cons_zero, List.getElem?_cons_succ, List.set_cons_zero, List.set_cons_succ]
end K85
end

section
set_option Elab.async false
set_option linter.all false
set_option maxRecDepth 100000
set_option maxHeartbeats 4000000
namespace K85
open PySem Rf
def isStrB : PV → Bool
  | .str _ => true
  | _ => false
theorem isi_str (mu : Bool) {n : Nat} {h : PHeap} {v : PV} (f : fineB n h v = true) : biOp .isinst mu [v, .ty "str"] h = .ok (.bl (isStrB v)) h := by
  obtain ⟨t, e⟩ := fine_ty f
  refine isi v t _ _ _ _ e ?_
  cases v with
  | loc l =>
    rcases ty_loc e with rfl | rfl
    · show _ = some false; decide
    · show _ = some false; decide
  | ty n => cases e
  | str xs => cases e; show _ = some true; decide
  | _ => cases e; show _ = some false; decide
theorem pick_all {P : PV → Prop} {ys : List PV} {k : Int} (h : ∀ y ∈ ys, P y) (h0 : 0 ≤ k) (h1 : k < ys.length) : ∃ y, L2.atI ys k = some y ∧ P y := by
  have hk : k.toNat < ys.length := by omega
  have e := atI_nat (List.getElem?_eq_getElem hk)
  rw [Int.toNat_of_nonneg h0] at e
  exact ⟨_, e, h _ (List.getElem_mem hk)⟩
theorem l18 (a1 a2 a3 a4 a5 a6 a7 a8 a9 a10 a11 a12 a13 a14 a15 a16 a17 a18 : PV) : ([a1, a2, a3, a4, a5, a6, a7, a8, a9, a10, a11, a12, a13, a14, a15, a16, a17, a18] : List PV).length ≤ szB := (by decide : 18 ≤ szB)
theorem l11 (a1 a2 a3 a4 a5 a6 a7 a8 a9 a10 a11 : PV) : ([a1, a2, a3, a4, a5, a6, a7, a8, a9, a10, a11] : List PV).length ≤ szB := (by decide : 11 ≤ szB)
theorem l12 (a1 a2 a3 a4 a5 a6 a7 a8 a9 a10 a11 a12 : PV) : ([a1, a2, a3, a4, a5, a6, a7, a8, a9, a10, a11, a12] : List PV).length ≤ szB := (by decide : 12 ≤ szB)
theorem l7 (a1 a2 a3 a4 a5 a6 a7 : PV) : ([a1, a2, a3, a4, a5, a6, a7] : List PV).length ≤ szB := (by decide : 7 ≤ szB)
theorem l6 (a1 a2 a3 a4 a5 a6 : PV) : ([a1, a2, a3, a4, a5, a6] : List PV).length ≤ szB := (by decide : 6 ≤ szB)
theorem l5 (a1 a2 a3 a4 a5 : PV) : ([a1, a2, a3, a4, a5] : List PV).length ≤ szB := (by decide : 5 ≤ szB)
theorem l3 (a1 a2 a3 : PV) : ([a1, a2, a3] : List PV).length ≤ szB := (by decide : 3 ≤ szB)
theorem ev_d1 (c : Call) (ρ : PSt) (h : PHeap) : evalE c (.d1 (.cst (.int 0)) (.cst (.int 0))) ρ h = .ok (.loc h.length) (h ++ [.dK [(.inl 0, .int 0)]]) := by
  have e : (h ++ [PO.dK []])[h.length]? = some (.dK []) := push_at _ _
  simp only [evalE, Res.bind, keyOf, orStuck, e]
  rw [set_push]
theorem g40 : PowOk 10 40 := by decide +kernel
theorem g41 : PowOk 10 41 := by decide +kernel
theorem odd_ok (n : Nat) {l : Nat} {m : Int} {h : PHeap} (s : SrcOk h l m) (h6 : m ≤ 900000) :
    ∃ v h', callN tb (n + 2) 26 [.loc l] h = .ok v h' ∧ fineB 0 h' v = true ∧ Dr l h h' (m + 1) := by
  rw [callN_at (n + 1) 26 _ h ir__law_odd rfl rfl]
  show ∃ v h', (evalSs (callN tb (n + 1)) ir__law_odd.body [some (.loc l), none] h).res = _ ∧ _
  unfold ir__law_odd
  have d1 := ((Dr.refl s).push (.dK [])).push (.dK [(.inl 0, .int 0)])
  obtain ⟨k, h2, e2, k0, k1, d2, l2⟩ := draw_ok n (many := 25) d1.src (by decide) (by decide) (by omega)
  have hl : l < h.length := s.lt
  have a1 : h2[h.length]? = some (.dK []) := d2.fr.at (by rw [List.getElem?_append_left (by rw [List.length_append]; exact Nat.lt_succ_self _)]; exact push_at _ _) (by omega)
  have a2 : h2[(h ++ [PO.dK []]).length]? = some (.dK [(.inl 0, .int 0)]) := d2.fr.at (push_at _ _) (by rw [List.length_append]; omega)
  have t1 : fineB 0 h2 (.loc h.length) = true := by
    show (tyOf h2 (.loc h.length)).isSome = true
    simp only [tyOf, deref, a1]
    rfl
  have t2 : fineB 0 h2 (.loc (h ++ [PO.dK []]).length) = true := by
    show (tyOf h2 (.loc (h ++ [PO.dK []]).length)).isSome = true
    simp only [tyOf, deref, a2]
    rfl
  have hall : ∀ y ∈ ([PV.non, .bl true, .bl false, .int (-1), .int 0, .int 1, .int 8, .int (10 ^ Int.toNat 40), .int (1 - 10 ^ Int.toNat 41), .str (("" : Str)), .str (("a" : Str)), .str (("0" : Str)), .tup [], .tup [.int 0], .tup [.int 0, .int 0], .lst [], .lst [.int 0], .loc h.length] ++
      [.tup [.non], .tup [.tup []], .tup [.tup [.int 0, .int 0]], .tup [.int 0, .tup [.tup [.int 0, .int 0]]], .tup [.int 1, .tup []], .tup [.int 9, .tup []], .loc (h ++ [PO.dK []]).length] : List PV), fineB 0 h2 y = true := by
    intro y hy
    simp only [List.cons_append, List.nil_append, List.mem_cons, List.not_mem_nil, or_false] at hy
    rcases hy with rfl | rfl | rfl | rfl | rfl | rfl | rfl | rfl | rfl | rfl | rfl | rfl | rfl | rfl | rfl | rfl | rfl | rfl | rfl | rfl | rfl | rfl | rfl | rfl | rfl <;> first | rfl | exact t1 | exact t2
  obtain ⟨v, e3, hv⟩ := pick_all hall k0 k1
  have e1 := cat_lst [PV.non, .bl true, .bl false, .int (-1), .int 0, .int 1, .int 8, .int (10 ^ Int.toNat 40), .int (1 - 10 ^ Int.toNat 41), .str (("" : Str)), .str (("a" : Str)), .str (("0" : Str)), .tup [], .tup [.int 0], .tup [.int 0, .int 0], .lst [], .lst [.int 0], .loc h.length]
      [.tup [.non], .tup [.tup []], .tup [.tup [.int 0, .int 0]], .tup [.int 0, .tup [.tup [.int 0, .int 0]]], .tup [.int 1, .tup []], .tup [.int 9, .tup []], .loc (h ++ [PO.dK []]).length] (h ++ [.dK []] ++ [.dK [(.inl 0, .int 0)]]) (by decide : 18 + 7 ≤ szB)
  refine ⟨v, h2, ?_, hv, d1.trans d2⟩
  simp only [EV, EVS, EVB, guard_yes g40, guard_yes g41, ev_d1, guard_yes nil_le, guard_yes (one_le _), guard_yes (two_le _ _), guard_yes (l18 _ _ _ _ _ _ _ _ _ _ _ _ _ _ _ _ _ _), guard_yes (l7 _ _ _ _ _ _ _), e1, e2, e3, List.getElem?_cons_zero, List.getElem?_cons_succ, List.set_cons_zero, List.set_cons_succ]
end K85
end

section
set_option Elab.async false
set_option linter.all false
set_option maxRecDepth 100000
set_option maxHeartbeats 4000000
namespace K85
open PySem Rf
theorem set_self {h : PHeap} {B : Nat} {o : PO} (e : h[B]? = some o) : h.set B o = h := by
  refine List.ext_getElem? fun i => ?_
  by_cases hi : i = B
  · subst hi
    rw [e, List.getElem?_set_self (List.getElem?_eq_some_iff.mp e).1]
  · rw [List.getElem?_set_ne (Ne.symm hi)]
theorem app_loop {c : Call} {B : Nat} {ex : E} {f : PV → PV} {xs base : List PV} {h : PHeap} {p0 p1 p2 p5 p6 : Option PV} (he : ∀ x ∈ xs, ∀ h', evalE c ex [p0, p1, p2, some (.loc B), some x, p5, p6] h' = .ok (f x) h') (eB : h[B]? = some (.lst base)) (hz : base.length + xs.length < 1000) (a : Option PV) :
    ∃ a', loopN (.one (.fixL xs)) (kBody c (.nm 4) [.ex (.mth .append (.var 3) [ex])]) (xs.length + 1) 0 [p0, p1, p2, some (.loc B), a, p5, p6] h = .nx [p0, p1, p2, some (.loc B), a', p5, p6] (h.set B (.lst (base ++ xs.map f))) := by
  have lp := loop_xs (w := .one (.fixL xs)) (body := kBody c (.nm 4) [.ex (.mth .append (.var 3) [ex])]) (fun i h => fixL_next _ i h)
    (fun i ρ h' => ∃ a', ρ = [p0, p1, p2, some (.loc B), a', p5, p6] ∧ h' = h.set B (.lst (base ++ (xs.take i).map f)))
    (by
      rintro i x ρ h' hx ⟨a', rfl, rfl⟩
      have hi := (List.getElem?_eq_some_iff.mp hx).1
      have eb : (h.set B (.lst (base ++ (xs.take i).map f)))[B]? = some (.lst (base ++ (xs.take i).map f)) := set_at eB
      have e1 := he x (List.mem_of_getElem? hx) (h.set B (.lst (base ++ (xs.take i).map f)))
      have pa := pre_app eb
      have ma := m_app (y := f x) eb (by rw [List.length_append, List.length_map, List.length_take]; unfold szB; omega)
      rw [List.set_set] at ma
      refine ⟨_, _, ?_, some x, rfl, rfl⟩
      have et : base ++ (xs.take (i + 1)).map f = base ++ (xs.take i).map f ++ [f x] := by
        rw [List.take_add_one, hx, List.map_append, List.append_assoc]
        rfl
      rw [et]
      simp only [kBody, bindT, EV, EVS, EVB, kB2, kMth_of pa, e1, ma, List.getElem?_cons_zero, List.getElem?_cons_succ, List.set_cons_zero, List.set_cons_succ])
    xs.length 0 [p0, p1, p2, some (.loc B), a, p5, p6] h (by omega) ⟨a, rfl, by rw [List.take_zero, List.map_nil, List.append_nil, set_self eB]⟩
  obtain ⟨ρ', h', e, a', rfl, rfl⟩ := lp
  rw [List.take_length] at e
  exact ⟨a', e⟩
def rowP : PV := .tup [.int 0, .tup [.tup [.int 0, .int 1]]]
def b1 (size : Int) (rs : List Ru) (a : Nat) : List PV := [.non, .tup [], .int 3, .str (("rules" : Str)), .loc a, .lst [.int size, .tup (rs.map ruP)], .tup [.int size], .tup [.int size, .tup (rs.map ruP), .int 0], .tup [.int 0, .tup (rs.map ruP)], .tup [.int 9, .tup []], .tup [.bl true, .tup []]]
def b2 (size : Int) (rs : List Ru) : List PV := [.tup [.int size, .lst (rs.map ruP)], .tup [.int size, .tup (List.replicate 25 [rowP]).flatten], .tup [.int size, .tup [.tup [.int size, .tup []]]], .tup [.int size, .tup [.tup [.int (-1), .tup []]]], .tup [.int size, .tup [.non]]]
def o1 (size : Int) : List PV := [.tup [.int 0, .lst [.tup [.int 0, .int 1]]], .tup [.int 0, .tup [.tup [.int 0, .int 60]]], .tup [.int 0, .tup [.tup [.int 0, .int (-61)]]], .tup [.int 0, .tup [.tup [.int size, .int 0]]], .tup [.int 0], .tup [.int 0, .tup [.tup [.int 0, .int 1], .tup [.int 0, .int 2]]]]
def o2 : List PV := [.tup [.int 0, .tup [.tup [.int 0, .bl true]]], .tup [.bl false, .tup []], .tup [.lst [], .tup []]]
def f1 (size : Int) (x : PV) : PV := .tup [.int size, .tup [x]]
def f2 (size : Int) (rs : List Ru) (x : PV) : PV := .tup [.int size, .tup ((rs.map ruP).take 23 ++ [x])]
/-! none of them is a rule set -/
theorem not_loose1 (size : Int) (x : PV) (h : okLoose size x = false) : okSet (f1 size x) = false := by
  show ((okBt (.int size) 1 8 && (okLoose size x && true)) && _) = false
  rw [h, Bool.false_and, Bool.and_false, Bool.false_and]
theorem not_by1 (size : Int) (x : PV) (h : okBy size x = false) : okSet (f1 size x) = false := by
  show (_ && (decide (1 ≤ 24) && (okBy size x && true))) = false
  rw [h, Bool.false_and, Bool.and_false, Bool.and_false]
theorem not_loose2 (size : Int) (rs : List Ru) (x : PV) (h : okLoose size x = false) : okSet (f2 size rs x) = false := by
  show ((okBt (.int size) 1 8 && ((rs.map ruP).take 23 ++ [x]).all (okLoose size)) && _) = false
  rw [List.all_append]
  show ((okBt (.int size) 1 8 && (_ && (okLoose size x && true))) && _) = false
  rw [h, Bool.false_and, Bool.and_false, Bool.and_false, Bool.false_and]
theorem self_out (size : Int) : okBt (.int size) 0 (size - 1) = false := by
  rw [bt_lt, decide_eq_false]
  omega
theorem o1_bad (size : Int) : ∀ x ∈ o1 size, okSet (f1 size x) = false := by
  intro x hx
  unfold o1 at hx
  simp only [List.mem_cons, List.not_mem_nil, or_false] at hx
  rcases hx with rfl | rfl | rfl | rfl | rfl | rfl
  · exact not_loose1 _ _ (Bool.and_false _)
  · refine not_by1 _ _ ?_
    show (_ && (okBt (.int 60) (-60) 59 && true)) = false
    exact Bool.and_false _
  · refine not_by1 _ _ ?_
    show (_ && (okBt (.int (-61)) (-60) 59 && true)) = false
    exact Bool.and_false _
  · refine not_loose1 _ _ ?_
    simp [okLoose, okTerms, okTm, self_out]
  · exact not_loose1 _ _ rfl
  · refine not_loose1 _ _ ?_
    simp [okLoose, okTerms, zipP, okLt]
theorem o2_bad (size : Int) (rs : List Ru) : ∀ x ∈ o2, okSet (f2 size rs x) = false := by
  intro x hx
  unfold o2 at hx
  simp only [List.mem_cons, List.not_mem_nil, or_false] at hx
  rcases hx with rfl | rfl | rfl
  · refine not_loose2 _ _ _ ?_
    simp [okLoose, okTerms, okTm, isI]
  · exact not_loose2 _ _ _ rfl
  · exact not_loose2 _ _ _ rfl
theorem b1_bad (size : Int) (rs : List Ru) (a : Nat) : ∀ x ∈ b1 size rs a, okSet x = false := by
  intro x hx
  unfold b1 at hx
  simp only [List.mem_cons, List.not_mem_nil, or_false] at hx
  rcases hx with rfl | rfl | rfl | rfl | rfl | rfl | rfl | rfl | rfl | rfl | rfl <;> rfl
theorem b2_bad (size : Int) (rs : List Ru) : ∀ x ∈ b2 size rs, okSet x = false := by
  intro x hx
  unfold b2 at hx
  simp only [List.mem_cons, List.not_mem_nil, or_false] at hx
  rcases hx with rfl | rfl | rfl | rfl | rfl
  · rfl
  · show (_ && (decide (25 ≤ 24) && _)) = false
    simp
  · refine not_loose1 size _ ?_
    show (okBt (.int size) 0 (size - 1) && okTerms size (.tup [])) = false
    rw [self_out]
    rfl
  · refine not_loose1 size _ ?_
    show (okBt (.int (-1)) 0 (size - 1) && okTerms size (.tup [])) = false
    rfl
  · exact not_loose1 size _ rfl
theorem fine_tup {n : Nat} {h : PHeap} {xs : List PV} (hl : xs.length ≤ szB) (hx : ∀ x ∈ xs, fineB n h x = true) : fineB (n + 1) h (.tup xs) = true := by
  show (decide (xs.length ≤ szB) && xs.all (fineB n h)) = true
  rw [decide_eq_true hl, Bool.true_and, List.all_eq_true]
  exact hx
theorem all_fine {size : Int} {rs : List Ru} {a : Nat} {h : PHeap} (hl : rs.length ≤ 24) (hr : ∀ r ∈ rs, r.2.length ≤ 8) (ha : h[a]? = some (.dK [])) :
    ∀ y ∈ b1 size rs a ++ b2 size rs ++ (o1 size).map (f1 size) ++ o2.map (f2 size rs), fineB 5 h y = true := by
  have ta : fineB 5 h (.loc a) = true := by
    show (tyOf h (.loc a)).isSome = true
    simp only [tyOf, deref, ha]
    rfl
  have hr' : ∀ r ∈ rs, r.2.length ≤ szB := fun r h => by have := hr r h; unfold szB; omega
  have hl' : rs.length ≤ szB := by unfold szB; omega
  have t0 : ∀ n, fineB n h (.tup (rs.map ruP)) = true := fun n => fine_rus n h rs hl' hr'
  have ti : ∀ n i, fineB n h (.int i) = true := fun n i => fine_int n h i
  have t2 : ∀ x ∈ o2, fineB 3 h x = true := by
    intro x hx
    unfold o2 at hx
    simp only [List.mem_cons, List.not_mem_nil, or_false] at hx
    rcases hx with rfl | rfl | rfl <;> rfl
  intro y hy
  rcases List.mem_append.mp hy with hy | hy
  · rcases List.mem_append.mp hy with hy | hy
    · rcases List.mem_append.mp hy with hy | hy
      · unfold b1 at hy
        simp only [List.mem_cons, List.not_mem_nil, or_false] at hy
        rcases hy with rfl | rfl | rfl | rfl | rfl | rfl | rfl | rfl | rfl | rfl | rfl
        · rfl
        · rfl
        · rfl
        · rfl
        · exact ta
        · rfl
        · rfl
        · refine fine_tup (l3 _ _ _) fun x hx => ?_
          simp only [List.mem_cons, List.not_mem_nil, or_false] at hx
          rcases hx with rfl | rfl | rfl
          · exact ti _ _
          · exact t0 _
          · exact ti _ _
        · refine fine_tup (two_le _ _) fun x hx => ?_
          simp only [List.mem_cons, List.not_mem_nil, or_false] at hx
          rcases hx with rfl | rfl
          · exact ti _ _
          · exact t0 _
        · rfl
        · rfl
      · unfold b2 at hy
        simp only [List.mem_cons, List.not_mem_nil, or_false] at hy
        rcases hy with rfl | rfl | rfl | rfl | rfl <;> rfl
    · obtain ⟨x, hx, rfl⟩ := List.mem_map.mp hy
      unfold o1 at hx
      simp only [List.mem_cons, List.not_mem_nil, or_false] at hx
      rcases hx with rfl | rfl | rfl | rfl | rfl | rfl <;> rfl
  · obtain ⟨x, hx, rfl⟩ := List.mem_map.mp hy
    unfold f2
    refine fine_tup (two_le _ _) fun z hz => ?_
    simp only [List.mem_cons, List.not_mem_nil, or_false] at hz
    rcases hz with rfl | rfl
    · exact ti _ _
    · refine fine_tup ?_ fun z hz => ?_
      · rw [List.length_append, List.length_take, List.length_map, List.length_singleton]
        unfold szB
        omega
      · rcases List.mem_append.mp hz with hz | hz
        · obtain ⟨r, hr2, rfl⟩ := List.mem_map.mp (List.mem_of_mem_take hz)
          exact fine_ru 3 h r (hr' r hr2)
        · rw [List.mem_singleton.mp hz]
          exact t2 x hx
theorem mul25 (x : PV) (h : PHeap) : binOp .mul (.tup [x]) (.int 25) h = .ok (.tup (List.replicate 25 [x]).flatten) h := by
  have e : binOp .mul (.tup [x]) (.int 25) h = guardR ((2 : Int) ≤ 25 ∧ (25 : Int) ≤ 1000 ∧ ([x] : List PV).length ≤ 1000) (.ok (.tup (List.replicate (Int.toNat 25) [x]).flatten) h) := rfl
  rw [e, guard_yes ⟨by decide, by decide, (by decide : 1 ≤ 1000)⟩]
  rfl
theorem slc_t (xs : List PV) (k : Nat) (h : PHeap) : slcOp false (.tup xs) none (some (k : Int)) h = .ok (.tup (xs.take k)) h := by
  simp only [slcOp, deref, cut_to]
theorem list_tup (xs : List PV) (h : PHeap) : biOp .list false [.tup xs] h = .ok (.lst xs) h := rfl
theorem no_rules_ok (n : Nat) {l : Nat} {m size : Int} {rs : List Ru} {h : PHeap} (s : SrcOk h l m) (h6 : m ≤ 900000) (hs : 1 ≤ size) (hs2 : size ≤ 8) (v : ∀ r ∈ rs, VR size r) (hl : rs.length ≤ 24) :
    ∃ y h', callN tb (n + 2) 27 [.loc l, rsP size rs] h = .ok y h' ∧ okSet y = false ∧ fineB 5 h' y = true ∧ Dr l h h' (m + 1) := by
  rw [callN_at (n + 1) 27 _ h ir__law_no_rules rfl rfl]
  show ∃ y h', (evalSs (callN tb (n + 1)) ir__law_no_rules.body [some (.loc l), some (rsP size rs), none, none, none, none, none] h).res = _ ∧ _
  have hlt := s.lt
  have hb : ir__law_no_rules.body = [.unp (.tp [(.nm 5), (.nm 6)]) (.var 1),
  .set 2 (.tup [(.cst (.int 0)), (.tup [(.tup [(.cst (.int 0)), (.cst (.int 1))])])]),
  .set 3 (.lst true [(.cst .non), (.tup []), (.cst (.int 3)), (.cst (.str (("rules" : Str)))), (.dnew false), (.bi .list false [(.var 1)]), (.slc false (.var 1) .nop (.cst (.int 1))), (.bin .add (.var 1) (.tup [(.cst (.int 0))])), (.tup [(.cst (.int 0)), (.var 6)]), (.tup [(.cst (.int 9)), (.tup [])]), (.tup [(.cst (.bl true)), (.tup [])])]),
  .set 3 (.cat true (.var 3) (.lst false [(.tup [(.var 5), (.bi .list false [(.var 6)])]), (.tup [(.var 5), (.bin .mul (.tup [(.var 2)]) (.cst (.int 25)))]), (.tup [(.var 5), (.tup [(.tup [(.var 5), (.tup [])])])]), (.tup [(.var 5), (.tup [(.tup [(.neg (.cst (.int 1))), (.tup [])])])]), (.tup [(.var 5), (.tup [(.cst .non)])])])),
  .for_ (.nm 4) .seq [(.lst false [(.tup [(.cst (.int 0)), (.lst false [(.tup [(.cst (.int 0)), (.cst (.int 1))])])]), (.tup [(.cst (.int 0)), (.tup [(.tup [(.cst (.int 0)), (.cst (.int 60))])])]), (.tup [(.cst (.int 0)), (.tup [(.tup [(.cst (.int 0)), (.neg (.cst (.int 61)))])])]), (.tup [(.cst (.int 0)), (.tup [(.tup [(.var 5), (.cst (.int 0))])])]), (.tup [(.cst (.int 0))]), (.tup [(.cst (.int 0)), (.tup [(.tup [(.cst (.int 0)), (.cst (.int 1))]), (.tup [(.cst (.int 0)), (.cst (.int 2))])])])])] [.ex (.mth .append (.var 3) [(.tup [(.var 5), (.tup [(.var 4)])])])],
  .for_ (.nm 4) .seq [(.lst false [(.tup [(.cst (.int 0)), (.tup [(.tup [(.cst (.int 0)), (.cst (.bl true))])])]), (.tup [(.cst (.bl false)), (.tup [])]), (.tup [(.lst false []), (.tup [])])])] [.ex (.mth .append (.var 3) [(.tup [(.var 5), (.bin .add (.slc false (.var 6) .nop (.cst (.int 23))) (.tup [(.var 4)]))])])],
  .ret (.idx (.var 3) (.call 20 [(.var 0), (.cst (.int 25))]))] := rfl
  rw [hb]
  have c1 : ([PV.int size, .tup (rs.map ruP)]).take 1 = [.int size] := rfl
  have c2 : [PV.int size, .tup (rs.map ruP)] ++ [.int 0] = [PV.int size, .tup (rs.map ruP), .int 0] := rfl
  have ga : ([PV.int size, .tup (rs.map ruP)]).length + ([PV.int 0]).length ≤ szB := (by decide : 2 + 1 ≤ szB)
  have s1 := slc_t [PV.int size, .tup (rs.map ruP)] 1
  have hB : (h ++ [PO.dK []] ++ [PO.lst (b1 size rs h.length)]).length = h.length + 2 := by rw [List.length_append, List.length_append]; rfl
  have e1 := push_at (h ++ [PO.dK []]) (.lst (b1 size rs h.length))
  have ecat : catOp true (.loc (h ++ [PO.dK []]).length) (.lst (b2 size rs)) (h ++ [PO.dK []] ++ [PO.lst (b1 size rs h.length)]) = .ok (.loc (h ++ [PO.dK []] ++ [PO.lst (b1 size rs h.length)]).length) (h ++ [PO.dK []] ++ [PO.lst (b1 size rs h.length)] ++ [.lst (b1 size rs h.length ++ b2 size rs)]) := by
    simp only [catOp, deref, e1]
    show guardR ((b1 size rs h.length).length + (b2 size rs).length ≤ szB) _ = _
    rw [guard_yes (show (b1 size rs h.length).length + (b2 size rs).length ≤ szB from (by decide : 11 + 5 ≤ szB))]
    rfl
  have e3 := push_at (h ++ [PO.dK []] ++ [PO.lst (b1 size rs h.length)]) (.lst (b1 size rs h.length ++ b2 size rs))
  have hBl : (h ++ [PO.dK []] ++ [PO.lst (b1 size rs h.length)]).length ≠ l := by rw [hB]; omega
  have ha3 : (h ++ [PO.dK []] ++ [PO.lst (b1 size rs h.length)] ++ [PO.lst (b1 size rs h.length ++ b2 size rs)])[h.length]? = some (.dK []) := by
    rw [List.getElem?_append_left (by rw [hB]; omega), List.getElem?_append_left (by rw [List.length_append]; exact Nat.lt_succ_self _)]
    exact push_at _ _
  have d3 := (((Dr.refl s).push (.dK [])).push (.lst (b1 size rs h.length))).push (.lst (b1 size rs h.length ++ b2 size rs))
  generalize hH : h ++ [PO.dK []] ++ [PO.lst (b1 size rs h.length)] ++ [PO.lst (b1 size rs h.length ++ b2 size rs)] = H3 at *
  have hBv : (h ++ [PO.dK []] ++ [PO.lst (b1 size rs h.length)]).length = h.length + 2 := hB
  rw [hBv] at e3 ecat hBl
  obtain ⟨a4, l1⟩ := app_loop (c := callN tb (n + 1)) (B := h.length + 2) (ex := .tup [(.var 5), (.tup [(.var 4)])]) (f := f1 size) (xs := o1 size) (p0 := some (.loc l)) (p1 := some (.tup [.int size, .tup (rs.map ruP)])) (p2 := some rowP) (p5 := some (.int size)) (p6 := some (.tup (rs.map ruP)))
    (fun x _ h' => by simp only [EV, EVB, guard_yes (one_le _), guard_yes (two_le _ _), List.getElem?_cons_zero, List.getElem?_cons_succ]; rfl) e3 (by decide : 11 + 5 + 6 < 1000) none
  have e4 : (H3.set (h.length + 2) (.lst (b1 size rs h.length ++ b2 size rs ++ (o1 size).map (f1 size))))[h.length + 2]? = some (.lst (b1 size rs h.length ++ b2 size rs ++ (o1 size).map (f1 size))) := set_at e3
  have s23 := slc_t (rs.map ruP) 23
  have g23 : ∀ x : PV, ((rs.map ruP).take 23).length + ([x] : List PV).length ≤ szB := fun x => by
    rw [List.length_take, List.length_map, List.length_singleton]
    unfold szB
    omega
  obtain ⟨a5, l2⟩ := app_loop (c := callN tb (n + 1)) (B := h.length + 2) (ex := .tup [(.var 5), (.bin .add (.slc false (.var 6) .nop (.cst (.int 23))) (.tup [(.var 4)]))]) (f := f2 size rs) (xs := o2) (p0 := some (.loc l)) (p1 := some (.tup [.int size, .tup (rs.map ruP)])) (p2 := some rowP) (p5 := some (.int size)) (p6 := some (.tup (rs.map ruP)))
    (fun x _ h' => by
      have s23' : slcOp false (.tup (rs.map ruP)) none (some 23) h' = .ok (.tup ((rs.map ruP).take 23)) h' := s23 h'
      simp only [EV, EVB, s23', add_tup, guard_yes (g23 _), guard_yes (one_le _), guard_yes (two_le _ _), List.getElem?_cons_zero, List.getElem?_cons_succ]; rfl) e4 (by decide : 11 + 5 + 6 + 3 < 1000) a4
  rw [List.set_set] at l2
  have d5 := d3.setNew (j := h.length + 2) (by omega) hlt (.lst (b1 size rs h.length ++ b2 size rs ++ (o1 size).map (f1 size) ++ o2.map (f2 size rs)))
  have e5 : (H3.set (h.length + 2) (.lst (b1 size rs h.length ++ b2 size rs ++ (o1 size).map (f1 size) ++ o2.map (f2 size rs))))[h.length + 2]? = some (.lst (b1 size rs h.length ++ b2 size rs ++ (o1 size).map (f1 size) ++ o2.map (f2 size rs))) := set_at e3
  have a5' : (H3.set (h.length + 2) (.lst (b1 size rs h.length ++ b2 size rs ++ (o1 size).map (f1 size) ++ o2.map (f2 size rs))))[h.length]? = some (.dK []) := by
    rw [List.getElem?_set_ne (by omega)]
    exact ha3
  obtain ⟨k, h6', ed, k0, k1, d6, l6'⟩ := draw_ok n (many := 25) d5.src (by decide) (by decide) (by omega)
  have e7 := d6.fr.at e5 hBl
  have a7 := d6.fr.at a5' (by omega)
  have hr8 : ∀ r ∈ rs, r.2.length ≤ 8 := fun r hr => (v r hr).len hs2 (by omega)
  have hP : ∀ y ∈ b1 size rs h.length ++ b2 size rs ++ (o1 size).map (f1 size) ++ o2.map (f2 size rs), okSet y = false ∧ fineB 5 h6' y = true := fun y hy => ⟨by
    rcases List.mem_append.mp hy with hy | hy
    · rcases List.mem_append.mp hy with hy | hy
      · rcases List.mem_append.mp hy with hy | hy
        · exact b1_bad _ _ _ y hy
        · exact b2_bad _ _ y hy
      · obtain ⟨x, hx, rfl⟩ := List.mem_map.mp hy
        exact o1_bad _ x hx
    · obtain ⟨x, hx, rfl⟩ := List.mem_map.mp hy
      exact o2_bad _ _ x hx, all_fine hl hr8 a7 y hy⟩
  obtain ⟨y, ey, hy⟩ := pick_all hP k0 (by show k < ((11 + 5 + 6 + 3 : Nat) : Int); omega)
  refine ⟨y, h6', ?_, hy.1, hy.2, d5.trans d6⟩
  have ei := idx_loc e7 ey
  have s1' : slcOp false (.tup [PV.int size, .tup (rs.map ruP)]) none (some 1) (h ++ [PO.dK []]) = .ok (.tup [.int size]) (h ++ [PO.dK []]) := s1 (h ++ [PO.dK []])
  have hb1 : [PV.non, .tup [], .int 3, .str (("rules" : Str)), .loc h.length, .lst [.int size, .tup (rs.map ruP)], .tup [.int size], .tup [.int size, .tup (rs.map ruP), .int 0], .tup [.int 0, .tup (rs.map ruP)], .tup [.int 9, .tup []], .tup [.bl true, .tup []]] = b1 size rs h.length := rfl
  have hrow : PV.tup [.int 0, .tup [.tup [.int 0, .int 1]]] = rowP := rfl
  have hb2 : [PV.tup [.int size, .lst (rs.map ruP)], .tup [.int size, .tup (List.replicate 25 [rowP]).flatten], .tup [.int size, .tup [.tup [.int size, .tup []]]], .tup [.int size, .tup [.tup [.int (-1), .tup []]]], .tup [.int size, .tup [.non]]] = b2 size rs := rfl
  have ho1 : [PV.tup [.int 0, .lst [.tup [.int 0, .int 1]]], .tup [.int 0, .tup [.tup [.int 0, .int 60]]], .tup [.int 0, .tup [.tup [.int 0, .int (-61)]]], .tup [.int 0, .tup [.tup [.int size, .int 0]]], .tup [.int 0], .tup [.int 0, .tup [.tup [.int 0, .int 1], .tup [.int 0, .int 2]]]] = o1 size := rfl
  have ho2 : [PV.tup [.int 0, .tup [.tup [.int 0, .bl true]]], .tup [.bl false, .tup []], .tup [.lst [], .tup []]] = o2 := rfl
  have hw1 : ∀ H, walkOf .seq [.lst (o1 size)] H = some (.one (.fixL (o1 size))) := fun _ => rfl
  have hn1 : ∀ H, (Walk.one (.fixL (o1 size))).len H = (o1 size).length := fun _ => rfl
  have hw2 : ∀ H, walkOf .seq [.lst o2] H = some (.one (.fixL o2)) := fun _ => rfl
  have hn2 : ∀ H, (Walk.one (.fixL o2)).len H = o2.length := fun _ => rfl
  have er : rsP size rs = .tup [.int size, .tup (rs.map ruP)] := rfl
  have hrow2 : ∀ H : PHeap, binOp .mul (.tup [rowP]) (.int 25) H = .ok (.tup (List.replicate 25 [rowP]).flatten) H := mul25 rowP
  have gb1 : (b1 size rs h.length).length ≤ szB := (by decide : 11 ≤ szB)
  have gb2 : (b2 size rs).length ≤ szB := (by decide : 5 ≤ szB)
  have go1 : (o1 size).length ≤ szB := (by decide : 6 ≤ szB)
  have go2 : o2.length ≤ szB := (by decide : 3 ≤ szB)
  rw [er]
  simp only [EV, EVS, EVB, bindT, bindTs, seqOf, deref, guard_yes nil_le, guard_yes (one_le _), guard_yes (two_le _ _), hrow, list_tup, s1', add_tup, guard_yes ga, c2, guard_yes gb1, hb1, hrow2, guard_yes gb2, hb2, ecat, hH, guard_yes go1, ho1, kFor, kForW, hw1, hn1, l1, guard_yes go2, ho2, hw2, hn2, l2, ed, ei, List.getElem?_cons_zero, List.getElem?_cons_succ, List.set_cons_zero, List.set_cons_succ]
end K85
end

section
set_option Elab.async false
set_option linter.all false
set_option maxRecDepth 100000
set_option maxHeartbeats 4000000
namespace K85
open PySem Rf
theorem pick_any {α : Type} {ys : List α} {k : Int} (h0 : 0 ≤ k) (h1 : k < ys.length) : ∃ y, L2.atI ys k = some y := by
  have hk : k.toNat < ys.length := by omega
  have e := atI_nat (List.getElem?_eq_getElem hk)
  rw [Int.toNat_of_nonneg h0] at e
  exact ⟨_, e⟩
theorem sub_sum {r qs : List PySem.Str} (h : r.Sublist qs) : (r.map (·.length)).sum ≤ (qs.map (·.length)).sum := by
  induction h with
  | slnil => exact Nat.le_refl _
  | cons a _ ih => rw [List.map_cons, List.sum_cons]; omega
  | cons_cons a _ ih => rw [List.map_cons, List.sum_cons, List.map_cons, List.sum_cons]; omega
theorem cutL_str (qs : List PySem.Str) (lo hi : Option Int) : ∃ r : List PySem.Str, cutL (qs.map PV.str) lo hi = r.map PV.str ∧ r.Sublist qs := by
  unfold cutL
  rw [← List.map_drop, ← List.map_take]
  exact ⟨_, rfl, (List.take_sublist _ _).trans (List.drop_sublist _ _)⟩
/-- parts joined anew -/
theorem rejoin {qs r1 r2 : List PySem.Str} {B : Nat} (h1 : r1.Sublist qs) (h2 : r2.Sublist qs) (hB : (qs.map (·.length)).sum + qs.length * 2 ≤ B) (hb : B ≤ 1000000) (h : PHeap) :
    catOp false (.lst (r1.map .str)) (.lst (r2.map .str)) h = .ok (.lst ((r1 ++ r2).map .str)) h ∧ mthOp .join (.str ("; " : PySem.Str)) [.lst ((r1 ++ r2).map .str)] h = .ok (.str (Str.join ("; " : PySem.Str) (r1 ++ r2))) h ∧ (Str.join ("; " : PySem.Str) (r1 ++ r2)).length ≤ 2 * B := by
  have l2 : ("; " : PySem.Str).length = 2 := cps_len lit_semi
  have n1 := h1.length_le
  have n2 := h2.length_le
  have s1 := sub_sum h1
  have s2 := sub_sum h2
  have e : ((r1 ++ r2).map (·.length)).sum + (r1 ++ r2).length * ("; " : PySem.Str).length ≤ 2 * B := by
    rw [l2, List.map_append, List.sum_append, List.length_append]
    omega
  refine ⟨?_, m_join _ _ h (by unfold szB; omega), Nat.le_trans (StrLaws.join_length_le _ _) e⟩
  rw [List.map_append]
  exact cat_lst _ _ h (by rw [List.length_map, List.length_map]; unfold szB; omega)
theorem slc_str (x : PySem.Str) (lo hi : Option Int) (h : PHeap) : slcOp false (.str x) lo hi h = .ok (.str (L2.cutS x lo hi)) h := rfl
theorem slc_lst (xs : List PV) (lo hi : Option Int) (h : PHeap) : slcOp false (.lst xs) lo hi h = .ok (.lst (cutL xs lo hi)) h := rfl
theorem m_upper {x : PySem.Str} (hx : x.length ≤ 5592405) (h : PHeap) : mthOp .upper (.str x) [] h = .ok (.str (Txt.upper x)) h := guard_yes hx _
theorem pre_upper (h : PHeap) (z : PySem.Str) : mthPre .upper h (.str z) = true := rfl
theorem idx_strk {x : PySem.Str} {k : Int} {c : Nat} (e : L2.atI x.cps.toList k = some c) (h : PHeap) : idxOp (.str x) (.int k) h = .ok (.str ⟨#[c]⟩) h := by
  show orStuck (L2.atI x.cps.toList k) (fun c => Res.ok (PV.str ⟨#[c]⟩) h) = _
  rw [e]
  rfl
def Tx (B : Nat) (v : PV) : Prop := ∃ y : PySem.Str, v = .str y ∧ y.length ≤ B
theorem scarred_ok (n : Nat) {l : Nat} {m : Int} {h : PHeap} (s : SrcOk h l m) (h6 : m ≤ 900000) (x : PySem.Str) (hx : x.length ≤ 4000) :
    ∃ y h', callN tb (n + 2) 35 [.loc l, .str x] h = .ok (.str y) h' ∧ y.length ≤ 3 * x.length + 4 ∧ Dr l h h' (m + 4) := by
  rw [callN_at (n + 1) 35 _ h ir__law_scarred rfl rfl]
  show ∃ y h', (evalSs (callN tb (n + 1)) ir__law_scarred.body [some (.loc l), some (.str x), none, none, none, none, none, none, none] h).res = _ ∧ _
  unfold ir__law_scarred
  have l2 : ("; " : PySem.Str).length = 2 := cps_len lit_semi
  obtain ⟨a, h1, e1, a0, a1, d1, _⟩ := draw_ok n (many := ((x.length : Nat) : Int) + 1) s (by omega) (by omega) (by omega)
  obtain ⟨k, h2, e2, k0, k1, d2, _⟩ := draw_ok n (many := 20) d1.src (by decide) (by decide) (by omega)
  have hS : ("0123456789_ +-|<=;n\n" : PySem.Str).cps.toList.length = 20 := by decide +kernel
  obtain ⟨c, ec⟩ := pick_any (ys := ("0123456789_ +-|<=;n\n" : PySem.Str).cps.toList) (k := k) k0 (by rw [hS]; exact k1)
  have e3 := idx_strk ec h2
  have hsp := m_split (x := x) (y := ("; " : PySem.Str)) h2 (by rw [l2]; rfl) (by unfold szB; omega) rfl
  have hsl := (split_len x (y := ("; " : PySem.Str)) (by omega)).1
  have hne := split_ne x ("; " : PySem.Str)
  have hjl := join_len ("; " : PySem.Str) _ hne
  rw [StrLaws.join_split, l2] at hjl
  generalize Txt.split x ("; " : PySem.Str) = qs at *
  have hq1 : 1 ≤ qs.length := by
    cases qs with
    | nil => exact absurd rfl hne
    | cons q r => exact Nat.succ_le_succ (Nat.zero_le _)
  obtain ⟨sp, h3, e4, s0, s1, d3, _⟩ := draw_ok n (many := (((qs.map PV.str).length : Nat) : Int)) d2.src (by rw [List.length_map]; omega) (by rw [List.length_map]; omega) (by omega)
  obtain ⟨r1, q1, u1⟩ := cutL_str qs none (some sp)
  obtain ⟨r2, q2, u2⟩ := cutL_str qs (some (sp + 1)) none
  obtain ⟨r3, q3, u3⟩ := cutL_str qs (some sp) none
  obtain ⟨r4, q4, u4⟩ := cutL_str qs (some sp) (some (sp + 1))
  have hB : (qs.map (·.length)).sum + qs.length * 2 ≤ x.length + 2 := by omega
  obtain ⟨c1, j1, b1⟩ := rejoin u1 u2 hB (by omega) h3
  obtain ⟨c2, j2, b2⟩ := rejoin u3 u1 hB (by omega) h3
  obtain ⟨c3, j3, b3⟩ := rejoin (List.Sublist.refl qs) u4 hB (by omega) h3
  obtain ⟨t, h4, e5, t0, t1, d4, _⟩ := draw_ok n (many := 11) d3.src (by decide) (by decide) (by omega)
  have hH := L2.cutS_length x none (some a)
  have hT := L2.cutS_length x (some a) none
  generalize hHd : L2.cutS x none (some a) = H at *
  generalize hTl : L2.cutS x (some a) none = Tl at *
  have hT1 := L2.cutS_length Tl (some 1) none
  generalize hT1e : L2.cutS Tl (some 1) none = T1 at *
  have lc : (⟨#[c]⟩ : PySem.Str).length = 1 := rfl
  have lsp : (" " : PySem.Str).length = 1 := by decide +kernel
  have p1 := fun hh => add_str (x := H) (y := ⟨#[c]⟩) hh (by unfold szB; omega)
  have p2 := fun hh => add_str (x := H ++ ⟨#[c]⟩) (y := Tl) hh (by rw [Str.length_append]; unfold szB; omega)
  have p3 := fun hh => add_str (x := H) (y := T1) hh (by unfold szB; omega)
  have p4 := fun hh => add_str (x := H ++ ⟨#[c]⟩) (y := T1) hh (by rw [Str.length_append]; unfold szB; omega)
  have p5 := fun hh => add_str (x := x) (y := x) hh (by unfold szB; omega)
  have p6 := fun hh => add_str (x := (" " : PySem.Str)) (y := x) hh (by unfold szB; omega)
  have mu := m_upper (x := x) (by omega) h3
  have bu := PyProof.Rows.len_upper x
  have k1' := cat_lst [.str (H ++ ⟨#[c]⟩ ++ Tl), .str (H ++ T1), .str (H ++ ⟨#[c]⟩ ++ T1), .str H, .str Tl, .str (x ++ x), .str ((" " : PySem.Str) ++ x)] [.str (Str.join ("; " : PySem.Str) (r1 ++ r2)), .str (Str.join ("; " : PySem.Str) (r3 ++ r1))] h3 (by decide : 7 + 2 ≤ szB)
  have k2' := cat_lst ([.str (H ++ ⟨#[c]⟩ ++ Tl), .str (H ++ T1), .str (H ++ ⟨#[c]⟩ ++ T1), .str H, .str Tl, .str (x ++ x), .str ((" " : PySem.Str) ++ x)] ++ [.str (Str.join ("; " : PySem.Str) (r1 ++ r2)), .str (Str.join ("; " : PySem.Str) (r3 ++ r1))]) [.str (Str.join ("; " : PySem.Str) (qs ++ r4)), .str (Txt.upper x)] h3 (by simp only [List.length_append, List.length_cons, List.length_nil]; decide)
  have hP : ∀ y ∈ ([.str (H ++ ⟨#[c]⟩ ++ Tl), .str (H ++ T1), .str (H ++ ⟨#[c]⟩ ++ T1), .str H, .str Tl, .str (x ++ x), .str ((" " : PySem.Str) ++ x)] ++ [.str (Str.join ("; " : PySem.Str) (r1 ++ r2)), .str (Str.join ("; " : PySem.Str) (r3 ++ r1))]) ++ [.str (Str.join ("; " : PySem.Str) (qs ++ r4)), .str (Txt.upper x)], Tx (3 * x.length + 4) y := by
    intro y hy
    simp only [List.cons_append, List.nil_append, List.mem_cons, List.not_mem_nil, or_false] at hy
    rcases hy with rfl | rfl | rfl | rfl | rfl | rfl | rfl | rfl | rfl | rfl | rfl
    · exact ⟨_, rfl, by rw [Str.length_append, Str.length_append]; omega⟩
    · exact ⟨_, rfl, by rw [Str.length_append]; omega⟩
    · exact ⟨_, rfl, by rw [Str.length_append, Str.length_append]; omega⟩
    · exact ⟨_, rfl, by omega⟩
    · exact ⟨_, rfl, by omega⟩
    · exact ⟨_, rfl, by rw [Str.length_append]; omega⟩
    · exact ⟨_, rfl, by rw [Str.length_append]; omega⟩
    · exact ⟨_, rfl, by omega⟩
    · exact ⟨_, rfl, by omega⟩
    · exact ⟨_, rfl, by omega⟩
    · exact ⟨_, rfl, by omega⟩
  obtain ⟨v, ev, y, rfl, hy⟩ := pick_all hP t0 t1
  refine ⟨y, h4, ?_, hy, ((d1.trans d2).trans d3).trans d4 |>.mono (by omega)⟩
  simp only [EV, EVS, EVB, len_str, e1, e2, e3, slc_str, hHd, hTl, hT1e, p1, p2, p3, p4, p5, p6, guard_yes (l7 _ _ _ _ _ _ _), kMth_of (pre_split _ _), hsp, len_lst, e4, slc_lst, pE_bin, q1, q2, q3, q4, c1, c2, c3, kMth_of (pre_join _ _), j1, j2, j3, guard_yes (two_le _ _), k1', kMth_of (pre_upper _ _), mu, k2', e5, ev, List.getElem?_cons_zero, List.getElem?_cons_succ, List.set_cons_zero, List.set_cons_succ]
end K85
end

section
set_option Elab.async false
set_option linter.all false
set_option maxRecDepth 100000
set_option maxHeartbeats 4000000
namespace K85
open PySem Rf
/-! told and parsed agree -/
theorem prO_ok {x : PySem.Str} {p : Int × List Ru} (h : prO x = some p) : rsB p.1 p.2 = true := by
  unfold prO at h
  split at h
  · split at h
    · rename_i hc
      cases h
      exact hc.1
    · cases h
  · cases h
theorem repr_told (x : PySem.Str) : ∃ z : PySem.Str, ∀ mu h, biOp .repr mu [toldV x] h = .ok (.str z) h := by
  unfold toldV
  cases e : prO x with
  | none => exact ⟨_, fun mu h => repr_str mu _ (by decide +kernel) (lo_lit (show ("refused" : PySem.Str).cps.toList = [114, 101, 102, 117, 115, 101, 100] by decide +kernel) (by decide)) h⟩
  | some p =>
    obtain ⟨h1, h2, h3⟩ := rsB_iff.mp (prO_ok e)
    exact ⟨_, fun mu h => repr_rs mu h1.1 h1.2 h3 h2 h⟩
theorem due_is (c : Call) (ρ : PSt) (h : PHeap) (i : Nat) (x : PySem.Str) (e : ρ[i]? = some (some (oV rsV (rsL x)))) : evalE c (.ite (.cmp .is_ (.var i) (.cst .non)) (.cst (.str (("refused" : Str)))) (.var i)) ρ h = .ok (toldV x) h := by
  rw [read_same] at e
  unfold toldV
  cases hp : prO x with
  | none =>
    rw [hp] at e
    simp only [oV] at e
    simp only [EV, EVB, e, is_non, isNon]
  | some p =>
    rw [hp] at e
    simp only [oV] at e
    have hn : isNon (rsV p) = false := rfl
    simp only [EV, EVB, e, is_non, hn]
    rfl
def judged (i j : Nat) : List S := [.set j (.call 32 [(.var i)]), .ifs (.cmp .ne (.bi .repr false [(.call 33 [(.var i)])]) (.bi .repr false [(.ite (.cmp .is_ (.var j) (.cst .non)) (.cst (.str (("refused" : Str)))) (.var j))])) [.ret (.cst (.bl false))] []]
theorem judged_ok (n : Nat) (x : PySem.Str) (hx : x.length ≤ 10000) (i j : Nat) (hij : i ≠ j) (ρ : PSt) (hi : i < ρ.length) (hj : j < ρ.length) (h : PHeap) : kBody (callN tb (n + 8)) (.nm i) (judged i j) (.str x) ρ h = .nx ((ρ.set i (some (.str x))).set j (some (oV rsV (rsL x)))) h := by
  have e1 := lparsed_gen (n + 4) x h hx
  have e2 := told_gen n x h (by omega)
  obtain ⟨z, e3⟩ := repr_told x
  have g1 : (ρ.set i (some (PV.str x)))[i]? = some (some (.str x)) := List.getElem?_set_self hi
  have g2 : ((ρ.set i (some (PV.str x))).set j (some (oV rsV (rsL x))))[j]? = some (some (oV rsV (rsL x))) := List.getElem?_set_self (by rw [List.length_set]; exact hj)
  have g3 : ((ρ.set i (some (PV.str x))).set j (some (oV rsV (rsL x))))[i]? = some (some (.str x)) := by rw [List.getElem?_set_ne (Ne.symm hij)]; exact g1
  have e4 := due_is (callN tb (n + 8)) _ h j x g2
  unfold judged
  generalize E.ite (.cmp .is_ (.var j) (.cst .non)) (.cst (.str (("refused" : Str)))) (.var j) = EE at *
  simp only [kBody, bindT, EV, EVS, EVB, kB2, g1, e1, g3, e2, e3, e4, cmp_ne_str, decide_true, Bool.not_true]
/-! the written ones -/
def shortB (v : PV) : Bool := match v with
  | .str x => decide (x.length ≤ 10000)
  | _ => false
def w0 : List PV := [.str (("" : Str)), .str (("0" : Str)), .str (("1" : Str)), .str (("8" : Str)), .str (("9" : Str)), .str (("01" : Str)), .str (("1;" : Str)), .str (("1; " : Str)), .str (("+1" : Str)), .str (("2; 0 <= never" : Str)), .str (("2; 0 <= Never" : Str)), .str (("2; 0 <= " : Str))]
def w1 : List PV := [.str (("2;0 <= never" : Str)), .str (("2; 0 <= 1+0" : Str)), .str (("2; 0 <= 1-0" : Str)), .str (("2; 0 <= 1+59" : Str)), .str (("2; 0 <= 1+60" : Str)), .str (("2; 0 <= 1-60" : Str))]
def w2 : List PV := [.str (("2; 0 <= 1-61" : Str)), .str (("2; 0 <= 1+01" : Str)), .str (("2; 0 <= 0+1 | 1+1" : Str)), .str (("2; 0 <= 1+1 | 0+1" : Str)), .str (("2; 0 <= 1+1 | 1+2" : Str))]
def w3 : List PV := [.str (("2; 0 <= 1+1|0+1" : Str)), .str (("2; 2 <= never" : Str)), .str (("2; 0 <= 2+1" : Str)), .str (("2; 0 <= 1" : Str)), .str (("2; 0 <= 1+" : Str)), .str (("2; 0 <= +1" : Str))]
def w4 : List PV := [.str (("2; 0 < 1+1" : Str)), .str (("2; 0 <= 1+-1" : Str)), .str ((" 1" : Str)), .str (("1 " : Str)), .str (("1\n" : Str)), .str (("2; 0 <= 1+1 " : Str)), .str (("2;  0 <= 1+1" : Str))]
def w5 : List PV := [.str (("2; 0 <= 1+1_0" : Str)), .str (("2; 0 <= 1-1_" : Str)), .str (("2; 0 <= 1+_1" : Str)), .str (("2;\u00090 <= never" : Str)), .str (("2; 0 <= never\u0009" : Str))]
def wm (k : Int) : PV := .str ((("1" : Str)) ++ repS (("; 0 <= never" : Str)) k.toNat)
def wAll : List PV := w0 ++ w1 ++ w2 ++ w3 ++ w4 ++ w5 ++ ([1, 24, 25] : List Int).map wm
theorem wAll_short : wAll.all shortB = true := by decide +kernel
theorem written_ok (n : Nat) (h : PHeap) : callN tb (n + 9) 36 [] h = .ok (.bl true) h := by
  rw [callN_at (n + 8) 36 _ h ir__law_written_right rfl rfl]
  show (evalSs (callN tb (n + 8)) ir__law_written_right.body [none, none, none, none] h).res = _
  have lp := loop_xs (w := .one (.fixL wAll)) (body := kBody (callN tb (n + 8)) (.nm 1) (judged 1 2)) (fun i h => fixL_next _ i h)
    (fun i ρ h' => ∃ a b, ρ = [some (.lst wAll), a, b, none] ∧ h' = h)
    (by
      rintro i x ρ h' hx ⟨a, b, rfl, rfl⟩
      have hs := List.all_eq_true.mp wAll_short x (List.mem_of_getElem? hx)
      cases x with
      | str x =>
        exact ⟨_, _, judged_ok n x (of_decide_eq_true hs) 1 2 (by decide) [some (.lst wAll), a, b, none] (by simp) (by simp) h', some (.str x), some (oV rsV (rsL x)), rfl, rfl⟩
      | _ => exact absurd hs Bool.false_ne_true)
    wAll.length 0 [some (.lst wAll), none, none, none] h (by omega) ⟨none, none, rfl, rfl⟩
  obtain ⟨ρ', h', e, a, b, rfl, rfl⟩ := lp
  have g0 : w0.length ≤ szB := (by decide : 12 ≤ szB)
  have g1 : w1.length ≤ szB := (by decide : 6 ≤ szB)
  have g2 : w2.length ≤ szB := (by decide : 5 ≤ szB)
  have g3 : w3.length ≤ szB := (by decide : 6 ≤ szB)
  have g4 : w4.length ≤ szB := (by decide : 7 ≤ szB)
  have g5 : w5.length ≤ szB := (by decide : 5 ≤ szB)
  have k1 := fun h => cat_lst w0 w1 h (by decide)
  have k2 := fun h => cat_lst (w0 ++ w1) w2 h (by decide)
  have k3 := fun h => cat_lst (w0 ++ w1 ++ w2) w3 h (by decide)
  have k4 := fun h => cat_lst (w0 ++ w1 ++ w2 ++ w3) w4 h (by decide)
  have k5 := fun h => cat_lst (w0 ++ w1 ++ w2 ++ w3 ++ w4) w5 h (by decide)
  have k6 := fun h => cat_lst (w0 ++ w1 ++ w2 ++ w3 ++ w4 ++ w5) (([1, 24, 25] : List Int).map wm) h (by decide)
  have hw : ∀ H, walkOf .seq [.tup [.int 1, .int 24, .int 25]] H = some (.one (.fixT (([1, 24, 25] : List Int).map .int))) := fun _ => rfl
  have hln : ∀ H, (Walk.one (.fixT (([1, 24, 25] : List Int).map .int))).len H = (([1, 24, 25] : List Int).map PV.int).length := fun _ => rfl
  have gsz : (([1, 24, 25] : List Int).map PV.int).length ≤ szB := (by decide : 3 ≤ szB)
  have c1 : ∀ o : Option PV, compN (.one (.fixT (([1, 24, 25] : List Int).map .int))) (kTurn (callN tb (n + 8)) [3] (.nm 3) .nop (.bin .add (.cst (.str (("1" : Str)))) (.bin .mul (.cst (.str (("; 0 <= never" : Str)))) (.var 3))) [o, none, none, none]) ((([1, 24, 25] : List Int).map PV.int).length + 1) 0 h' = .ok (([1, 24, 25] : List Int).map wm) h' := fun o => by
    refine comp_vals (fun i => fixT_next _ i _) fun k hk => ?_
    have gm : (0 : Int) ≤ k ∧ k ≤ 1000 ∧ (("; 0 <= never" : Str)).length ≤ 1000 := by
      refine ⟨?_, ?_, by decide +kernel⟩ <;> (simp only [List.mem_cons, List.not_mem_nil, or_false] at hk; omega)
    have em : binOp .mul (.str (("; 0 <= never" : Str))) (.int k) h' = .ok (.str (repS (("; 0 <= never" : Str)) k.toNat)) h' := guard_yes gm _
    have ea : binOp .add (.str (("1" : Str))) (.str (repS (("; 0 <= never" : Str)) k.toNat)) h' = .ok (wm k) h' := by
      refine add_str h' ?_
      simp only [List.mem_cons, List.not_mem_nil, or_false] at hk
      rcases hk with rfl | rfl | rfl <;> decide +kernel
    simp only [kTurn, bindT, wipeP, isNop, if_true, EV, EVB, kT2, noExc, em, ea, List.getElem?_cons_zero, List.getElem?_cons_succ, List.set_cons_zero, List.set_cons_succ]
  have hwA : ∀ H, walkOf .seq [.lst wAll] H = some (.one (.fixL wAll)) := fun _ => rfl
  have hnA : ∀ H, (Walk.one (.fixL wAll)).len H = wAll.length := fun _ => rfl
  have hAll : w0 ++ w1 ++ w2 ++ w3 ++ w4 ++ w5 ++ ([1, 24, 25] : List Int).map wm = wAll := rfl
  have x0 : [PV.str (("" : Str)), PV.str (("0" : Str)), PV.str (("1" : Str)), PV.str (("8" : Str)), PV.str (("9" : Str)), PV.str (("01" : Str)), PV.str (("1;" : Str)), PV.str (("1; " : Str)), PV.str (("+1" : Str)), PV.str (("2; 0 <= never" : Str)), PV.str (("2; 0 <= Never" : Str)), PV.str (("2; 0 <= " : Str))] = w0 := rfl
  have x1 : [PV.str (("2;0 <= never" : Str)), PV.str (("2; 0 <= 1+0" : Str)), PV.str (("2; 0 <= 1-0" : Str)), PV.str (("2; 0 <= 1+59" : Str)), PV.str (("2; 0 <= 1+60" : Str)), PV.str (("2; 0 <= 1-60" : Str))] = w1 := rfl
  have x2 : [PV.str (("2; 0 <= 1-61" : Str)), PV.str (("2; 0 <= 1+01" : Str)), PV.str (("2; 0 <= 0+1 | 1+1" : Str)), PV.str (("2; 0 <= 1+1 | 0+1" : Str)), PV.str (("2; 0 <= 1+1 | 1+2" : Str))] = w2 := rfl
  have x3 : [PV.str (("2; 0 <= 1+1|0+1" : Str)), PV.str (("2; 2 <= never" : Str)), PV.str (("2; 0 <= 2+1" : Str)), PV.str (("2; 0 <= 1" : Str)), PV.str (("2; 0 <= 1+" : Str)), PV.str (("2; 0 <= +1" : Str))] = w3 := rfl
  have x4 : [PV.str (("2; 0 < 1+1" : Str)), PV.str (("2; 0 <= 1+-1" : Str)), PV.str ((" 1" : Str)), PV.str (("1 " : Str)), PV.str (("1\n" : Str)), PV.str (("2; 0 <= 1+1 " : Str)), PV.str (("2;  0 <= 1+1" : Str))] = w4 := rfl
  have x5 : [PV.str (("2; 0 <= 1+1_0" : Str)), PV.str (("2; 0 <= 1-1_" : Str)), PV.str (("2; 0 <= 1+_1" : Str)), PV.str (("2;\u00090 <= never" : Str)), PV.str (("2; 0 <= never\u0009" : Str))] = w5 := rfl
  have hb : ir__law_written_right.body = [
  .set 0 (.lst false [(.cst (.str (("" : Str)))), (.cst (.str (("0" : Str)))), (.cst (.str (("1" : Str)))), (.cst (.str (("8" : Str)))), (.cst (.str (("9" : Str)))), (.cst (.str (("01" : Str)))), (.cst (.str (("1;" : Str)))), (.cst (.str (("1; " : Str)))), (.cst (.str (("+1" : Str)))), (.cst (.str (("2; 0 <= never" : Str)))), (.cst (.str (("2; 0 <= Never" : Str)))), (.cst (.str (("2; 0 <= " : Str))))]),
  .set 0 (.cat false (.var 0) (.lst false [(.cst (.str (("2;0 <= never" : Str)))), (.cst (.str (("2; 0 <= 1+0" : Str)))), (.cst (.str (("2; 0 <= 1-0" : Str)))), (.cst (.str (("2; 0 <= 1+59" : Str)))), (.cst (.str (("2; 0 <= 1+60" : Str)))), (.cst (.str (("2; 0 <= 1-60" : Str))))])),
  .set 0 (.cat false (.var 0) (.lst false [(.cst (.str (("2; 0 <= 1-61" : Str)))), (.cst (.str (("2; 0 <= 1+01" : Str)))), (.cst (.str (("2; 0 <= 0+1 | 1+1" : Str)))), (.cst (.str (("2; 0 <= 1+1 | 0+1" : Str)))), (.cst (.str (("2; 0 <= 1+1 | 1+2" : Str))))])),
  .set 0 (.cat false (.var 0) (.lst false [(.cst (.str (("2; 0 <= 1+1|0+1" : Str)))), (.cst (.str (("2; 2 <= never" : Str)))), (.cst (.str (("2; 0 <= 2+1" : Str)))), (.cst (.str (("2; 0 <= 1" : Str)))), (.cst (.str (("2; 0 <= 1+" : Str)))), (.cst (.str (("2; 0 <= +1" : Str))))])),
  .set 0 (.cat false (.var 0) (.lst false [(.cst (.str (("2; 0 < 1+1" : Str)))), (.cst (.str (("2; 0 <= 1+-1" : Str)))), (.cst (.str ((" 1" : Str)))), (.cst (.str (("1 " : Str)))), (.cst (.str (("1\n" : Str)))), (.cst (.str (("2; 0 <= 1+1 " : Str)))), (.cst (.str (("2;  0 <= 1+1" : Str))))])),
  .set 0 (.cat false (.var 0) (.lst false [(.cst (.str (("2; 0 <= 1+1_0" : Str)))), (.cst (.str (("2; 0 <= 1-1_" : Str)))), (.cst (.str (("2; 0 <= 1+_1" : Str)))), (.cst (.str (("2;\u00090 <= never" : Str)))), (.cst (.str (("2; 0 <= never\u0009" : Str))))])),
  .set 0 (.cat false (.var 0) (.cmpr false false [3] .seq [(.tup [(.cst (.int 1)), (.cst (.int 24)), (.cst (.int 25))])] (.nm 3) .nop (.bin .add (.cst (.str (("1" : Str)))) (.bin .mul (.cst (.str (("; 0 <= never" : Str)))) (.var 3))))),
  .for_ (.nm 1) .seq [(.var 0)] (judged 1 2),
  .ret (.cst (.bl true))] := rfl
  rw [hb]
  generalize judged 1 2 = J at *
  simp only [EV, EVS, EVB, guard_yes g0, guard_yes g1, guard_yes g2, guard_yes g3, guard_yes g4, guard_yes g5, x0, x1, x2, x3, x4, x5, k1, k2, k3, k4, k5, kLc, kLcW, guard_yes (l3 _ _ _), hw, hln, guard_yes gsz, c1, k6, hAll, kFor, kForW, hwA, hnA, e, List.getElem?_cons_zero, List.getElem?_cons_succ, List.set_cons_zero, List.set_cons_succ]
end K85
end

section
set_option Elab.async false
set_option linter.all false
set_option maxRecDepth 100000
set_option maxHeartbeats 4000000
namespace K85
open PySem Rf
theorem rs_len5 {size : Int} (hs0 : 0 ≤ size) (hs : size ≤ 8) {rs : List Ru} (v : ∀ r ∈ rs, VR size r) (hl : rs.length ≤ 5) : (rsT size rs).length ≤ 432 := by
  have h := sum_le (B := 70) (nT size :: rs.map ruT) fun y hy => by
    rcases List.mem_cons.mp hy with rfl | hy
    · have := (nOk_of hs0 (by omega) : NOk size).l2; omega
    · obtain ⟨t, ht, rfl⟩ := List.mem_map.mp hy
      exact ru_len hs hs0 (v t ht)
  refine Nat.le_trans (StrLaws.join_length_le _ _) ?_
  rw [cps_len lit_semi]
  simp only [List.length_cons, List.length_map] at h ⊢
  simp only [List.length_append, List.length_cons, List.length_nil]
  omega
def bTurn : List S := [.set 4 (.call 25 [(.var 2), (.bin .add (.cst (.int 1)) (.call 20 [(.var 2), (.cst (.int 8))])), (.idx (.lst false [(.cst (.int 3)), (.cst (.int 59))]) (.call 20 [(.var 2), (.cst (.int 2))]))]),
  .set 5 (.call 28 [(.tup [(.idx (.var 4) (.cst (.int 0))), (.slc false (.idx (.var 4) (.cst (.int 1))) .nop (.call 20 [(.var 2), (.cst (.int 6))]))])]),
  .set 6 (.call 35 [(.var 2), (.var 5)]),
  .for_ (.nm 7) .seq [(.tup [(.var 5), (.var 6), (.call 35 [(.var 2), (.var 6)])])] (judged 7 9),
  .set 8 (.call 26 [(.var 2)]),
  .ifs (.and (.not (.bi .isinst false [(.var 8), (.tyn (("str" : Str)) "str")])) (.cmp .ne (.call 33 [(.var 8)]) (.cst (.str (("refused" : Str)))))) [.ret (.cst (.bl false))] [],
  .ifs (.not (.call 34 [(.call 27 [(.var 2), (.var 4)])])) [.ret (.cst (.bl false))] []]
def bAt : List S := [.set 2 (.call 19 [(.var 0), (.var 1)]), .for_ (.nm 3) .rng [(.cst (.int 5))] bTurn]
theorem body_law : ir_law.body = [.for_ (.nm 1) .rng [(.bi .max false [(.cst (.int 1)), (.bi .min false [(.cst (.int 10)), (.bi .len false [(.var 0)])])])] bAt, .ret (.call 36 [])] := rfl
theorem pick2 {x : Int} (h0 : 0 ≤ x) (h1 : x < 2) : ∃ v, L2.atI [PV.int 3, .int 59] x = some (.int v) ∧ 0 ≤ v ∧ v ≤ 59 := by
  have hx : x = 0 ∨ x = 1 := by omega
  rcases hx with rfl | rfl
  · exact ⟨3, rfl, by decide, by decide⟩
  · exact ⟨59, rfl, by decide, by decide⟩
theorem Dr.src_push {l : Nat} {h : PHeap} {m : Int} (s : SrcOk h l m) (o : PO) : SrcOk (h ++ [o]) l m := ((Dr.refl s).push o).src
theorem turn_ok (n : Nat) {l : Nat} {m : Int} {h : PHeap} (s : SrcOk h l m) (hm : m ≤ 500000) (x : PV) (p0 p1 p3 p4 p5 p6 p7 p8 p9 : Option PV) :
    ∃ q4 q5 q6 q7 q8 q9 h', kBody (callN tb (n + 9)) (.nm 3) bTurn x [p0, p1, some (.loc l), p3, p4, p5, p6, p7, p8, p9] h = .nx [p0, p1, some (.loc l), some x, q4, q5, q6, q7, q8, q9] h' ∧ SrcOk h' l (m + 1100) := by
  obtain ⟨a, h1, e1, a0, a1, d1, _⟩ := draw_ok (n + 8) (many := 8) s (by decide) (by decide) (by omega)
  obtain ⟨b, h2, e2, b0, b1, d2, _⟩ := draw_ok (n + 8) (many := 2) d1.src (by decide) (by decide) (by omega)
  obtain ⟨reach, e3, t0, t1⟩ := pick2 b0 b1
  obtain ⟨rs, h3, e4, v, hn, d3⟩ := rules_ok (n + 5) (size := 1 + a) d2.src (by omega) (by omega) t0 t1 (by omega)
  obtain ⟨k, h4, e5, k0, k1, d4, _⟩ := draw_ok (n + 8) (many := 6) d3.src (by decide) (by decide) (by omega)
  have v5 : ∀ r ∈ rs.take k.toNat, VR (1 + a) r := fun r hr => v r (List.mem_of_mem_take hr)
  have n5 : (rs.take k.toNat).length ≤ 5 := by rw [List.length_take]; omega
  obtain ⟨o, e6⟩ := law_text (n + 8) (size := 1 + a) (by omega) (by omega) v5 (by omega) h4
  have hL := rs_len5 (size := 1 + a) (by omega) (by omega) v5 n5
  have s5 := Dr.src_push d4.src o
  obtain ⟨y, h6, e7, hy, d6⟩ := scarred_ok (n + 7) s5 (by omega) (rsT (1 + a) (rs.take k.toNat)) (by omega)
  obtain ⟨z, h7, e8, hz, d7⟩ := scarred_ok (n + 7) d6.src (by omega) y (by omega)
  have esl : slcOp false (.tup (rs.map ruP)) none (some k) h4 = .ok (.tup ((rs.take k.toNat).map ruP)) h4 := by
    have := slc_t (rs.map ruP) k.toNat h4
    rw [Int.toNat_of_nonneg k0] at this
    rw [this, List.map_take]
  have lp := loop_xs (w := .one (.fixT [.str (rsT (1 + a) (rs.take k.toNat)), .str y, .str z])) (body := kBody (callN tb (n + 9)) (.nm 7) (judged 7 9)) (fun i h => fixT_next _ i h)
    (fun i ρ h' => ∃ u w, ρ = [p0, p1, some (.loc l), some x, some (rsP (1 + a) rs), some (.str (rsT (1 + a) (rs.take k.toNat))), some (.str y), u, p8, w] ∧ h' = h7)
    (by
      rintro i t ρ h' ht ⟨u, w, rfl, rfl⟩
      have hm := List.mem_of_getElem? ht
      have hx : ∃ t', t = .str t' ∧ t'.length ≤ 10000 := by
        simp only [List.mem_cons, List.not_mem_nil, or_false] at hm
        rcases hm with rfl | rfl | rfl
        · exact ⟨_, rfl, by omega⟩
        · exact ⟨_, rfl, by omega⟩
        · exact ⟨_, rfl, by omega⟩
      obtain ⟨t', rfl, hl⟩ := hx
      exact ⟨_, _, judged_ok (n + 1) t' hl 7 9 (by decide) [p0, p1, some (.loc l), some x, some (rsP (1 + a) rs), some (.str (rsT (1 + a) (rs.take k.toNat))), some (.str y), u, p8, w] (by simp) (by simp) h', some (.str t'), some (oV rsV (rsL t')), rfl, rfl⟩)
    3 0 [p0, p1, some (.loc l), some x, some (rsP (1 + a) rs), some (.str (rsT (1 + a) (rs.take k.toNat))), some (.str y), p7, p8, p9] h7 rfl ⟨p7, p9, rfl, rfl⟩
  obtain ⟨ρ', h8, e9, u, w, rfl, rfl⟩ := lp
  obtain ⟨od, h9, e10, f10, d9⟩ := odd_ok (n + 7) d7.src (by omega)
  obtain ⟨bad, h10, e11, ob, f11, d10⟩ := no_rules_ok (n + 7) (size := 1 + a) d9.src (by omega) (by omega) (by omega) v hn
  have e12 := refused_gen n 0 f11 ob
  have ei := isi_str false f10
  have d := (d6.trans d7).trans (d9.trans d10)
  refine ⟨some (rsP (1 + a) rs), some (.str (rsT (1 + a) (rs.take k.toNat))), some (.str y), u, some od, w, h10, ?_, d.src.mono (by omega)⟩
  have er : rsP (1 + a) rs = .tup [.int (1 + a), .tup (rs.map ruP)] := rfl
  have er5 : rsP (1 + a) (rs.take k.toNat) = .tup [.int (1 + a), .tup ((rs.take k.toNat).map ruP)] := rfl
  have hw : ∀ H, walkOf .seq [.tup [.str (rsT (1 + a) (rs.take k.toNat)), .str y, .str z]] H = some (.one (.fixT [.str (rsT (1 + a) (rs.take k.toNat)), .str y, .str z])) := fun _ => rfl
  have hln : ∀ H, (Walk.one (.fixT [.str (rsT (1 + a) (rs.take k.toNat)), .str y, .str z])).len H = 3 := fun _ => rfl
  rw [er5] at e6
  rw [er] at e4 e9 e11
  rw [er]
  unfold bTurn
  generalize judged 7 9 = J at *
  cases hod : isStrB od
  · rw [hod] at ei
    have et := told_odd (n + 1) ei
    simp only [kBody, bindT, EV, EVS, EVB, kB2, e1, e2, e3, guard_yes (two_le _ _), e4, atI_0, atI_1, pE_call, e5, esl, e6, e7, e8, guard_yes (l3 _ _ _), kFor, kForW, hw, hln, e9, e10, ei, Bool.not_false, et, cmp_ne_str, decide_true, Bool.not_true, e11, e12, List.getElem?_cons_zero, List.getElem?_cons_succ, List.set_cons_zero, List.set_cons_succ]
  · rw [hod] at ei
    simp only [kBody, bindT, EV, EVS, EVB, kB2, e1, e2, e3, guard_yes (two_le _ _), e4, atI_0, atI_1, pE_call, e5, esl, e6, e7, e8, guard_yes (l3 _ _ _), kFor, kForW, hw, hln, e9, e10, ei, Bool.not_true, e11, e12, List.getElem?_cons_zero, List.getElem?_cons_succ, List.set_cons_zero, List.set_cons_succ]
theorem at_ok (n : Nat) (ns : List Int) (i : Nat) (h : PHeap) (p1 p2 p3 p4 p5 p6 p7 p8 p9 : Option PV) :
    ∃ q1 q2 q3 q4 q5 q6 q7 q8 q9 h', kBody (callN tb (n + 9)) (.nm 1) bAt (.int ((i : Nat) : Int)) [some (.scr (ns.map .int)), p1, p2, p3, p4, p5, p6, p7, p8, p9] h = .nx [some (.scr (ns.map .int)), q1, q2, q3, q4, q5, q6, q7, q8, q9] h' := by
  obtain ⟨a, b, e1, a0, b0⟩ := source_ok (n + 8) ns i h
  have s1 : SrcOk (h ++ [.lst [.int a, .int b, .int 0]]) h.length 0 := ⟨a, b, 0, push_at _ _, a0, b0, by decide, by decide⟩
  have lp := loop_rng (lo := 0) (n := 5) (body := kBody (callN tb (n + 9)) (.nm 3) bTurn)
    (fun j ρ h' => ∃ q3 q4 q5 q6 q7 q8 q9, ρ = [some (.scr (ns.map .int)), some (.int ((i : Nat) : Int)), some (.loc h.length), q3, q4, q5, q6, q7, q8, q9] ∧ SrcOk h' h.length (1100 * (j : Nat)))
    (by
      rintro j ρ h' hj ⟨q3, q4, q5, q6, q7, q8, q9, rfl, so⟩
      obtain ⟨r4, r5, r6, r7, r8, r9, h2, e, so2⟩ := turn_ok n so (by omega) (.int (0 + (j : Nat))) (some (.scr (ns.map .int))) (some (.int ((i : Nat) : Int))) q3 q4 q5 q6 q7 q8 q9
      exact ⟨_, h2, e, _, r4, r5, r6, r7, r8, r9, rfl, so2.mono (by omega)⟩)
    5 0 [some (.scr (ns.map .int)), some (.int ((i : Nat) : Int)), some (.loc h.length), p3, p4, p5, p6, p7, p8, p9] (h ++ [.lst [.int a, .int b, .int 0]]) rfl ⟨_, _, _, _, _, _, _, rfl, s1⟩
  obtain ⟨ρ', h2, e2, q3, q4, q5, q6, q7, q8, q9, rfl, _⟩ := lp
  refine ⟨some (.int ((i : Nat) : Int)), some (.loc h.length), q3, q4, q5, q6, q7, q8, q9, h2, ?_⟩
  unfold bAt
  generalize bTurn = B at e2
  have hw := walk_rng1 5 (h ++ [.lst [.int a, .int b, .int 0]]) (by decide) (by decide)
  have hln : (Walk.rng 0 (Int.toNat 5)).len (h ++ [.lst [.int a, .int b, .int 0]]) = 5 := rfl
  have h4 : Int.toNat 5 = 5 := rfl
  rw [h4] at hw hln
  simp only [kBody, bindT, EV, EVS, EVB, kB2, e1, kFor, kForW, hw, hln, e2, List.getElem?_cons_zero, List.getElem?_cons_succ, List.set_cons_zero, List.set_cons_succ]
theorem plain : ∀ ns : List Int, ns.length ≤ 63 → ∃ h, Rf.callN tb 40 37 [.scr (ns.map .int)] [] = .ok (.bl true) h := by
  intro ns hns
  rw [callN_at 39 37 _ _ ir_law rfl rfl]
  show ∃ h, (evalSs (callN tb 39) ir_law.body [some (.scr (ns.map .int)), none, none, none, none, none, none, none, none, none] []).res = _
  have key : ∃ N : Nat, 1 ≤ N ∧ N ≤ 10 ∧ (if (if (((ns.map PV.int).length : Nat) : Int) < 10 then (((ns.map PV.int).length : Nat) : Int) else 10) > 1 then (if (((ns.map PV.int).length : Nat) : Int) < 10 then (((ns.map PV.int).length : Nat) : Int) else 10) else 1) = (N : Int) := by
    rw [List.length_map]
    refine ⟨max 1 (min 10 ns.length), by omega, by omega, ?_⟩
    split <;> split <;> omega
  obtain ⟨N, n1, n2, eN⟩ := key
  have lp := loop_rng (lo := 0) (n := N) (body := kBody (callN tb 39) (.nm 1) bAt)
    (fun i ρ h' => ∃ q1 q2 q3 q4 q5 q6 q7 q8 q9, ρ = [some (.scr (ns.map .int)), q1, q2, q3, q4, q5, q6, q7, q8, q9])
    (by
      rintro i ρ h' hi ⟨q1, q2, q3, q4, q5, q6, q7, q8, q9, rfl⟩
      obtain ⟨r1, r2, r3, r4, r5, r6, r7, r8, r9, h2, e⟩ := at_ok 30 ns i h' q1 q2 q3 q4 q5 q6 q7 q8 q9
      rw [Int.zero_add]
      exact ⟨_, h2, e, r1, r2, r3, r4, r5, r6, r7, r8, r9, rfl⟩)
    N 0 [some (.scr (ns.map .int)), none, none, none, none, none, none, none, none, none] [] (by omega) ⟨_, _, _, _, _, _, _, _, _, rfl⟩
  obtain ⟨ρ', h', e, q1, q2, q3, q4, q5, q6, q7, q8, q9, rfl⟩ := lp
  have ew := written_ok 30 h'
  refine ⟨h', ?_⟩
  rw [body_law]
  generalize bAt = B at e
  have hw := walk_rng1 (N : Int) ([] : PHeap) (by omega) (by omega)
  rw [Int.toNat_natCast] at hw
  have hln : (Walk.rng 0 N).len ([] : PHeap) = N := rfl
  simp only [EV, EVS, EVB, len_scr, eN, kFor, kForW, hw, hln, e, ew, List.getElem?_cons_zero, List.getElem?_cons_succ, List.set_cons_zero, List.set_cons_succ]
end K85
end

section
set_option Elab.async false
set_option linter.all false
set_option maxRecDepth 100000
set_option maxHeartbeats 4000000
namespace K85
open PySem PySem.Spec L2 Rf
theorem d_is_integer {K : PySem.W.Frag} {h : Heap} {mg : Str → Option Value} {a : Addr} {oc : Value} {od an : Option Addr} {osl : Array (Option Value)} {kV doc pm cdv ct : Value} (X : K.In h) (G : h.Ns mainGlobals mg)
    (i : PySem.W.nsIn K mainGlobals ("is_integer" : Str) = some (some (.ref a))) (l : K.lookup a = some ⟨oc, od, .func (PySem.W.fnOf ("is_integer" : Str) ("is_integer" : Str) (defArgs (top 8)) (defBody (top 8)) (defScope (top 8)) .none kV doc pm an cdv ct), osl⟩) (c : PySem.W.codeIn K cdv ("is_integer" : Str) = true) (k : PySem.W.keepIn K (.ref a) = true) :
    DefAt T K mg tb 0 ("is_integer" : Str) := def_at X G i l c k (fun _ _ _ _ _ _ us hl => match us, hl with | [_], _ => rfl) rfl chk_is_integer
theorem d_is_between {K : PySem.W.Frag} {h : Heap} {mg : Str → Option Value} {a : Addr} {oc : Value} {od an : Option Addr} {osl : Array (Option Value)} {kV doc pm cdv ct : Value} (X : K.In h) (G : h.Ns mainGlobals mg)
    (i : PySem.W.nsIn K mainGlobals ("is_between" : Str) = some (some (.ref a))) (l : K.lookup a = some ⟨oc, od, .func (PySem.W.fnOf ("is_between" : Str) ("is_between" : Str) (defArgs (top 9)) (defBody (top 9)) (defScope (top 9)) .none kV doc pm an cdv ct), osl⟩) (c : PySem.W.codeIn K cdv ("is_between" : Str) = true) (k : PySem.W.keepIn K (.ref a) = true) :
    DefAt T K mg tb 1 ("is_between" : Str) := def_at X G i l c k (fun _ _ _ _ _ _ us hl => match us, hl with | [_, _, _], _ => rfl) rfl chk_is_between
theorem d_is_delay {K : PySem.W.Frag} {h : Heap} {mg : Str → Option Value} {a : Addr} {oc : Value} {od an : Option Addr} {osl : Array (Option Value)} {kV doc pm cdv ct : Value} (X : K.In h) (G : h.Ns mainGlobals mg)
    (i : PySem.W.nsIn K mainGlobals ("is_delay" : Str) = some (some (.ref a))) (l : K.lookup a = some ⟨oc, od, .func (PySem.W.fnOf ("is_delay" : Str) ("is_delay" : Str) (defArgs (top 10)) (defBody (top 10)) (defScope (top 10)) .none kV doc pm an cdv ct), osl⟩) (c : PySem.W.codeIn K cdv ("is_delay" : Str) = true) (k : PySem.W.keepIn K (.ref a) = true) :
    DefAt T K mg tb 2 ("is_delay" : Str) := def_at X G i l c k (fun _ _ _ _ _ _ us hl => match us, hl with | [_], _ => rfl) rfl chk_is_delay
theorem d_is_pair {K : PySem.W.Frag} {h : Heap} {mg : Str → Option Value} {a : Addr} {oc : Value} {od an : Option Addr} {osl : Array (Option Value)} {kV doc pm cdv ct : Value} (X : K.In h) (G : h.Ns mainGlobals mg)
    (i : PySem.W.nsIn K mainGlobals ("is_pair" : Str) = some (some (.ref a))) (l : K.lookup a = some ⟨oc, od, .func (PySem.W.fnOf ("is_pair" : Str) ("is_pair" : Str) (defArgs (top 11)) (defBody (top 11)) (defScope (top 11)) .none kV doc pm an cdv ct), osl⟩) (c : PySem.W.codeIn K cdv ("is_pair" : Str) = true) (k : PySem.W.keepIn K (.ref a) = true) :
    DefAt T K mg tb 3 ("is_pair" : Str) := def_at X G i l c k (fun _ _ _ _ _ _ us hl => match us, hl with | [_], _ => rfl) rfl chk_is_pair
theorem d_are_terms {K : PySem.W.Frag} {h : Heap} {mg : Str → Option Value} {a : Addr} {oc : Value} {od an : Option Addr} {osl : Array (Option Value)} {kV doc pm cdv ct : Value} (X : K.In h) (G : h.Ns mainGlobals mg)
    (i : PySem.W.nsIn K mainGlobals ("are_terms" : Str) = some (some (.ref a))) (l : K.lookup a = some ⟨oc, od, .func (PySem.W.fnOf ("are_terms" : Str) ("are_terms" : Str) (defArgs (top 12)) (defBody (top 12)) (defScope (top 12)) .none kV doc pm an cdv ct), osl⟩) (c : PySem.W.codeIn K cdv ("are_terms" : Str) = true) (k : PySem.W.keepIn K (.ref a) = true) :
    DefAt T K mg tb 4 ("are_terms" : Str) := def_at X G i l c k (fun _ _ _ _ _ _ us hl => match us, hl with | [_, _], _ => rfl) rfl chk_are_terms
theorem d_is_loose_rule {K : PySem.W.Frag} {h : Heap} {mg : Str → Option Value} {a : Addr} {oc : Value} {od an : Option Addr} {osl : Array (Option Value)} {kV doc pm cdv ct : Value} (X : K.In h) (G : h.Ns mainGlobals mg)
    (i : PySem.W.nsIn K mainGlobals ("is_loose_rule" : Str) = some (some (.ref a))) (l : K.lookup a = some ⟨oc, od, .func (PySem.W.fnOf ("is_loose_rule" : Str) ("is_loose_rule" : Str) (defArgs (top 13)) (defBody (top 13)) (defScope (top 13)) .none kV doc pm an cdv ct), osl⟩) (c : PySem.W.codeIn K cdv ("is_loose_rule" : Str) = true) (k : PySem.W.keepIn K (.ref a) = true) :
    DefAt T K mg tb 5 ("is_loose_rule" : Str) := def_at X G i l c k (fun _ _ _ _ _ _ us hl => match us, hl with | [_, _], _ => rfl) rfl chk_is_loose_rule
theorem d_is_loose_rules {K : PySem.W.Frag} {h : Heap} {mg : Str → Option Value} {a : Addr} {oc : Value} {od an : Option Addr} {osl : Array (Option Value)} {kV doc pm cdv ct : Value} (X : K.In h) (G : h.Ns mainGlobals mg)
    (i : PySem.W.nsIn K mainGlobals ("is_loose_rules" : Str) = some (some (.ref a))) (l : K.lookup a = some ⟨oc, od, .func (PySem.W.fnOf ("is_loose_rules" : Str) ("is_loose_rules" : Str) (defArgs (top 14)) (defBody (top 14)) (defScope (top 14)) .none kV doc pm an cdv ct), osl⟩) (c : PySem.W.codeIn K cdv ("is_loose_rules" : Str) = true) (k : PySem.W.keepIn K (.ref a) = true) :
    DefAt T K mg tb 6 ("is_loose_rules" : Str) := def_at X G i l c k (fun _ _ _ _ _ _ us hl => match us, hl with | [_], _ => rfl) rfl chk_is_loose_rules
theorem d_is_rule_by {K : PySem.W.Frag} {h : Heap} {mg : Str → Option Value} {a : Addr} {oc : Value} {od an : Option Addr} {osl : Array (Option Value)} {kV doc pm cdv ct : Value} (X : K.In h) (G : h.Ns mainGlobals mg)
    (i : PySem.W.nsIn K mainGlobals ("is_rule_by" : Str) = some (some (.ref a))) (l : K.lookup a = some ⟨oc, od, .func (PySem.W.fnOf ("is_rule_by" : Str) ("is_rule_by" : Str) (defArgs (top 15)) (defBody (top 15)) (defScope (top 15)) .none kV doc pm an cdv ct), osl⟩) (c : PySem.W.codeIn K cdv ("is_rule_by" : Str) = true) (k : PySem.W.keepIn K (.ref a) = true) :
    DefAt T K mg tb 7 ("is_rule_by" : Str) := def_at X G i l c k (fun _ _ _ _ _ _ us hl => match us, hl with | [_, _], _ => rfl) rfl chk_is_rule_by
theorem d_is_rule_set {K : PySem.W.Frag} {h : Heap} {mg : Str → Option Value} {a : Addr} {oc : Value} {od an : Option Addr} {osl : Array (Option Value)} {kV doc pm cdv ct : Value} (X : K.In h) (G : h.Ns mainGlobals mg)
    (i : PySem.W.nsIn K mainGlobals ("is_rule_set" : Str) = some (some (.ref a))) (l : K.lookup a = some ⟨oc, od, .func (PySem.W.fnOf ("is_rule_set" : Str) ("is_rule_set" : Str) (defArgs (top 16)) (defBody (top 16)) (defScope (top 16)) .none kV doc pm an cdv ct), osl⟩) (c : PySem.W.codeIn K cdv ("is_rule_set" : Str) = true) (k : PySem.W.keepIn K (.ref a) = true) :
    DefAt T K mg tb 8 ("is_rule_set" : Str) := def_at X G i l c k (fun _ _ _ _ _ _ us hl => match us, hl with | [_], _ => rfl) rfl chk_is_rule_set
theorem d_check_rules {K : PySem.W.Frag} {h : Heap} {mg : Str → Option Value} {a : Addr} {oc : Value} {od an : Option Addr} {osl : Array (Option Value)} {kV doc pm cdv ct : Value} (X : K.In h) (G : h.Ns mainGlobals mg)
    (i : PySem.W.nsIn K mainGlobals ("check_rules" : Str) = some (some (.ref a))) (l : K.lookup a = some ⟨oc, od, .func (PySem.W.fnOf ("check_rules" : Str) ("check_rules" : Str) (defArgs (top 17)) (defBody (top 17)) (defScope (top 17)) .none kV doc pm an cdv ct), osl⟩) (c : PySem.W.codeIn K cdv ("check_rules" : Str) = true) (k : PySem.W.keepIn K (.ref a) = true) :
    DefAt T K mg tb 9 ("check_rules" : Str) := def_at X G i l c k (fun _ _ _ _ _ _ us hl => match us, hl with | [_], _ => rfl) rfl chk_check_rules
theorem d_number_of {K : PySem.W.Frag} {h : Heap} {mg : Str → Option Value} {a : Addr} {oc : Value} {od an : Option Addr} {osl : Array (Option Value)} {kV doc pm cdv ct : Value} (X : K.In h) (G : h.Ns mainGlobals mg)
    (i : PySem.W.nsIn K mainGlobals ("number_of" : Str) = some (some (.ref a))) (l : K.lookup a = some ⟨oc, od, .func (PySem.W.fnOf ("number_of" : Str) ("number_of" : Str) (defArgs (top 22)) (defBody (top 22)) (defScope (top 22)) .none kV doc pm an cdv ct), osl⟩) (c : PySem.W.codeIn K cdv ("number_of" : Str) = true) (k : PySem.W.keepIn K (.ref a) = true) :
    DefAt T K mg tb 10 ("number_of" : Str) := def_at X G i l c k (fun _ _ _ _ _ _ us hl => match us, hl with | [_], _ => rfl) rfl chk_number_of
theorem d_term_text {K : PySem.W.Frag} {h : Heap} {mg : Str → Option Value} {a : Addr} {oc : Value} {od an : Option Addr} {osl : Array (Option Value)} {kV doc pm cdv ct : Value} (X : K.In h) (G : h.Ns mainGlobals mg)
    (i : PySem.W.nsIn K mainGlobals ("term_text" : Str) = some (some (.ref a))) (l : K.lookup a = some ⟨oc, od, .func (PySem.W.fnOf ("term_text" : Str) ("term_text" : Str) (defArgs (top 23)) (defBody (top 23)) (defScope (top 23)) .none kV doc pm an cdv ct), osl⟩) (c : PySem.W.codeIn K cdv ("term_text" : Str) = true) (k : PySem.W.keepIn K (.ref a) = true) :
    DefAt T K mg tb 11 ("term_text" : Str) := def_at X G i l c k (fun _ _ _ _ _ _ us hl => match us, hl with | [_], _ => rfl) rfl chk_term_text
theorem d_rule_text {K : PySem.W.Frag} {h : Heap} {mg : Str → Option Value} {a : Addr} {oc : Value} {od an : Option Addr} {osl : Array (Option Value)} {kV doc pm cdv ct : Value} (X : K.In h) (G : h.Ns mainGlobals mg)
    (i : PySem.W.nsIn K mainGlobals ("rule_text" : Str) = some (some (.ref a))) (l : K.lookup a = some ⟨oc, od, .func (PySem.W.fnOf ("rule_text" : Str) ("rule_text" : Str) (defArgs (top 24)) (defBody (top 24)) (defScope (top 24)) .none kV doc pm an cdv ct), osl⟩) (c : PySem.W.codeIn K cdv ("rule_text" : Str) = true) (k : PySem.W.keepIn K (.ref a) = true) :
    DefAt T K mg tb 12 ("rule_text" : Str) := def_at X G i l c k (fun _ _ _ _ _ _ us hl => match us, hl with | [_], _ => rfl) rfl chk_rule_text
theorem d_rules_text {K : PySem.W.Frag} {h : Heap} {mg : Str → Option Value} {a : Addr} {oc : Value} {od an : Option Addr} {osl : Array (Option Value)} {kV doc pm cdv ct : Value} (X : K.In h) (G : h.Ns mainGlobals mg)
    (i : PySem.W.nsIn K mainGlobals ("rules_text" : Str) = some (some (.ref a))) (l : K.lookup a = some ⟨oc, od, .func (PySem.W.fnOf ("rules_text" : Str) ("rules_text" : Str) (defArgs (top 25)) (defBody (top 25)) (defScope (top 25)) .none kV doc pm an cdv ct), osl⟩) (c : PySem.W.codeIn K cdv ("rules_text" : Str) = true) (k : PySem.W.keepIn K (.ref a) = true) :
    DefAt T K mg tb 13 ("rules_text" : Str) := def_at X G i l c k (fun _ _ _ _ _ _ us hl => match us, hl with | [_], _ => rfl) rfl chk_rules_text
theorem d_term_of {K : PySem.W.Frag} {h : Heap} {mg : Str → Option Value} {a : Addr} {oc : Value} {od an : Option Addr} {osl : Array (Option Value)} {kV doc pm cdv ct : Value} (X : K.In h) (G : h.Ns mainGlobals mg)
    (i : PySem.W.nsIn K mainGlobals ("term_of" : Str) = some (some (.ref a))) (l : K.lookup a = some ⟨oc, od, .func (PySem.W.fnOf ("term_of" : Str) ("term_of" : Str) (defArgs (top 26)) (defBody (top 26)) (defScope (top 26)) .none kV doc pm an cdv ct), osl⟩) (c : PySem.W.codeIn K cdv ("term_of" : Str) = true) (k : PySem.W.keepIn K (.ref a) = true) :
    DefAt T K mg tb 14 ("term_of" : Str) := def_at X G i l c k (fun _ _ _ _ _ _ us hl => match us, hl with | [_], _ => rfl) rfl chk_term_of
theorem d_rule_of {K : PySem.W.Frag} {h : Heap} {mg : Str → Option Value} {a : Addr} {oc : Value} {od an : Option Addr} {osl : Array (Option Value)} {kV doc pm cdv ct : Value} (X : K.In h) (G : h.Ns mainGlobals mg)
    (i : PySem.W.nsIn K mainGlobals ("rule_of" : Str) = some (some (.ref a))) (l : K.lookup a = some ⟨oc, od, .func (PySem.W.fnOf ("rule_of" : Str) ("rule_of" : Str) (defArgs (top 27)) (defBody (top 27)) (defScope (top 27)) .none kV doc pm an cdv ct), osl⟩) (c : PySem.W.codeIn K cdv ("rule_of" : Str) = true) (k : PySem.W.keepIn K (.ref a) = true) :
    DefAt T K mg tb 15 ("rule_of" : Str) := def_at X G i l c k (fun _ _ _ _ _ _ us hl => match us, hl with | [_], _ => rfl) rfl chk_rule_of
theorem d_check_text {K : PySem.W.Frag} {h : Heap} {mg : Str → Option Value} {a : Addr} {oc : Value} {od an : Option Addr} {osl : Array (Option Value)} {kV doc pm cdv ct : Value} (X : K.In h) (G : h.Ns mainGlobals mg)
    (i : PySem.W.nsIn K mainGlobals ("check_text" : Str) = some (some (.ref a))) (l : K.lookup a = some ⟨oc, od, .func (PySem.W.fnOf ("check_text" : Str) ("check_text" : Str) (defArgs (top 28)) (defBody (top 28)) (defScope (top 28)) .none kV doc pm an cdv ct), osl⟩) (c : PySem.W.codeIn K cdv ("check_text" : Str) = true) (k : PySem.W.keepIn K (.ref a) = true) :
    DefAt T K mg tb 16 ("check_text" : Str) := def_at X G i l c k (fun _ _ _ _ _ _ us hl => match us, hl with | [_], _ => rfl) rfl chk_check_text
theorem d_format_rules {K : PySem.W.Frag} {h : Heap} {mg : Str → Option Value} {a : Addr} {oc : Value} {od an : Option Addr} {osl : Array (Option Value)} {kV doc pm cdv ct : Value} (X : K.In h) (G : h.Ns mainGlobals mg)
    (i : PySem.W.nsIn K mainGlobals ("format_rules" : Str) = some (some (.ref a))) (l : K.lookup a = some ⟨oc, od, .func (PySem.W.fnOf ("format_rules" : Str) ("format_rules" : Str) (defArgs (top 29)) (defBody (top 29)) (defScope (top 29)) .none kV doc pm an cdv ct), osl⟩) (c : PySem.W.codeIn K cdv ("format_rules" : Str) = true) (k : PySem.W.keepIn K (.ref a) = true) :
    DefAt T K mg tb 17 ("format_rules" : Str) := def_at X G i l c k (fun _ _ _ _ _ _ us hl => match us, hl with | [_], _ => rfl) rfl chk_format_rules
theorem d_parse_rules {K : PySem.W.Frag} {h : Heap} {mg : Str → Option Value} {a : Addr} {oc : Value} {od an : Option Addr} {osl : Array (Option Value)} {kV doc pm cdv ct : Value} (X : K.In h) (G : h.Ns mainGlobals mg)
    (i : PySem.W.nsIn K mainGlobals ("parse_rules" : Str) = some (some (.ref a))) (l : K.lookup a = some ⟨oc, od, .func (PySem.W.fnOf ("parse_rules" : Str) ("parse_rules" : Str) (defArgs (top 30)) (defBody (top 30)) (defScope (top 30)) .none kV doc pm an cdv ct), osl⟩) (c : PySem.W.codeIn K cdv ("parse_rules" : Str) = true) (k : PySem.W.keepIn K (.ref a) = true) :
    DefAt T K mg tb 18 ("parse_rules" : Str) := def_at X G i l c k (fun _ _ _ _ _ _ us hl => match us, hl with | [_], _ => rfl) rfl chk_parse_rules
theorem d__law_source {K : PySem.W.Frag} {h : Heap} {mg : Str → Option Value} {a : Addr} {oc : Value} {od an : Option Addr} {osl : Array (Option Value)} {kV doc pm cdv ct : Value} (X : K.In h) (G : h.Ns mainGlobals mg)
    (i : PySem.W.nsIn K mainGlobals ("_law_source" : Str) = some (some (.ref a))) (l : K.lookup a = some ⟨oc, od, .func (PySem.W.fnOf ("_law_source" : Str) ("_law_source" : Str) (defArgs (top 32)) (defBody (top 32)) (defScope (top 32)) .none kV doc pm an cdv ct), osl⟩) (c : PySem.W.codeIn K cdv ("_law_source" : Str) = true) (k : PySem.W.keepIn K (.ref a) = true) :
    DefAt T K mg tb 19 ("_law_source" : Str) := def_at X G i l c k (fun _ _ _ _ _ _ us hl => match us, hl with | [_, _], _ => rfl) rfl chk__law_source
theorem d__law_draw {K : PySem.W.Frag} {h : Heap} {mg : Str → Option Value} {a : Addr} {oc : Value} {od an : Option Addr} {osl : Array (Option Value)} {kV doc pm cdv ct : Value} (X : K.In h) (G : h.Ns mainGlobals mg)
    (i : PySem.W.nsIn K mainGlobals ("_law_draw" : Str) = some (some (.ref a))) (l : K.lookup a = some ⟨oc, od, .func (PySem.W.fnOf ("_law_draw" : Str) ("_law_draw" : Str) (defArgs (top 33)) (defBody (top 33)) (defScope (top 33)) .none kV doc pm an cdv ct), osl⟩) (c : PySem.W.codeIn K cdv ("_law_draw" : Str) = true) (k : PySem.W.keepIn K (.ref a) = true) :
    DefAt T K mg tb 20 ("_law_draw" : Str) := def_at X G i l c k (fun _ _ _ _ _ _ us hl => match us, hl with | [_, _], _ => rfl) rfl chk__law_draw
theorem d__law_delay {K : PySem.W.Frag} {h : Heap} {mg : Str → Option Value} {a : Addr} {oc : Value} {od an : Option Addr} {osl : Array (Option Value)} {kV doc pm cdv ct : Value} (X : K.In h) (G : h.Ns mainGlobals mg)
    (i : PySem.W.nsIn K mainGlobals ("_law_delay" : Str) = some (some (.ref a))) (l : K.lookup a = some ⟨oc, od, .func (PySem.W.fnOf ("_law_delay" : Str) ("_law_delay" : Str) (defArgs (top 34)) (defBody (top 34)) (defScope (top 34)) .none kV doc pm an cdv ct), osl⟩) (c : PySem.W.codeIn K cdv ("_law_delay" : Str) = true) (k : PySem.W.keepIn K (.ref a) = true) :
    DefAt T K mg tb 21 ("_law_delay" : Str) := def_at X G i l c k (fun _ _ _ _ _ _ us hl => match us, hl with | [_, _], _ => rfl) rfl chk__law_delay
theorem d__law_terms {K : PySem.W.Frag} {h : Heap} {mg : Str → Option Value} {a : Addr} {oc : Value} {od an : Option Addr} {osl : Array (Option Value)} {kV doc pm cdv ct : Value} (X : K.In h) (G : h.Ns mainGlobals mg)
    (i : PySem.W.nsIn K mainGlobals ("_law_terms" : Str) = some (some (.ref a))) (l : K.lookup a = some ⟨oc, od, .func (PySem.W.fnOf ("_law_terms" : Str) ("_law_terms" : Str) (defArgs (top 35)) (defBody (top 35)) (defScope (top 35)) .none kV doc pm an cdv ct), osl⟩) (c : PySem.W.codeIn K cdv ("_law_terms" : Str) = true) (k : PySem.W.keepIn K (.ref a) = true) :
    DefAt T K mg tb 22 ("_law_terms" : Str) := def_at X G i l c k (fun _ _ _ _ _ _ us hl => match us, hl with | [_, _, _, _], _ => rfl) rfl chk__law_terms
theorem d__law_ring {K : PySem.W.Frag} {h : Heap} {mg : Str → Option Value} {a : Addr} {oc : Value} {od an : Option Addr} {osl : Array (Option Value)} {kV doc pm cdv ct : Value} (X : K.In h) (G : h.Ns mainGlobals mg)
    (i : PySem.W.nsIn K mainGlobals ("_law_ring" : Str) = some (some (.ref a))) (l : K.lookup a = some ⟨oc, od, .func (PySem.W.fnOf ("_law_ring" : Str) ("_law_ring" : Str) (defArgs (top 36)) (defBody (top 36)) (defScope (top 36)) .none kV doc pm an cdv ct), osl⟩) (c : PySem.W.codeIn K cdv ("_law_ring" : Str) = true) (k : PySem.W.keepIn K (.ref a) = true) :
    DefAt T K mg tb 23 ("_law_ring" : Str) := def_at X G i l c k (fun _ _ _ _ _ _ us hl => match us, hl with | [_, _, _], _ => rfl) rfl chk__law_ring
theorem d__law_widened {K : PySem.W.Frag} {h : Heap} {mg : Str → Option Value} {a : Addr} {oc : Value} {od an : Option Addr} {osl : Array (Option Value)} {kV doc pm cdv ct : Value} (X : K.In h) (G : h.Ns mainGlobals mg)
    (i : PySem.W.nsIn K mainGlobals ("_law_widened" : Str) = some (some (.ref a))) (l : K.lookup a = some ⟨oc, od, .func (PySem.W.fnOf ("_law_widened" : Str) ("_law_widened" : Str) (defArgs (top 37)) (defBody (top 37)) (defScope (top 37)) .none kV doc pm an cdv ct), osl⟩) (c : PySem.W.codeIn K cdv ("_law_widened" : Str) = true) (k : PySem.W.keepIn K (.ref a) = true) :
    DefAt T K mg tb 24 ("_law_widened" : Str) := def_at X G i l c k (fun _ _ _ _ _ _ us hl => match us, hl with | [_, _, _, _], _ => rfl) rfl chk__law_widened
theorem d__law_rules {K : PySem.W.Frag} {h : Heap} {mg : Str → Option Value} {a : Addr} {oc : Value} {od an : Option Addr} {osl : Array (Option Value)} {kV doc pm cdv ct : Value} (X : K.In h) (G : h.Ns mainGlobals mg)
    (i : PySem.W.nsIn K mainGlobals ("_law_rules" : Str) = some (some (.ref a))) (l : K.lookup a = some ⟨oc, od, .func (PySem.W.fnOf ("_law_rules" : Str) ("_law_rules" : Str) (defArgs (top 38)) (defBody (top 38)) (defScope (top 38)) .none kV doc pm an cdv ct), osl⟩) (c : PySem.W.codeIn K cdv ("_law_rules" : Str) = true) (k : PySem.W.keepIn K (.ref a) = true) :
    DefAt T K mg tb 25 ("_law_rules" : Str) := def_at X G i l c k (fun _ _ _ _ _ _ us hl => match us, hl with | [_, _, _], _ => rfl) rfl chk__law_rules
theorem d__law_odd {K : PySem.W.Frag} {h : Heap} {mg : Str → Option Value} {a : Addr} {oc : Value} {od an : Option Addr} {osl : Array (Option Value)} {kV doc pm cdv ct : Value} (X : K.In h) (G : h.Ns mainGlobals mg)
    (i : PySem.W.nsIn K mainGlobals ("_law_odd" : Str) = some (some (.ref a))) (l : K.lookup a = some ⟨oc, od, .func (PySem.W.fnOf ("_law_odd" : Str) ("_law_odd" : Str) (defArgs (top 39)) (defBody (top 39)) (defScope (top 39)) .none kV doc pm an cdv ct), osl⟩) (c : PySem.W.codeIn K cdv ("_law_odd" : Str) = true) (k : PySem.W.keepIn K (.ref a) = true) :
    DefAt T K mg tb 26 ("_law_odd" : Str) := def_at X G i l c k (fun _ _ _ _ _ _ us hl => match us, hl with | [_], _ => rfl) rfl chk__law_odd
theorem d__law_no_rules {K : PySem.W.Frag} {h : Heap} {mg : Str → Option Value} {a : Addr} {oc : Value} {od an : Option Addr} {osl : Array (Option Value)} {kV doc pm cdv ct : Value} (X : K.In h) (G : h.Ns mainGlobals mg)
    (i : PySem.W.nsIn K mainGlobals ("_law_no_rules" : Str) = some (some (.ref a))) (l : K.lookup a = some ⟨oc, od, .func (PySem.W.fnOf ("_law_no_rules" : Str) ("_law_no_rules" : Str) (defArgs (top 40)) (defBody (top 40)) (defScope (top 40)) .none kV doc pm an cdv ct), osl⟩) (c : PySem.W.codeIn K cdv ("_law_no_rules" : Str) = true) (k : PySem.W.keepIn K (.ref a) = true) :
    DefAt T K mg tb 27 ("_law_no_rules" : Str) := def_at X G i l c k (fun _ _ _ _ _ _ us hl => match us, hl with | [_, _], _ => rfl) rfl chk__law_no_rules
theorem d__law_text {K : PySem.W.Frag} {h : Heap} {mg : Str → Option Value} {a : Addr} {oc : Value} {od an : Option Addr} {osl : Array (Option Value)} {kV doc pm cdv ct : Value} (X : K.In h) (G : h.Ns mainGlobals mg)
    (i : PySem.W.nsIn K mainGlobals ("_law_text" : Str) = some (some (.ref a))) (l : K.lookup a = some ⟨oc, od, .func (PySem.W.fnOf ("_law_text" : Str) ("_law_text" : Str) (defArgs (top 41)) (defBody (top 41)) (defScope (top 41)) .none kV doc pm an cdv ct), osl⟩) (c : PySem.W.codeIn K cdv ("_law_text" : Str) = true) (k : PySem.W.keepIn K (.ref a) = true) :
    DefAt T K mg tb 28 ("_law_text" : Str) := def_at X G i l c k (fun _ _ _ _ _ _ us hl => match us, hl with | [_], _ => rfl) rfl chk__law_text
theorem d__law_digits {K : PySem.W.Frag} {h : Heap} {mg : Str → Option Value} {a : Addr} {oc : Value} {od an : Option Addr} {osl : Array (Option Value)} {kV doc pm cdv ct : Value} (X : K.In h) (G : h.Ns mainGlobals mg)
    (i : PySem.W.nsIn K mainGlobals ("_law_digits" : Str) = some (some (.ref a))) (l : K.lookup a = some ⟨oc, od, .func (PySem.W.fnOf ("_law_digits" : Str) ("_law_digits" : Str) (defArgs (top 42)) (defBody (top 42)) (defScope (top 42)) .none kV doc pm an cdv ct), osl⟩) (c : PySem.W.codeIn K cdv ("_law_digits" : Str) = true) (k : PySem.W.keepIn K (.ref a) = true) :
    DefAt T K mg tb 29 ("_law_digits" : Str) := def_at X G i l c k (fun _ _ _ _ _ _ us hl => match us, hl with | [_, _], _ => rfl) rfl chk__law_digits
theorem d__law_term {K : PySem.W.Frag} {h : Heap} {mg : Str → Option Value} {a : Addr} {oc : Value} {od an : Option Addr} {osl : Array (Option Value)} {kV doc pm cdv ct : Value} (X : K.In h) (G : h.Ns mainGlobals mg)
    (i : PySem.W.nsIn K mainGlobals ("_law_term" : Str) = some (some (.ref a))) (l : K.lookup a = some ⟨oc, od, .func (PySem.W.fnOf ("_law_term" : Str) ("_law_term" : Str) (defArgs (top 43)) (defBody (top 43)) (defScope (top 43)) .none kV doc pm an cdv ct), osl⟩) (c : PySem.W.codeIn K cdv ("_law_term" : Str) = true) (k : PySem.W.keepIn K (.ref a) = true) :
    DefAt T K mg tb 30 ("_law_term" : Str) := def_at X G i l c k (fun _ _ _ _ _ _ us hl => match us, hl with | [_, _], _ => rfl) rfl chk__law_term
theorem d__law_rule {K : PySem.W.Frag} {h : Heap} {mg : Str → Option Value} {a : Addr} {oc : Value} {od an : Option Addr} {osl : Array (Option Value)} {kV doc pm cdv ct : Value} (X : K.In h) (G : h.Ns mainGlobals mg)
    (i : PySem.W.nsIn K mainGlobals ("_law_rule" : Str) = some (some (.ref a))) (l : K.lookup a = some ⟨oc, od, .func (PySem.W.fnOf ("_law_rule" : Str) ("_law_rule" : Str) (defArgs (top 44)) (defBody (top 44)) (defScope (top 44)) .none kV doc pm an cdv ct), osl⟩) (c : PySem.W.codeIn K cdv ("_law_rule" : Str) = true) (k : PySem.W.keepIn K (.ref a) = true) :
    DefAt T K mg tb 31 ("_law_rule" : Str) := def_at X G i l c k (fun _ _ _ _ _ _ us hl => match us, hl with | [_, _], _ => rfl) rfl chk__law_rule
theorem d__law_parsed {K : PySem.W.Frag} {h : Heap} {mg : Str → Option Value} {a : Addr} {oc : Value} {od an : Option Addr} {osl : Array (Option Value)} {kV doc pm cdv ct : Value} (X : K.In h) (G : h.Ns mainGlobals mg)
    (i : PySem.W.nsIn K mainGlobals ("_law_parsed" : Str) = some (some (.ref a))) (l : K.lookup a = some ⟨oc, od, .func (PySem.W.fnOf ("_law_parsed" : Str) ("_law_parsed" : Str) (defArgs (top 45)) (defBody (top 45)) (defScope (top 45)) .none kV doc pm an cdv ct), osl⟩) (c : PySem.W.codeIn K cdv ("_law_parsed" : Str) = true) (k : PySem.W.keepIn K (.ref a) = true) :
    DefAt T K mg tb 32 ("_law_parsed" : Str) := def_at X G i l c k (fun _ _ _ _ _ _ us hl => match us, hl with | [_], _ => rfl) rfl chk__law_parsed
theorem d__law_told {K : PySem.W.Frag} {h : Heap} {mg : Str → Option Value} {a : Addr} {oc : Value} {od an : Option Addr} {osl : Array (Option Value)} {kV doc pm cdv ct : Value} (X : K.In h) (G : h.Ns mainGlobals mg)
    (i : PySem.W.nsIn K mainGlobals ("_law_told" : Str) = some (some (.ref a))) (l : K.lookup a = some ⟨oc, od, .func (PySem.W.fnOf ("_law_told" : Str) ("_law_told" : Str) (defArgs (top 46)) (defBody (top 46)) (defScope (top 46)) .none kV doc pm an cdv ct), osl⟩) (c : PySem.W.codeIn K cdv ("_law_told" : Str) = true) (k : PySem.W.keepIn K (.ref a) = true) :
    DefAt T K mg tb 33 ("_law_told" : Str) := def_at X G i l c k (fun _ _ _ _ _ _ us hl => match us, hl with | [_], _ => rfl) rfl chk__law_told
theorem d__law_refused {K : PySem.W.Frag} {h : Heap} {mg : Str → Option Value} {a : Addr} {oc : Value} {od an : Option Addr} {osl : Array (Option Value)} {kV doc pm cdv ct : Value} (X : K.In h) (G : h.Ns mainGlobals mg)
    (i : PySem.W.nsIn K mainGlobals ("_law_refused" : Str) = some (some (.ref a))) (l : K.lookup a = some ⟨oc, od, .func (PySem.W.fnOf ("_law_refused" : Str) ("_law_refused" : Str) (defArgs (top 47)) (defBody (top 47)) (defScope (top 47)) .none kV doc pm an cdv ct), osl⟩) (c : PySem.W.codeIn K cdv ("_law_refused" : Str) = true) (k : PySem.W.keepIn K (.ref a) = true) :
    DefAt T K mg tb 34 ("_law_refused" : Str) := def_at X G i l c k (fun _ _ _ _ _ _ us hl => match us, hl with | [_], _ => rfl) rfl chk__law_refused
theorem d__law_scarred {K : PySem.W.Frag} {h : Heap} {mg : Str → Option Value} {a : Addr} {oc : Value} {od an : Option Addr} {osl : Array (Option Value)} {kV doc pm cdv ct : Value} (X : K.In h) (G : h.Ns mainGlobals mg)
    (i : PySem.W.nsIn K mainGlobals ("_law_scarred" : Str) = some (some (.ref a))) (l : K.lookup a = some ⟨oc, od, .func (PySem.W.fnOf ("_law_scarred" : Str) ("_law_scarred" : Str) (defArgs (top 48)) (defBody (top 48)) (defScope (top 48)) .none kV doc pm an cdv ct), osl⟩) (c : PySem.W.codeIn K cdv ("_law_scarred" : Str) = true) (k : PySem.W.keepIn K (.ref a) = true) :
    DefAt T K mg tb 35 ("_law_scarred" : Str) := def_at X G i l c k (fun _ _ _ _ _ _ us hl => match us, hl with | [_, _], _ => rfl) rfl chk__law_scarred
theorem d__law_written_right {K : PySem.W.Frag} {h : Heap} {mg : Str → Option Value} {a : Addr} {oc : Value} {od an : Option Addr} {osl : Array (Option Value)} {kV doc pm cdv ct : Value} (X : K.In h) (G : h.Ns mainGlobals mg)
    (i : PySem.W.nsIn K mainGlobals ("_law_written_right" : Str) = some (some (.ref a))) (l : K.lookup a = some ⟨oc, od, .func (PySem.W.fnOf ("_law_written_right" : Str) ("_law_written_right" : Str) (defArgs (top 49)) (defBody (top 49)) (defScope (top 49)) .none kV doc pm an cdv ct), osl⟩) (c : PySem.W.codeIn K cdv ("_law_written_right" : Str) = true) (k : PySem.W.keepIn K (.ref a) = true) :
    DefAt T K mg tb 36 ("_law_written_right" : Str) := def_at X G i l c k (fun _ _ _ _ _ _ us hl => match us, hl with | [], _ => rfl) rfl chk__law_written_right
theorem d_law {K : PySem.W.Frag} {h : Heap} {mg : Str → Option Value} {a : Addr} {oc : Value} {od an : Option Addr} {osl : Array (Option Value)} {kV doc pm cdv ct : Value} (X : K.In h) (G : h.Ns mainGlobals mg)
    (i : PySem.W.nsIn K mainGlobals ("law" : Str) = some (some (.ref a))) (l : K.lookup a = some ⟨oc, od, .func (PySem.W.fnOf ("law" : Str) ("law" : Str) (defArgs (top 50)) (defBody (top 50)) (defScope (top 50)) .none kV doc pm an cdv ct), osl⟩) (c : PySem.W.codeIn K cdv ("law" : Str) = true) (k : PySem.W.keepIn K (.ref a) = true) :
    DefAt T K mg tb 37 ("law" : Str) := def_at X G i l c k (fun _ _ _ _ _ _ us hl => match us, hl with | [_], _ => rfl) rfl chk_law
end K85
open PySem PySem.W PyProof.Rows
set_option maxRecDepth 100000 in
set_option maxHeartbeats 0 in
theorem PySem.Challenge.cw_latestof_k85_texts_of_rule_sets_judged_holds : PySem.Challenge.rw_latestof_k85_texts_of_rule_sets_judged.Holds := by
  w_on; o_law; k_head; (case hw => w_witness2)
  k_fill
  refine Rf.walk_F (l := PySem.Challenge.rw_latestof_k85_texts_of_rule_sets_judged) (cf := Rf.callN K85.tb 40 37) rfl (by decide) rfl (fun w h Y => PySem.W.kIn_of Y) ?F K85.plain
  case F =>
    intro w mg fa h KX G hmg
    refine' ⟨(Rf.cAl [_, _, _]), fun base _ _ => Rf.law_run (L := ⟨_, _⟩) (T := K85.T) (tb := K85.tb) ?P (x := "law") rfl hmg⟩
    case P =>
      refine' Rf.prog_of ⟨PySem.W.mg_none_of KX G ?qz0, PySem.W.mg_none_of KX G ?qz1, PySem.W.mg_none_of KX G ?qz2, PySem.W.mg_none_of KX G ?qz3, PySem.W.mg_none_of KX G ?qz4, PySem.W.mg_none_of KX G ?qz5, PySem.W.mg_none_of KX G ?qz6, PySem.W.mg_none_of KX G ?qz7, PySem.W.mg_none_of KX G ?qz8, PySem.W.mg_none_of KX G ?qz9, PySem.W.mg_none_of KX G ?qz10, PySem.W.mg_none_of KX G ?qz11, PySem.W.mg_none_of KX G ?qz12, PySem.W.mg_none_of KX G ?qz13, PySem.W.mg_none_of KX G ?qz14, PySem.W.mg_none_of KX G ?qz15, PySem.W.mg_none_of KX G ?qz16, PySem.W.mg_none_of KX G ?qz17, trivial⟩ ⟨Rf.gl_int KX G ?qg0, Rf.gl_int KX G ?qg1, Rf.gl_int KX G ?qg2, Rf.gl_int KX G ?qg3, Rf.gl_str KX G ?qg4 (by decide +kernel), Rf.gl_str KX G ?qg5 (by decide +kernel), trivial⟩ ⟨K85.d_is_integer KX G ?qa0 ?ql0 ?qc0 ?qk0, K85.d_is_between KX G ?qa1 ?ql1 ?qc1 ?qk1, K85.d_is_delay KX G ?qa2 ?ql2 ?qc2 ?qk2, K85.d_is_pair KX G ?qa3 ?ql3 ?qc3 ?qk3, K85.d_are_terms KX G ?qa4 ?ql4 ?qc4 ?qk4, K85.d_is_loose_rule KX G ?qa5 ?ql5 ?qc5 ?qk5, K85.d_is_loose_rules KX G ?qa6 ?ql6 ?qc6 ?qk6, K85.d_is_rule_by KX G ?qa7 ?ql7 ?qc7 ?qk7, K85.d_is_rule_set KX G ?qa8 ?ql8 ?qc8 ?qk8, K85.d_check_rules KX G ?qa9 ?ql9 ?qc9 ?qk9, K85.d_number_of KX G ?qa10 ?ql10 ?qc10 ?qk10, K85.d_term_text KX G ?qa11 ?ql11 ?qc11 ?qk11, K85.d_rule_text KX G ?qa12 ?ql12 ?qc12 ?qk12, K85.d_rules_text KX G ?qa13 ?ql13 ?qc13 ?qk13, K85.d_term_of KX G ?qa14 ?ql14 ?qc14 ?qk14, K85.d_rule_of KX G ?qa15 ?ql15 ?qc15 ?qk15, K85.d_check_text KX G ?qa16 ?ql16 ?qc16 ?qk16, K85.d_format_rules KX G ?qa17 ?ql17 ?qc17 ?qk17, K85.d_parse_rules KX G ?qa18 ?ql18 ?qc18 ?qk18, K85.d__law_source KX G ?qa19 ?ql19 ?qc19 ?qk19, K85.d__law_draw KX G ?qa20 ?ql20 ?qc20 ?qk20, K85.d__law_delay KX G ?qa21 ?ql21 ?qc21 ?qk21, K85.d__law_terms KX G ?qa22 ?ql22 ?qc22 ?qk22, K85.d__law_ring KX G ?qa23 ?ql23 ?qc23 ?qk23, K85.d__law_widened KX G ?qa24 ?ql24 ?qc24 ?qk24, K85.d__law_rules KX G ?qa25 ?ql25 ?qc25 ?qk25, K85.d__law_odd KX G ?qa26 ?ql26 ?qc26 ?qk26, K85.d__law_no_rules KX G ?qa27 ?ql27 ?qc27 ?qk27, K85.d__law_text KX G ?qa28 ?ql28 ?qc28 ?qk28, K85.d__law_digits KX G ?qa29 ?ql29 ?qc29 ?qk29, K85.d__law_term KX G ?qa30 ?ql30 ?qc30 ?qk30, K85.d__law_rule KX G ?qa31 ?ql31 ?qc31 ?qk31, K85.d__law_parsed KX G ?qa32 ?ql32 ?qc32 ?qk32, K85.d__law_told KX G ?qa33 ?ql33 ?qc33 ?qk33, K85.d__law_refused KX G ?qa34 ?ql34 ?qc34 ?qk34, K85.d__law_scarred KX G ?qa35 ?ql35 ?qc35 ?qk35, K85.d__law_written_right KX G ?qa36 ?ql36 ?qc36 ?qk36, K85.d_law KX G ?qa37 ?ql37 ?qc37 ?qk37, trivial⟩ ⟨Rf.ex_at KX G ?xr0 ?xg0 ?xq0 ?xp0 ?xb0 ?xt0 ?xe0 ?xf0 ?xh0 ?xc0 ?xd0 ?xw0 ?xm0 ⟨⟨?xs0_0, ?xk0_0⟩, ⟨?xs0_1, ?xk0_1⟩, ⟨?xs0_2, ?xk0_2⟩, trivial⟩, Rf.ex_at KX G ?xr1 ?xg1 ?xq1 ?xp1 ?xb1 ?xt1 ?xe1 ?xf1 ?xh1 ?xc1 ?xd1 ?xw1 ?xm1 ⟨⟨?xs1_0, ?xk1_0⟩, ⟨?xs1_1, ?xk1_1⟩, ⟨?xs1_2, ?xk1_2⟩, trivial⟩, Rf.ex_at KX G ?xr2 ?xg2 ?xq2 ?xp2 ?xb2 ?xt2 ?xe2 ?xf2 ?xh2 ?xc2 ?xd2 ?xw2 ?xm2 ⟨⟨?xs2_0, ?xk2_0⟩, ⟨?xs2_1, ?xk2_1⟩, ⟨?xs2_2, ?xk2_2⟩, trivial⟩, trivial⟩
      (case xg0 => k_is)
      (case xg1 => k_is)
      (case xg2 => k_is)
      (case xr0 => rfl)
      (case xr1 => rfl)
      (case xr2 => rfl)
      (case xq0 => k_exc); (case xp0 => k_is); (case xb0 => k_is); (case xt0 => k_is); (case xe0 => k_is); (case xf0 => k_is); (case xh0 => k_is); (case xc0 => k_is); (case xd0 => k_is); (case xw0 => k_is); (case xm0 => k_is)
      (case xs0_0 => k_is); (case xk0_0 => kit_is); (case xs0_1 => k_is); (case xk0_1 => kit_is); (case xs0_2 => k_is); (case xk0_2 => kit_is)
      (case xq1 => k_exc); (case xp1 => k_is); (case xb1 => k_is); (case xt1 => k_is); (case xe1 => k_is); (case xf1 => k_is); (case xh1 => k_is); (case xc1 => k_is); (case xd1 => k_is); (case xw1 => k_is); (case xm1 => k_is)
      (case xs1_0 => k_is); (case xk1_0 => kit_is); (case xs1_1 => k_is); (case xk1_1 => kit_is); (case xs1_2 => k_is); (case xk1_2 => kit_is)
      (case xq2 => k_exc); (case xp2 => k_is); (case xb2 => k_is); (case xt2 => k_is); (case xe2 => k_is); (case xf2 => k_is); (case xh2 => k_is); (case xc2 => k_is); (case xd2 => k_is); (case xw2 => k_is); (case xm2 => k_is)
      (case xs2_0 => k_is); (case xk2_0 => kit_is); (case xs2_1 => k_is); (case xk2_1 => kit_is); (case xs2_2 => k_is); (case xk2_2 => kit_is)
      (case qz0 => k_is)
      (case qz1 => k_is)
      (case qz2 => k_is)
      (case qz3 => k_is)
      (case qz4 => k_is)
      (case qz5 => k_is)
      (case qz6 => k_is)
      (case qz7 => k_is)
      (case qz8 => k_is)
      (case qz9 => k_is)
      (case qz10 => k_is)
      (case qz11 => k_is)
      (case qz12 => k_is)
      (case qz13 => k_is)
      (case qz14 => k_is)
      (case qz15 => k_is)
      (case qz16 => k_is)
      (case qz17 => k_is)
      (case qg0 => k_is)
      (case qg1 => k_is)
      (case qg2 => k_is)
      (case qg3 => k_is)
      (case qg4 => k_is)
      (case qg5 => k_is)
      (case qa0 => k_is); (case ql0 => k_is); (case qc0 => k_is); (case qk0 => k_is)
      (case qa1 => k_is); (case ql1 => k_is); (case qc1 => k_is); (case qk1 => k_is)
      (case qa2 => k_is); (case ql2 => k_is); (case qc2 => k_is); (case qk2 => k_is)
      (case qa3 => k_is); (case ql3 => k_is); (case qc3 => k_is); (case qk3 => k_is)
      (case qa4 => k_is); (case ql4 => k_is); (case qc4 => k_is); (case qk4 => k_is)
      (case qa5 => k_is); (case ql5 => k_is); (case qc5 => k_is); (case qk5 => k_is)
      (case qa6 => k_is); (case ql6 => k_is); (case qc6 => k_is); (case qk6 => k_is)
      (case qa7 => k_is); (case ql7 => k_is); (case qc7 => k_is); (case qk7 => k_is)
      (case qa8 => k_is); (case ql8 => k_is); (case qc8 => k_is); (case qk8 => k_is)
      (case qa9 => k_is); (case ql9 => k_is); (case qc9 => k_is); (case qk9 => k_is)
      (case qa10 => k_is); (case ql10 => k_is); (case qc10 => k_is); (case qk10 => k_is)
      (case qa11 => k_is); (case ql11 => k_is); (case qc11 => k_is); (case qk11 => k_is)
      (case qa12 => k_is); (case ql12 => k_is); (case qc12 => k_is); (case qk12 => k_is)
      (case qa13 => k_is); (case ql13 => k_is); (case qc13 => k_is); (case qk13 => k_is)
      (case qa14 => k_is); (case ql14 => k_is); (case qc14 => k_is); (case qk14 => k_is)
      (case qa15 => k_is); (case ql15 => k_is); (case qc15 => k_is); (case qk15 => k_is)
      (case qa16 => k_is); (case ql16 => k_is); (case qc16 => k_is); (case qk16 => k_is)
      (case qa17 => k_is); (case ql17 => k_is); (case qc17 => k_is); (case qk17 => k_is)
      (case qa18 => k_is); (case ql18 => k_is); (case qc18 => k_is); (case qk18 => k_is)
      (case qa19 => k_is); (case ql19 => k_is); (case qc19 => k_is); (case qk19 => k_is)
      (case qa20 => k_is); (case ql20 => k_is); (case qc20 => k_is); (case qk20 => k_is)
      (case qa21 => k_is); (case ql21 => k_is); (case qc21 => k_is); (case qk21 => k_is)
      (case qa22 => k_is); (case ql22 => k_is); (case qc22 => k_is); (case qk22 => k_is)
      (case qa23 => k_is); (case ql23 => k_is); (case qc23 => k_is); (case qk23 => k_is)
      (case qa24 => k_is); (case ql24 => k_is); (case qc24 => k_is); (case qk24 => k_is)
      (case qa25 => k_is); (case ql25 => k_is); (case qc25 => k_is); (case qk25 => k_is)
      (case qa26 => k_is); (case ql26 => k_is); (case qc26 => k_is); (case qk26 => k_is)
      (case qa27 => k_is); (case ql27 => k_is); (case qc27 => k_is); (case qk27 => k_is)
      (case qa28 => k_is); (case ql28 => k_is); (case qc28 => k_is); (case qk28 => k_is)
      (case qa29 => k_is); (case ql29 => k_is); (case qc29 => k_is); (case qk29 => k_is)
      (case qa30 => k_is); (case ql30 => k_is); (case qc30 => k_is); (case qk30 => k_is)
      (case qa31 => k_is); (case ql31 => k_is); (case qc31 => k_is); (case qk31 => k_is)
      (case qa32 => k_is); (case ql32 => k_is); (case qc32 => k_is); (case qk32 => k_is)
      (case qa33 => k_is); (case ql33 => k_is); (case qc33 => k_is); (case qk33 => k_is)
      (case qa34 => k_is); (case ql34 => k_is); (case qc34 => k_is); (case qk34 => k_is)
      (case qa35 => k_is); (case ql35 => k_is); (case qc35 => k_is); (case qk35 => k_is)
      (case qa36 => k_is); (case ql36 => k_is); (case qc36 => k_is); (case qk36 => k_is)
      (case qa37 => k_is); (case ql37 => k_is); (case qc37 => k_is); (case qk37 => k_is)
end
