import PyProof.Rows.All
import Wide.All
import OpenK.AllK
import Wide.FinOn
import HandS.ForMost
import HandS.ForExc
import HandS.Wide
import HandS.TupAny
import KE.DataEq
import KE.DataCmp
import KE.SortData
import HandS.TupMul
import HandS.Style
import HandS.TupLen
import HandS.Flow
import HandS.IsInst
import HandS.Conv
import HandS.ExcOwn
import HandS.Iter
import HandS.Comp
import HandS.Small
import HandS.ExcInit
import HandS.ClsMeth
import HandS.Defaults
import HandS.ExcField
import HandS.Head0
import HandS.Head1
import HandS.Head2
import HandS.HeadEnd
import HandS.HeadHook1
import HandS.HeadHook2
import HandS.HeadHook4
import KE.KStateDown
import HandS.Words
import HandS.WordsExc
import PySem.Challenge.RW_turnpairs_k17_threads_and_inputs
set_option Elab.async false
set_option linter.all false
set_option autoImplicit false
set_option linter.all false
set_option autoImplicit false
/-! MiniPy: values, heap, results, syntax, evaluation. -/
namespace MP
open PySem PyProof.Rows

inductive MV where
  | non | bl (b : Bool) | int (i : Int) | str (z : Str) | tup (xs : List MV) | ref (i : Nat)
  deriving Inhabited

mutual
def MV.eqb : MV → MV → Bool
  | .non, .non => true
  | .bl a, .bl b => a == b
  | .int a, .int b => a == b
  | .str a, .str b => decide (a = b)
  | .tup xs, .tup ys => MV.eqbs xs ys
  | .ref a, .ref b => a == b
  | _, _ => false
def MV.eqbs : List MV → List MV → Bool
  | [], [] => true
  | x :: xs, y :: ys => MV.eqb x y && MV.eqbs xs ys
  | _, _ => false
end
mutual
theorem MV.eqb_iff : ∀ (a b : MV), MV.eqb a b = true ↔ a = b
  | .non, b => by cases b <;> simp [MV.eqb]
  | .bl a, b => by cases b <;> simp [MV.eqb]
  | .int a, b => by cases b <;> simp [MV.eqb]
  | .str a, b => by cases b <;> simp [MV.eqb]
  | .ref a, b => by cases b <;> simp [MV.eqb]
  | .tup xs, b => by
    cases b <;> simp only [MV.eqb, reduceCtorEq, Bool.false_eq_true, iff_false, not_false_eq_true, MV.tup.injEq]
    exact MV.eqbs_iff xs _
theorem MV.eqbs_iff : ∀ (a b : List MV), MV.eqbs a b = true ↔ a = b
  | [], [] => by simp [MV.eqbs]
  | [], _ :: _ => by simp [MV.eqbs]
  | _ :: _, [] => by simp [MV.eqbs]
  | x :: xs, y :: ys => by
    simp only [MV.eqbs, Bool.and_eq_true, List.cons.injEq]
    exact and_congr (MV.eqb_iff x y) (MV.eqbs_iff xs ys)
end
instance : DecidableEq MV := fun a b => decidable_of_iff _ (MV.eqb_iff a b)

/-- what stands at an address of the small heap -/
inductive MO where
  | lst (xs : List MV)
  | scr (ns : List Int)
  | dk (kvs : List (L2.Key × MV))
  | dt (kvs : List (List L2.Key × MV))
  | ins (c : Nat) (fs : List (Str × MV))
  deriving Inhabited
abbrev MH := List MO
abbrev MS := List (Option MV)

inductive Res (α : Type) where
  | ok (a : α) (h : MH)
  | exc (c : Nat) (vs : List MV) (h : MH)
  | bad
def Res.bind {α β : Type} (r : Res α) (f : α → MH → Res β) : Res β := match r with
  | .ok a h => f a h
  | .exc c vs h => .exc c vs h
  | .bad => .bad
def Res.of {α : Type} (h : MH) : Option α → Res α
  | some a => .ok a h
  | none => .bad
@[simp] theorem Res.bind_ok {α β : Type} (a : α) (h : MH) (f : α → MH → Res β) : (Res.ok a h).bind f = f a h := rfl
@[simp] theorem Res.bind_exc {α β : Type} (c : Nat) (vs : List MV) (h : MH) (f : α → MH → Res β) : (Res.exc c vs h).bind f = .exc c vs h := rfl
@[simp] theorem Res.bind_bad {α β : Type} (f : α → MH → Res β) : (Res.bad (α := α)).bind f = .bad := rfl
@[simp] theorem Res.of_some {α : Type} (h : MH) (a : α) : Res.of h (some a) = .ok a h := rfl
@[simp] theorem Res.of_none {α : Type} (h : MH) : Res.of h (none : Option α) = .bad := rfl

/-- a value on the way: one that is laid, or a new list that nobody has named -/
inductive TV where
  | v (x : MV)
  | t (xs : List MV)
  /-- a tuple of the module's own, of flat values -/
  | c (xs : List MV)
def settle : TV → MH → Res MV
  | .v x, h => .ok x h
  | .t xs, h => .ok (.ref h.length) (h ++ [.lst xs])
  | .c _, _ => .bad
@[simp] theorem settle_v (x : MV) (h : MH) : settle (.v x) h = .ok x h := rfl
@[simp] theorem settle_t (xs : List MV) (h : MH) : settle (.t xs) h = .ok (.ref h.length) (h ++ [.lst xs]) := rfl

/-! ### syntax -/
/-- targets of an assignment -/
inductive MT where
  | nm (i : Nat)
  | tp (ts : List MT)
/-- kinds that isinstance asks for -/
inductive TY where
  | int | bool | str | tuple | list | dict
  deriving DecidableEq, Repr
/-- built-ins that are called by name -/
inductive BI where
  | len | abs | int | str | bool | max | min | sum | all | any | list | tuple | sorted | dict
  deriving DecidableEq, Repr
/-- methods of built-in kinds -/
inductive MM where
  | append | extend | pop | insert | join | split | startswith | count | index | get | remove
  deriving DecidableEq, Repr
mutual
inductive ME where
  | lit (v : MV)
  | var (i : Nat)
  | glb (i : Nat)
  | tup (es : List ME)
  | lst (es : List ME)
  | dct (keyed : Bool)
  | bin (op : Operator) (a b : ME)
  | neg (a : ME)
  | not (a : ME)
  | and (a b : ME)
  | or (a b : ME)
  | ite (t a b : ME)
  | cmp (op : CmpOp) (a b : ME)
  | chain (op op' : CmpOp) (a b c : ME)
  | idx (a i : ME)
  | slc (a : ME) (lo hi : Option ME)
  | rev (a : ME)
  | isi (a : ME) (ts : List TY) (one : Bool)
  | fn (b : BI) (es : List ME)
  | mth (m : MM) (o : ME) (es : List ME)
  | call (d : Nat) (es : List ME)
  | callk (d : Nat) (es : List ME) (ks : List Nat) (vs : List ME)
  | lc (elt : ME) (tg : MT) (src : MI) (ifs : List ME) (own : List (Str × Nat))
inductive MI where
  | e (a : ME)
  | rng (es : List ME)
end

/-! ### operations on values -/
mutual
def MV.toD : MV → Option PyData
  | .non => some .none
  | .bl b => some (.bool b)
  | .int i => some (.int i)
  | .str z => some (.str z)
  | .tup xs => (MV.toDs xs).map .tuple
  | .ref _ => none
def MV.toDs : List MV → Option (List PyData)
  | [] => some []
  | x :: xs => (MV.toD x).bind fun d => (MV.toDs xs).map (d :: ·)
end
/-- the items of a list (at its place, or new) -/
def listOf (h : MH) : TV → Option (List MV)
  | .t xs => some xs
  | .v (.ref i) => match h[i]? with
    | some (.lst xs) => some xs
    | some (.scr ns) => some (ns.map .int)
    | _ => none
  | _ => none
/-- the items of a list that may be written -/
def lstOf (h : MH) : TV → Option (List MV)
  | .t xs => some xs
  | .v (.ref i) => match h[i]? with
    | some (.lst xs) => some xs
    | _ => none
  | _ => none
/-- the items of a list or a tuple -/
def seqOf (h : MH) : TV → Option (List MV)
  | .v (.tup xs) => some xs
  | .c xs => some xs
  | a => listOf h a
def TV.toD (h : MH) : TV → Option PyData
  | .t xs => (MV.toDs xs).map .list
  | .c xs => (MV.toDs xs).map .tuple
  | .v (.ref i) => (listOf h (.v (.ref i))).bind fun xs => (MV.toDs xs).map .list
  | .v x => x.toD
/-- lists, one of them empty: whatever the items of the other are -/
def eqNil (h : MH) (a b : TV) : Option Bool := (listOf h a).bind fun xs => (listOf h b).bind fun ys => if xs.isEmpty || ys.isEmpty then some (xs.isEmpty && ys.isEmpty) else none
def eqD (h : MH) (a b : TV) : Option Bool :=
  (a.toD h).bind fun d => (b.toD h).bind fun e => if min d.depth e.depth ≤ 60 then some (PyData.eqv d e) else none
/-- == -/
def eqT (h : MH) (a b : TV) : Option Bool := match eqNil h a b with
  | some k => some k
  | none => eqD h a b
def ltT (h : MH) (a b : TV) : Option Bool :=
  (a.toD h).bind fun d => (b.toD h).bind fun e => if W.alike d e && (!MV.noneD d && decide (min d.depth e.depth ≤ 60)) then some (W.dataLt d e) else none
where MV.noneD : PyData → Bool
  | .none => true
  | _ => false
def intsOf : List MV → Option (List Int)
  | [] => some []
  | .int i :: xs => (intsOf xs).map (i :: ·)
  | _ :: _ => none
def blsOf : List MV → Option (List Bool)
  | [] => some []
  | .bl i :: xs => (blsOf xs).map (i :: ·)
  | _ :: _ => none
def strsOf : List MV → Option (List Str)
  | [] => some []
  | .str i :: xs => (strsOf xs).map (i :: ·)
  | _ :: _ => none
def chars (z : Str) : List MV := z.cps.toList.map fun c => .str ⟨#[c]⟩
def tru (h : MH) : TV → Option Bool
  | .v .non => some false
  | .v (.bl b) => some b
  | .v (.int i) => some (i != 0)
  | .v (.str z) => if z.length ≤ sizeLine then some ((z.length : Int) != 0) else none
  | .v (.tup xs) => some (!xs.isEmpty)
  | .t xs => some (!xs.isEmpty)
  | .c xs => some (!xs.isEmpty)
  | .v (.ref i) => match h[i]? with
    | some (.lst xs) => some (!xs.isEmpty)
    | some (.scr ns) => some (!ns.isEmpty)
    | _ => none
def cutL {α : Type} (xs : List α) (lo hi : Option Int) : List α := (xs.drop (HT.sIx xs.length 0 lo)).take (HT.sIx xs.length xs.length hi - HT.sIx xs.length 0 lo)
def getK {κ : Type} [DecidableEq κ] : List (κ × MV) → κ → Option MV
  | [], _ => none
  | (a, v) :: r, k => if a = k then some v else getK r k
def keyOf : MV → Option L2.Key
  | .int i => some (.inl i)
  | .str z => some (.inr z)
  | _ => none
def keysOf : List MV → Option (List L2.Key)
  | [] => some []
  | x :: xs => (keyOf x).bind fun k => (keysOf xs).map (k :: ·)
def keyV : L2.Key → MV
  | .inl i => .int i
  | .inr z => .str z
/-- a[i] -/
def idxT (h : MH) (a : TV) (i : MV) : Option MV := match a, i with
  | .v (.tup xs), .int i => L2.atI xs i
  | .v (.str z), .int i => if z.length ≤ sizeLine then (L2.atI z.cps.toList i).map fun c => .str ⟨#[c]⟩ else none
  | .v (.ref p), i => (match h[p]? with
    | some (.dk kvs) => (keyOf i).bind fun k => getK kvs k
    | some (.dt kvs) => (match i with
      | .tup ks => (keysOf ks).bind fun k => getK kvs k
      | _ => none)
    | _ => (match i with
      | .int i => (listOf h (.v (.ref p))).bind fun xs => L2.atI xs i
      | _ => none))
  | .t xs, .int i => L2.atI xs i
  | .c xs, .int i => L2.atI xs i
  | _, _ => none
/-- a[lo:hi] -/
def slcT (h : MH) (a : TV) (lo hi : Option Int) : Option TV := match a with
  | .v (.tup xs) => some (.v (.tup (cutL xs lo hi)))
  | .v (.str z) => if z.length ≤ sizeLine then some (.v (.str (L2.cutS z lo hi))) else none
  | a => (listOf h a).map fun xs => .t (cutL xs lo hi)
def mulOk (i j : Int) : Bool := decide (i.natAbs.log2 + j.natAbs.log2 < 1000000)
def divOk (j : Int) : Bool := decide (0 < j ∧ j < 1073741824)
def powOk (i j : Int) : Bool := decide (0 ≤ j ∧ j ≤ 1000000 ∧ i.natAbs < 2 ^ 64)
def addT (h : MH) (a b : TV) : Option TV := match a, b with
  | .v (.int i), .v (.int j) => some (.v (.int (i + j)))
  | .v (.str x), .v (.str y) => if x.length + y.length ≤ sizeLine then some (.v (.str (x ++ y))) else none
  | .v (.tup xs), .v (.tup ys) => if xs.length + ys.length ≤ sizeLine then some (.v (.tup (xs ++ ys))) else none
  | a, b => (lstOf h a).bind fun xs => (lstOf h b).bind fun ys => if xs.length + ys.length ≤ sizeLine then some (.t (xs ++ ys)) else none
def mulT (h : MH) (a b : TV) : Option TV := match a, b with
  | .v (.int i), .v (.int j) => if mulOk i j then some (.v (.int (i * j))) else none
  | .v (.tup xs), .v (.int k) => if decide (xs ≠ [] ∧ 2 ≤ k ∧ k ≤ 1000 ∧ xs.length ≤ 1000) then some (.v (.tup (List.replicate k.toNat xs).flatten)) else none
  | a, .v (.int k) => (lstOf h a).bind fun xs => if decide (-(2 ^ 63) ≤ k ∧ k < 2 ^ 63 ∧ xs.length * k.toNat ≤ sizeLine) then some (.t (List.replicate k.toNat xs).flatten) else none
  | _, _ => none
def binT (h : MH) (op : Operator) (a b : TV) : Option TV := match op with
  | .Add => addT h a b
  | .Mult => mulT h a b
  | .Sub => (match a, b with
    | .v (.int i), .v (.int j) => some (.v (.int (i - j)))
    | _, _ => none)
  | .FloorDiv => (match a, b with
    | .v (.int i), .v (.int j) => if divOk j then some (.v (.int (i / j))) else none
    | _, _ => none)
  | .Mod => (match a, b with
    | .v (.int i), .v (.int j) => if decide (0 < j) then some (.v (.int (i % j))) else none
    | _, _ => none)
  | .Pow => (match a, b with
    | .v (.int i), .v (.int j) => if powOk i j then some (.v (.int (i ^ j.toNat))) else none
    | _, _ => none)
  | _ => none
/-- a in xs -/
def inL (a : MV) (xs : List MV) : Option Bool :=
  (a.toD).bind fun d => (MV.toDs xs).bind fun ds => if min (PyData.depthAll ds) d.depth ≤ 60 then some (ds.any fun e => PyData.eqv e d) else none
def inT (h : MH) (a : MV) (b : TV) : Option Bool := match b with
  | .v (.str z) => (match a with
    | .str x => some (!(Builtin.Str.occurrences z x 0 z.length 1).isEmpty)
    | _ => none)
  | .v (.ref p) => (match h[p]? with
    | some (.dk kvs) => (keyOf a).map fun k => (getK kvs k).isSome
    | some (.dt kvs) => (match a with
      | .tup ks => (keysOf ks).map fun k => (getK kvs k).isSome
      | _ => none)
    | _ => (listOf h (.v (.ref p))).bind fun xs => inL a xs)
  | .v (.tup xs) => inL a xs
  | .t xs => inL a xs
  | .c xs => inL a xs
  | _ => none
def isT (a b : TV) : Option Bool := match a, b with
  | .v x, .v .non => some (match x with | .non => true | _ => false)
  | .v (.bl a), .v (.bl b) => some (decide (a = b))
  | _, _ => none
def icmp (f : Int → Int → Bool) : TV → TV → Option Bool
  | .v (.int i), .v (.int j) => some (f i j)
  | _, _ => none
def inTV (h : MH) (a b : TV) : Option Bool := match a with
  | .v x => inT h x b
  | _ => none
def cmpT (h : MH) (op : CmpOp) (a b : TV) : Option Bool := match op with
  | .Eq => eqT h a b
  | .NotEq => (eqT h a b).map (!·)
  | .Lt => ltT h a b
  | .Gt => icmp (fun i j => decide (j < i)) a b
  | .LtE => icmp (fun i j => decide (i ≤ j)) a b
  | .GtE => icmp (fun i j => decide (j ≤ i)) a b
  | .Is => isT a b
  | .IsNot => (isT a b).map (!·)
  | .In => inTV h a b
  | .NotIn => (inTV h a b).map (!·)
def isiV (h : MH) (a : TV) (t : TY) : Bool := match a with
  | .t _ => t == .list
  | .c _ => t == .tuple
  | .v .non => false
  | .v (.bl _) => t == .int || t == .bool
  | .v (.int _) => t == .int
  | .v (.str _) => t == .str
  | .v (.tup _) => t == .tuple
  | .v (.ref p) => match h[p]? with
    | some (.lst _) => t == .list
    | some (.scr _) => t == .list
    | some (.dk _) => t == .dict
    | some (.dt _) => t == .dict
    | _ => false
/-- of things whose class isinstance can be asked of -/
def isiOk (h : MH) (a : TV) : Bool := match a with
  | .v (.ref p) => (match h[p]? with
    | some (.lst _) => true
    | some (.scr _) => true
    | some (.dk _) => true
    | _ => false)
  | _ => true
/-! ### built-ins -/
def lenT (h : MH) : TV → Option Nat
  | .v (.str z) => if z.length ≤ sizeLine then some z.length else none
  | .v (.ref p) => (match h[p]? with
    | some (.dk kvs) => some kvs.length
    | _ => (listOf h (.v (.ref p))).map List.length)
  | a => (seqOf h a).map List.length
def leD (a b : MV) : Bool := match a.toD, b.toD with
  | some d, some e => !W.dataLt e d
  | _, _ => false
/-- what sorted serves: alike data, each one readable -/
def sortOk (xs : List MV) : Bool := match MV.toDs xs with
  | some ds => ds.all (fun d => ds.all (fun e => W.alike d e)) && (ds.all (fun d => decide (d.depth ≤ 60)) && (ds.all (fun d => match d with | .tuple _ => true | _ => false) || ds.all (fun d => match d with | .tuple _ => false | .none => false | _ => true)))
  | none => false
def sortT (xs : List MV) : List MV := xs.mergeSort leD
def maxI : List Int → Int → Int
  | [], m => m
  | x :: xs, m => maxI xs (if m < x then x else m)
def minI : List Int → Int → Int
  | [], m => m
  | x :: xs, m => minI xs (if x < m then x else m)
def f1 (g : TV → Option TV) : List TV → Option TV
  | [a] => g a
  | _ => none
def absT : TV → Option TV
  | .v (.int i) => some (.v (.int (if i < 0 then -i else i)))
  | _ => none
def intT : TV → Option TV
  | .v (.int i) => some (.v (.int i))
  | .v (.bl k) => some (.v (.int (if k then 1 else 0)))
  | .v (.str z) => if z.length ≤ 640 then (PySem.intText? z).map fun n => .v (.int n) else none
  | _ => none
def strT : TV → Option TV
  | .v (.int i) => if i.natAbs.log2 < 1920 then some (.v (.str (toString i))) else none
  | _ => none
def ints2 : List TV → Option (Int × Int)
  | [.v (.int i), .v (.int j)] => some (i, j)
  | _ => none
def mostL (g : List Int → Int → Int) (h : MH) (a : TV) : Option TV := (listOf h a).bind fun xs => (intsOf xs).bind fun ns => match ns with
    | n :: ns => some (.v (.int (g ns n)))
    | [] => none
def mostT (g : Int → Int → Int) (gl : List Int → Int → Int) (h : MH) (as : List TV) : Option TV := match ints2 as with
  | some (i, j) => some (.v (.int (g i j)))
  | none => f1 (mostL gl h) as
def lisT (h : MH) (a : TV) : Option TV := match a with
  | .v (.ref p) => (match h[p]? with
    | some (.dt kvs) => some (.t (kvs.map fun kv => .tup (kv.1.map keyV)))
    | _ => (listOf h (.v (.ref p))).map .t)
  | a => (seqOf h a).map .t
def tupT (h : MH) (a : TV) : Option TV := match a with
  | .v (.tup xs) => some (.v (.tup xs))
  | a => (listOf h a).map fun xs => .v (.tup xs)
def fnT (h : MH) (b : BI) (as : List TV) : Option TV := match b with
  | .len => f1 (fun a => (lenT h a).map fun (n : Nat) => .v (.int n)) as
  | .abs => f1 absT as
  | .int => f1 intT as
  | .str => f1 strT as
  | .max => mostT (fun i j => if j > i then j else i) maxI h as
  | .min => mostT (fun i j => if j < i then j else i) minI h as
  | .sum => f1 (fun a => (listOf h a).bind fun xs => (intsOf xs).map fun ns => .v (.int ns.sum)) as
  | .all => f1 (fun a => (listOf h a).bind fun xs => (blsOf xs).map fun bs => .v (.bl (bs.all id))) as
  | .any => f1 (fun a => (listOf h a).bind fun xs => (blsOf xs).map fun bs => .v (.bl (bs.any id))) as
  | .tuple => f1 (tupT h) as
  | .list => f1 (lisT h) as
  | .sorted => f1 (fun a => (listOf h a).bind fun xs => if sortOk xs then some (.t (sortT xs)) else none) as
  | _ => none
def putKV {κ : Type} [DecidableEq κ] (kvs : List (κ × MV)) (k : κ) (v : MV) : List (κ × MV) :=
  if kvs.any (fun kv => decide (kv.1 = k)) then kvs.map (fun kv => if kv.1 = k then (kv.1, v) else kv) else kvs ++ [(k, v)]
/-! methods: the answer, the heap behind -/
def atL (h : MH) (o : MV) (g : Nat → List MV → Option (TV × MH)) : Option (TV × MH) := match o with
  | .ref p => (match h[p]? with
    | some (.lst xs) => g p xs
    | _ => none)
  | _ => none
def argV : List TV → Option MV
  | [.v y] => some y
  | _ => none
def arg1 : List TV → Option TV
  | [y] => some y
  | _ => none
def appendT (h : MH) (o : MV) (as : List TV) : Option (TV × MH) := (argV as).bind fun y => atL h o fun p xs => if xs.length < sizeLine then some (.v .non, h.set p (.lst (xs ++ [y]))) else none
def extendT (h : MH) (o : MV) (as : List TV) : Option (TV × MH) := (arg1 as).bind fun a => (lstOf h a).bind fun zs => atL h o fun p xs => if xs.length + zs.length ≤ sizeLine then some (.v .non, h.set p (.lst (xs ++ zs))) else none
def popT (h : MH) (o : MV) (as : List TV) : Option (TV × MH) := match as with
  | [] => atL h o fun p xs => (xs[xs.length - 1]?).map fun y => (.v y, h.set p (.lst xs.dropLast))
  | _ => none
def strM (o : MV) : Option Str := match o with
  | .str z => some z
  | _ => none
def joinT (h : MH) (o : MV) (as : List TV) : Option (TV × MH) := (arg1 as).bind fun a => (strM o).bind fun z => (seqOf h a).bind fun xs => (strsOf xs).bind fun ys => if (ys.map (·.length)).sum + ys.length * z.length ≤ 16777216 then some (.v (.str (Txt.join z ys)), h) else none
def splitT (h : MH) (o : MV) (as : List TV) : Option (TV × MH) := (argV as).bind fun y => (strM o).bind fun a => (strM y).bind fun b => if (b.length == 0) = false ∧ a.length + 2 ≤ sizeLine then some (.t ((Txt.split a b).map .str), h) else none
def startsT (h : MH) (o : MV) (as : List TV) : Option (TV × MH) := (argV as).bind fun y => (strM o).bind fun a => (strM y).bind fun b => some (.v (.bl (Txt.startswith a b)), h)
/-- a list's method of a list, a text's of a text -/
def mOk (h : MH) (m : MM) (o : MV) : Bool := match m with
  | .append => isL h o | .extend => isL h o | .pop => isL h o
  | .join => (strM o).isSome | .split => (strM o).isSome | .startswith => (strM o).isSome
  | _ => false
where isL (h : MH) (o : MV) : Bool := (lstOf h (.v o)).isSome
def mthT (h : MH) (m : MM) (o : MV) (as : List TV) : Option (TV × MH) := match m with
  | .append => appendT h o as
  | .extend => extendT h o as
  | .pop => popT h o as
  | .join => joinT h o as
  | .split => splitT h o as
  | .startswith => startsT h o as
  | _ => none
/-! ### evaluation -/
structure Ev where
  C : List Nat → Nat → List MV → MH → Res MV
  glb : List MV
  L : List Nat
/-- what is walked: the list that must stay, the dict that is locked, the items -/
structure MIt where
  chk : Option Nat
  lock : Option Nat
  items : List MV
def MIt.still (t : MIt) (h : MH) : Bool := match t.chk with
  | none => true
  | some p => match h[p]? with
    | some (.lst ys) => MV.eqbs ys t.items
    | _ => false
def Ev.locked (E : Ev) (t : MIt) : Ev := match t.lock with
  | none => E
  | some p => { E with L := p :: E.L }
mutual
def bindT : MT → MV → MS → Option MS
  | .nm i, v, σ => some (σ.set i (some v))
  | .tp ts, .tup xs, σ => bindTs ts xs σ
  | .tp _, _, _ => none
def bindTs : List MT → List MV → MS → Option MS
  | [], [], σ => some σ
  | t :: ts, x :: xs, σ => (bindT t x σ).bind fun σ' => bindTs ts xs σ'
  | _, _, _ => none
end
def wipeM (σ : MS) : List Nat → MS
  | [] => σ
  | i :: is => (wipeM σ is).set i none
def loopC (t : MIt) (f : MV → MH → Res (Option MV)) : List MV → MH → Res (List MV)
  | [], h => if t.still h then .ok [] h else .bad
  | x :: xs, h => if t.still h then (f x h).bind fun o h1 => (loopC t f xs h1).bind fun ys h2 => .ok (o.toList ++ ys) h2 else .bad
def itOf (h : MH) : TV → Option MIt
  | .t xs => some ⟨none, none, xs⟩
  | .c xs => some ⟨none, none, xs⟩
  | .v (.tup xs) => some ⟨none, none, xs⟩
  | .v (.str z) => if z.length ≤ sizeLine then some ⟨none, none, chars z⟩ else none
  | .v (.ref p) => (match h[p]? with
    | some (.lst xs) => some ⟨some p, none, xs⟩
    | some (.scr ns) => some ⟨none, none, ns.map .int⟩
    | some (.dk kvs) => if kvs.length ≤ sizeLine then some ⟨none, some p, kvs.map fun kv => keyV kv.1⟩ else none
    | _ => none)
  | _ => none
/-- a dict is walked by name alone, and by one loop at a time -/
def itE (isv : Bool) (L : List Nat) (h : MH) (x : TV) : Option MIt := (itOf h x).bind fun it => match it.lock with
  | none => some it
  | some p => if isv = true ∧ p ∉ L then some it else none
def ME.isVar : ME → Bool
  | .var _ => true
  | _ => false
def rngOk (a b : Int) : Bool := decide (-(2 ^ 62) ≤ a ∧ a < 2 ^ 62 ∧ -(2 ^ 62) ≤ b ∧ b < 2 ^ 62 ∧ (b - a).toNat ≤ sizeLine)
def rngI (a b : Int) : List MV := (List.range (b - a).toNat).map fun (k : Nat) => .int (a + k)
def rngOf : List MV → Option MIt
  | [.int n] => if rngOk 0 n then some ⟨none, none, rngI 0 n⟩ else none
  | [.int a, .int b] => if rngOk a b then some ⟨none, none, rngI a b⟩ else none
  | _ => none
def vOf : TV → Option MV
  | .v x => some x
  | _ => none
/-- positional values, then keywords' values by the parameters' places -/
def arr {α : Type} (ks : List Nat) (us ws : List α) : List α := us ++ (List.range ks.length).filterMap fun i => ws[ks.idxOf (us.length + i)]?
/-- no error may come -/
def Res.noX {α : Type} : Res α → Res α
  | .exc _ _ _ => .bad
  | r => r
@[simp] theorem Res.noX_ok {α : Type} (a : α) (h : MH) : (Res.ok a h).noX = .ok a h := rfl
mutual
def evT (E : Ev) : ME → MS → MH → Res TV
  | .lit v, _, h => .ok (.v v) h
  | .var i, σ, h => (match σ[i]? with
    | some (some v) => .ok (.v v) h
    | _ => .bad)
  | .glb i, _, h => (match E.glb[i]? with
    | some (.tup xs) => .ok (.c xs) h
    | some v => .ok (.v v) h
    | none => .bad)
  | .tup es, σ, h => (evs E es σ h).bind fun vs h => if vs.length ≤ sizeLine then .ok (.v (.tup vs)) h else .bad
  | .lst es, σ, h => (evs E es σ h).bind fun vs h => if vs.length ≤ sizeLine then .ok (.t vs) h else .bad
  | .dct keyed, σ, h => if h.length ∈ E.L then .bad else .ok (.v (.ref h.length)) (h ++ [if keyed then .dt [] else .dk []])
  | .bin op a b, σ, h => (evT E a σ h).bind fun x h => (evT E b σ h).bind fun y h => Res.of h (binT h op x y)
  | .neg a, σ, h => (evT E a σ h).bind fun x h => (match x with
    | .v (.int i) => .ok (.v (.int (-i))) h
    | _ => .bad)
  | .not a, σ, h => (evT E a σ h).bind fun x h => (Res.of h (tru h x)).bind fun k h => .ok (.v (.bl (!k))) h
  | .and a b, σ, h => (evT E a σ h).bind fun x h => (Res.of h (tru h x)).bind fun k h => if k then evT E b σ h else .ok x h
  | .or a b, σ, h => (evT E a σ h).bind fun x h => (Res.of h (tru h x)).bind fun k h => if k then .ok x h else evT E b σ h
  | .ite t a b, σ, h => (evT E t σ h).bind fun x h => (Res.of h (tru h x)).bind fun k h => if k then evT E a σ h else evT E b σ h
  | .cmp op a b, σ, h => (evT E a σ h).bind fun x h => (evT E b σ h).bind fun y h => (Res.of h (cmpT h op x y)).bind fun k h => .ok (.v (.bl k)) h
  | .chain op op' a b c, σ, h => (evT E a σ h).bind fun x h => (evT E b σ h).bind fun y h => (Res.of h (cmpT h op x y)).bind fun k h =>
    if k then (evT E c σ h).bind fun z h => (Res.of h (cmpT h op' y z)).bind fun k h => .ok (.v (.bl k)) h else .ok (.v (.bl false)) h
  | .idx a i, σ, h => (evT E a σ h).bind fun x h => (evT E i σ h).bind fun y h => (Res.of h ((vOf y).bind fun j => idxT h x j)).bind fun v h => .ok (.v v) h
  | .slc a lo hi, σ, h => (evT E a σ h).bind fun x h => (evO E lo σ h).bind fun l h => (evO E hi σ h).bind fun u h => Res.of h (slcT h x l u)
  | .rev a, σ, h => (evT E a σ h).bind fun x h => (match x with
    | .v (.tup xs) => .ok (.v (.tup xs.reverse)) h
    | x => (Res.of h (listOf h x)).bind fun xs h => .ok (.t xs.reverse) h)
  | .isi a ts _, σ, h => (evT E a σ h).bind fun x h => if isiOk h x then .ok (.v (.bl (ts.any (isiV h x)))) h else .bad
  | .fn b es, σ, h => (evTs E es σ h).bind fun as h => Res.of h (fnT h b as)
  | .mth m o es, σ, h => (evT E o σ h).bind fun x h => (Res.of h (vOf x)).bind fun ov h => if mOk h m ov then
    ((match m with
      | .append => (evs E es σ h).bind fun as h => .ok (as.map TV.v) h
      | .insert => (evs E es σ h).bind fun as h => .ok (as.map TV.v) h
      | _ => evTs E es σ h : Res (List TV))).bind fun as h => (match mthT h m ov as with
    | some (v, h') => .ok v h'
    | none => .bad) else .bad
  | .call d es, σ, h => (evs E es σ h).bind fun as h => (E.C E.L d as h).bind fun v h => .ok (.v v) h
  | .callk d es ks ws, σ, h => (evs E es σ h).bind fun as h => (evs E ws σ h).bind fun bs h => (E.C E.L d (arr ks as bs) h).bind fun v h => .ok (.v v) h
  | .lc elt tg src ifs own, σ, h => (evI E src σ h).bind fun it h => (loopC it (fun x h => (Res.of h (bindT tg x (wipeM σ (own.map (·.2))))).bind fun σ2 h =>
      (evIfs (E.locked it) ifs σ2 h).bind fun k h => if k then ((evT (E.locked it) elt σ2 h).bind settle).bind fun y h => .ok (some y) h else .ok none h) it.items h).noX.bind fun ys h => .ok (.t ys) h
def evs (E : Ev) : List ME → MS → MH → Res (List MV)
  | [], _, h => .ok [] h
  | e :: es, σ, h => ((evT E e σ h).bind settle).bind fun v h => (evs E es σ h).bind fun vs h => .ok (v :: vs) h
def evTs (E : Ev) : List ME → MS → MH → Res (List TV)
  | [], _, h => .ok [] h
  | e :: es, σ, h => (evT E e σ h).bind fun v h => (evTs E es σ h).bind fun vs h => .ok (v :: vs) h
def evO (E : Ev) : Option ME → MS → MH → Res (Option Int)
  | none, _, h => .ok none h
  | some e, σ, h => (evT E e σ h).bind fun v h => (match v with
    | .v (.int i) => .ok (some i) h
    | _ => .bad)
def evIfs (E : Ev) : List ME → MS → MH → Res Bool
  | [], _, h => .ok true h
  | e :: _, σ, h => (evT E e σ h).bind fun x h => Res.of h (tru h x)
def evI (E : Ev) : MI → MS → MH → Res MIt
  | .e a, σ, h => (evT E a σ h).bind fun x h => Res.of h (itE a.isVar E.L h x)
  | .rng es, σ, h => (evs E es σ h).bind fun vs h => Res.of h (rngOf vs)
end
def evE (E : Ev) (m : ME) (σ : MS) (h : MH) : Res MV := (evT E m σ h).bind settle

/-! ### statements -/
/-- an item of the list that an except clause with a name returns -/
inductive HI where
  | lit (v : MV)
  | fld (f : Nat)
  | isi (c : Nat)
  | ite (c : Nat) (a b : MV)
mutual
inductive MSt where
  | asg (tg : MT) (e : ME)
  | sub (o i e : ME)
  | aug (i : Nat) (op : Operator) (e : ME)
  | exp (e : ME)
  | ifs (t : ME) (a b : List MSt)
  | fors (tg : MT) (src : MI) (body : List MSt)
  | whl (t : ME) (body : List MSt)
  | ret (e : ME)
  | retN
  | pass
  | brk
  | cnt
  | rse (c : Nat) (es : List ME)
  | tr (body : List MSt) (hs : List MHd)
inductive MHd where
  | hd (c : Nat) (suite : List MSt)
  | as (c : Nat) (slot : Nat) (items : List HI)
end
inductive SR where
  | next (σ : MS) (h : MH)
  | ret (v : MV) (h : MH)
  | brk (σ : MS) (h : MH)
  | cnt (σ : MS) (h : MH)
  | exc (c : Nat) (vs : List MV) (σ : MS) (h : MH)
  | bad
def Res.st {α : Type} (r : Res α) (σ : MS) (f : α → MH → SR) : SR := match r with
  | .ok a h => f a h
  | .exc c vs h => .exc c vs σ h
  | .bad => .bad
@[simp] theorem Res.st_ok {α : Type} (a : α) (h : MH) (σ : MS) (f : α → MH → SR) : (Res.ok a h).st σ f = f a h := rfl
@[simp] theorem Res.st_exc {α : Type} (c : Nat) (vs : List MV) (h : MH) (σ : MS) (f : α → MH → SR) : (Res.exc c vs h).st σ f = .exc c vs σ h := rfl
@[simp] theorem Res.st_bad {α : Type} (σ : MS) (f : α → MH → SR) : (Res.bad (α := α)).st σ f = .bad := rfl
/-- on with what follows -/
def SR.then (r : SR) (f : MS → MH → SR) : SR := match r with
  | .next σ h => f σ h
  | r => r
@[simp] theorem SR.then_next (σ : MS) (h : MH) (f : MS → MH → SR) : (SR.next σ h).then f = f σ h := rfl
@[simp] theorem SR.then_ret (v : MV) (h : MH) (f : MS → MH → SR) : (SR.ret v h).then f = .ret v h := rfl
@[simp] theorem SR.then_brk (σ : MS) (h : MH) (f : MS → MH → SR) : (SR.brk σ h).then f = .brk σ h := rfl
@[simp] theorem SR.then_cnt (σ : MS) (h : MH) (f : MS → MH → SR) : (SR.cnt σ h).then f = .cnt σ h := rfl
@[simp] theorem SR.then_exc (c : Nat) (vs : List MV) (σ : MS) (h : MH) (f : MS → MH → SR) : (SR.exc c vs σ h).then f = .exc c vs σ h := rfl
@[simp] theorem SR.then_bad (f : MS → MH → SR) : (SR.bad).then f = .bad := rfl
/-- a turn of a loop, and on -/
def SR.turn (r : SR) (f : MS → MH → SR) : SR := match r with
  | .next σ h => f σ h
  | .cnt σ h => f σ h
  | .brk σ h => .next σ h
  | r => r
@[simp] theorem SR.turn_next (σ : MS) (h : MH) (f : MS → MH → SR) : (SR.next σ h).turn f = f σ h := rfl
@[simp] theorem SR.turn_ret (v : MV) (h : MH) (f : MS → MH → SR) : (SR.ret v h).turn f = .ret v h := rfl
@[simp] theorem SR.turn_brk (σ : MS) (h : MH) (f : MS → MH → SR) : (SR.brk σ h).turn f = .next σ h := rfl
@[simp] theorem SR.turn_cnt (σ : MS) (h : MH) (f : MS → MH → SR) : (SR.cnt σ h).turn f = f σ h := rfl
@[simp] theorem SR.turn_exc (c : Nat) (vs : List MV) (σ : MS) (h : MH) (f : MS → MH → SR) : (SR.exc c vs σ h).turn f = .exc c vs σ h := rfl
@[simp] theorem SR.turn_bad (f : MS → MH → SR) : (SR.bad).turn f = .bad := rfl
def loopS (t : MIt) (f : MV → MS → MH → SR) : List MV → MS → MH → SR
  | [], σ, h => if t.still h then .next σ h else .bad
  | x :: xs, σ, h => if t.still h then (f x σ h).turn fun σ h => loopS t f xs σ h else .bad
def whileS (c : MS → MH → Res Bool) (f : MS → MH → SR) : Nat → MS → MH → SR
  | 0, _, _ => .bad
  | n + 1, σ, h => (c σ h).st σ fun k h => if k then (f σ h).turn fun σ h => whileS c f n σ h else .next σ h
def Ev.unlocked (E : Ev) (t : MIt) : Bool := match t.lock with
  | none => true
  | some _ => false
def setItT (L : List Nat) (h : MH) (o i v : MV) : Option MH := match o with
  | .ref p => (match h[p]?, i with
    | some (.lst xs), .int k => (L2.ixN xs.length k).map fun j => h.set p (.lst (xs.set j v))
    | some (.dk kvs), i => (keyOf i).bind fun k => if p ∈ L ∨ ¬ kvs.length < sizeLine then none else some (h.set p (.dk (putKV kvs k v)))
    | some (.dt kvs), .tup ks => (keysOf ks).bind fun k => if p ∈ L ∨ ¬ kvs.length < sizeLine then none else some (h.set p (.dt (putKV kvs k v)))
    | _, _ => none)
  | _ => none
def augT (op : Operator) (a b : MV) : Option MV := match op, a, b with
  | .Add, .int i, .int j => some (.int (i + j))
  | .Sub, .int i, .int j => some (.int (i - j))
  | .Add, .str x, .str y => if x.length + y.length ≤ sizeLine then some (.str (x ++ y)) else none
  | _, _, _ => none
/-- whether class c is among those of a clause, by the table of sub-classes -/
abbrev SubT := Nat → Nat → Bool
def HI.ev (S : SubT) (c : Nat) (vs : List MV) : HI → Option MV
  | .lit v => some v
  | .fld f => vs[f]?
  | .isi d => some (.bl (S c d))
  | .ite d a b => some (if S c d then a else b)
def hItems (S : SubT) (c : Nat) (vs : List MV) : List HI → Option (List MV)
  | [] => some []
  | i :: is => (i.ev S c vs).bind fun v => (hItems S c vs is).map (v :: ·)
/-- turns that a while may make -/
def fuelW : Nat := 1000000
mutual
def evS (S : SubT) (E : Ev) : MSt → MS → MH → SR
  | .asg tg e, σ, h => (evE E e σ h).st σ fun v h => (match bindT tg v σ with
    | some σ' => .next σ' h
    | none => .bad)
  | .sub o i e, σ, h => (evE E e σ h).st σ fun v h => (evE E o σ h).st σ fun x h => (evE E i σ h).st σ fun j h => (match setItT E.L h x j v with
    | some h' => .next σ h'
    | none => .bad)
  | .aug i op e, σ, h => (match σ[i]? with
    | some (some x) => (evE E e σ h).st σ fun v h => (match augT op x v with
      | some y => .next (σ.set i (some y)) h
      | none => .bad)
    | _ => .bad)
  | .exp e, σ, h => (evT E e σ h).st σ fun _ h => .next σ h
  | .ifs t a b, σ, h => (evT E t σ h).st σ fun x h => (match tru h x with
    | some true => evSs S E a σ h
    | some false => evSs S E b σ h
    | none => .bad)
  | .fors tg src body, σ, h => (evI E src σ h).st σ fun it h => if E.unlocked it then loopS it (fun x σ h => (match bindT tg x σ with
    | some σ' => evSs S E body σ' h
    | none => .bad)) it.items σ h else .bad
  | .whl t body, σ, h => whileS (fun σ h => (evT E t σ h).bind fun x h => Res.of h (tru h x)) (fun σ h => evSs S E body σ h) fuelW σ h
  | .ret e, σ, h => (evE E e σ h).st σ fun v h => .ret v h
  | .retN, _, h => .ret .non h
  | .pass, σ, h => .next σ h
  | .brk, σ, h => .brk σ h
  | .cnt, σ, h => .cnt σ h
  | .rse c es, σ, h => (evs E es σ h).st σ fun vs h => .exc c vs σ h
  | .tr body hs, σ, h => (match evSs S E body σ h with
    | .exc c vs σ' h' => evH S E hs c vs σ' h'
    | r => r)
def evSs (S : SubT) (E : Ev) : List MSt → MS → MH → SR
  | [], σ, h => .next σ h
  | s :: ss, σ, h => (evS S E s σ h).then fun σ h => evSs S E ss σ h
def evH (S : SubT) (E : Ev) : List MHd → Nat → List MV → MS → MH → SR
  | [], c, vs, σ, h => .exc c vs σ h
  | .hd c' suite :: hs, c, vs, σ, h => if S c c' then (match evSs S E suite σ h with
      | .exc _ _ _ _ => .bad
      | r => r)
    else evH S E hs c vs σ h
  | .as c' i items :: hs, c, vs, σ, h => if S c c' then (if i < σ.length then (match hItems S c vs items with
      | some xs => .ret (.ref h.length) (h ++ [.lst xs])
      | none => .bad) else .bad)
    else evH S E hs c vs σ h
end
/-! ### programs -/
structure MDef where
  name : Str
  ps : Nat
  ns : List Str
  body : List MSt
  kws : List (Nat × List Str × List Nat) := []
structure MProg where
  defs : List MDef
  glb : List MV
  sub : SubT
def startM (n : Nat) (vs : List MV) : MS := vs.map some ++ List.replicate (n - vs.length) none
def SR.out : SR → Res MV
  | .next _ h => .ok .non h
  | .ret v h => .ok v h
  | .exc c vs _ h => .exc c vs h
  | _ => .bad
/-- a def called: at most k calls one in another -/
def callM (P : MProg) : Nat → List Nat → Nat → List MV → MH → Res MV
  | 0, _, _, _, _ => .bad
  | k + 1, L, d, vs, h => match P.defs[d]? with
    | some D => if vs.length = D.ps then (evSs P.sub ⟨callM P k, P.glb, L⟩ D.body (startM D.ns.length vs) h).out else .bad
    | none => .bad
end MP

set_option linter.all false
set_option autoImplicit false
/-! MiniPy and the abstract heap: what stands for what. -/
namespace MP
open PySem PyProof.Rows L2

mutual
inductive RV (K : PySem.W.Frag) (μ : List Addr) (H : Hp) : MV → V → Prop
  | non : RV K μ H .non .non
  | bl (b : Bool) : RV K μ H (.bl b) (.bl b)
  | int (i : Int) : RV K μ H (.int i) (.int i)
  | str (z : Str) : RV K μ H (.str z) (.str z)
  | tup {a : Addr} {vs : List V} {xs : List MV} : H a = some (.tup vs) → RVs K μ H xs vs → RV K μ H (.tup xs) (.ref a)
  | ref {i : Nat} {a : Addr} : μ[i]? = some a → RV K μ H (.ref i) (.ref a)
inductive RVs (K : PySem.W.Frag) (μ : List Addr) (H : Hp) : List MV → List V → Prop
  | nil : RVs K μ H [] []
  | cons {x : MV} {xs : List MV} {v : V} {vs : List V} : RV K μ H x v → RVs K μ H xs vs → RVs K μ H (x :: xs) (v :: vs)
end
inductive RKs {κ : Type} (K : PySem.W.Frag) (μ : List Addr) (H : Hp) : List (κ × MV) → List (κ × V) → Prop
  | nil : RKs K μ H [] []
  | cons {k : κ} {x : MV} {xs : List (κ × MV)} {v : V} {vs : List (κ × V)} : RV K μ H x v → RKs K μ H xs vs → RKs K μ H ((k, x) :: xs) ((k, v) :: vs)

/-- from one state to a later one -/
structure Ext (μ : List Addr) (H : Hp) (μ' : List Addr) (H' : Hp) : Prop where
  pre : ∃ t, μ' = μ ++ t
  kept : ∀ a o, H a = some o → a ∉ μ → H' a = some o
  fresh : ∀ a, a ∈ μ' → a ∉ μ → H a = none
  tup : ∀ a vs, H a = some (.tup vs) → H' a = some (.tup vs)
  frz : ∀ a o u, H a = some (.frz o u) → H' a = some (.frz o u)
  dom : ∀ a, H' a = none → H a = none
theorem Ext.refl (μ : List Addr) (H : Hp) : Ext μ H μ H :=
  ⟨⟨[], (List.append_nil μ).symm⟩, fun _ _ h _ => h, fun _ h n => absurd h n, fun _ _ h => h, fun _ _ _ h => h, fun _ h => h⟩
theorem Ext.trans {μ μ1 μ2 : List Addr} {H H1 H2 : Hp} (x : Ext μ H μ1 H1) (y : Ext μ1 H1 μ2 H2) : Ext μ H μ2 H2 := by
  obtain ⟨t, e⟩ := x.pre
  obtain ⟨u, e'⟩ := y.pre
  have k : ∀ a o, H a = some o → a ∉ μ → a ∉ μ1 := fun a o h n m => by
    have := x.fresh a m n
    rw [h] at this; cases this
  refine ⟨⟨t ++ u, by rw [e', e, List.append_assoc]⟩, fun a o h n => y.kept a o (x.kept a o h n) (k a o h n), fun a m n => ?_, fun a vs h => y.tup a vs (x.tup a vs h), fun a o w h => y.frz a o w (x.frz a o w h), fun a h => x.dom a (y.dom a h)⟩
  by_cases m1 : a ∈ μ1
  · exact x.fresh a m1 n
  · exact x.dom a (y.fresh a m m1)
theorem Ext.at {μ μ' : List Addr} {H H' : Hp} (x : Ext μ H μ' H') {i : Nat} {a : Addr} (h : μ[i]? = some a) : μ'[i]? = some a := by
  obtain ⟨t, rfl⟩ := x.pre
  rw [List.getElem?_append_left (List.getElem?_eq_some_iff.mp h).1]
  exact h
theorem Ext.mem {μ μ' : List Addr} {H H' : Hp} (x : Ext μ H μ' H') {a : Addr} (h : a ∈ μ) : a ∈ μ' := by
  obtain ⟨t, rfl⟩ := x.pre
  exact List.mem_append_left _ h
/-- what the values lean on -/
structure Ex0 (μ : List Addr) (H : Hp) (μ' : List Addr) (H' : Hp) : Prop where
  pre : ∃ t, μ' = μ ++ t
  tup : ∀ a vs, H a = some (.tup vs) → H' a = some (.tup vs)
  frz : ∀ a o u, H a = some (.frz o u) → H' a = some (.frz o u)
theorem Ext.ex0 {μ μ' : List Addr} {H H' : Hp} (x : Ext μ H μ' H') : Ex0 μ H μ' H' := ⟨x.pre, x.tup, x.frz⟩
theorem Ex0.at {μ μ' : List Addr} {H H' : Hp} (x : Ex0 μ H μ' H') {i : Nat} {a : Addr} (h : μ[i]? = some a) : μ'[i]? = some a := by
  obtain ⟨t, rfl⟩ := x.pre
  rw [List.getElem?_append_left (List.getElem?_eq_some_iff.mp h).1]
  exact h
theorem Ex0.sqT {K : PySem.W.Frag} {μ μ' : List Addr} {H H' : Hp} (x : Ex0 μ H μ' H') {a : Addr} {vs : List V} (h : SqT K H a vs) : SqT K H' a vs := by
  rcases h with (h | ⟨o, h⟩) | h
  · exact .inl (.inl (x.tup a vs h))
  · exact .inl (.inr ⟨o, x.frz a o _ h⟩)
  · exact .inr h
mutual
theorem RV.mono0 {K : PySem.W.Frag} {μ μ' : List Addr} {H H' : Hp} (e : Ex0 μ H μ' H') : ∀ {x : MV} {v : V}, RV K μ H x v → RV K μ' H' x v
  | _, _, .non => .non
  | _, _, .bl b => .bl b
  | _, _, .int i => .int i
  | _, _, .str z => .str z
  | _, _, .tup h r => .tup (e.tup _ _ h) (RVs.mono0 e r)
  | _, _, .ref h => .ref (e.at h)
theorem RVs.mono0 {K : PySem.W.Frag} {μ μ' : List Addr} {H H' : Hp} (e : Ex0 μ H μ' H') : ∀ {xs : List MV} {vs : List V}, RVs K μ H xs vs → RVs K μ' H' xs vs
  | _, _, .nil => .nil
  | _, _, .cons r t => .cons (RV.mono0 e r) (RVs.mono0 e t)
end
theorem RKs.mono0 {κ : Type} {K : PySem.W.Frag} {μ μ' : List Addr} {H H' : Hp} (e : Ex0 μ H μ' H') : ∀ {xs : List (κ × MV)} {vs : List (κ × V)}, RKs K μ H xs vs → RKs K μ' H' xs vs
  | _, _, .nil => .nil
  | _, _, .cons r t => .cons (r.mono0 e) (RKs.mono0 e t)
theorem RV.mono {K : PySem.W.Frag} {μ μ' : List Addr} {H H' : Hp} {x : MV} {v : V} (r : RV K μ H x v) (e : Ext μ H μ' H') : RV K μ' H' x v := r.mono0 e.ex0
theorem RVs.mono {K : PySem.W.Frag} {μ μ' : List Addr} {H H' : Hp} {x : List MV} {v : List V} (r : RVs K μ H x v) (e : Ext μ H μ' H') : RVs K μ' H' x v := r.mono0 e.ex0
theorem RKs.mono {κ : Type} {K : PySem.W.Frag} {μ μ' : List Addr} {H H' : Hp} {x : List (κ × MV)} {v : List (κ × V)} (r : RKs K μ H x v) (e : Ext μ H μ' H') : RKs K μ' H' x v := r.mono0 e.ex0
section
variable {K : PySem.W.Frag} {μ : List Addr} {H : Hp}
theorem RVs.length : ∀ {xs : List MV} {vs : List V}, RVs K μ H xs vs → xs.length = vs.length
  | _, _, .nil => rfl
  | _, _, .cons _ t => by rw [List.length_cons, List.length_cons, t.length]
theorem RVs.append : ∀ {xs ys : List MV} {vs ws : List V}, RVs K μ H xs vs → RVs K μ H ys ws → RVs K μ H (xs ++ ys) (vs ++ ws)
  | _, _, _, _, .nil, s => s
  | _, _, _, _, .cons r t, s => .cons r (t.append s)
theorem RVs.get : ∀ {xs : List MV} {vs : List V} {i : Nat} {x : MV}, RVs K μ H xs vs → xs[i]? = some x → ∃ v, vs[i]? = some v ∧ RV K μ H x v
  | _, _, _, _, .nil, e => by simp at e
  | _, _, 0, _, .cons r _, e => by simp at e; subst e; exact ⟨_, rfl, r⟩
  | _, _, i + 1, x, .cons _ t, e => by
    obtain ⟨v, h1, h2⟩ := t.get (i := i) (x := x) (by simpa using e)
    exact ⟨v, by simpa using h1, h2⟩
theorem RVs.get' : ∀ {xs : List MV} {vs : List V} {i : Nat} {v : V}, RVs K μ H xs vs → vs[i]? = some v → ∃ x, xs[i]? = some x ∧ RV K μ H x v
  | _, _, _, _, .nil, e => by simp at e
  | _, _, 0, _, .cons r _, e => by simp at e; subst e; exact ⟨_, rfl, r⟩
  | _, _, i + 1, v, .cons _ t, e => by
    obtain ⟨x, h1, h2⟩ := t.get' (i := i) (v := v) (by simpa using e)
    exact ⟨x, by simpa using h1, h2⟩
theorem RVs.drop : ∀ {xs : List MV} {vs : List V} (n : Nat), RVs K μ H xs vs → RVs K μ H (xs.drop n) (vs.drop n)
  | _, _, 0, r => r
  | _, _, _ + 1, .nil => .nil
  | _, _, n + 1, .cons _ t => RVs.drop n t
theorem RVs.take : ∀ {xs : List MV} {vs : List V} (n : Nat), RVs K μ H xs vs → RVs K μ H (xs.take n) (vs.take n)
  | _, _, 0, _ => .nil
  | _, _, _ + 1, .nil => .nil
  | _, _, n + 1, .cons r t => .cons r (RVs.take n t)
theorem RVs.set {x : MV} {v : V} (r : RV K μ H x v) : ∀ {xs : List MV} {vs : List V} (i : Nat), RVs K μ H xs vs → RVs K μ H (xs.set i x) (vs.set i v)
  | _, _, _, .nil => .nil
  | _, _, 0, .cons _ t => .cons r t
  | _, _, i + 1, .cons q t => .cons q (RVs.set r i t)
theorem RVs.dropLast {xs : List MV} {vs : List V} (r : RVs K μ H xs vs) : RVs K μ H xs.dropLast vs.dropLast := by
  rw [List.dropLast_eq_take, List.dropLast_eq_take, r.length]
  exact r.take _
theorem RVs.reverse : ∀ {xs : List MV} {vs : List V}, RVs K μ H xs vs → RVs K μ H xs.reverse vs.reverse
  | _, _, .nil => .nil
  | _, _, .cons r t => by
    rw [List.reverse_cons, List.reverse_cons]
    exact t.reverse.append (.cons r .nil)
theorem RVs.rep {xs : List MV} {vs : List V} (r : RVs K μ H xs vs) : ∀ k : Nat, RVs K μ H (List.replicate k xs).flatten (List.replicate k vs).flatten
  | 0 => .nil
  | k + 1 => by
    rw [List.replicate_succ, List.replicate_succ, List.flatten_cons, List.flatten_cons]
    exact r.append (r.rep k)
theorem RVs.ints : ∀ (ns : List Int), RVs K μ H (ns.map MV.int) (ns.map V.int)
  | [] => .nil
  | n :: ns => .cons (.int n) (RVs.ints ns)
theorem RVs.strs : ∀ (ns : List Str), RVs K μ H (ns.map MV.str) (ns.map V.str)
  | [] => .nil
  | n :: ns => .cons (.str n) (RVs.strs ns)
theorem RVs.ints_of : ∀ {xs : List MV} {vs : List V} {ns : List Int}, RVs K μ H xs vs → intsOf xs = some ns → vs = ns.map V.int
  | _, _, _, .nil, e => by cases e; rfl
  | _, _, ns, .cons (x := x) (xs := xs) r t, e => by
    cases r <;> simp only [intsOf, Option.map_eq_some_iff, reduceCtorEq] at e
    obtain ⟨ms, e1, rfl⟩ := e
    rw [t.ints_of e1, List.map_cons]
theorem RVs.bls_of : ∀ {xs : List MV} {vs : List V} {ns : List Bool}, RVs K μ H xs vs → blsOf xs = some ns → vs = ns.map V.bl
  | _, _, _, .nil, e => by cases e; rfl
  | _, _, ns, .cons (x := x) (xs := xs) r t, e => by
    cases r <;> simp only [blsOf, Option.map_eq_some_iff, reduceCtorEq] at e
    obtain ⟨ms, e1, rfl⟩ := e
    rw [t.bls_of e1, List.map_cons]
theorem RVs.strs_of : ∀ {xs : List MV} {vs : List V} {ns : List Str}, RVs K μ H xs vs → strsOf xs = some ns → vs = ns.map V.str
  | _, _, _, .nil, e => by cases e; rfl
  | _, _, ns, .cons (x := x) (xs := xs) r t, e => by
    cases r <;> simp only [strsOf, Option.map_eq_some_iff, reduceCtorEq] at e
    obtain ⟨ms, e1, rfl⟩ := e
    rw [t.strs_of e1, List.map_cons]
theorem RKs.length {κ : Type} : ∀ {xs : List (κ × MV)} {vs : List (κ × V)}, RKs K μ H xs vs → xs.length = vs.length
  | _, _, .nil => rfl
  | _, _, .cons _ t => by rw [List.length_cons, List.length_cons, t.length]
theorem RKs.isEmpty {κ : Type} {xs : List (κ × MV)} {vs : List (κ × V)} (r : RKs K μ H xs vs) : xs.isEmpty = vs.isEmpty := by cases r <;> rfl
theorem RVs.isEmpty {xs : List MV} {vs : List V} (r : RVs K μ H xs vs) : xs.isEmpty = vs.isEmpty := by cases r <;> rfl
end

/-! ### objects, slots -/
/-- lists and tuples have a length that the model carries -/
def Bnd (H : Hp) : Prop := ∀ a vs, Rd H a (.tup vs) ∨ Rd H a (.lst vs) → vs.length ≤ sizeLine
def RO (K : PySem.W.Frag) (L : List Nat) (μ : List Addr) (H : Hp) (i : Nat) (a : Addr) : MO → Prop
  | .lst xs => ∃ vs, H a = some (.lst vs) ∧ RVs K μ H xs vs
  | .scr ns => ∃ o, H a = some (.frz o (.lst (ns.map V.int)))
  | .dk kvs => ∃ ws, (if i ∈ L then ∃ od, H a = some (.frz od (.dK ws)) else H a = some (.dK ws)) ∧ RKs K μ H kvs ws
  | .dt kvs => ∃ ws, (if i ∈ L then ∃ od, H a = some (.frz od (.dT ws)) else H a = some (.dT ws)) ∧ RKs K μ H kvs ws
  | .ins _ _ => False
structure RH (K : PySem.W.Frag) (L : List Nat) (μ : List Addr) (h : MH) (H : Hp) : Prop where
  len : μ.length = h.length
  nd : μ.Nodup
  obj : ∀ (i : Nat) o a, h[i]? = some o → μ[i]? = some a → RO K L μ H i a o
  bnd : Bnd H
structure RS (K : PySem.W.Frag) (μ : List Addr) (H : Hp) (σm : MS) (σ : L2.St) : Prop where
  len : σm.length = σ.length
  get : ∀ (i : Nat) x, σm[i]? = some (some x) → ∃ z, σ[i]? = some (some z) ∧ RV K μ H x z
theorem RS.mono {K : PySem.W.Frag} {μ μ' : List Addr} {H H' : Hp} {σm : MS} {σ : L2.St} (r : RS K μ H σm σ) (e : Ext μ H μ' H') : RS K μ' H' σm σ :=
  ⟨r.len, fun i x h => let ⟨z, h1, h2⟩ := r.get i x h; ⟨z, h1, h2.mono e⟩⟩
theorem RS.set {K : PySem.W.Frag} {μ : List Addr} {H : Hp} {σm : MS} {σ : L2.St} {x : MV} {z : V} (r : RS K μ H σm σ) (q : RV K μ H x z) (i : Nat) : RS K μ H (σm.set i (some x)) (σ.set i (some z)) := by
  refine ⟨by simp [r.len], fun j y h => ?_⟩
  by_cases e : i = j
  · subst e
    rw [List.getElem?_set] at h
    rw [if_pos rfl] at h
    split at h
    · cases h
      refine ⟨z, ?_, q⟩
      rw [List.getElem?_set, if_pos rfl, if_pos (by rw [← r.len]; assumption)]
    · cases h
  · rw [List.getElem?_set_ne e] at h
    obtain ⟨w, h1, h2⟩ := r.get j y h
    exact ⟨w, by rw [List.getElem?_set_ne e]; exact h1, h2⟩
theorem RS.unset {K : PySem.W.Frag} {μ : List Addr} {H : Hp} {σm : MS} {σ : L2.St} (r : RS K μ H σm σ) (i : Nat) (o : Option V) : RS K μ H (σm.set i none) (σ.set i o) := by
  refine ⟨by simp [r.len], fun j y h => ?_⟩
  by_cases e : i = j
  · subst e
    rw [List.getElem?_set, if_pos rfl] at h
    split at h <;> cases h
  · rw [List.getElem?_set_ne e] at h
    obtain ⟨w, h1, h2⟩ := r.get j y h
    exact ⟨w, by rw [List.getElem?_set_ne e]; exact h1, h2⟩
theorem RS.wipe {K : PySem.W.Frag} {μ : List Addr} {H : Hp} : ∀ (is : List Nat) {σm : MS} {σ : L2.St}, RS K μ H σm σ → RS K μ H (wipeM σm is) (L2.wipe σ is)
  | [], _, _, r => r
  | i :: is, σm, σ, r => (RS.wipe is r).unset i none

/-! ### values on the way -/
inductive RT (K : PySem.W.Frag) (μ : List Addr) (H : Hp) : TV → V → Prop
  | v {x : MV} {z : V} : RV K μ H x z → RT K μ H (.v x) z
  | t {xs : List MV} {p : Addr} {vs : List V} : p ∉ μ → H p = some (.lst vs) → RVs K μ H xs vs → RT K μ H (.t xs) (.ref p)
  | c {xs : List MV} {p : Addr} {vs : List V} : SqT K H p vs → RVs K μ H xs vs → RT K μ H (.c xs) (.ref p)
theorem RT.mono {K : PySem.W.Frag} {μ μ' : List Addr} {H H' : Hp} {x : TV} {z : V} (r : RT K μ H x z) (e : Ext μ H μ' H') : RT K μ' H' x z := by
  cases r with
  | v r => exact .v (r.mono e)
  | t n h r => exact .t (fun m => by rw [e.fresh _ m n] at h; cases h) (e.kept _ _ h n) (r.mono e)
  | c h r => exact .c (e.ex0.sqT h) (r.mono e)
/-- as RT, the new list new since H0 -/
def RTn (K : PySem.W.Frag) (H0 : Hp) (x : TV) (μ : List Addr) (H : Hp) (z : V) : Prop := RT K μ H x z ∧ ∀ xs p, x = .t xs → z = .ref p → H0 p = none
inductive RTs (K : PySem.W.Frag) (μ : List Addr) (H : Hp) : List TV → List V → Prop
  | nil : RTs K μ H [] []
  | cons {x : TV} {xs : List TV} {v : V} {vs : List V} : RT K μ H x v → RTs K μ H xs vs → RTs K μ H (x :: xs) (v :: vs)
theorem RTs.mono {K : PySem.W.Frag} {μ μ' : List Addr} {H H' : Hp} (e : Ext μ H μ' H') : ∀ {xs : List TV} {vs : List V}, RTs K μ H xs vs → RTs K μ' H' xs vs
  | _, _, .nil => .nil
  | _, _, .cons r t => .cons (r.mono e) (RTs.mono e t)

/-! ### results -/
/-- the classes of errors: where each stands, its fields -/
structure XT where
  adr : Nat → Addr
  fld : Nat → List Str
/-- an exception as the hand layer has it -/
def RX (K : PySem.W.Frag) (T : XT) (c : Nat) (vs : List MV) (μ : List Addr) (H : Hp) (cls : Value) (d : Option Addr) : Prop :=
  cls = .ref (T.adr c) ∧ ∃ dd fs, d = some dd ∧ H dd = some (.xd fs) ∧ dd ∉ μ ∧ (T.fld c).length = vs.length ∧ ∀ (j : Nat) f v, (T.fld c)[j]? = some f → vs[j]? = some v → ∃ z, fs.lookup f = some z ∧ RV K μ H v z
section
variable {K : PySem.W.Frag} {T : XT} {L : List Nat}
def Post (K : PySem.W.Frag) (T : XT) (L : List Nat) {α β : Type} (G : α → List Addr → Hp → β → Prop) (μ : List Addr) (H : Hp) (Wx : XK) (Q : β → Hp → Prop) : Res α → Prop
  | .ok a h' => ∀ μ' H' z, Ext μ H μ' H' → RH K L μ' h' H' → G a μ' H' z → Q z H'
  | .exc c vs h' => ∀ μ' H' cls d, Ext μ H μ' H' → RH K L μ' h' H' → RX K T c vs μ' H' cls d → Wx cls d H'
  | .bad => False
theorem Post.ext {α β : Type} {G : α → List Addr → Hp → β → Prop} {μ μ1 : List Addr} {H H1 : Hp} {Wx : XK} {Q : β → Hp → Prop} {r : Res α} (p : Post K T L G μ H Wx Q r) (e : Ext μ H μ1 H1) : Post K T L G μ1 H1 Wx Q r := by
  cases r with
  | ok a h' => exact fun μ' H' z x => p μ' H' z (e.trans x)
  | exc c vs h' => exact fun μ' H' cls d x => p μ' H' cls d (e.trans x)
  | bad => exact p
theorem Post.imp {α β : Type} {G : α → List Addr → Hp → β → Prop} {μ : List Addr} {H : Hp} {Wx : XK} {Q Q' : β → Hp → Prop} {r : Res α} (p : Post K T L G μ H Wx Q r) (e : ∀ z H', Q z H' → Q' z H') : Post K T L G μ H Wx Q' r := by
  cases r with
  | ok a h' => exact fun μ' H' z x y g => e _ _ (p μ' H' z x y g)
  | exc c vs h' => exact p
  | bad => exact p
theorem Post.bind {α β γ δ : Type} {G : α → List Addr → Hp → β → Prop} {G1 : γ → List Addr → Hp → δ → Prop} {μ : List Addr} {H : Hp} {Wx : XK} {Q : β → Hp → Prop} {r : Res γ} {f : γ → MH → Res α} (p : Post K T L G μ H Wx Q (r.bind f)) :
    Post K T L G1 μ H Wx (fun z H1 => ∃ a h1 μ1, Ext μ H μ1 H1 ∧ RH K L μ1 h1 H1 ∧ G1 a μ1 H1 z ∧ Post K T L G μ1 H1 Wx Q (f a h1)) r := by
  cases r with
  | ok a h' => exact fun μ' H' z x y g => ⟨a, h', μ', x, y, g, Post.ext p x⟩
  | exc c vs h' => exact p
  | bad => exact p
theorem Post.of_bind {α β γ : Type} {G : α → List Addr → Hp → β → Prop} {μ : List Addr} {H : Hp} {Wx : XK} {Q : β → Hp → Prop} {o : Option γ} {h : MH} {f : γ → MH → Res α} (p : Post K T L G μ H Wx Q ((Res.of h o).bind f)) : ∃ a, o = some a ∧ Post K T L G μ H Wx Q (f a h) := by
  cases o with
  | none => exact p.elim
  | some a => exact ⟨a, rfl, p⟩
theorem Post.of {α β : Type} {G : α → List Addr → Hp → β → Prop} {μ : List Addr} {H : Hp} {Wx : XK} {Q : β → Hp → Prop} {o : Option α} {h : MH} (p : Post K T L G μ H Wx Q (Res.of h o)) : ∃ a, o = some a ∧ ∀ μ' H' z, Ext μ H μ' H' → RH K L μ' h H' → G a μ' H' z → Q z H' := by
  cases o with
  | none => exact p.elim
  | some a => exact ⟨a, rfl, p⟩
end

/-! ### readings -/
/-- the state: slots, heap -/
structure RI (K : PySem.W.Frag) (L : List Nat) (μ : List Addr) (h : MH) (σm : MS) (σ : L2.St) (H : Hp) : Prop where
  s : RS K μ H σm σ
  h : RH K L μ h H
def tT (K : PySem.W.Frag) (T : XT) (L : List Nat) (W : WX) (d : MS → MH → Res TV) : TE := fun σ H Q => ∃ μ h σm, RI K L μ h σm σ H ∧ Post K T L (RTn K H) μ H (fun c d H' => W c d σ H') Q (d σm h)
def tV (K : PySem.W.Frag) (T : XT) (L : List Nat) (W : WX) (d : MS → MH → Res MV) : TE := fun σ H Q => ∃ μ h σm, RI K L μ h σm σ H ∧ Post K T L (fun a μ H z => RV K μ H a z) μ H (fun c d H' => W c d σ H') Q (d σm h)
def tB (K : PySem.W.Frag) (T : XT) (L : List Nat) (W : WX) (d : MS → MH → Res Bool) : TT := fun σ H Q => ∃ μ h σm, RI K L μ h σm σ H ∧ Post K T L (fun a _ _ z => a = z) μ H (fun c d H' => W c d σ H') Q (d σm h)
def tVs (K : PySem.W.Frag) (T : XT) (L : List Nat) (W : WX) (d : MS → MH → Res (List MV)) : TA := fun σ H Q => ∃ μ h σm, RI K L μ h σm σ H ∧ Post K T L (fun a μ H z => RVs K μ H a z) μ H (fun c d H' => W c d σ H') Q (d σm h)
def tTs (K : PySem.W.Frag) (T : XT) (L : List Nat) (W : WX) (d : MS → MH → Res (List TV)) : TA := fun σ H Q => ∃ μ h σm, RI K L μ h σm σ H ∧ Post K T L (fun a μ H z => RTs K μ H a z) μ H (fun c d H' => W c d σ H') Q (d σm h)
theorem RI.mono {K : PySem.W.Frag} {L : List Nat} {μ μ' : List Addr} {h h' : MH} {σm : MS} {σ : L2.St} {H H' : Hp} (r : RI K L μ h σm σ H) (e : Ext μ H μ' H') (y : RH K L μ' h' H') : RI K L μ' h' σm σ H' := ⟨r.s.mono e, y⟩

theorem PE.imp {X : Cx} {e : Expr} {t t' : TE} (p : PE X e t) (h : ∀ σ H Q, t' σ H Q → t σ H Q) : PE X e t' := ⟨fun pins s σ H Q I q => p.run pins s σ H Q I (h σ H Q q)⟩
theorem PT.imp {X : Cx} {e : Expr} {t t' : TT} (p : PT X e t) (h : ∀ σ H Q, t' σ H Q → t σ H Q) : PT X e t' := ⟨fun pins s σ H Q I q => p.run pins s σ H Q I (h σ H Q q)⟩
theorem PW.imp {X : Cx} {e : Expr} {t t' : TT} (p : PW X e t) (h : ∀ σ H Q, t' σ H Q → t σ H Q) : PW X e t' := ⟨fun wh pins s σ H Q I q => p.run wh pins s σ H Q I (h σ H Q q)⟩
theorem PA.imp {X : Cx} {e : List Expr} {t t' : TA} (p : PA X e t) (h : ∀ σ H Q, t' σ H Q → t σ H Q) : PA X e t' := ⟨fun pos pins s σ H Q I q => p.run pos pins s σ H Q I (h σ H Q q)⟩
end MP

set_option linter.all false
set_option autoImplicit false
/-! MiniPy: the operators over the abstract heap. -/
namespace MP
open PySem PyProof.Rows L2

section
variable {K : PySem.W.Frag} {L : List Nat} {μ : List Addr} {h : MH} {H : Hp} {p : Addr} {o : HO}
theorem RO.there {i : Nat} {a : Addr} {u : MO} (r : RO K L μ H i a u) : ∃ w, H a = some w := by
  cases u with
  | lst xs => obtain ⟨vs, e, _⟩ := r; exact ⟨_, e⟩
  | scr ns => obtain ⟨od, e⟩ := r; exact ⟨_, e⟩
  | dk kvs =>
    obtain ⟨ws, e, _⟩ := r
    split at e
    · obtain ⟨od, e⟩ := e; exact ⟨_, e⟩
    · exact ⟨_, e⟩
  | dt kvs =>
    obtain ⟨ws, e, _⟩ := r
    split at e
    · obtain ⟨od, e⟩ := e; exact ⟨_, e⟩
    · exact ⟨_, e⟩
  | ins c fs => exact r.elim
theorem RH.ro (r : RH K L μ h H) {i : Nat} {u : MO} {a : Addr} (e1 : h[i]? = some u) (e2 : μ[i]? = some a) : RO K L μ H i a u := r.obj i u a e1 e2
theorem RH.at_ (r : RH K L μ h H) {a : Addr} (m : a ∈ μ) : ∃ (i : Nat) (o : MO), h[i]? = some o ∧ μ[i]? = some a ∧ RO K L μ H i a o := by
  obtain ⟨i, e⟩ := List.mem_iff_getElem?.mp m
  have lt : i < h.length := by rw [← r.len]; exact (List.getElem?_eq_some_iff.mp e).1
  exact ⟨i, h[i], List.getElem?_eq_getElem lt, e, r.ro (List.getElem?_eq_getElem lt) e⟩
theorem RH.new (r : RH K L μ h H) (n : H p = none) : p ∉ μ := fun m => by
  obtain ⟨i, u, _, _, ro⟩ := r.at_ m
  obtain ⟨w, e⟩ := ro.there
  rw [n] at e; cases e
theorem ext_upd (n : H p = none) : Ext μ H μ (upd H p o) := by
  refine ⟨⟨[], (List.append_nil μ).symm⟩, fun a u e _ => ?_, fun a m nm => absurd m nm, fun a vs e => ?_, fun a ob u e => ?_, fun a e => ?_⟩
  · rw [upd_ne (ne_of_none e n)]; exact e
  · rw [upd_ne (ne_of_none e n)]; exact e
  · rw [upd_ne (ne_of_none e n)]; exact e
  · by_cases q : a = p
    · rw [q, upd_same] at e; cases e
    · rw [upd_ne q] at e; exact e
theorem RO.stay {μ' : List Addr} {H' : Hp} {i : Nat} {a : Addr} {u : MO} (r : RO K L μ H i a u) (x : Ex0 μ H μ' H') (k : ∀ w, H a = some w → H' a = some w) : RO K L μ' H' i a u := by
  cases u with
  | lst xs => obtain ⟨vs, e, q⟩ := r; exact ⟨vs, k _ e, q.mono0 x⟩
  | scr ns => obtain ⟨od, e⟩ := r; exact ⟨od, k _ e⟩
  | dk kvs =>
    obtain ⟨ws, e, q⟩ := r
    refine ⟨ws, ?_, q.mono0 x⟩
    by_cases c : i ∈ L
    · rw [if_pos c] at e ⊢
      obtain ⟨od, e⟩ := e; exact ⟨od, k _ e⟩
    · rw [if_neg c] at e ⊢
      exact k _ e
  | dt kvs =>
    obtain ⟨ws, e, q⟩ := r
    refine ⟨ws, ?_, q.mono0 x⟩
    by_cases c : i ∈ L
    · rw [if_pos c] at e ⊢
      obtain ⟨od, e⟩ := e; exact ⟨od, k _ e⟩
    · rw [if_neg c] at e ⊢
      exact k _ e
  | ins c fs => exact r.elim
/-- a new object that nobody has named -/
def okLen : HO → Prop
  | .tup vs => vs.length ≤ sizeLine
  | .lst vs => vs.length ≤ sizeLine
  | .frz _ _ => False
  | _ => True
theorem Bnd.upd (b : Bnd H) (q : okLen o) : Bnd (upd H p o) := fun a vs r => by
  by_cases e : a = p
  · subst e
    rcases r with (r | ⟨w, r⟩) | (r | ⟨w, r⟩) <;> (rw [upd_same] at r; cases r)
    · exact q
    · exact q.elim
    · exact q
    · exact q.elim
  · refine b a vs ?_
    rcases r with (r | ⟨w, r⟩) | (r | ⟨w, r⟩) <;> rw [upd_ne e] at r
    · exact .inl (.inl r)
    · exact .inl (.inr ⟨w, r⟩)
    · exact .inr (.inl r)
    · exact .inr (.inr ⟨w, r⟩)
theorem RH.upd (r : RH K L μ h H) (n : H p = none) (q : okLen o) : RH K L μ h (upd H p o) :=
  ⟨r.len, r.nd, fun i u a e1 e2 => RO.stay (r.ro e1 e2) (ext_upd n).ex0 fun w e => by rw [upd_ne (ne_of_none e n)]; exact e, r.bnd.upd q⟩
theorem get_snoc {α : Type} {xs : List α} {x y : α} {i : Nat} (e : (xs ++ [x])[i]? = some y) : xs[i]? = some y ∨ (i = xs.length ∧ x = y) := by
  rw [List.getElem?_append] at e
  split at e
  · exact .inl e
  · rename_i hn
    have hl : i - xs.length = 0 := by
      have := (List.getElem?_eq_some_iff.mp e).1
      simp at this; omega
    rw [hl] at e
    simp at e
    exact .inr ⟨by omega, e⟩
/-- a new object gets a name -/
theorem RH.name {u : MO} (r : RH K L μ h H) (hp : p ∉ μ) (q : RO K L (μ ++ [p]) H h.length p u) : RH K L (μ ++ [p]) (h ++ [u]) H := by
  refine ⟨by simp [r.len], ?_, fun i w a e1 e2 => ?_, r.bnd⟩
  · rw [List.nodup_append]
    exact ⟨r.nd, by simp, fun a m b mb => by simp at mb; subst mb; exact fun z => hp (z ▸ m)⟩
  · rcases get_snoc e1 with e1 | ⟨rfl, rfl⟩
    · have e3 : μ[i]? = some a := by
        rcases get_snoc e2 with e2 | ⟨rfl, _⟩
        · exact e2
        · have := (List.getElem?_eq_some_iff.mp e1).1
          rw [r.len] at this; exact absurd this (Nat.lt_irrefl _)
      exact RO.stay (r.ro e1 e3) ⟨⟨_, rfl⟩, fun _ _ h => h, fun _ _ _ h => h⟩ fun _ z => z
    · rcases get_snoc e2 with e2 | ⟨_, rfl⟩
      · have := (List.getElem?_eq_some_iff.mp e2).1
        rw [r.len] at this; exact absurd this (Nat.lt_irrefl _)
      · exact q
theorem ext_name {μ0 : List Addr} {H0 : Hp} (hp : p ∉ μ) (x : Ext μ0 H0 μ H) (n : H0 p = none) : Ext μ0 H0 (μ ++ [p]) H := by
  obtain ⟨t, e⟩ := x.pre
  refine ⟨⟨t ++ [p], by rw [e, List.append_assoc]⟩, x.kept, fun a m nm => ?_, x.tup, x.frz, x.dom⟩
  rcases List.mem_append.mp m with m | m
  · exact x.fresh a m nm
  · simp at m; rw [m]; exact n
/-- a named list is changed -/
theorem RH.setL {i : Nat} {xs : List MV} {vs ws : List V} {ys : List MV} (r : RH K L μ h H) (e1 : h[i]? = some (.lst xs)) (e2 : μ[i]? = some p) (e3 : H p = some (.lst vs)) (q : RVs K μ H ys ws) (z : ws.length ≤ sizeLine) :
    Ext μ H μ (L2.upd H p (.lst ws)) ∧ RH K L μ (h.set i (.lst ys)) (L2.upd H p (.lst ws)) := by
  have x : Ext μ H μ (L2.upd H p (.lst ws)) := by
    refine ⟨⟨[], (List.append_nil μ).symm⟩, fun a u e n => ?_, fun a m nm => absurd m nm, fun a vs e => ?_, fun a ob u e => ?_, fun a e => ?_⟩
    · rw [upd_ne (fun z => n (by rw [z]; exact List.mem_of_getElem? e2))]; exact e
    · rw [upd_ne (fun z => by rw [z, e3] at e; cases e)]; exact e
    · rw [upd_ne (fun z => by rw [z, e3] at e; cases e)]; exact e
    · by_cases q : a = p
      · rw [q, upd_same] at e; cases e
      · rw [upd_ne q] at e; exact e
  refine ⟨x, by simp [r.len], r.nd, fun j u a f1 f2 => ?_, r.bnd.upd z⟩
  by_cases c : i = j
  · subst c
    rw [e2] at f2; cases f2
    rw [List.getElem?_set, if_pos rfl] at f1
    split at f1
    · cases f1
      exact ⟨ws, upd_same, q.mono x⟩
    · cases f1
  · rw [List.getElem?_set_ne c] at f1
    have na : a ≠ p := fun z => by
      subst z
      exact c ((List.getElem?_inj (List.getElem?_eq_some_iff.mp e2).1 r.nd).mp (e2.trans f2.symm))
    exact RO.stay (r.ro f1 f2) x.ex0 fun w e => by rw [upd_ne na]; exact e
end

/-! ### what a value is -/
section
variable {K : PySem.W.Frag} {L : List Nat} {μ : List Addr} {h : MH} {H : Hp}
theorem RH.lstO {i : Nat} {xs : List MV} {p : Addr} (r : RH K L μ h H) (e1 : h[i]? = some (.lst xs)) (e2 : μ[i]? = some p) : ∃ vs, H p = some (.lst vs) ∧ RVs K μ H xs vs := r.ro e1 e2
theorem RT.list {x : TV} {z : V} {xs : List MV} (r : RT K μ H x z) (rh : RH K L μ h H) (e : listOf h x = some xs) : ∃ p vs, z = .ref p ∧ SqL K H p vs ∧ RVs K μ H xs vs := by
  cases r with
  | c n q => cases e
  | t n hp q =>
    simp only [listOf, Option.some.injEq] at e; subst e
    exact ⟨_, _, rfl, .inl (.inl hp), q⟩
  | v r =>
    cases r <;> simp only [listOf, reduceCtorEq] at e
    rename_i i a ha
    cases q : h[i]? with
    | none => rw [q] at e; simp at e
    | some o =>
      rw [q] at e
      have ro := rh.ro q ha
      cases o <;> simp only [Option.some.injEq, reduceCtorEq] at e
      · subst e
        obtain ⟨vs, e1, e2⟩ := ro
        exact ⟨_, vs, rfl, .inl (.inl e1), e2⟩
      · subst e
        obtain ⟨od, e1⟩ := ro
        exact ⟨_, _, rfl, .inl (.inr ⟨od, e1⟩), RVs.ints _⟩
theorem RT.lst {x : TV} {z : V} {xs : List MV} (r : RT K μ H x z) (rh : RH K L μ h H) (e : lstOf h x = some xs) : ∃ p vs, z = .ref p ∧ H p = some (.lst vs) ∧ RVs K μ H xs vs := by
  cases r with
  | c n q => cases e
  | t n hp q =>
    simp only [lstOf, Option.some.injEq] at e; subst e
    exact ⟨_, _, rfl, hp, q⟩
  | v r =>
    cases r <;> simp only [lstOf, reduceCtorEq] at e
    rename_i i a ha
    cases q : h[i]? with
    | none => rw [q] at e; simp at e
    | some o =>
      rw [q] at e
      have ro := rh.ro q ha
      cases o <;> simp only [Option.some.injEq, reduceCtorEq] at e
      subst e
      obtain ⟨vs, e1, e2⟩ := ro
      exact ⟨_, vs, rfl, e1, e2⟩
theorem RT.seq {x : TV} {z : V} {xs : List MV} (r : RT K μ H x z) (rh : RH K L μ h H) (e : seqOf h x = some xs) : ∃ p vs, z = .ref p ∧ (SqL K H p vs ∨ SqT K H p vs) ∧ RVs K μ H xs vs := by
  cases r with
  | c n q =>
    simp only [seqOf, Option.some.injEq] at e; subst e
    exact ⟨_, _, rfl, .inr n, q⟩
  | t n hp q =>
    simp only [seqOf, listOf, Option.some.injEq] at e; subst e
    exact ⟨_, _, rfl, .inl (.inl (.inl hp)), q⟩
  | v r =>
    cases r with
    | tup h1 h2 =>
      simp only [seqOf, Option.some.injEq] at e; subst e
      exact ⟨_, _, rfl, .inr (.inl (.inl h1)), h2⟩
    | ref h1 =>
      obtain ⟨p, vs, h1, h2, h3⟩ := (RT.v (.ref h1)).list rh e
      exact ⟨p, vs, h1, .inl h2, h3⟩
    | _ => cases e
mutual
theorem RV.dp : ∀ {x : MV} {z : V} {d : PyData}, RV K μ H x z → x.toD = some d → Dp K H z d
  | _, _, _, .non, e => by simp only [MV.toD, Option.some.injEq] at e; subst e; exact .non
  | _, _, _, .bl b, e => by simp only [MV.toD, Option.some.injEq] at e; subst e; exact .bl b
  | _, _, _, .int b, e => by simp only [MV.toD, Option.some.injEq] at e; subst e; exact .int b
  | _, _, _, .str b, e => by simp only [MV.toD, Option.some.injEq] at e; subst e; exact .str b
  | _, _, _, .tup h1 h2, e => by
    simp only [MV.toD, Option.map_eq_some_iff] at e
    obtain ⟨ds, e1, rfl⟩ := e
    exact .tup (.inl (.inl h1)) (RVs.dp h2 e1)
  | _, _, _, .ref _, e => by simp only [MV.toD, reduceCtorEq] at e
theorem RVs.dp : ∀ {x : List MV} {z : List V} {d : List PyData}, RVs K μ H x z → MV.toDs x = some d → DpAll K H z d
  | _, _, _, .nil, e => by simp only [MV.toDs, Option.some.injEq] at e; subst e; exact .nil
  | _, _, _, .cons r t, e => by
    simp only [MV.toDs, Option.bind_eq_some_iff, Option.map_eq_some_iff] at e
    obtain ⟨d, e1, ds, e2, rfl⟩ := e
    exact .cons (RV.dp r e1) (RVs.dp t e2)
end
theorem RT.dp {x : TV} {z : V} {d : PyData} (r : RT K μ H x z) (rh : RH K L μ h H) (e : x.toD h = some d) : Dp K H z d := by
  cases r with
  | c n q =>
    simp only [TV.toD, Option.map_eq_some_iff] at e
    obtain ⟨ds, e1, rfl⟩ := e
    exact .tup n (q.dp e1)
  | t n hp q =>
    simp only [TV.toD, Option.map_eq_some_iff] at e
    obtain ⟨ds, e1, rfl⟩ := e
    exact .lst (.inl (.inl hp)) (q.dp e1)
  | v r =>
    rename_i x
    cases x with
    | ref i =>
      simp only [TV.toD, Option.bind_eq_some_iff, Option.map_eq_some_iff] at e
      obtain ⟨xs, e1, ds, e2, rfl⟩ := e
      obtain ⟨p, vs, rfl, h1, h2⟩ := (RT.v r).list rh e1
      exact .lst h1 (h2.dp e2)
    | _ => exact r.dp e
mutual
theorem MV.toD_plain : ∀ {x : MV} {d : PyData}, x.toD = some d → d.plain = true
  | .non, _, e => by simp only [MV.toD, Option.some.injEq] at e; subst e; rfl
  | .bl b, _, e => by simp only [MV.toD, Option.some.injEq] at e; subst e; rfl
  | .int b, _, e => by simp only [MV.toD, Option.some.injEq] at e; subst e; rfl
  | .str b, _, e => by simp only [MV.toD, Option.some.injEq] at e; subst e; rfl
  | .tup xs, _, e => by
    simp only [MV.toD, Option.map_eq_some_iff] at e
    obtain ⟨ds, e1, rfl⟩ := e
    simp only [PyData.plain]
    exact MV.toDs_plain e1
  | .ref _, _, e => by simp only [MV.toD, reduceCtorEq] at e
theorem MV.toDs_plain : ∀ {x : List MV} {d : List PyData}, MV.toDs x = some d → PyData.plainAll d = true
  | [], _, e => by simp only [MV.toDs, Option.some.injEq] at e; subst e; rfl
  | x :: xs, _, e => by
    simp only [MV.toDs, Option.bind_eq_some_iff, Option.map_eq_some_iff] at e
    obtain ⟨d, e1, ds, e2, rfl⟩ := e
    simp only [PyData.plainAll, Bool.and_eq_true]
    exact ⟨MV.toD_plain e1, MV.toDs_plain e2⟩
end
theorem TV.toD_plain {x : TV} {d : PyData} (e : x.toD h = some d) : d.plain = true := by
  cases x with
  | c xs =>
    simp only [TV.toD, Option.map_eq_some_iff] at e
    obtain ⟨ds, e1, rfl⟩ := e
    exact MV.toDs_plain e1
  | t xs =>
    simp only [TV.toD, Option.map_eq_some_iff] at e
    obtain ⟨ds, e1, rfl⟩ := e
    exact MV.toDs_plain e1
  | v x => cases x with
    | ref i =>
      simp only [TV.toD, Option.bind_eq_some_iff, Option.map_eq_some_iff] at e
      obtain ⟨xs, _, ds, e1, rfl⟩ := e
      exact MV.toDs_plain e1
    | _ => exact MV.toD_plain e
end

/-! ### operators -/
/-- what a pure operator's answer tv brings -/
def Fin (K : PySem.W.Frag) (L : List Nat) (H0 : Hp) (μ : List Addr) (h : MH) (H : Hp) (tv : TV) (Q : VK) : Prop := ∀ μ' H' z, Ext μ H μ' H' → RH K L μ' h H' → RTn K H0 tv μ' H' z → Q z H'
section
variable {K : PySem.W.Frag} {L : List Nat} {μ : List Addr} {h : MH} {H H0 : Hp} {Q : VK}
theorem Fin.v {x : MV} {z : V} (f : Fin K L H0 μ h H (.v x) Q) (rh : RH K L μ h H) (r : RV K μ H x z) : Q z H :=
  f μ H z (Ext.refl μ H) rh ⟨.v r, fun _ _ e => nomatch e⟩
theorem Fin.new {xs : List MV} {vs : List V} (f : Fin K L H0 μ h H (.t xs) Q) (rh : RH K L μ h H) (d : ∀ a, H a = none → H0 a = none) (r : RVs K μ H xs vs) (z : vs.length ≤ sizeLine) : ∀ p, H p = none → Q (.ref p) (upd H p (.lst vs)) := fun p n =>
  f μ _ _ (ext_upd n) (rh.upd n z) ⟨.t (rh.new n) upd_same (r.mono (ext_upd n)), fun _ q _ e => by cases e; exact d p n⟩
theorem Fin.newT {xs : List MV} {vs : List V} (f : Fin K L H0 μ h H (.v (.tup xs)) Q) (rh : RH K L μ h H) (r : RVs K μ H xs vs) (z : vs.length ≤ sizeLine) : ∀ p, H p = none → Q (.ref p) (upd H p (.tup vs)) := fun p n =>
  f μ _ _ (ext_upd n) (rh.upd n z) ⟨.v (.tup upd_same (r.mono (ext_upd n))), fun _ q e => nomatch e⟩
end
/-- an operation of two values -/
def r2 (K : PySem.W.Frag) (L : List Nat) (g : MH → TV → TV → Option TV) : R2 := fun x y H Q => ∃ μ h H0 a b tv, RH K L μ h H ∧ RT K μ H a x ∧ RT K μ H b y ∧ (∀ a, H a = none → H0 a = none) ∧ g h a b = some tv ∧ Fin K L H0 μ h H tv Q
section
variable {X : Cx} {L : List Nat}
theorem sq_len {K : PySem.W.Frag} {H : Hp} {p : Addr} {vs : List V} (b : Bnd H) (h : SqL K H p vs ∨ SqT K H p vs) : vs.length ≤ sizeLine := by
  rcases h with (h | ⟨o, its, n, _, _, _, _, z, r⟩) | (h | ⟨o, its, n, _, _, _, z, r⟩)
  · exact b p vs (.inr h)
  · rw [Paired.length r]; simpa using z
  · exact b p vs (.inl h)
  · rw [Paired.length r]; simpa using z
end
end MP

set_option linter.all false
set_option autoImplicit false
/-! MiniPy: the operators' rules. -/
namespace MP
open PySem PyProof.Rows L2

theorem mulOk_of {i j : Int} (h : mulOk i j = true) : CMulW i j := by
  have h' : i.natAbs.log2 + j.natAbs.log2 < 1000000 := by simpa [mulOk] using h
  exact h'
theorem divOk_of {j : Int} (h : divOk j = true) (i : Int) : CDiv i j := by
  have h' : 0 < j ∧ j < 1073741824 := by simpa [divOk] using h
  exact h'
theorem powOk_of {i j : Int} (h : powOk i j = true) : CPow i j := by
  have h' : 0 ≤ j ∧ j ≤ 1000000 ∧ i.natAbs < 2 ^ 64 := by simpa [powOk] using h
  exact h'
section
variable {X : Cx} {L : List Nat}
theorem b_add : OpR X (binaryOp .Add) (r2 X.K L addT) := by
  intro pins s σ H x y v u Q I rx ry ⟨μ, h, H0, a, b, tv, rh, ra, rb, dm, e, f⟩
  have lists : ((lstOf h a).bind fun xs => (lstOf h b).bind fun ys => if xs.length + ys.length ≤ sizeLine then some (.t (xs ++ ys)) else none) = some tv → wpAny (model X.prog X.w) X.A (binaryOp .Add v u) (EP X pins σ Q) X.xe s := by
    intro e
    simp only [Option.bind_eq_some_iff] at e
    obtain ⟨xs, e1, ys, e2, e3⟩ := e
    split at e3
    · cases e3
      obtain ⟨p, vs, rfl, h1, q1⟩ := ra.lst rh e1
      obtain ⟨q, ws, rfl, h2, q2⟩ := rb.lst rh e2
      rename_i z
      rw [q1.length, q2.length] at z
      exact op_cat pins s σ H _ _ v u Q I rx ry ⟨p, q, vs, ws, rfl, rfl, h1, h2, z, f.new rh dm (q1.append q2) (by rw [List.length_append]; exact z)⟩
    · cases e3
  unfold addT at e
  split at e
  · cases e
    cases ra with | v ra => cases ra; cases rb with | v rb => cases rb; exact op_add pins s σ H _ _ v u Q I rx ry ⟨_, _, rfl, rfl, f.v rh (.int _)⟩
  · cases ra with | v ra => cases ra; cases rb with | v rb =>
      cases rb
      split at e
      · cases e
        exact op_add_str pins s σ H _ _ v u Q I rx ry ⟨_, _, rfl, rfl, by assumption, f.v rh (.str _)⟩
      · cases e
  · cases ra with | v ra => cases ra with | tup a1 a2 => cases rb with | v rb => cases rb with | tup b1 b2 =>
      split at e
      · rename_i z
        cases e
        have z' := z
        rw [a2.length, b2.length] at z'
        refine op_catA pins s σ H _ _ v u Q I rx ry ⟨_, _, _, _, rfl, rfl, .inl (.inl a1), .inl (.inl b1), z', fun e0 => ?_, fun _ e0 => ?_, fun _ _ => f.newT rh (a2.append b2) (by rw [List.length_append]; exact z')⟩
        · subst e0
          cases a2
          exact f.v rh (.tup b1 b2)
        · subst e0
          cases b2
          rename_i xs _ _ _
          refine f.v rh ?_
          rw [List.append_nil]
          exact .tup a1 a2
      · cases e
  · exact lists e
theorem b_mul : OpR X (binaryOp .Mult) (r2 X.K L mulT) := by
  intro pins s σ H x y v u Q I rx ry ⟨μ, h, H0, a, b, tv, rh, ra, rb, dm, e, f⟩
  unfold mulT at e
  split at e
  · cases ra with | v ra => cases ra; cases rb with | v rb =>
      cases rb
      split at e
      · rename_i z
        cases e
        exact op_mulW pins s σ H _ _ v u Q I rx ry ⟨_, _, rfl, rfl, mulOk_of z, f.v rh (.int _)⟩
      · cases e
  · cases ra with | v ra => cases ra with | tup a1 a2 => cases rb with | v rb =>
      cases rb
      split at e
      · rename_i z
        cases e
        obtain ⟨z1, z2, z3, z4⟩ := of_decide_eq_true z
        rw [a2.length] at z4
        refine op_repT pins s σ H _ _ v u Q I rx ry ⟨_, _, _, rfl, rfl, .inl (.inl a1), ?_, z2, z3, z4, f.newT rh (a2.rep _) ?_⟩
        · intro e0; subst e0; cases a2; exact z1 rfl
        · rw [List.length_flatten, List.map_replicate, List.sum_replicate_nat, sizeLine_eq]
          have : (Int.toNat _) ≤ 1000 := Int.toNat_le.mpr z3
          exact Nat.le_trans (Nat.mul_le_mul this z4) (by decide)
      · cases e
  · cases rb with | v rb =>
      cases rb
      simp only [Option.bind_eq_some_iff] at e
      obtain ⟨xs, e1, e3⟩ := e
      split at e3
      · rename_i z
        cases e3
        obtain ⟨z1, z2, z3⟩ := of_decide_eq_true z
        obtain ⟨p, vs, rfl, h1, q1⟩ := ra.lst rh e1
        rw [q1.length] at z3
        refine op_rep pins s σ H _ _ v u Q I rx ry ⟨p, _, vs, rfl, rfl, h1, z1, z2, z3, f.new rh dm (q1.rep _) ?_⟩
        rw [List.length_flatten, List.map_replicate, List.sum_replicate_nat, Nat.mul_comm]
        exact z3
      · cases e3
  · cases e
theorem b_op (op : Operator) (ok : op = .Add ∨ op = .Mult ∨ op = .Sub ∨ op = .FloorDiv ∨ op = .Mod ∨ op = .Pow) : OpR X (binaryOp op) (r2 X.K L fun h => binT h op) := by
  rcases ok with rfl | rfl | rfl | rfl | rfl | rfl
  · exact b_add
  · exact b_mul
  all_goals
    intro pins s σ H x y v u Q I rx ry ⟨μ, h, H0, a, b, tv, rh, ra, rb, dm, e, f⟩
    simp only [binT] at e
    split at e
    · cases ra with | v ra => cases ra; cases rb with | v rb =>
        cases rb
        first
          | (cases e
             exact op_sub pins s σ H _ _ v u Q I rx ry ⟨_, _, rfl, rfl, f.v rh (.int _)⟩)
          | (split at e
             · rename_i z
               cases e
               first
                | exact op_fdiv pins s σ H _ _ v u Q I rx ry ⟨_, _, rfl, rfl, divOk_of z _, f.v rh (.int _)⟩
                | exact op_mod pins s σ H _ _ v u Q I rx ry ⟨_, _, rfl, rfl, of_decide_eq_true z, f.v rh (.int _)⟩
                | exact op_pow pins s σ H _ _ v u Q I rx ry ⟨_, _, rfl, rfl, powOk_of z, f.v rh (.int _)⟩
             · cases e)
    · cases e
theorem b_neg : UnR X (unaryOp .USub) (fun x H Q => ∃ μ h i, RT X.K μ H (.v (.int i)) x ∧ RH X.K L μ h H ∧ ∀ H0, Fin X.K L H0 μ h H (.v (.int (-i))) Q) := by
  intro pins s σ H x v Q I rx ⟨μ, h, i, ra, rh, f⟩
  cases ra with | v ra => cases ra; exact un_neg pins s σ H _ v Q I rx ⟨_, rfl, (f H).v rh (.int _)⟩
end
end MP

set_option linter.all false
set_option autoImplicit false
/-! MiniPy: comparisons, truth, isinstance. -/
namespace MP
open PySem PyProof.Rows L2

/-- a comparison of two values -/
def r2b (K : PySem.W.Frag) (L : List Nat) (g : MH → TV → TV → Option Bool) : R2 := fun x y H Q => ∃ μ h a b k, RH K L μ h H ∧ RT K μ H a x ∧ RT K μ H b y ∧ g h a b = some k ∧ Q (.bl k) H
section
variable {X : Cx} {L : List Nat}
theorem eqNil_some {h : MH} {a b : TV} {k : Bool} (e : eqNil h a b = some k) : ∃ xs ys, listOf h a = some xs ∧ listOf h b = some ys ∧ (xs = [] ∨ ys = []) ∧ k = (xs.isEmpty && ys.isEmpty) := by
  simp only [eqNil, Option.bind_eq_some_iff] at e
  obtain ⟨xs, e1, ys, e2, e3⟩ := e
  split at e3
  · rename_i z
    cases e3
    refine ⟨xs, ys, e1, e2, ?_, rfl⟩
    rw [Bool.or_eq_true, List.isEmpty_iff, List.isEmpty_iff] at z
    exact z
  · cases e3
theorem nil_eq {A : Around} {s : Shared} {l b : Addr} {us vs : Array Value} {k : Bool} (h1 : s.heap.IsList l us) (h2 : s.heap.IsList b vs) (hu : A.units < cLine) (hz : us.size = 0 ∨ vs.size = 0) (ek : k = decide (us.size = vs.size)) :
    SeqAt.RcAt A s (.ref l) (.ref b) k ∧ SeqAt.RcNeAt A s (.ref l) (.ref b) (!k) := by
  by_cases e : us.size = vs.size
  · have z1 : us.size = 0 := by omega
    have q1 := SeqAt.RcAt.lists (A := A) (s := s) (e := fun _ => true) h1 h2 e hu (fun j j1 j2 => by omega)
    have q2 := SeqAt.RcNeAt.lists (A := A) (s := s) (e := fun _ => true) h1 h2 e hu (fun j j1 j2 => by omega)
    rw [z1] at q1 q2
    subst ek
    rw [decide_eq_true e]
    exact ⟨by simpa using q1, by simpa using q2⟩
  · subst ek
    rw [decide_eq_false e]
    exact ⟨SeqAt.RcAt.lists_lengths h1 h2 (by simpa using e) hu, SeqAt.RcNeAt.lists_lengths h1 h2 (by simpa using e) hu⟩
theorem eqNil_ok {μ : List Addr} {h : MH} {H : Hp} {s : Shared} {pins : List (Addr × Obj)} {σ : L2.St} {a b : TV} {x y : V} {v u : Value} {k : Bool} (hu : X.A.units + 64 < cLine) (I : L2.Inv X pins σ H s) (rh : RH X.K L μ h H) (ra : RT X.K μ H a x) (rb : RT X.K μ H b y) (rx : L2.RelV x v) (ry : L2.RelV y u) (e : eqNil h a b = some k) :
    SeqAt.RcAt X.A s v u k ∧ SeqAt.RcNeAt X.A s v u (!k) := by
  obtain ⟨xs, ys, e1, e2, e3, rfl⟩ := eqNil_some e
  obtain ⟨p, vs, rfl, p1, p2⟩ := ra.list rh e1
  obtain ⟨q, ws, rfl, q1, q2⟩ := rb.list rh e2
  cases (show v = Value.ref p from rx)
  cases (show u = Value.ref q from ry)
  obtain ⟨is, r1, l1, z1⟩ := I.list p1
  obtain ⟨js, r2, l2, z2⟩ := I.list q1
  have n1 : xs.length = is.length := by rw [p2.length, r1.length]
  have n2 : ys.length = js.length := by rw [q2.length, r2.length]
  refine nil_eq l1.isList l2.isList (by omega) ?_ ?_
  · rcases e3 with rfl | rfl
    · left; simpa using n1.symm
    · right; simpa using n2.symm
  · simp only [List.size_toArray, ← n1, ← n2]
    rcases e3 with rfl | rfl
    · cases ys <;> simp
    · cases xs <;> simp
theorem c_eq (hu : X.A.units + 64 < cLine) : OpR X (compareOp .Eq) (r2b X.K L eqT) := by
  intro pins s σ H x y v u Q I rx ry ⟨μ, h, a, b, k, rh, ra, rb, e, q⟩
  unfold eqT at e
  split at e
  · rename_i e0
    cases e
    exact (eqNil_ok hu I rh ra rb rx ry e0).1 X.prog X.w _ _ ⟨.bl _, H, I, rfl, q⟩
  simp only [eqD, Option.bind_eq_some_iff] at e
  obtain ⟨d, e1, d', e2, e3⟩ := e
  split at e3
  · cases e3
    obtain ⟨as, r1⟩ := Dp.reads I d x v (ra.dp rh e1) rx
    obtain ⟨bs, r2⟩ := Dp.reads I d' y u (rb.dp rh e2) ry
    exact SeqAt.eq_plain r1 r2 (TV.toD_plain e1) (TV.toD_plain e2) (by omega) ⟨.bl _, H, I, rfl, q⟩
  · cases e3
theorem c_ne (hu : X.A.units + 64 < cLine) : OpR X (compareOp .NotEq) (r2b X.K L fun h a b => (eqT h a b).map (!·)) := by
  intro pins s σ H x y v u Q I rx ry ⟨μ, h, a, b, k, rh, ra, rb, e, q⟩
  obtain ⟨k', e5, e4⟩ := Option.map_eq_some_iff.mp e
  clear e
  cases e4
  unfold eqT at e5
  have e := e5
  clear e5
  split at e
  · rename_i e0
    cases e
    exact (eqNil_ok hu I rh ra rb rx ry e0).2 X.prog X.w _ _ ⟨.bl _, H, I, rfl, q⟩
  simp only [eqD, Option.bind_eq_some_iff] at e
  obtain ⟨d, e1, d', e2, e3⟩ := e
  split at e3
  · cases e3
    obtain ⟨as, r1⟩ := Dp.reads I d x v (ra.dp rh e1) rx
    obtain ⟨bs, r2⟩ := Dp.reads I d' y u (rb.dp rh e2) ry
    exact SeqAt.ne_plain r1 r2 (TV.toD_plain e1) (TV.toD_plain e2) (by omega) ⟨.bl _, H, I, rfl, q⟩
  · cases e3
theorem noneD_ne {d : PyData} (h : ltT.MV.noneD d = false) : d ≠ .none := fun e => by subst e; cases h
theorem c_lt (hu : X.A.units + 64 < cLine) : OpR X (compareOp .Lt) (r2b X.K L ltT) := by
  intro pins s σ H x y v u Q I rx ry ⟨μ, h, a, b, k, rh, ra, rb, e, q⟩
  simp only [ltT, Option.bind_eq_some_iff] at e
  obtain ⟨d, e1, d', e2, e3⟩ := e
  split at e3
  · rename_i z
    cases e3
    simp only [Bool.and_eq_true, Bool.not_eq_true', decide_eq_true_eq] at z
    obtain ⟨as, r1⟩ := Dp.reads I d x v (ra.dp rh e1) rx
    obtain ⟨bs, r2⟩ := Dp.reads I d' y u (rb.dp rh e2) ry
    exact W.lt_data r1 r2 z.1 (noneD_ne z.2.1) (by omega) ⟨.bl _, H, I, rfl, q⟩
  · cases e3
theorem icmp_cases {f : Int → Int → Bool} {a b : TV} {k : Bool} (e : icmp f a b = some k) : ∃ i j, a = .v (.int i) ∧ b = .v (.int j) ∧ k = f i j := by
  unfold icmp at e
  split at e
  · exact ⟨_, _, rfl, rfl, (Option.some.inj e).symm⟩
  · cases e
theorem c_gt : OpR X (compareOp .Gt) (r2b X.K L fun _ => icmp fun i j => decide (j < i)) := by
  intro pins s σ H x y v u Q I rx ry ⟨μ, h, a, b, k, rh, ra, rb, e, q⟩
  obtain ⟨i, j, rfl, rfl, rfl⟩ := icmp_cases e
  cases ra with | v ra => cases ra; cases rb with | v rb => cases rb; exact op_gt pins s σ H _ _ v u Q I rx ry ⟨_, _, rfl, rfl, q⟩
theorem c_le : OpR X (compareOp .LtE) (r2b X.K L fun _ => icmp fun i j => decide (i ≤ j)) := by
  intro pins s σ H x y v u Q I rx ry ⟨μ, h, a, b, k, rh, ra, rb, e, q⟩
  obtain ⟨i, j, rfl, rfl, rfl⟩ := icmp_cases e
  cases ra with | v ra => cases ra; cases rb with | v rb => cases rb; exact op_le pins s σ H _ _ v u Q I rx ry ⟨_, _, rfl, rfl, q⟩
theorem c_ge : OpR X (compareOp .GtE) (r2b X.K L fun _ => icmp fun i j => decide (j ≤ i)) := by
  intro pins s σ H x y v u Q I rx ry ⟨μ, h, a, b, k, rh, ra, rb, e, q⟩
  obtain ⟨i, j, rfl, rfl, rfl⟩ := icmp_cases e
  cases ra with | v ra => cases ra; cases rb with | v rb => cases rb; exact op_ge pins s σ H _ _ v u Q I rx ry ⟨_, _, rfl, rfl, q⟩
theorem RV.non_iff {K : PySem.W.Frag} {μ : List Addr} {H : Hp} {x : MV} {z : V} {k : Bool} (r : RV K μ H x z) (e : isT (.v x) (.v .non) = some k) : decide (z = .non) = k := by
  cases r <;> simp only [isT, Option.some.injEq] at e <;> subst e <;> simp
theorem RT.non_of {K : PySem.W.Frag} {μ : List Addr} {H : Hp} {a : TV} {x y : V} {k : Bool} (ra : RT K μ H a x) (rb : RT K μ H (.v .non) y) (e : isT a (.v .non) = some k) : y = .non ∧ decide (x = .non) = k := by
  cases rb with | v rb =>
    cases rb
    refine ⟨rfl, ?_⟩
    cases ra with
    | v r => exact r.non_iff e
    | _ => cases e
theorem isT_cases {a b : TV} {k : Bool} (e : isT a b = some k) : b = .v .non ∨ ∃ i j, a = .v (.bl i) ∧ b = .v (.bl j) ∧ k = decide (i = j) := by
  unfold isT at e
  split at e
  · exact .inl rfl
  · exact .inr ⟨_, _, rfl, rfl, (Option.some.inj e).symm⟩
  · cases e
theorem c_is : OpR X (compareOp .Is) (r2b X.K L fun _ => isT) := by
  intro pins s σ H x y v u Q I rx ry ⟨μ, h, a, b, k, rh, ra, rb, e, q⟩
  rcases isT_cases e with rfl | ⟨i, j, rfl, rfl, rfl⟩
  · obtain ⟨e1, e2⟩ := ra.non_of rb e
    exact op_isN pins s σ H _ _ v u Q I rx ry ⟨e1, by rw [e2]; exact q⟩
  · cases ra with | v ra => cases ra; cases rb with | v rb => cases rb; exact op_isBl pins s σ H _ _ v u Q I rx ry ⟨_, _, rfl, rfl, q⟩
theorem c_isnot : OpR X (compareOp .IsNot) (r2b X.K L fun _ a b => (isT a b).map (!·)) := by
  intro pins s σ H x y v u Q I rx ry ⟨μ, h, a, b, k, rh, ra, rb, e, q⟩
  simp only [Option.map_eq_some_iff] at e
  obtain ⟨k', e, rfl⟩ := e
  rcases isT_cases e with rfl | ⟨i, j, rfl, rfl, rfl⟩
  · obtain ⟨e1, e2⟩ := ra.non_of rb e
    exact op_notN pins s σ H _ _ v u Q I rx ry ⟨e1, by rw [e2]; exact q⟩
  · cases ra with | v ra => cases ra; cases rb with | v rb => cases rb; exact op_notBl pins s σ H _ _ v u Q I rx ry ⟨_, _, rfl, rfl, q⟩
/-! in -/
def r2n (K : PySem.W.Frag) (L : List Nat) (neg : Bool) : R2 := fun x y H Q => ∃ μ h a b k, RH K L μ h H ∧ RV K μ H a x ∧ RT K μ H b y ∧ inT h a b = some k ∧ Q (.bl (if neg then !k else k)) H
theorem keyOf_V {K : PySem.W.Frag} {μ : List Addr} {H : Hp} {a : MV} {x : V} {k : Key} (r : RV K μ H a x) (e : keyOf a = some k) : x = kV k := by
  cases r <;> simp only [keyOf, Option.some.injEq, reduceCtorEq] at e <;> (subst e; rfl)
theorem keysOf_V {K : PySem.W.Frag} {μ : List Addr} {H : Hp} : ∀ {a : List MV} {x : List V} {k : List Key}, RVs K μ H a x → keysOf a = some k → x = k.map kV
  | _, _, _, .nil, e => by simp only [keysOf, Option.some.injEq] at e; subst e; rfl
  | _, _, _, .cons r t, e => by
    simp only [keysOf, Option.bind_eq_some_iff, Option.map_eq_some_iff] at e
    obtain ⟨k, e1, ks, e2, rfl⟩ := e
    rw [keyOf_V r e1, keysOf_V t e2, List.map_cons]
theorem RKs.look {κ : Type} [DecidableEq κ] {K : PySem.W.Frag} {μ : List Addr} {H : Hp} (k : κ) : ∀ {xs : List (κ × MV)} {vs : List (κ × V)}, RKs K μ H xs vs →
    (∀ x, getK xs k = some x → ∃ z, valV vs k = some z ∧ RV K μ H x z) ∧ (valV vs k).isSome = (getK xs k).isSome
  | _, _, .nil => ⟨fun x e => (by cases e), rfl⟩
  | _, _, .cons (k := k') (x := x') (v := v') r t => by
    by_cases c : k' = k
    · subst c
      rw [valV_pos (p := (k', v')) rfl]
      simp only [getK, if_pos]
      exact ⟨fun x e => ⟨_, rfl, (by cases e; exact r)⟩, rfl⟩
    · rw [valV_neg (p := (k', v')) c]
      simp only [getK, if_neg c]
      exact t.look k
theorem dk_at {K : PySem.W.Frag} {L : List Nat} {μ : List Addr} {H : Hp} {i : Nat} {a : Addr} {kvs : List (Key × MV)} (r : RO K L μ H i a (.dk kvs)) : ∃ ws, Rd H a (.dK ws) ∧ RKs K μ H kvs ws := by
  obtain ⟨ws, e, q⟩ := r
  refine ⟨ws, ?_, q⟩
  split at e
  · obtain ⟨od, e⟩ := e; exact .inr ⟨od, e⟩
  · exact .inl e
theorem dt_at {K : PySem.W.Frag} {L : List Nat} {μ : List Addr} {H : Hp} {i : Nat} {a : Addr} {kvs : List (List Key × MV)} (r : RO K L μ H i a (.dt kvs)) : ∃ ws, Rd H a (.dT ws) ∧ RKs K μ H kvs ws := by
  obtain ⟨ws, e, q⟩ := r
  refine ⟨ws, ?_, q⟩
  split at e
  · obtain ⟨od, e⟩ := e; exact .inr ⟨od, e⟩
  · exact .inl e
/-- x in a list, a tuple -/
theorem in_dat {K : PySem.W.Frag} {pins : List (Addr × Obj)} {s : Shared} {σ : L2.St} {H : Hp} {x : V} {p : Addr} {v : Value} {μ : List Addr} {a : MV} {xs : List MV} {vs : List V} {k : Bool} {Q : Value → Shared → Prop} {E : Value → Shared → Prop} (neg : Bool) (eK : K = X.K)
    (hu : X.A.units + 64 < cLine) (I : L2.Inv X pins σ H s) (rx : L2.RelV x v) (ra : RV K μ H a x) (rs : SqL K H p vs ∨ SqT K H p vs) (rv : RVs K μ H xs vs) (e : inL a xs = some k) (q : Q (.bool (if neg then !k else k)) s) :
    wpAny (model X.prog X.w) X.A (compareOp (if neg then .NotIn else .In) v (.ref p)) Q E s := by
  subst eK
  simp only [inL, Option.bind_eq_some_iff] at e
  obtain ⟨d, e1, ds, e2, e3⟩ := e
  split at e3
  · cases e3
    obtain ⟨as, r1⟩ := Dp.reads I d x v (ra.dp e1) rx
    have P1 := MV.toD_plain e1
    have P2 := MV.toDs_plain e2
    rcases rs with rs | rs
    · obtain ⟨bs, r2⟩ := Dp.reads I (.list ds) (.ref p) (.ref p) (.lst rs (rv.dp e2)) rfl
      cases neg
      · exact SeqAt.in_list_data r2 r1 P2 P1 (by omega) q
      · exact SeqAt.notIn_list_data r2 r1 P2 P1 (by omega) q
    · obtain ⟨bs, r2⟩ := Dp.reads I (.tuple ds) (.ref p) (.ref p) (.tup rs (rv.dp e2)) rfl
      cases neg
      · exact SeqAt.in_tuple_data r2 r1 P2 P1 (by omega) q
      · exact SeqAt.notIn_tuple_data r2 r1 P2 P1 (by omega) q
  · cases e3
theorem c_in_ (neg : Bool) (hu : X.A.units + 64 < cLine) : OpR X (compareOp (if neg then .NotIn else .In)) (r2n X.K L neg) := by
  intro pins s σ H x y v u Q I rx ry ⟨μ, h, a, b, k, rh, ra, rb, e, q⟩
  have fin : ∀ {s'}, L2.Inv X pins σ H s' → EP X pins σ Q (.bool (if neg then !k else k)) s' := fun I' => ⟨.bl _, H, I', rfl, q⟩
  have dict : ∀ {p : Addr} {o : Option V}, u = .ref p → DGet H p x o → k = o.isSome → wpAny (model X.prog X.w) X.A (compareOp (if neg then .NotIn else .In) v u) (EP X pins σ Q) X.xe s := by
    intro p o eu g ek
    subst eu ek
    cases neg
    · exact d_in (by omega) I g rx fun s' I' => fin I'
    · exact d_notIn (by omega) I g rx fun s' I' => fin I'
  unfold inT at e
  split at e
  · cases rb with | v rb =>
      cases rb
      split at e
      · cases ra
        cases e
        cases neg
        · exact op_in_str pins s σ H _ _ v u Q I rx ry ⟨_, _, rfl, rfl, q⟩
        · exact op_notin_str pins s σ H _ _ v u Q I rx ry ⟨_, _, rfl, rfl, q⟩
      · cases e
  · cases rb with | v rb =>
      have rb' := rb
      cases rb with | ref e2 =>
      cases (show u = Value.ref _ from ry)
      split at e
      · rename_i q1
        simp only [Option.map_eq_some_iff] at e
        obtain ⟨k', e3, e4⟩ := e
        obtain ⟨ws, r1, r2⟩ := dk_at (rh.ro q1 e2)
        refine dict rfl (.inl ⟨ws, k', r1, keyOf_V ra e3, rfl⟩) ?_
        rw [(r2.look k').2, e4]
      · rename_i q1
        split at e
        · simp only [Option.map_eq_some_iff] at e
          obtain ⟨k', e3, e4⟩ := e
          cases ra with | tup a1 a2 =>
          obtain ⟨ws, r1, r2⟩ := dt_at (rh.ro q1 e2)
          rw [keysOf_V a2 e3] at a1
          refine dict rfl (.inr ⟨ws, k', _, r1, rfl, a1, rfl⟩) ?_
          rw [(r2.look k').2, e4]
        · cases e
      · simp only [Option.bind_eq_some_iff] at e
        obtain ⟨xs, e3, e4⟩ := e
        obtain ⟨p, vs, ep, h1, h2⟩ := (RT.v rb').list rh e3
        cases ep
        exact in_dat neg rfl hu I rx ra (.inl h1) h2 e4 (fin I)
  · cases rb with | v rb => cases rb with | tup b1 b2 =>
      cases (show u = Value.ref _ from ry)
      exact in_dat neg rfl hu I rx ra (.inr (.inl (.inl b1))) b2 e (fin I)
  · cases rb with | t n h1 h2 =>
      cases (show u = Value.ref _ from ry)
      exact in_dat neg rfl hu I rx ra (.inl (.inl (.inl h1))) h2 e (fin I)
  · cases rb with | c h1 h2 =>
      cases (show u = Value.ref _ from ry)
      exact in_dat neg rfl hu I rx ra (.inr h1) h2 e (fin I)
  · cases e
theorem inTV_v {h : MH} {a b : TV} {k : Bool} (e : inTV h a b = some k) : ∃ x, a = .v x ∧ inT h x b = some k := by
  unfold inTV at e
  split at e
  · exact ⟨_, rfl, e⟩
  · cases e
/-- any comparison -/
theorem c_cmp (hu : X.A.units + 64 < cLine) (op : CmpOp) : OpR X (compareOp op) (r2b X.K L fun h => cmpT h op) := by
  cases op with
  | Eq => exact c_eq hu
  | NotEq => exact c_ne hu
  | Lt => exact c_lt hu
  | LtE => exact c_le
  | Gt => exact c_gt
  | GtE => exact c_ge
  | Is => exact c_is
  | IsNot => exact c_isnot
  | In =>
    intro pins s σ H x y v u Q I rx ry ⟨μ, h, a, b, k, rh, ra, rb, e, q⟩
    obtain ⟨x', rfl, e⟩ := inTV_v (show inTV h a b = some k from e)
    cases ra with | v ra => exact c_in_ (L := L) false hu pins s σ H _ _ v u Q I rx ry ⟨μ, h, _, b, k, rh, ra, rb, e, q⟩
  | NotIn =>
    intro pins s σ H x y v u Q I rx ry ⟨μ, h, a, b, k, rh, ra, rb, e, q⟩
    obtain ⟨k', e', rfl⟩ := Option.map_eq_some_iff.mp (show (inTV h a b).map (!·) = some k from e)
    obtain ⟨x', rfl, e2⟩ := inTV_v e'
    cases ra with | v ra => exact c_in_ (L := L) true hu pins s σ H _ _ v u Q I rx ry ⟨μ, h, _, b, k', rh, ra, rb, e2, q⟩

/-! ### truth -/
theorem RT.tru {K : PySem.W.Frag} {μ : List Addr} {h : MH} {H : Hp} {a : TV} {x : V} {k : Bool} (rh : RH K L μ h H) (ra : RT K μ H a x) (e : MP.tru h a = some k) : TruV K x H k := by
  unfold MP.tru at e
  split at e
  · cases ra with | v ra => cases ra; cases e; rfl
  · cases ra with | v ra => cases ra; cases e; rfl
  · cases ra with | v ra => cases ra; cases e; rfl
  · cases ra with | v ra =>
      cases ra
      split at e
      · cases e; exact ⟨by assumption, rfl⟩
      · cases e
  · cases ra with | v ra => cases ra with | tup a1 a2 =>
      cases e
      exact .inr (.inl ⟨_, .inl (.inl a1), by rw [a2.isEmpty]⟩)
  · cases ra with | t n a1 a2 =>
      cases e
      exact .inl ⟨_, .inl (.inl a1), by rw [a2.isEmpty]⟩
  · cases ra with | c a1 a2 =>
      cases e
      exact .inr (.inl ⟨_, a1, by rw [a2.isEmpty]⟩)
  · cases ra with | v ra => cases ra with | ref e2 =>
      split at e
      · rename_i q1
        cases e
        obtain ⟨vs, a1, a2⟩ := rh.ro q1 e2
        exact .inl ⟨_, .inl (.inl a1), by rw [a2.isEmpty]⟩
      · rename_i q1
        cases e
        obtain ⟨od, a1⟩ := rh.ro q1 e2
        exact .inl ⟨_, .inl (.inr ⟨od, a1⟩), by cases ‹List Int› <;> rfl⟩
      · cases e
end
end MP

set_option linter.all false
set_option autoImplicit false
/-! MiniPy: expressions, rule by rule. -/
namespace MP
open PySem PyProof.Rows L2

section
variable {X : Cx} {T : XT} {L : List Nat} {W : WX}
abbrev QT (X : Cx) (T : XT) (L : List Nat) (W : WX) (e : Expr) (d : MS → MH → Res TV) : Prop := PE X e (tT X.K T L W d)
abbrev QV (X : Cx) (T : XT) (L : List Nat) (W : WX) (e : Expr) (d : MS → MH → Res MV) : Prop := PE X e (tV X.K T L W d)
abbrev QB (X : Cx) (T : XT) (L : List Nat) (W : WX) (e : Expr) (d : MS → MH → Res Bool) : Prop := PT X e (tB X.K T L W d)
abbrev QVs (X : Cx) (T : XT) (L : List Nat) (W : WX) (e : List Expr) (d : MS → MH → Res (List MV)) : Prop := PA X e (tVs X.K T L W d)
abbrev QTs (X : Cx) (T : XT) (L : List Nat) (W : WX) (e : List Expr) (d : MS → MH → Res (List TV)) : Prop := PA X e (tTs X.K T L W d)

theorem Post.ok {K : PySem.W.Frag} {α β : Type} {G : α → List Addr → Hp → β → Prop} {μ : List Addr} {H : Hp} {Wx : XK} {Q : β → Hp → Prop} {a : α} {h : MH} {z : β} (p : Post K T L G μ H Wx Q (.ok a h)) (rh : RH K L μ h H) (g : G a μ H z) : Q z H := p μ H z (Ext.refl μ H) rh g

theorem Post.rtn {K : PySem.W.Frag} {H0 H1 : Hp} {μ : List Addr} {H : Hp} {Wx : XK} {Q : V → Hp → Prop} {r : Res TV} (p : Post K T L (RTn K H0) μ H Wx Q r) (d : ∀ a, H1 a = none → H0 a = none) : Post K T L (RTn K H1) μ H Wx Q r := by
  cases r with
  | ok a h => exact fun μ' H' z x y g => p μ' H' z x y ⟨g.1, fun xs q e1 e2 => d _ (g.2 xs q e1 e2)⟩
  | exc c vs h => exact p
  | bad => exact p
theorem e_lit {j pos} {v : MV} {c : Const} (hv : (c = .none ∧ v = .non) ∨ (∃ b, c = .bool b ∧ v = .bl b) ∨ (∃ i, c = .int i ∧ v = .int i) ∨ ∃ z, c = .str z ∧ v = .str z) : QT X T L W (.Constant c j pos) (fun _ h => .ok (.v v) h) := by
  rcases hv with ⟨rfl, rfl⟩ | ⟨b, rfl, rfl⟩ | ⟨i, rfl, rfl⟩ | ⟨z, rfl, rfl⟩
  · exact PE.imp pe_non fun σ H Q ⟨μ, h, σm, ri, p⟩ => p.ok ri.h ⟨.v .non, fun _ _ e => nomatch e⟩
  · exact PE.imp pe_bl fun σ H Q ⟨μ, h, σm, ri, p⟩ => p.ok ri.h ⟨.v (.bl _), fun _ _ e => nomatch e⟩
  · exact PE.imp pe_int fun σ H Q ⟨μ, h, σm, ri, p⟩ => p.ok ri.h ⟨.v (.int _), fun _ _ e => nomatch e⟩
  · exact PE.imp pe_str fun σ H Q ⟨μ, h, σm, ri, p⟩ => p.ok ri.h ⟨.v (.str _), fun _ _ e => nomatch e⟩
theorem e_var {i : Nat} {x : Str} {pos : Pos} (hN : X.N[i]? = some x) (hv : Vis X.env.scope x) (hd : (x == ("__debug__" : Str)) = false) (hcd : (x == ("__classdict__" : Str)) = false) :
    QT X T L W (.Name x pos) (fun σ h => match σ[i]? with
      | some (some v) => .ok (.v v) h
      | _ => .bad) := by
  refine PE.imp (pe_var hN hv hd hcd) fun σ H Q ⟨μ, h, σm, ri, p⟩ => ?_
  cases e : σm[i]? with
  | none => simp only [e] at p; exact p.elim
  | some o => cases o with
    | none => simp only [e] at p; exact p.elim
    | some v =>
      simp only [e] at p
      obtain ⟨z, e1, r⟩ := ri.s.get i v e
      exact ⟨z, e1, p.ok ri.h ⟨.v r, fun _ _ e => nomatch e⟩⟩
theorem e_bin {a b : Expr} {op : Operator} {pos : Pos} {ea eb : MS → MH → Res TV} {g : MH → TV → TV → Option TV} (ho : OpR X (binaryOp op) (r2 X.K L g)) (ha : QT X T L W a ea) (hb : QT X T L W b eb) :
    QT X T L W (.BinOp a op b pos) (fun σ h => (ea σ h).bind fun x h => (eb σ h).bind fun y h => Res.of h (g h x y)) := by
  refine PE.imp (pe_op ho ha hb) fun σ H Q ⟨μ, h, σm, ri, p⟩ => ?_
  exact ⟨μ, h, σm, ri, (Post.bind p).imp fun x H1 ⟨a, h1, μ1, e1, rh1, ra, p1⟩ => ⟨μ1, h1, σm, ri.mono e1 rh1, (Post.bind p1).imp fun y H2 ⟨b, h2, μ2, e2, rh2, rb, p2⟩ =>
    let ⟨tv, etv, f⟩ := Post.of p2; ⟨μ2, h2, H, a, b, tv, rh2, ra.1.mono e2, rb.1, fun _ z => e1.dom _ (e2.dom _ z), etv, f⟩⟩⟩
theorem e_neg {a : Expr} {pos : Pos} {ea : MS → MH → Res TV} (ha : QT X T L W a ea) : QT X T L W (.UnaryOp .USub a pos) (fun σ h => (ea σ h).bind fun x h => (match x with
    | .v (.int i) => .ok (.v (.int (-i))) h
    | _ => .bad)) := by
  refine PE.imp (pe_un (b_neg (L := L)) ha) fun σ H Q ⟨μ, h, σm, ri, p⟩ => ?_
  refine ⟨μ, h, σm, ri, (Post.bind p).imp fun x H1 ⟨a, h1, μ1, e1, rh1, ra, p1⟩ => ?_⟩
  split at p1
  · exact ⟨μ1, h1, _, ra.1, rh1, fun H0 μ' H' z x y g => p1 μ' H' z x y ⟨g.1, fun _ _ e => nomatch e⟩⟩
  · exact p1.elim
theorem e_not {a : Expr} {pos : Pos} {ea : MS → MH → Res TV} (ha : QT X T L W a ea) : QT X T L W (.UnaryOp .Not a pos) (fun σ h => (ea σ h).bind fun x h => (Res.of h (tru h x)).bind fun k h => .ok (.v (.bl (!k))) h) := by
  refine PE.imp (pe_notT ha) fun σ H Q ⟨μ, h, σm, ri, p⟩ => ?_
  refine ⟨μ, h, σm, ri, (Post.bind p).imp fun x H1 ⟨a, h1, μ1, e1, rh1, ra, p1⟩ => ?_⟩
  obtain ⟨k, ek, p2⟩ := Post.of_bind p1
  exact ⟨k, ra.1.tru rh1 ek, p2.ok rh1 ⟨.v (.bl _), fun _ _ e => nomatch e⟩⟩
theorem e_and {a b : Expr} {rest : List Expr} {pos : Pos} {ea eb : MS → MH → Res TV} (ha : QT X T L W a ea) (hb : QT X T L W (.BoolOp .And (b :: rest) pos) eb) :
    QT X T L W (.BoolOp .And (a :: b :: rest) pos) (fun σ h => (ea σ h).bind fun x h => (Res.of h (tru h x)).bind fun k h => if k then eb σ h else .ok x h) := by
  refine PE.imp (pe_andT ha hb) fun σ H Q ⟨μ, h, σm, ri, p⟩ => ?_
  refine ⟨μ, h, σm, ri, (Post.bind p).imp fun x H1 ⟨a, h1, μ1, e1, rh1, ra, p1⟩ => ?_⟩
  obtain ⟨k, ek, p2⟩ := Post.of_bind p1
  refine ⟨k, ra.1.tru rh1 ek, ?_⟩
  cases k with
  | true =>
    simp only [if_true] at p2 ⊢
    exact ⟨μ1, h1, σm, ri.mono e1 rh1, p2.rtn e1.dom⟩
  | false =>
    simp only [Bool.false_eq_true, if_false] at p2 ⊢
    exact p2.ok rh1 ra
theorem e_or {a b : Expr} {rest : List Expr} {pos : Pos} {ea eb : MS → MH → Res TV} (ha : QT X T L W a ea) (hb : QT X T L W (.BoolOp .Or (b :: rest) pos) eb) :
    QT X T L W (.BoolOp .Or (a :: b :: rest) pos) (fun σ h => (ea σ h).bind fun x h => (Res.of h (tru h x)).bind fun k h => if k then .ok x h else eb σ h) := by
  refine PE.imp (pe_orT ha hb) fun σ H Q ⟨μ, h, σm, ri, p⟩ => ?_
  refine ⟨μ, h, σm, ri, (Post.bind p).imp fun x H1 ⟨a, h1, μ1, e1, rh1, ra, p1⟩ => ?_⟩
  obtain ⟨k, ek, p2⟩ := Post.of_bind p1
  refine ⟨k, ra.1.tru rh1 ek, ?_⟩
  cases k with
  | false =>
    simp only [Bool.false_eq_true, if_false] at p2 ⊢
    exact ⟨μ1, h1, σm, ri.mono e1 rh1, p2.rtn e1.dom⟩
  | true =>
    simp only [if_true] at p2 ⊢
    exact p2.ok rh1 ra
theorem e_ite {c a b : Expr} {pos : Pos} {ec : MS → MH → Res Bool} {ea eb : MS → MH → Res TV} (hc : QB X T L W c ec) (ha : QT X T L W a ea) (hb : QT X T L W b eb) :
    QT X T L W (.IfExp c a b pos) (fun σ h => (ec σ h).bind fun k h => if k then ea σ h else eb σ h) := by
  refine PE.imp (pe_ifExp hc ha hb) fun σ H Q ⟨μ, h, σm, ri, p⟩ => ?_
  refine ⟨μ, h, σm, ri, (Post.bind p).imp fun x H1 ⟨a, h1, μ1, e1, rh1, ra, p1⟩ => ?_⟩
  subst ra
  cases a with
  | true =>
    simp only [if_true] at p1 ⊢
    exact ⟨μ1, h1, σm, ri.mono e1 rh1, p1.rtn e1.dom⟩
  | false =>
    simp only [Bool.false_eq_true, if_false] at p1 ⊢
    exact ⟨μ1, h1, σm, ri.mono e1 rh1, p1.rtn e1.dom⟩
abbrev dCmp (g : MH → TV → TV → Option Bool) (ea eb : MS → MH → Res TV) : MS → MH → Res TV := fun σ h => (ea σ h).bind fun x h => (eb σ h).bind fun y h => (Res.of h (g h x y)).bind fun k h => .ok (.v (.bl k)) h
theorem dCmp_ok {g : MH → TV → TV → Option Bool} {ea eb : MS → MH → Res TV} {σ : L2.St} {H : Hp} {Q : VK} (q : tT X.K T L W (dCmp g ea eb) σ H Q) : tOp (r2b X.K L g) (tT X.K T L W ea) (tT X.K T L W eb) σ H Q := by
  obtain ⟨μ, h, σm, ri, p⟩ := q
  exact ⟨μ, h, σm, ri, (Post.bind p).imp fun x H1 ⟨a, h1, μ1, e1, rh1, ra, p1⟩ => ⟨μ1, h1, σm, ri.mono e1 rh1, (Post.bind p1).imp fun y H2 ⟨b, h2, μ2, e2, rh2, rb, p2⟩ =>
    let ⟨k, ek, p3⟩ := Post.of_bind p2; ⟨μ2, h2, a, b, k, rh2, ra.1.mono e2, rb.1, ek, p3.ok rh2 ⟨.v (.bl _), fun _ _ e => nomatch e⟩⟩⟩⟩
theorem e_cmp {a b : Expr} {op : CmpOp} {pos : Pos} {ea eb : MS → MH → Res TV} {g : MH → TV → TV → Option Bool} (ho : OpR X (compareOp op) (r2b X.K L g)) (ha : QT X T L W a ea) (hb : QT X T L W b eb) (hm : behindInMarks op b = false) :
    QT X T L W (.Compare a [op] [b] pos) (dCmp g ea eb) := PE.imp (pe_cmpR ho ha hb hm) fun _ _ _ => dCmp_ok
theorem tB_val {d : MS → MH → Res TV} {σ : L2.St} {H : Hp} {Q : Bool → Hp → Prop} (q : tB X.K T L W (fun σ h => (d σ h).bind fun x h => Res.of h (tru h x)) σ H Q) : tT X.K T L W d σ H (fun x H' => ∃ k, TruV X.K x H' k ∧ Q k H') := by
  obtain ⟨μ, h, σm, ri, p⟩ := q
  refine ⟨μ, h, σm, ri, (Post.bind p).imp fun x H1 ⟨a, h1, μ1, e1, rh1, ra, p1⟩ => ?_⟩
  obtain ⟨k, ek, f⟩ := Post.of p1
  exact ⟨k, ra.1.tru rh1 ek, f μ1 H1 k (Ext.refl _ _) rh1 rfl⟩
/-- any expression whose test is its truth -/
theorem b_truth {a : Expr} {ea : MS → MH → Res TV} (ha : QT X T L W a ea) (he : ∀ whole, PySem.isTrue a X.env whole = (do let v ← whole; standAt a.pos; holding [v] (truthy v))) :
    QB X T L W a (fun σ h => (ea σ h).bind fun x h => Res.of h (tru h x)) := PT.imp (pt_truth ha he) fun _ _ _ => tB_val
/-- that gives a truth value alone -/
def BoolD (d : MS → MH → Res TV) : Prop := ∀ σ h a h', d σ h = .ok a h' → ∃ k, a = .v (.bl k)
theorem tB_bool {d : MS → MH → Res TV} (hb : BoolD d) {σ : L2.St} {H : Hp} {Q : Bool → Hp → Prop} (q : tB X.K T L W (fun σ h => (d σ h).bind fun x h => Res.of h (tru h x)) σ H Q) : tT X.K T L W d σ H (fun x H' => ∃ k, x = .bl k ∧ Q k H') := by
  obtain ⟨μ, h, σm, ri, p⟩ := q
  refine ⟨μ, h, σm, ri, ?_⟩
  cases e : d σm h with
  | ok a h1 =>
    obtain ⟨k, rfl⟩ := hb _ _ _ _ e
    simp only [e, Res.bind_ok, tru, Res.of_some] at p
    intro μ' H' z x y g
    cases g.1 with | v r => cases r; exact ⟨k, rfl, p μ' H' k x y rfl⟩
  | exc c vs h1 => simp only [e, Res.bind_exc] at p; exact p
  | bad => simp only [e, Res.bind_bad] at p; exact p
theorem boolD_cmp {g : MH → TV → TV → Option Bool} {ea eb : MS → MH → Res TV} : BoolD (dCmp g ea eb) := fun σ h a h' e => by
  cases e1 : ea σ h with
  | ok x h1 =>
    simp only [dCmp, e1, Res.bind_ok] at e
    cases e2 : eb σ h1 with
    | ok y h2 =>
      simp only [e2, Res.bind_ok] at e
      cases e3 : g h2 x y with
      | none => simp [e3] at e
      | some k => simp only [e3, Res.of_some, Res.bind_ok, Res.ok.injEq] at e; exact ⟨k, e.1.symm⟩
    | exc c vs h2 => simp [e2] at e
    | bad => simp [e2] at e
  | exc c vs h2 => simp [dCmp, e1] at e
  | bad => simp [dCmp, e1] at e
theorem b_cmp {a b : Expr} {op : CmpOp} {pos : Pos} {ea eb : MS → MH → Res TV} {g : MH → TV → TV → Option Bool} (ho : OpR X (compareOp op) (r2b X.K L g)) (ha : QT X T L W a ea) (hb : QT X T L W b eb) (hm : behindInMarks op b = false) :
    QB X T L W (.Compare a [op] [b] pos) (fun σ h => (dCmp g ea eb σ h).bind fun x h => Res.of h (tru h x)) := PT.imp (pt_cmpR ho ha hb hm) fun _ _ _ q => dCmp_ok (tB_bool boolD_cmp q)
abbrev dChain (g g' : MH → TV → TV → Option Bool) (ea eb ec : MS → MH → Res TV) : MS → MH → Res TV := fun σ h => (ea σ h).bind fun x h => (eb σ h).bind fun y h => (Res.of h (g h x y)).bind fun k h =>
    if k then (ec σ h).bind fun z h => (Res.of h (g' h y z)).bind fun k h => .ok (.v (.bl k)) h else .ok (.v (.bl false)) h
theorem dChain_ok {g g' : MH → TV → TV → Option Bool} {ea eb ec : MS → MH → Res TV} {σ : L2.St} {H : Hp} {Q : VK} (q : tT X.K T L W (dChain g g' ea eb ec) σ H Q) : tChain (r2b X.K L g) (r2b X.K L g') (tT X.K T L W ea) (tT X.K T L W eb) (tT X.K T L W ec) σ H Q := by
  obtain ⟨μ, h, σm, ri, p⟩ := q
  refine ⟨μ, h, σm, ri, (Post.bind p).imp fun x H1 ⟨a, h1, μ1, e1, rh1, ra, p1⟩ => ⟨μ1, h1, σm, ri.mono e1 rh1, (Post.bind p1).imp fun y H2 ⟨b, h2, μ2, e2, rh2, rb, p2⟩ => ?_⟩⟩
  obtain ⟨k, ek, p3⟩ := Post.of_bind p2
  refine ⟨μ2, h2, a, b, k, rh2, ra.1.mono e2, rb.1, ek, k, rfl, ?_⟩
  cases k with
  | false =>
    simp only [Bool.false_eq_true, if_false] at p3 ⊢
    exact p3.ok rh2 ⟨.v (.bl _), fun _ _ e => nomatch e⟩
  | true =>
    simp only [if_true] at p3 ⊢
    refine ⟨μ2, h2, σm, (ri.mono e1 rh1).mono e2 rh2, (Post.bind p3).imp fun z H3 ⟨c, h3, μ3, e3, rh3, rc, p4⟩ => ?_⟩
    obtain ⟨k', ek', p5⟩ := Post.of_bind p4
    exact ⟨μ3, h3, b, c, k', rh3, rb.1.mono e3, rc.1, ek', p5.ok rh3 ⟨.v (.bl _), fun _ _ e => nomatch e⟩⟩
theorem e_chain {a b c : Expr} {op op' : CmpOp} {pos : Pos} {ea eb ec : MS → MH → Res TV} {g g' : MH → TV → TV → Option Bool} (ho : OpR X (compareOp op) (r2b X.K L g)) (ho' : OpR X (compareOp op') (r2b X.K L g')) (ha : QT X T L W a ea) (hb : QT X T L W b eb) (hc : QT X T L W c ec)
    (hm : lastMarks [op, op'] [b, c] = false) : QT X T L W (.Compare a [op, op'] [b, c] pos) (dChain g g' ea eb ec) := PE.imp (pe_chain ho ho' ha hb hc hm) fun _ _ _ => dChain_ok
theorem boolD_chain {g g' : MH → TV → TV → Option Bool} {ea eb ec : MS → MH → Res TV} : BoolD (dChain g g' ea eb ec) := fun σ h a h' e => by
  cases e1 : ea σ h with
  | ok x h1 =>
    simp only [dChain, e1, Res.bind_ok] at e
    cases e2 : eb σ h1 with
    | ok y h2 =>
      simp only [e2, Res.bind_ok] at e
      cases e3 : g h2 x y with
      | none => simp [e3] at e
      | some k =>
        simp only [e3, Res.of_some, Res.bind_ok] at e
        cases k with
        | false => simp at e; exact ⟨_, e.1.symm⟩
        | true =>
          simp only [if_true] at e
          cases e4 : ec σ h2 with
          | ok z h3 =>
            simp only [e4, Res.bind_ok] at e
            cases e5 : g' h3 y z with
            | none => simp [e5] at e
            | some k => simp only [e5, Res.of_some, Res.bind_ok, Res.ok.injEq] at e; exact ⟨k, e.1.symm⟩
          | exc c vs h2 => simp [e4] at e
          | bad => simp [e4] at e
    | exc c vs h2 => simp [e2] at e
    | bad => simp [e2] at e
  | exc c vs h2 => simp [dChain, e1] at e
  | bad => simp [dChain, e1] at e
theorem b_chain {a b c : Expr} {op op' : CmpOp} {pos : Pos} {ea eb ec : MS → MH → Res TV} {g g' : MH → TV → TV → Option Bool} (ho : OpR X (compareOp op) (r2b X.K L g)) (ho' : OpR X (compareOp op') (r2b X.K L g')) (ha : QT X T L W a ea) (hb : QT X T L W b eb) (hc : QT X T L W c ec)
    (hm : lastMarks [op, op'] [b, c] = false) : QB X T L W (.Compare a [op, op'] [b, c] pos) (fun σ h => (dChain g g' ea eb ec σ h).bind fun x h => Res.of h (tru h x)) := PT.imp (pt_chain ho ho' ha hb hc hm) fun _ _ _ q => dChain_ok (tB_bool boolD_chain q)
/-! tests of not, and, or -/
theorem tru_bl {h : MH} {b : Bool} : MP.tru h (.v (.bl b)) = some b := rfl
abbrev dTru (d : MS → MH → Res TV) : MS → MH → Res Bool := fun σ h => (d σ h).bind fun x h => Res.of h (tru h x)
theorem b_not {a : Expr} {pos : Pos} {ea : MS → MH → Res TV} (ha : QB X T L W a (dTru ea)) : QB X T L W (.UnaryOp .Not a pos) (dTru fun σ h => (ea σ h).bind fun x h => (Res.of h (tru h x)).bind fun k h => .ok (.v (.bl (!k))) h) := by
  refine PT.imp (pt_not ha) fun σ H Q ⟨μ, h, σm, ri, p⟩ => ?_
  refine ⟨μ, h, σm, ri, ?_⟩
  cases e : ea σm h with
  | ok x h1 =>
    cases e2 : MP.tru h1 x with
    | none => simp only [dTru, e, Res.bind_ok, e2, Res.of_none, Res.bind_bad] at p; exact p.elim
    | some k =>
      simp only [dTru, e, Res.bind_ok, e2, Res.of_some, tru_bl] at p ⊢
      intro μ' H' z x y g
      subst g
      exact p μ' H' _ x y rfl
  | exc c vs h1 => simp only [dTru, e, Res.bind_exc] at p ⊢; exact p
  | bad => simp only [dTru, e, Res.bind_bad] at p; exact p.elim
theorem w_and {a b : Expr} {rest : List Expr} {pos : Pos} {ea eb : MS → MH → Res TV} (ha : QB X T L W a (dTru ea)) (hb : PW X (.BoolOp .And (b :: rest) pos) (tB X.K T L W (dTru eb))) :
    PW X (.BoolOp .And (a :: b :: rest) pos) (tB X.K T L W (dTru fun σ h => (ea σ h).bind fun x h => (Res.of h (tru h x)).bind fun k h => if k then eb σ h else .ok x h)) := by
  refine PW.imp (pw_and ha hb) fun σ H Q ⟨μ, h, σm, ri, p⟩ => ?_
  refine ⟨μ, h, σm, ri, ?_⟩
  cases e : ea σm h with
  | ok x h1 =>
    cases e2 : MP.tru h1 x with
    | none => simp only [dTru, e, Res.bind_ok, e2, Res.of_none, Res.bind_bad] at p; exact p.elim
    | some k =>
      simp only [dTru, e, Res.bind_ok, e2, Res.of_some] at p ⊢
      intro μ' H' z x y g
      subst g
      cases k with
      | true =>
        simp only [if_true] at p ⊢
        exact ⟨μ', h1, σm, ri.mono x y, p.ext x⟩
      | false =>
        simp only [Bool.false_eq_true, if_false, Res.bind_ok, e2, Res.of_some] at p ⊢
        exact p μ' H' _ x y rfl
  | exc c vs h1 => simp only [dTru, e, Res.bind_exc] at p ⊢; exact p
  | bad => simp only [dTru, e, Res.bind_bad] at p; exact p.elim
theorem w_or {a b : Expr} {rest : List Expr} {pos : Pos} {ea eb : MS → MH → Res TV} (ha : QB X T L W a (dTru ea)) (hb : PW X (.BoolOp .Or (b :: rest) pos) (tB X.K T L W (dTru eb))) :
    PW X (.BoolOp .Or (a :: b :: rest) pos) (tB X.K T L W (dTru fun σ h => (ea σ h).bind fun x h => (Res.of h (tru h x)).bind fun k h => if k then .ok x h else eb σ h)) := by
  refine PW.imp (pw_or ha hb) fun σ H Q ⟨μ, h, σm, ri, p⟩ => ?_
  refine ⟨μ, h, σm, ri, ?_⟩
  cases e : ea σm h with
  | ok x h1 =>
    cases e2 : MP.tru h1 x with
    | none => simp only [dTru, e, Res.bind_ok, e2, Res.of_none, Res.bind_bad] at p; exact p.elim
    | some k =>
      simp only [dTru, e, Res.bind_ok, e2, Res.of_some] at p ⊢
      intro μ' H' z x y g
      subst g
      cases k with
      | false =>
        simp only [Bool.false_eq_true, if_false] at p ⊢
        exact ⟨μ', h1, σm, ri.mono x y, p.ext x⟩
      | true =>
        simp only [if_true, Res.bind_ok, e2, Res.of_some] at p ⊢
        exact p μ' H' _ x y rfl
  | exc c vs h1 => simp only [dTru, e, Res.bind_exc] at p ⊢; exact p
  | bad => simp only [dTru, e, Res.bind_bad] at p; exact p.elim
/-! lists of expressions -/
theorem settle_ok {a : Expr} {ea : MS → MH → Res TV} (ha : QT X T L W a ea) : QV X T L W a (fun σ h => (ea σ h).bind settle) := by
  refine PE.imp ha fun σ H Q ⟨μ, h, σm, ri, p⟩ => ⟨μ, h, σm, ri, ?_⟩
  cases e : ea σm h with
  | ok x h1 =>
    simp only [e, Res.bind_ok] at p
    intro μ1 H1 z x1 y g
    cases x with
    | v x => cases g.1 with | v r => exact p μ1 H1 z x1 y r
    | t xs => cases g.1 with | @t _ q vs n e1 r =>
      have n0 := g.2 _ _ rfl rfl
      have X0 : Ex0 μ1 H1 (μ1 ++ [q]) H1 := ⟨⟨_, rfl⟩, fun _ _ h => h, fun _ _ _ h => h⟩
      exact p (μ1 ++ [q]) H1 _ (ext_name n x1 n0) (y.name n ⟨vs, e1, r.mono0 X0⟩) (.ref (by rw [← y.len]; simp))
    | c xs => exact p.elim
  | exc c vs h1 => simp only [e, Res.bind_exc] at p; exact p
  | bad => simp only [e, Res.bind_bad] at p; exact p
theorem vs_nil : QVs X T L W [] (fun _ h => .ok [] h) := PA.imp pa_nil fun σ H Q ⟨μ, h, σm, ri, p⟩ => p.ok ri.h .nil
theorem vs_cons {e : Expr} {es : List Expr} {ea : MS → MH → Res TV} {ds : MS → MH → Res (List MV)} (ha : QT X T L W e ea) (hr : QVs X T L W es ds) (hs : starEach (e :: es) X.env = (false, eval e X.env) :: starEach es X.env) :
    QVs X T L W (e :: es) (fun σ h => ((ea σ h).bind settle).bind fun v h => (ds σ h).bind fun vs h => .ok (v :: vs) h) := by
  refine PA.imp (pa_cons (settle_ok ha) hr hs) fun σ H Q ⟨μ, h, σm, ri, p⟩ => ?_
  exact ⟨μ, h, σm, ri, (Post.bind p).imp fun x H1 ⟨a, h1, μ1, e1, rh1, ra, p1⟩ => ⟨μ1, h1, σm, ri.mono e1 rh1, (Post.bind p1).imp fun y H2 ⟨b, h2, μ2, e2, rh2, rb, p2⟩ => p2.ok rh2 (.cons (ra.mono e2) rb)⟩⟩
theorem ts_nil : QTs X T L W [] (fun _ h => .ok [] h) := PA.imp pa_nil fun σ H Q ⟨μ, h, σm, ri, p⟩ => p.ok ri.h .nil
theorem ts_cons {e : Expr} {es : List Expr} {ea : MS → MH → Res TV} {ds : MS → MH → Res (List TV)} (ha : QT X T L W e ea) (hr : QTs X T L W es ds) (hs : starEach (e :: es) X.env = (false, eval e X.env) :: starEach es X.env) :
    QTs X T L W (e :: es) (fun σ h => (ea σ h).bind fun v h => (ds σ h).bind fun vs h => .ok (v :: vs) h) := by
  refine PA.imp (pa_cons ha hr hs) fun σ H Q ⟨μ, h, σm, ri, p⟩ => ?_
  exact ⟨μ, h, σm, ri, (Post.bind p).imp fun x H1 ⟨a, h1, μ1, e1, rh1, ra, p1⟩ => ⟨μ1, h1, σm, ri.mono e1 rh1, (Post.bind p1).imp fun y H2 ⟨b, h2, μ2, e2, rh2, rb, p2⟩ => p2.ok rh2 (.cons (ra.1.mono e2) rb)⟩⟩
theorem e_tup {es : List Expr} {k : Nat} {pos : Pos} {ds : MS → MH → Res (List MV)} (hs : QVs X T L W es ds) : QT X T L W (.Tuple es k pos) (fun σ h => (ds σ h).bind fun vs h => if vs.length ≤ sizeLine then .ok (.v (.tup vs)) h else .bad) := by
  refine PE.imp (pe_tup hs) fun σ H Q ⟨μ, h, σm, ri, p⟩ => ?_
  refine ⟨μ, h, σm, ri, (Post.bind p).imp fun x H1 ⟨a, h1, μ1, e1, rh1, ra, p1⟩ => ?_⟩
  by_cases c : a.length ≤ sizeLine
  · rw [if_pos c] at p1
    rw [ra.length] at c
    exact ⟨c, fun q n => p1 μ1 _ _ (ext_upd n) (rh1.upd n c) ⟨.v (.tup upd_same (ra.mono (ext_upd n))), fun _ _ e => nomatch e⟩⟩
  · rw [if_neg c] at p1; exact p1.elim
theorem e_lst {es : List Expr} {pos : Pos} {ds : MS → MH → Res (List MV)} (hs : QVs X T L W es ds) : QT X T L W (.List es pos) (fun σ h => (ds σ h).bind fun vs h => if vs.length ≤ sizeLine then .ok (.t vs) h else .bad) := by
  refine PE.imp (pe_lst hs) fun σ H Q ⟨μ, h, σm, ri, p⟩ => ?_
  refine ⟨μ, h, σm, ri, (Post.bind p).imp fun x H1 ⟨a, h1, μ1, e1, rh1, ra, p1⟩ => ?_⟩
  by_cases c : a.length ≤ sizeLine
  · rw [if_pos c] at p1
    rw [ra.length] at c
    exact ⟨c, fun q n => p1 μ1 _ _ (ext_upd n) (rh1.upd n c) ⟨.t (rh1.new n) upd_same (ra.mono (ext_upd n)), fun _ q' _ e => by cases e; exact e1.dom _ n⟩⟩
  · rw [if_neg c] at p1; exact p1.elim
end
end MP

set_option linter.all false
set_option autoImplicit false
/-! MiniPy: subscripts, slices, isinstance. -/
namespace MP
open PySem PyProof.Rows L2

theorem PE.or {X : Cx} {e : Expr} {t u : TE} (h : PE X e t) (g : PE X e u) : PE X e (fun σ H Q => t σ H Q ∨ u σ H Q) :=
  ⟨fun pins s σ H Q I q => q.elim (h.run pins s σ H Q I) (g.run pins s σ H Q I)⟩

/-- as Post.bind, with what came -/
theorem Post.bindE {K : PySem.W.Frag} {T : XT} {L : List Nat} {α β γ δ : Type} {G : α → List Addr → Hp → β → Prop} {G1 : γ → List Addr → Hp → δ → Prop} {μ : List Addr} {H : Hp} {Wx : XK} {Q : β → Hp → Prop} {r : Res γ} {f : γ → MH → Res α} (p : Post K T L G μ H Wx Q (r.bind f)) :
    Post K T L G1 μ H Wx (fun z H1 => ∃ a h1 μ1, r = .ok a h1 ∧ Ext μ H μ1 H1 ∧ RH K L μ1 h1 H1 ∧ G1 a μ1 H1 z ∧ Post K T L G μ1 H1 Wx Q (f a h1)) r := by
  cases r with
  | ok a h' => exact fun μ' H' z x y g => ⟨a, h', μ', rfl, x, y, g, Post.ext p x⟩
  | exc c vs h' => exact p
  | bad => exact p
section
variable {K : PySem.W.Frag} {L : List Nat} {μ : List Addr} {h : MH} {H : Hp}
theorem RVs.atI {xs : List MV} {vs : List V} {i : Int} {x : MV} (r : RVs K μ H xs vs) (e : L2.atI xs i = some x) : ∃ v, L2.atI vs i = some v ∧ RV K μ H x v := by
  unfold L2.atI at e ⊢
  rw [← r.length]
  cases c : ixN xs.length i with
  | none => rw [c] at e; cases e
  | some j =>
    rw [c] at e
    exact r.get (i := j) e
/-- not a dict -/
def isDct (h : MH) : TV → Bool
  | .v (.ref p) => (match h[p]? with
    | some (.dk _) => true
    | some (.dt _) => true
    | _ => false)
  | _ => false
end
section
variable {X : Cx} {T : XT} {L : List Nat} {W : WX}
def rIxM (K : PySem.W.Frag) (L : List Nat) : R2 := fun x y H Q => ∃ μ h a j v, RH K L μ h H ∧ RT K μ H a x ∧ RV K μ H j y ∧ isDct h a = false ∧ idxT h a j = some v ∧ ∀ z, RV K μ H v z → Q z H
theorem ix_M : IxR X (rIxM X.K L) := by
  intro val sl pins s σ H x y v u Q I rx ry ⟨μ, h, a, j, w, rh, ra, rj, nd, e, q⟩ hs
  refine ix_seq val sl pins s σ H x y v u Q I rx ry ?_ hs
  unfold idxT at e
  split at e
  · cases ra with | v ra => cases ra with | tup a1 a2 =>
      cases rj
      obtain ⟨z, e1, r⟩ := a2.atI e
      exact .inr (.inl ⟨_, _, _, z, rfl, rfl, .inl (.inl a1), e1, q z r⟩)
  · cases ra with | v ra =>
      cases ra
      cases rj
      split at e
      · simp only [Option.map_eq_some_iff] at e
        obtain ⟨c, e1, rfl⟩ := e
        exact .inr (.inr ⟨_, _, c, rfl, rfl, by assumption, e1, q _ (.str _)⟩)
      · cases e
  · cases ra with | v ra =>
      have ra' := ra
      cases ra with | ref e2 =>
      split at e
      · rename_i q1; simp [isDct, q1] at nd
      · rename_i q1; simp [isDct, q1] at nd
      · split at e
        · simp only [Option.bind_eq_some_iff] at e
          obtain ⟨xs, e3, e4⟩ := e
          obtain ⟨p, vs, ep, h1, h2⟩ := (RT.v ra').list rh e3
          obtain ⟨z, e5, r⟩ := h2.atI e4
          cases rj
          cases ep
          exact .inl ⟨_, vs, _, z, rfl, rfl, h1, e5, q z r⟩
        · cases e
  · cases ra with | t n h1 h2 =>
      cases rj
      obtain ⟨z, e5, r⟩ := h2.atI e
      exact .inl ⟨_, _, _, z, rfl, rfl, .inl (.inl h1), e5, q z r⟩
  · cases ra with | c h1 h2 =>
      cases rj
      obtain ⟨z, e5, r⟩ := h2.atI e
      exact .inr (.inl ⟨_, _, _, z, rfl, rfl, h1, e5, q z r⟩)
  · cases e
abbrev dIdx (ea eb : MS → MH → Res TV) : MS → MH → Res TV := fun σ h => (ea σ h).bind fun x h => (eb σ h).bind fun y h => (Res.of h ((vOf y).bind fun j => idxT h x j)).bind fun v h => .ok (.v v) h
theorem vOf_v {y : TV} {j : MV} (e : vOf y = some j) : y = .v j := by
  cases y <;> simp only [vOf, Option.some.injEq, reduceCtorEq] at e
  rw [e]
theorem idx_dict {K : PySem.W.Frag} {μ : List Addr} {h : MH} {H : Hp} {a : TV} {j v : MV} {x y : V} (rh : RH K L μ h H) (ra : RT K μ H a x) (rj : RV K μ H j y) (d : isDct h a = true) (e : idxT h a j = some v) : ∃ p z, x = .ref p ∧ DGet H p y (some z) ∧ RV K μ H v z := by
  unfold isDct at d
  split at d
  · cases ra with | v ra => cases ra with | ref e2 =>
      unfold idxT at e
      split at d
      · rename_i q1
        simp only [q1, Option.bind_eq_some_iff] at e
        obtain ⟨k, e3, e4⟩ := e
        obtain ⟨ws, r1, r2⟩ := dk_at (rh.ro q1 e2)
        obtain ⟨z, e5, r⟩ := (r2.look k).1 v e4
        exact ⟨_, z, rfl, .inl ⟨ws, k, r1, keyOf_V rj e3, e5.symm⟩, r⟩
      · rename_i q1
        simp only [q1] at e
        split at e
        · simp only [Option.bind_eq_some_iff] at e
          obtain ⟨k, e3, e4⟩ := e
          cases rj with | tup a1 a2 =>
          obtain ⟨ws, r1, r2⟩ := dt_at (rh.ro q1 e2)
          rw [keysOf_V a2 e3] at a1
          obtain ⟨z, e5, r⟩ := (r2.look k).1 v e4
          exact ⟨_, z, rfl, .inr ⟨ws, k, _, r1, rfl, a1, e5.symm⟩, r⟩
        · cases e
      · cases d
  · cases d
theorem e_idx {a b : Expr} {pos : Pos} {ea eb : MS → MH → Res TV} (hu : X.A.units + 64 < cLine) (ha : QT X T L W a ea) (hb : QT X T L W b eb) (hs : PlainIx b) : QT X T L W (.Subscript a b pos) (dIdx ea eb) := by
  refine PE.imp (PE.or (pe_ix (ix_M (L := L)) ha hb hs) (pe_dget (by omega) ha hb hs)) fun σ H Q ⟨μ, h, σm, ri, p⟩ => ?_
  by_cases c : ∃ x h1 y h2 , ea σm h = .ok x h1 ∧ eb σm h1 = .ok y h2 ∧ isDct h2 x = true
  · right
    refine ⟨μ, h, σm, ri, (Post.bindE p).imp fun x H1 ⟨a, h1, μ1, c1, e1, rh1, ra, p1⟩ => ⟨μ1, h1, σm, ri.mono e1 rh1, (Post.bindE p1).imp fun y H2 ⟨b, h2, μ2, c2, e2, rh2, rb, p2⟩ => ?_⟩⟩
    obtain ⟨x0, h1', y0, h2', d1, d2, d3⟩ := c
    rw [c1] at d1; cases d1
    rw [c2] at d2; cases d2
    obtain ⟨v, ev, p3⟩ := Post.of_bind p2
    obtain ⟨j, ej, ev⟩ := Option.bind_eq_some_iff.mp ev
    have hb := vOf_v ej
    subst hb
    cases rb.1 with | v rj =>
      obtain ⟨q, z, rfl, g, r⟩ := idx_dict rh2 (ra.1.mono e2) rj d3 ev
      exact ⟨q, z, rfl, g, p3.ok rh2 ⟨.v r, fun _ _ e => nomatch e⟩⟩
  · left
    refine ⟨μ, h, σm, ri, (Post.bindE p).imp fun x H1 ⟨a, h1, μ1, c1, e1, rh1, ra, p1⟩ => ⟨μ1, h1, σm, ri.mono e1 rh1, (Post.bindE p1).imp fun y H2 ⟨b, h2, μ2, c2, e2, rh2, rb, p2⟩ => ?_⟩⟩
    have nd : isDct h2 a = false := by
      cases q : isDct h2 a with
      | false => rfl
      | true => exact absurd ⟨a, h1, b, h2, c1, c2, q⟩ c
    obtain ⟨v, ev, p3⟩ := Post.of_bind p2
    obtain ⟨j, ej, ev⟩ := Option.bind_eq_some_iff.mp ev
    have hb := vOf_v ej
    subst hb
    cases rb.1 with | v rj =>
      exact ⟨μ2, h2, a, j, v, rh2, ra.1.mono e2, rj, nd, ev, fun z r => p3.ok rh2 ⟨.v r, fun _ _ e => nomatch e⟩⟩
/-! slices -/
def rSlM (K : PySem.W.Frag) (L : List Nat) : V → Option Int → Option Int → Hp → VK → Prop := fun x lo hi H Q => ∃ μ h H0 a tv, RH K L μ h H ∧ RT K μ H a x ∧ (∀ a, H a = none → H0 a = none) ∧ slcT h a lo hi = some tv ∧ Fin K L H0 μ h H tv Q
theorem cutL_le {α : Type} (xs : List α) (lo hi : Option Int) : (cutL xs lo hi).length ≤ xs.length := by
  unfold cutL
  rw [List.length_take, List.length_drop]; omega
theorem RVs.cut {K : PySem.W.Frag} {μ : List Addr} {H : Hp} {xs : List MV} {vs : List V} (r : RVs K μ H xs vs) (lo hi : Option Int) : RVs K μ H (cutL xs lo hi) (cutV vs lo hi) := by
  unfold cutL cutV
  rw [r.length]
  exact (r.drop _).take _
theorem cutV_whole {vs : List V} {lo hi : Option Int} (h1 : HT.sIx vs.length 0 lo = 0) (h2 : HT.sIx vs.length vs.length hi = vs.length) : cutV vs lo hi = vs := by
  unfold cutV
  rw [h1, h2]
  simp
theorem sl_M : SlR X (rSlM X.K L) := by
  intro pins s σ H x v vl vu lo hi sl Q I rx hs pl pu ⟨μ, h, H0, a, tv, rh, ra, dm, e, f⟩
  have lists : (listOf h a).map (fun xs => TV.t (cutL xs lo hi)) = some tv → ∃ T id, typeLookup (.type T) ("__getitem__" : Str) = pure (some (.builtin id)) ∧ s.TypeIs v T ∧ wpAny (model X.prog X.w) X.A (getItem v (.ref sl)) (EP X pins σ Q) X.xe s := by
    intro e
    obtain ⟨xs, e1, rfl⟩ := Option.map_eq_some_iff.mp e
    obtain ⟨p, vs, rfl, h1, h2⟩ := ra.list rh e1
    refine sl_list pins s σ H _ v vl vu lo hi sl Q I rx hs pl pu ⟨p, vs, rfl, h1, f.new rh dm (h2.cut lo hi) ?_⟩
    exact Nat.le_trans (cutV_length vs lo hi) (sq_len rh.bnd (.inl h1))
  unfold slcT at e
  split at e
  · cases ra with | v ra => cases ra with | tup a1 a2 =>
      cases e
      refine sl_tupA pins s σ H _ v vl vu lo hi sl Q I rx hs pl pu ⟨_, _, rfl, .inl (.inl a1), fun w => ?_, fun _ => f.newT rh (a2.cut lo hi) (Nat.le_trans (cutV_length _ lo hi) (rh.bnd _ _ (.inl (.inl a1))))⟩
      refine f.v rh (.tup a1 ?_)
      have q := a2.cut lo hi
      rw [cutV_whole w.1 w.2] at q
      exact q
  · cases ra with | v ra =>
      cases ra
      split at e
      · cases e
        exact sl_str pins s σ H _ v vl vu lo hi sl Q I rx hs pl pu ⟨_, rfl, by assumption, f.v rh (.str _)⟩
      · cases e
  · exact lists e
def tO (K : PySem.W.Frag) (T : XT) (L : List Nat) (W : WX) (d : MS → MH → Res (Option Int)) : TO := fun σ H Q => ∃ μ h σm, RI K L μ h σm σ H ∧ Post K T L (fun a _ _ z => a = z) μ H (fun c d H' => W c d σ H') Q (d σm h)
theorem PO.imp {X : Cx} {e : Option Expr} {t t' : TO} (p : PO X e t) (h : ∀ σ H Q, t' σ H Q → t σ H Q) : PO X e t' := ⟨fun pins s σ H Q I q => p.run pins s σ H Q I (h σ H Q q)⟩
theorem o_none : PO X none (tO X.K T L W fun _ h => .ok none h) := PO.imp po_none fun σ H Q ⟨μ, h, σm, ri, p⟩ => p.ok ri.h rfl
theorem o_some {a : Expr} {ea : MS → MH → Res TV} (ha : QT X T L W a ea) : PO X (some a) (tO X.K T L W fun σ h => (ea σ h).bind fun v h => (match v with
    | .v (.int i) => .ok (some i) h
    | _ => .bad)) := by
  refine PO.imp (po_some ha) fun σ H Q ⟨μ, h, σm, ri, p⟩ => ?_
  refine ⟨μ, h, σm, ri, (Post.bind p).imp fun x H1 ⟨a, h1, μ1, e1, rh1, ra, p1⟩ => ?_⟩
  split at p1
  · cases ra.1 with | v r => cases r; exact ⟨_, rfl, p1.ok rh1 rfl⟩
  · exact p1.elim
theorem e_slc {a : Expr} {lo hi : Option Expr} {pos p2 : Pos} {ea : MS → MH → Res TV} {el eh : MS → MH → Res (Option Int)} (ha : QT X T L W a ea) (hl : PO X lo (tO X.K T L W el)) (hh : PO X hi (tO X.K T L W eh)) :
    QT X T L W (.Subscript a (.Slice lo hi none p2) pos) (fun σ h => (ea σ h).bind fun x h => (el σ h).bind fun l h => (eh σ h).bind fun u h => Res.of h (slcT h x l u)) := by
  refine PE.imp (pe_slice (sl_M (L := L)) ha hl hh) fun σ H Q ⟨μ, h, σm, ri, p⟩ => ?_
  refine ⟨μ, h, σm, ri, (Post.bind p).imp fun x H1 ⟨a, h1, μ1, e1, rh1, ra, p1⟩ => ⟨μ1, h1, σm, ri.mono e1 rh1, (Post.bind p1).imp fun y H2 ⟨b, h2, μ2, e2, rh2, rb, p2⟩ =>
    ⟨μ2, h2, σm, (ri.mono e1 rh1).mono e2 rh2, (Post.bind p2).imp fun y H3 ⟨b, h3, μ3, e3, rh3, rb', p3⟩ => ?_⟩⟩⟩
  subst rb rb'
  obtain ⟨tv, etv, f⟩ := Post.of p3
  exact ⟨μ3, h3, H, a, tv, rh3, (ra.1.mono e2).mono e3, fun _ z => e1.dom _ (e2.dom _ (e3.dom _ z)), etv, f⟩
/-! isinstance -/
def tyS : TY → String
  | .int => "int" | .bool => "bool" | .str => "str" | .tuple => "tuple" | .list => "list" | .dict => "dict"
def tnm (h : MH) : TV → String
  | .t _ => "list"
  | .c _ => "tuple"
  | .v .non => "NoneType"
  | .v (.bl _) => "bool"
  | .v (.int _) => "int"
  | .v (.str _) => "str"
  | .v (.tup _) => "tuple"
  | .v (.ref p) => match h[p]? with
    | some (.lst _) => "list"
    | some (.scr _) => "list"
    | some (.dk _) => "dict"
    | _ => ""
theorem RT.ty {K : PySem.W.Frag} {μ : List Addr} {h : MH} {H : Hp} {a : TV} {x : V} (rh : RH K L μ h H) (ra : RT K μ H a x) (ok : isiOk h a = true) : TyX K H x (.type (tnm h a)) := by
  cases ra with
  | t n h1 h2 => exact .base (.lst h1)
  | c h1 h2 =>
    rcases h1 with (h1 | ⟨o, h1⟩) | ⟨o, its, n, h1, h2, _⟩
    · exact .base (.tup h1)
    · exact .fTuple h1
    · exact .kTuple h1 h2
  | v r =>
    cases r with
    | non => exact .base .non
    | bl b => exact .base (.bl b)
    | int i => exact .base (.int i)
    | str z => exact .base (.str z)
    | tup h1 h2 => exact .base (.tup h1)
    | @ref i a' e2 =>
      cases q1 : h[i]? with
      | none => simp [isiOk, q1] at ok
      | some o =>
        cases o with
        | lst xs =>
          simp only [tnm, q1]
          obtain ⟨vs, h1, _⟩ := rh.ro q1 e2
          exact .base (.lst h1)
        | scr xs =>
          simp only [tnm, q1]
          obtain ⟨od, h1⟩ := rh.ro q1 e2
          exact .base (.frz h1)
        | dk xs =>
          simp only [tnm, q1]
          obtain ⟨ws, h1 | ⟨od, h1⟩, _⟩ := dk_at (rh.ro q1 e2)
          · exact .base (.dK h1)
          · exact .fDict h1
        | dt xs => simp [isiOk, q1] at ok
        | ins c fs => simp [isiOk, q1] at ok
theorem kit_tab (n : String) (hn : n ∈ ["list", "tuple", "NoneType", "bool", "int", "str", "dict"]) (t : TY) : kitB n (tyS t) = some ((n == "list" && t == .list) || (n == "tuple" && t == .tuple) || (n == "bool" && (t == .int || t == .bool)) || (n == "int" && t == .int) || (n == "str" && t == .str) || (n == "dict" && t == .dict)) := by
  simp only [List.mem_cons, List.not_mem_nil, or_false] at hn
  rcases hn with rfl | rfl | rfl | rfl | rfl | rfl | rfl <;> cases t <;> decide +kernel
theorem kit_isi {h : MH} {a : TV} (ok : isiOk h a = true) (t : TY) : kitB (tnm h a) (tyS t) = some (isiV h a t) := by
  have go : ∀ n : String, tnm h a = n → n ∈ ["list", "tuple", "NoneType", "bool", "int", "str", "dict"] → isiV h a t = ((n == "list" && t == .list) || (n == "tuple" && t == .tuple) || (n == "bool" && (t == .int || t == .bool)) || (n == "int" && t == .int) || (n == "str" && t == .str) || (n == "dict" && t == .dict)) → kitB (tnm h a) (tyS t) = some (isiV h a t) :=
    fun n e1 e2 e3 => by rw [e1, e3]; exact kit_tab n e2 t
  cases a with
  | t xs => exact go "list" rfl (by decide) (by cases t <;> rfl)
  | c xs => exact go "tuple" rfl (by decide) (by cases t <;> rfl)
  | v x => cases x with
    | non => exact go "NoneType" rfl (by decide) (by cases t <;> rfl)
    | bl b => exact go "bool" rfl (by decide) (by cases t <;> rfl)
    | int b => exact go "int" rfl (by decide) (by cases t <;> rfl)
    | str b => exact go "str" rfl (by decide) (by cases t <;> rfl)
    | tup b => exact go "tuple" rfl (by decide) (by cases t <;> rfl)
    | ref p =>
      cases q1 : h[p]? with
      | none => simp [isiOk, q1] at ok
      | some o => cases o with
        | lst xs => exact go "list" (by simp [tnm, q1]) (by decide) (by simp only [isiV, q1]; cases t <;> rfl)
        | scr xs => exact go "list" (by simp [tnm, q1]) (by decide) (by simp only [isiV, q1]; cases t <;> rfl)
        | dk xs => exact go "dict" (by simp [tnm, q1]) (by decide) (by simp only [isiV, q1]; cases t <;> rfl)
        | dt xs => simp [isiOk, q1] at ok
        | ins c fs => simp [isiOk, q1] at ok
theorem kit_any {K : PySem.W.Frag} {h : MH} {a : TV} (ok : isiOk h a = true) : ∀ ts : List TY, PySem.W.kitAny K (.type (tnm h a)) (ts.map fun t => .type (tyS t)) = some (ts.any (isiV h a))
  | [] => kitAny_nil
  | t :: ts => by
    rw [List.map_cons, List.any_cons]
    refine kitAny_cons (kit_ty (kit_isi ok t)) (fun e => ?_) (fun e => by rw [e, Bool.true_or])
    rw [e, Bool.false_or]
    exact kit_any ok ts
abbrev dIsi (ea : MS → MH → Res TV) (ts : List TY) : MS → MH → Res TV := fun σ h => (ea σ h).bind fun x h => if isiOk h x then .ok (.v (.bl (ts.any (isiV h x)))) h else .bad
/-- the names of the classes, written -/
def TyE (X : Cx) (e : Expr) (t : TY) : Prop := ∃ pos, e = .Name (PySem.Str.ofString (tyS t)) pos ∧ Gl X (PySem.Str.ofString (tyS t)) ∧ X.mg (PySem.Str.ofString (tyS t)) = none
theorem boot_ty (t : TY) : bootBuiltins (PySem.Str.ofString (tyS t)) = some (.type (tyS t)) := by cases t <;> decide +kernel
theorem ty_pe {e : Expr} {t : TY} (h : TyE X e t) : PE X e (tC (.ty (tyS t))) := by
  obtain ⟨pos, rfl, hg, hm⟩ := h
  exact pe_bltn hg hm (boot_ty t) rfl (by cases t <;> decide +kernel) (by cases t <;> decide +kernel)
theorem ty_star {e : Expr} {es : List Expr} {t : TY} (h : TyE X e t) : starEach (e :: es) X.env = (false, eval e X.env) :: starEach es X.env := by
  obtain ⟨pos, rfl, _⟩ := h; rfl
inductive TyEs (X : Cx) : List Expr → List TY → Prop
  | nil : TyEs X [] []
  | cons {e : Expr} {es : List Expr} {t : TY} {ts : List TY} : TyE X e t → TyEs X es ts → TyEs X (e :: es) (t :: ts)
theorem ty_pa {es : List Expr} {ts : List TY} (h : TyEs X es ts) : PA X es (fun _ H Q => Q (ts.map fun t => .ty (tyS t)) H) := by
  induction h with
  | nil => exact pa_nil
  | cons h1 h2 ih => exact PA.imp (pa_cons (ty_pe h1) ih (ty_star h1)) fun σ H Q q => q
theorem cls_tys : ∀ ts : List TY, Paired ClsV (ts.map fun t => V.ty (tyS t)) (ts.map fun t => Value.type (tyS t))
  | [] => .nil
  | t :: ts => .cons (.ty _) (cls_tys ts)
theorem any_tail {pos : Pos} {e : Expr} {es : List Expr} (hs : starEach (e :: es) X.env = (false, eval e X.env) :: starEach es X.env) (hr : ((backTo pos (starEach es X.env)).any fun x => x.1) = false) : ((backTo pos (starEach (e :: es) X.env)).any fun x => x.1) = false := by
  rw [hs]; exact hr
theorem e_isi1 {a b : Expr} {t : TY} {p pos : Pos} {ea : MS → MH → Res TV} (hg : Gl X "isinstance") (hm : X.mg "isinstance" = none) (ha : QT X T L W a ea) (hb : TyE X b t) (hs : starEach [a, b] X.env = (false, eval a X.env) :: starEach [b] X.env) :
    QT X T L W (.Call (.Name "isinstance" p) [a, b] [] pos) (dIsi ea [t]) := by
  refine PE.imp (pe_callB call_isi hg hm (by decide +kernel) (pa_cons ha (pa_cons (ty_pe hb) pa_nil (ty_star hb)) hs) (by decide +kernel) (by decide +kernel) hs (by rw [ty_star hb]; rfl)) fun σ H Q ⟨μ, h, σm, ri, p⟩ => ?_
  refine ⟨μ, h, σm, ri, (Post.bind p).imp fun x H1 ⟨a, h1, μ1, e1, rh1, ra, p1⟩ => ?_⟩
  split at p1
  · rename_i ok
    refine ⟨x, .ty (tyS t), _, _, _, rfl, .ty _, ra.1.ty rh1 ok, kit_ty (kit_isi ok t), ?_⟩
    have q := p1.ok rh1 ⟨.v (.bl _), fun _ _ e => nomatch e⟩
    simpa using q
  · exact p1.elim
theorem e_isiT {a : Expr} {es : List Expr} {ts : List TY} {k : Nat} {p p2 pos : Pos} {ea : MS → MH → Res TV} (hg : Gl X "isinstance") (hm : X.mg "isinstance" = none) (ha : QT X T L W a ea) (hb : TyEs X es ts) (hz : ts.length ≤ 100) (hs : starEach [a, .Tuple es k p2] X.env = (false, eval a X.env) :: starEach [.Tuple es k p2] X.env) :
    QT X T L W (.Call (.Name "isinstance" p) [a, .Tuple es k p2] [] pos) (dIsi ea ts) := by
  refine PE.imp (pe_callB call_isiT hg hm (by decide +kernel) (pa_cons ha (pa_cons (pe_tup (ty_pa hb)) pa_nil rfl) hs) (by decide +kernel) (by decide +kernel) hs rfl) fun σ H Q ⟨μ, h, σm, ri, p⟩ => ?_
  refine ⟨μ, h, σm, ri, (Post.bind p).imp fun x H1 ⟨a, h1, μ1, e1, rh1, ra, p1⟩ => ?_⟩
  split at p1
  · rename_i ok
    refine ⟨by rw [List.length_map, sizeLine_eq]; omega, fun q n => ?_⟩
    refine ⟨x, q, _, _, _, _, rfl, upd_same, cls_tys ts, (ra.1.mono (ext_upd n)).ty (rh1.upd n (by show (ts.map _).length ≤ _; rw [List.length_map, sizeLine_eq]; omega)) ok, kit_any ok ts, ?_⟩
    exact p1 μ1 _ _ (ext_upd n) (rh1.upd n (by show (ts.map _).length ≤ _; rw [List.length_map, sizeLine_eq]; omega)) ⟨.v (.bl _), fun _ _ e => nomatch e⟩
  · exact p1.elim
end
end MP

set_option linter.all false
set_option autoImplicit false
/-! MiniPy: built-ins. -/
namespace MP
open PySem PyProof.Rows L2

def rFn (K : PySem.W.Frag) (L : List Nat) (b : BI) : List V → Hp → VK → Prop := fun xs H Q => ∃ μ h H0 as tv, RH K L μ h H ∧ RTs K μ H as xs ∧ (∀ a, H a = none → H0 a = none) ∧ fnT h b as = some tv ∧ Fin K L H0 μ h H tv Q
section
variable {K : PySem.W.Frag} {L : List Nat} {μ : List Addr} {h : MH} {H : Hp}
theorem RTs.one {a : TV} {xs : List V} (r : RTs K μ H [a] xs) : ∃ x, xs = [x] ∧ RT K μ H a x := by
  cases r with | cons r t => cases t; exact ⟨_, rfl, r⟩
theorem RTs.two {a b : TV} {xs : List V} (r : RTs K μ H [a, b] xs) : ∃ x y, xs = [x, y] ∧ RT K μ H a x ∧ RT K μ H b y := by
  cases r with | cons r t => cases t with | cons r2 t => cases t; exact ⟨_, _, rfl, r, r2⟩
theorem RTs.int1 {i : Int} {xs : List V} (r : RTs K μ H [.v (.int i)] xs) : xs = [.int i] := by
  obtain ⟨x, rfl, r'⟩ := r.one
  cases r' with | v r' => cases r'; rfl
theorem f1_some {g : TV → Option TV} {as : List TV} {tv : TV} (e : f1 g as = some tv) : ∃ a, as = [a] ∧ g a = some tv := by
  unfold f1 at e
  split at e
  · exact ⟨_, rfl, e⟩
  · cases e
theorem ints2_some {as : List TV} {p : Int × Int} (e : ints2 as = some p) : as = [.v (.int p.1), .v (.int p.2)] := by
  unfold ints2 at e
  split at e
  · cases e; rfl
  · cases e
theorem RTs.int2 {i j : Int} {xs : List V} (r : RTs K μ H [.v (.int i), .v (.int j)] xs) : xs = [.int i, .int j] := by
  obtain ⟨x, y, rfl, r1, r2⟩ := r.two
  cases r1 with | v r1 => cases r1; cases r2 with | v r2 => cases r2; rfl
theorem maxI_is : ∀ (ns : List Int) (n m : Int), m ∈ n :: ns → (∀ y, y ∈ n :: ns → y ≤ m) → m = maxI ns n
  | [], n, m, h, _ => by simpa [maxI] using h
  | x :: ns, n, m, h, hb => by
    show m = maxI ns (if n < x then x else n)
    have b1 := hb n (by simp)
    have b2 := hb x (by simp)
    refine maxI_is ns _ m ?_ fun y hy => ?_
    · split
      · rcases List.mem_cons.mp h with rfl | h
        · omega
        · exact h
      · rcases List.mem_cons.mp h with rfl | h
        · simp
        · rcases List.mem_cons.mp h with rfl | h
          · have : m = n := by omega
            simp [this]
          · simp [h]
    · rcases List.mem_cons.mp hy with rfl | hy
      · split <;> omega
      · exact hb y (by simp [hy])
theorem minI_is : ∀ (ns : List Int) (n m : Int), m ∈ n :: ns → (∀ y, y ∈ n :: ns → m ≤ y) → m = minI ns n
  | [], n, m, h, _ => by simpa [minI] using h
  | x :: ns, n, m, h, hb => by
    show m = minI ns (if x < n then x else n)
    have b1 := hb n (by simp)
    have b2 := hb x (by simp)
    refine minI_is ns _ m ?_ fun y hy => ?_
    · split
      · rcases List.mem_cons.mp h with rfl | h
        · omega
        · exact h
      · rcases List.mem_cons.mp h with rfl | h
        · simp
        · rcases List.mem_cons.mp h with rfl | h
          · have : m = n := by omega
            simp [this]
          · simp [h]
    · rcases List.mem_cons.mp hy with rfl | hy
      · split <;> omega
      · exact hb y (by simp [hy])
theorem RVs.keys (H : Hp) : ∀ (kvs : List (List Key × V)) (bs : List Addr), IsKeys H kvs bs → RVs K μ H (kvs.map fun kv => MV.tup (kv.1.map keyV)) (bs.map V.ref)
  | [], _, h => by cases h; exact .nil
  | p :: kvs, _, h => by
    cases h with | cons h1 h2 =>
    refine .cons (.tup h1 ?_) (RVs.keys H kvs _ h2)
    induction p.1 with
    | nil => exact .nil
    | cons k ks ih => cases k <;> exact .cons (by first | exact .int _ | exact .str _) ih
theorem RKs.keysEq {κ : Type} : ∀ {xs : List (κ × MV)} {vs : List (κ × V)}, RKs K μ H xs vs → xs.map (·.1) = vs.map (·.1)
  | _, _, .nil => rfl
  | _, _, .cons _ t => by rw [List.map_cons, List.map_cons, t.keysEq]
end
section
variable {X : Cx} {L : List Nat}
theorem f_len : CallR X (.builtin "len") (rFn X.K L .len) := by
  intro pins s σ H xs us Q I rx ⟨μ, h, H0, as, tv, rh, ra, dm, e0, f⟩
  obtain ⟨a, rfl, e⟩ := f1_some (show f1 _ as = some tv from e0)
  obtain ⟨n, e1, rfl⟩ := Option.map_eq_some_iff.mp e
  obtain ⟨x, rfl, r⟩ := ra.one
  clear e0
  have q : Q (.int n) H := f.v rh (.int _)
  have seq : seqOf h a ≠ none → (seqOf h a).map List.length = some n → wpAny (model X.prog X.w) X.A (call (.builtin "len") us) (EP X pins σ Q) X.xe s := by
    intro _ e
    obtain ⟨ys, e2, e3⟩ := Option.map_eq_some_iff.mp e
    subst e3
    obtain ⟨p, vs, rfl, h1, h2⟩ := r.seq rh e2
    exact call_len_seq pins s σ H _ us Q I rx ⟨p, vs, rfl, h1, by rw [← h2.length]; exact q⟩
  clear e
  unfold lenT at e1
  split at e1
  · split at e1
    · cases e1
      cases r with | v r => cases r; exact call_len_str pins s σ H _ us Q I rx ⟨_, rfl, by assumption, q⟩
    · cases e1
  · have r' := r
    cases r with | v r => cases r with | ref e2 =>
    split at e1
    · rename_i q1
      cases e1
      obtain ⟨ws, r1, r2⟩ := dk_at (rh.ro q1 e2)
      obtain ⟨u, rfl, ru⟩ := vals1 rx
      cases (show u = Value.ref _ from ru)
      exact d_len I r1 fun t s' I' => ⟨.int _, H, I', ⟨t, rfl⟩, by rw [← r2.length]; exact q⟩
    · exact seq (by intro z; simp [seqOf] at z; simp [z] at e1) e1
  · exact seq (by intro z; simp [z] at e1) e1
theorem f_abs : CallR X (.builtin "abs") (rFn X.K L .abs) := by
  intro pins s σ H xs us Q I rx ⟨μ, h, H0, as, tv, rh, ra, dm, e0, f⟩
  obtain ⟨a, rfl, e⟩ := f1_some (show f1 _ as = some tv from e0)
  obtain ⟨x, rfl, r⟩ := ra.one
  clear e0
  unfold absT at e
  split at e
  · cases e; cases r with | v r => cases r; exact call_abs pins s σ H _ us Q I rx ⟨_, rfl, f.v rh (.int _)⟩
  · cases e
theorem f_int : CallR X (.type "int") (rFn X.K L .int) := by
  intro pins s σ H xs us Q I rx ⟨μ, h, H0, as, tv, rh, ra, dm, e0, f⟩
  obtain ⟨a, rfl, e⟩ := f1_some (show f1 _ as = some tv from e0)
  obtain ⟨x, rfl, r⟩ := ra.one
  clear e0
  unfold intT at e
  split at e
  · cases e; cases r with | v r => cases r; exact call_int1 pins s σ H _ us Q I rx (.inl ⟨_, rfl, f.v rh (.int _)⟩)
  · cases e; cases r with | v r => cases r; exact call_int1 pins s σ H _ us Q I rx (.inr ⟨_, rfl, f.v rh (.int _)⟩)
  · split at e
    · obtain ⟨n, e1, rfl⟩ := Option.map_eq_some_iff.mp e
      cases r with | v r => cases r; exact call_int_str pins s σ H _ us Q I rx ⟨_, n, rfl, e1, by assumption, f.v rh (.int _)⟩
    · cases e
  · cases e
theorem f_str : CallR X (.type "str") (rFn X.K L .str) := by
  intro pins s σ H xs us Q I rx ⟨μ, h, H0, as, tv, rh, ra, dm, e0, f⟩
  obtain ⟨a, rfl, e⟩ := f1_some (show f1 _ as = some tv from e0)
  obtain ⟨x, rfl, r⟩ := ra.one
  clear e0
  unfold strT at e
  split at e
  · split at e
    · cases e; cases r with | v r => cases r; exact call_str_int pins s σ H _ us Q I rx ⟨_, rfl, by assumption, f.v rh (.str _)⟩
    · cases e
  · cases e
theorem f_max (hc : X.calm = true) : CallR X (.builtin "max") (rFn X.K L .max) := by
  intro pins s σ H xs us Q I rx ⟨μ, h, H0, as, tv, rh, ra, dm, e0, f⟩
  have e' : mostT (fun i j => if j > i then j else i) maxI h as = some tv := e0
  unfold mostT at e'
  split at e'
  · rename_i i j q1
    have q2 := ints2_some q1
    subst q2
    cases e'
    have q3 := ra.int2
    subst q3
    exact call_max2 hc pins s σ H _ us Q I rx ⟨_, _, rfl, f.v rh (.int _)⟩
  · obtain ⟨a, rfl, e⟩ := f1_some e'
    obtain ⟨x, rfl, r⟩ := ra.one
    simp only [mostL, Option.bind_eq_some_iff] at e
    obtain ⟨ys, e1, ns, e2, e3⟩ := e
    cases ns with
    | nil => cases e3
    | cons n ns =>
      cases e3
      obtain ⟨p, vs, rfl, h1, h2⟩ := r.list rh e1
      rw [h2.ints_of e2] at h1
      refine cr_max hc pins s σ H _ us Q I rx ⟨p, _, rfl, h1, by simp, fun m hm hb => ?_⟩
      rw [maxI_is ns n m hm hb]
      exact f.v rh (.int _)
theorem f_min (hc : X.calm = true) : CallR X (.builtin "min") (rFn X.K L .min) := by
  intro pins s σ H xs us Q I rx ⟨μ, h, H0, as, tv, rh, ra, dm, e0, f⟩
  have e' : mostT (fun i j => if j < i then j else i) minI h as = some tv := e0
  unfold mostT at e'
  split at e'
  · rename_i i j q1
    have q2 := ints2_some q1
    subst q2
    cases e'
    have q3 := ra.int2
    subst q3
    exact call_min2 hc pins s σ H _ us Q I rx ⟨_, _, rfl, f.v rh (.int _)⟩
  · obtain ⟨a, rfl, e⟩ := f1_some e'
    obtain ⟨x, rfl, r⟩ := ra.one
    simp only [mostL, Option.bind_eq_some_iff] at e
    obtain ⟨ys, e1, ns, e2, e3⟩ := e
    cases ns with
    | nil => cases e3
    | cons n ns =>
      cases e3
      obtain ⟨p, vs, rfl, h1, h2⟩ := r.list rh e1
      rw [h2.ints_of e2] at h1
      refine cr_min hc pins s σ H _ us Q I rx ⟨p, _, rfl, h1, by simp, fun m hm hb => ?_⟩
      rw [minI_is ns n m hm hb]
      exact f.v rh (.int _)
theorem f_sum (hc : X.calm = true) : CallR X (.builtin "sum") (rFn X.K L .sum) := by
  intro pins s σ H xs us Q I rx ⟨μ, h, H0, as, tv, rh, ra, dm, e0, f⟩
  obtain ⟨a, rfl, e⟩ := f1_some (show f1 _ as = some tv from e0)
  obtain ⟨x, rfl, r⟩ := ra.one
  clear e0
  simp only [Option.bind_eq_some_iff, Option.map_eq_some_iff] at e
  obtain ⟨ys, e1, ns, e2, rfl⟩ := e
  obtain ⟨p, vs, rfl, h1, h2⟩ := r.list rh e1
  rw [h2.ints_of e2] at h1
  exact cr_sum hc pins s σ H _ us Q I rx ⟨p, _, rfl, h1, f.v rh (.int _)⟩
theorem f_all (hc : X.calm = true) : CallR X (.builtin "all") (rFn X.K L .all) := by
  intro pins s σ H xs us Q I rx ⟨μ, h, H0, as, tv, rh, ra, dm, e0, f⟩
  obtain ⟨a, rfl, e⟩ := f1_some (show f1 _ as = some tv from e0)
  obtain ⟨x, rfl, r⟩ := ra.one
  clear e0
  simp only [Option.bind_eq_some_iff, Option.map_eq_some_iff] at e
  obtain ⟨ys, e1, ns, e2, rfl⟩ := e
  obtain ⟨p, vs, rfl, h1, h2⟩ := r.list rh e1
  rw [h2.bls_of e2] at h1
  exact cr_all hc pins s σ H _ us Q I rx ⟨p, _, rfl, h1, f.v rh (.bl _)⟩
theorem f_any (hc : X.calm = true) : CallR X (.builtin "any") (rFn X.K L .any) := by
  intro pins s σ H xs us Q I rx ⟨μ, h, H0, as, tv, rh, ra, dm, e0, f⟩
  obtain ⟨a, rfl, e⟩ := f1_some (show f1 _ as = some tv from e0)
  obtain ⟨x, rfl, r⟩ := ra.one
  clear e0
  simp only [Option.bind_eq_some_iff, Option.map_eq_some_iff] at e
  obtain ⟨ys, e1, ns, e2, rfl⟩ := e
  obtain ⟨p, vs, rfl, h1, h2⟩ := r.list rh e1
  rw [h2.bls_of e2] at h1
  exact cr_any hc pins s σ H _ us Q I rx ⟨p, _, rfl, h1, f.v rh (.bl _)⟩
theorem f_tuple : CallR X (.type "tuple") (rFn X.K L .tuple) := by
  intro pins s σ H xs us Q I rx ⟨μ, h, H0, as, tv, rh, ra, dm, e0, f⟩
  obtain ⟨a, rfl, e⟩ := f1_some (show f1 _ as = some tv from e0)
  obtain ⟨x, rfl, r⟩ := ra.one
  clear e0
  unfold tupT at e
  split at e
  · cases e
    cases r with | v r => cases r with | tup a1 a2 =>
      exact call_tuple_of pins s σ H _ us Q I rx ⟨_, _, rfl, .inr ⟨.inl (.inl a1), f.v rh (.tup a1 a2)⟩⟩
  · obtain ⟨ys, e1, rfl⟩ := Option.map_eq_some_iff.mp e
    obtain ⟨p, vs, rfl, h1, h2⟩ := r.list rh e1
    exact call_tuple_of pins s σ H _ us Q I rx ⟨p, vs, rfl, .inl ⟨h1, f.newT rh h2 (sq_len rh.bnd (.inl h1))⟩⟩
theorem f_list (hc : X.calm = true) : CallR X (.type "list") (rFn X.K L .list) := by
  intro pins s σ H xs us Q I rx ⟨μ, h, H0, as, tv, rh, ra, dm, e0, f⟩
  obtain ⟨a, rfl, e⟩ := f1_some (show f1 _ as = some tv from e0)
  obtain ⟨x, rfl, r⟩ := ra.one
  clear e0
  have seq : (seqOf h a).map TV.t = some tv → wpAny (model X.prog X.w) X.A (call (.type "list") us) (EP X pins σ Q) X.xe s := by
    intro e
    obtain ⟨ys, e1, rfl⟩ := Option.map_eq_some_iff.mp e
    obtain ⟨p, vs, rfl, h1, h2⟩ := r.seq rh e1
    exact call_list_of pins s σ H _ us Q I rx ⟨p, vs, rfl, h1, f.new rh dm h2 (sq_len rh.bnd h1)⟩
  unfold lisT at e
  split at e
  · have r' := r
    cases r with | v r => cases r with | ref e2 =>
    split at e
    · rename_i q1
      cases e
      obtain ⟨ws, r1, r2⟩ := dt_at (rh.ro q1 e2)
      refine call_list_dT hc pins s σ H _ us Q I rx ⟨_, ws, rfl, r1, fun p bs n ik => ?_⟩
      have rk := RVs.keys (K := X.K) (μ := μ) H ws bs ik
      have ek : (List.map (fun kv => MV.tup (List.map keyV kv.fst)) ‹List (List Key × MV)›) = ws.map fun kv => MV.tup (kv.1.map keyV) := by
        have := congrArg (List.map fun k : List Key => MV.tup (k.map keyV)) r2.keysEq
        simp only [List.map_map] at this
        exact this
      have hl : (bs.map V.ref).length ≤ sizeLine := by
        rw [← rk.length]
        rcases r1 with r1 | ⟨od, r1⟩
        · obtain ⟨z, _⟩ := (show ObjOk X.prog X.w H s.heap _ (.dT ws) from I.hok _ _ r1)
          rw [List.length_map]; exact z
        · obtain ⟨_, z, _⟩ := (show ObjOk X.prog X.w H s.heap _ (.frz od (.dT ws)) from I.hok _ _ r1)
          rw [List.length_map]; exact z
      exact f.new rh dm (by rw [ek]; exact rk) hl p n
    · exact seq (by simpa [seqOf] using e)
  · exact seq e
end
end MP

set_option linter.all false
set_option autoImplicit false
/-! sorted(xs) of tuples, of which some may be empty. -/
namespace MP
open PySem PySem.Calls PyProof.Rows PySem.W PySem.SeqAt
section
variable {prog : Program} {w : World} {A : Around} {E : Value → Shared → Prop} {s : Shared}
theorem call_tupLt {Q : Value → Shared → Prop} {l b : Addr} {items items2 : Array Value} {e r : Nat → Bool} (hl : s.heap.IsTuple l items) (hb : s.heap.IsTuple b items2)
    (he : ∀ j (h1 : j < items.size) (h2 : j < items2.size), EqAt A.in1 s items[j] items2[j] (e j)) (hr : ∀ j (h1 : j < items.size) (h2 : j < items2.size), e j = false → RcLt A.in1 s items[j] items2[j] (r j))
    (h : Q (.bool (firstLt e r (decide (items.size < items2.size)) (List.range (min items.size items2.size)))) s) : wpAny (model prog w) A (call (.builtin "tuple.__lt__") [.ref l, .ref b]) Q E s := by
  obtain ⟨⟨c1, d1, v1, p1⟩, g1, q1, n1, w1⟩ := id hl
  obtain ⟨⟨c2, d2, v2, p2⟩, g2, q2, n2, w2⟩ := id hb
  simp only at q1 w1 q2 w2
  subst q1 w1 q2 w2
  exact call_meets F.slot_tuple_lt ⟨_, g1, rfl⟩ F.entry_tuple_lt (F.args_tuple_lt_2 _ _) (tuple_ltAt l b items items2 n1 n2 d1 d2 p1 p2 e r) ⟨g1, g2, he, hr, h⟩
/-- tuple against tuple, as sorting asks -/
theorem oneLt_tup {xs ys : List PyData} {a b : Value} {as bs : List Addr} {Q : Bool → Shared → Prop} (ra : Reads s.heap a (.tuple xs) as) (rb : Reads s.heap b (.tuple ys) bs) (hal : alikeAll xs ys = true)
    (hu : A.units + min (PyData.tuple xs).depth (PyData.tuple ys).depth < cLine) (hq : Q (dataLt (.tuple xs) (.tuple ys)) s) : wpAny (model prog w) A (oneLt' true a b) Q E s := by
  cases ra with
  | @tuple l o vs n _ as1 h1 h2 h3 h4 =>
    cases rb with
    | @tuple l' o' vs' n' _ bs1 k1 k2 k3 k4 =>
      have z1 : vs.size = xs.length := by simpa using ReadsAll.length _ _ _ h4
      have z2 : vs'.size = ys.length := by simpa using ReadsAll.length _ _ _ k4
      rw [dataLt_tuple, ← firstLt_toks xs ys hal, ← z1, ← z2] at hq
      rw [oneLt'_eq]
      simp only [if_true]
      refine wpAny_bind (wpAny_cRoomFor (room_here hu) ?_)
      refine wpAny_bind (wpAny_callSpecialIfBound?_slot (T := "tuple") ⟨_, h1, h2⟩ F.slot_tuple_lt (call_tupLt (e := pairEq xs ys) (r := fun j => dataLt (xs.getD j .none) (ys.getD j .none)) ⟨_, h1, h2, _, h3⟩ ⟨_, k1, k2, _, k3⟩ (fun j j1 j2 => ?_) (fun j j1 j2 hj => ?_) ?_))
      · have q := eqAt_alikeAll xs ys A.in1 s vs.toList vs'.toList _ _ h4 k4 hal (room_in hu) j (by simpa using j1) (by simpa using j2)
        simpa only [Array.getElem_toList] using q
      · have q := rcLt_alikeAll xs ys A.in1 s vs.toList vs'.toList _ _ h4 k4 hal (room_in hu) j (by simpa using j1) (by simpa using j2) hj
        simpa only [Array.getElem_toList] using q
      · exact wpAny_truthy_bool hq
theorem keyLt_gen (x y : Value) : keyLt' general' x y = oneLt' false x y := rfl
/-- tuples, each with its first item if there is one -/
def TupsF (h : Heap) : List Value → List (Option Value) → Prop
  | [], [] => True
  | v :: vs, f :: fs => (∃ a o xs n, v = .ref a ∧ h.get? a = some o ∧ o.cls = .type "tuple" ∧ o.data = .seq xs n ∧ xs[0]? = f) ∧ TupsF h vs fs
  | _, _ => False
theorem tupsF_firsts {M : Model} : ∀ (vs : List Value) (fs : List (Option Value)) {Q : List (Option Value) → Shared → Prop}, TupsF s.heap vs fs → Q fs s → wpAny M A (vs.mapM firstOfTuple') Q E s
  | [], [], _, _, h => by rw [List.mapM_nil]; exact wpAny_pure h
  | [], _ :: _, _, t, _ => t.elim
  | _ :: _, [], _, t, _ => t.elim
  | v :: vs, f :: fs, Q, t, h => by
    obtain ⟨⟨a, o, xs, n, rfl, ho, hc, hd, hf⟩, t⟩ := t
    rw [List.mapM_cons]
    refine wpAny_bind ?_
    rw [kas_first_eq]
    refine wpAny_bind (Looks.here (show Looks M s.heap (typeOf (.ref a)) o.cls from (Looks.ld ho).andThen .now) ?_)
    rw [hc, if_neg (by first | decide | simp)]
    refine wpAny_bind (listItems_at ho hd (wpAny_pure ?_))
    rw [hf]
    exact wpAny_bind (tupsF_firsts vs fs (Q := fun bs s' => wpAny M A (pure (f :: bs)) Q E s') t (wpAny_pure h))
theorem tupsF_mem {h : Heap} : ∀ {vs : List Value} {fs : List (Option Value)}, TupsF h vs fs → ∀ v ∈ vs, ∃ a o, v = .ref a ∧ h.get? a = some o ∧ o.cls = .type "tuple"
  | v :: vs, f :: fs, t, x, hx => by
    obtain ⟨⟨a, o, xs, n, rfl, ho, hc, hd, hf⟩, t⟩ := t
    rcases List.mem_cons.mp hx with rfl | hx
    · exact ⟨a, o, rfl, ho, hc⟩
    · exact tupsF_mem t x hx
theorem tupsF_len {h : Heap} : ∀ {vs : List Value} {fs : List (Option Value)}, TupsF h vs fs → fs.length = vs.length
  | [], [], _ => rfl
  | [], _ :: _, t => t.elim
  | _ :: _, [], t => t.elim
  | v :: vs, f :: fs, t => by rw [List.length_cons, List.length_cons, tupsF_len t.2]
/-- what keyKind tells of any of these kinds -/
theorem ltAt_tup {ds : List PyData} (hal : AllAlike ds) (ht : ∀ d, d ∈ ds → ∃ xs, d = .tuple xs) (hu : ∀ d, d ∈ ds → A.units + d.depth < cLine) : H.LtAt prog w A s (dataKind s.heap ds) general' ∧ H.LtAt prog w A s (dataKind s.heap ds) oneType' := by
  have room : ∀ {d d' : PyData}, d ∈ ds → A.units + min d.depth d'.depth < cLine := fun {d d'} hd => Nat.lt_of_le_of_lt (Nat.add_le_add_left (Nat.min_le_left _ _) _) (hu d hd)
  refine ⟨fun E x y a b Q ha hb hq => ?_, fun E x y a b Q ha hb hq => ?_⟩
  · obtain ⟨d, as, hd, ra, rfl⟩ := dataKind_inv ha
    obtain ⟨d', as', hd', rb, rfl⟩ := dataKind_inv hb
    rw [keyLt_gen]
    obtain ⟨xs, rfl⟩ := ht d hd
    exact oneLt_alike (fun e => nomatch e) ra rb (hal _ hd _ hd') (fun e => nomatch e) (room hd) hq
  · obtain ⟨d, as, hd, ra, rfl⟩ := dataKind_inv ha
    obtain ⟨d', as', hd', rb, rfl⟩ := dataKind_inv hb
    rw [keyLt'_oneType]
    obtain ⟨xs, rfl⟩ := ht d hd
    obtain ⟨ys, rfl⟩ := ht d' hd'
    exact oneLt_tup ra rb (by simpa [alike] using hal _ hd _ hd') (room hd) hq
theorem tupsF_of {h : Heap} : ∀ {vs : List Value} {ds : List PyData}, EachIs (fun v d => ∃ as, Reads h v d as) vs ds → (∀ d, d ∈ ds → ∃ xs, d = .tuple xs) → ∃ fs, TupsF h vs fs ∧ (PyData.tuple [] ∈ ds → none ∈ fs)
  | _, _, .nil, _ => ⟨[], trivial, fun m => by simp at m⟩
  | _, _, .cons (b := d) ⟨as, r⟩ t, ht => by
    obtain ⟨fs, h1, h2⟩ := tupsF_of t fun d hd => ht d (List.mem_cons_of_mem _ hd)
    obtain ⟨xs, rfl⟩ := ht d (List.mem_cons_self ..)
    cases r with
    | @tuple a o vs n _ _ ho hc hd hr =>
      refine ⟨vs[0]? :: fs, ⟨⟨a, o, vs, n, rfl, ho, hc, hd, rfl⟩, h1⟩, fun m => ?_⟩
      rcases List.mem_cons.mp m with e | m
      · injection e with e
        subst e
        have z := ReadsAll.length _ _ _ hr
        have : vs[0]? = none := by simp at z; simp [z]
        rw [this]; exact List.mem_cons_self ..
      · exact List.mem_cons_of_mem _ (h2 m)
theorem sortsAt_tups {vs : List Value} {ds : List PyData} (e : EachIs (fun v d => ∃ as, Reads s.heap v d as) vs ds) (hal : AllAlike ds) (ht : ∀ d, d ∈ ds → ∃ xs, d = .tuple xs) (hu : ∀ d, d ∈ ds → A.units + d.depth < cLine) : SortsAt prog w A s (dataKind s.heap ds) vs := by
  by_cases hm : PyData.tuple [] ∈ ds
  · obtain ⟨l1, l2⟩ := ltAt_tup (prog := prog) (w := w) (s := s) hal ht hu
    obtain ⟨fs, f1, f2⟩ := tupsF_of e ht
    have f3 := f2 hm
    refine ⟨fun v hv => ?_, ?_⟩
    · obtain ⟨d, hd, as, r⟩ := e.left v hv
      exact ⟨_, dataKind_some hal hd r⟩
    · -- the kind hangs on the first item alone
      by_cases hf : ((fs.toArray)[0]?.bind id).isSome = true
      · refine ⟨general', l1, fun h2 E Q hq => ?_⟩
        rw [kat_kind_eq, List.mapM_toArray, map_eq_pure_bind]
        refine wpAny_bind (wpAny_bind (tupsF_firsts vs fs f1 (wpAny_pure ?_)))
        rw [if_neg (by simp only [List.all_toArray, List.all_eq_true]; intro q; exact absurd (q none f3) (by simp)), if_pos hf]
        exact wpAny_pure hq
      · refine ⟨oneType', l2, fun h2 E Q hq => ?_⟩
        have hne : vs ≠ [] := by rintro rfl; simp at h2
        rw [kat_kind_eq, List.mapM_toArray, map_eq_pure_bind]
        refine wpAny_bind (wpAny_bind (tupsF_firsts vs fs f1 (wpAny_pure ?_)))
        rw [if_neg (by simp only [List.all_toArray, List.all_eq_true]; intro q; exact absurd (q none f3) (by simp)), if_neg hf]
        rw [oneTypeOnly'_eq, List.mapM_toArray, map_eq_pure_bind]
        refine wpAny_bind (wpAny_bind (wpAny_bind (kas_mapM (r := Value.type "tuple") _ (fun v hv Q' hq => ?_) (wpAny_pure ?_))))
        · obtain ⟨a, o, rfl, ho, hc⟩ := tupsF_mem f1 v hv
          exact Looks.here (show Looks _ s.heap (typeOf (.ref a)) (Value.type "tuple") from hc ▸ (Looks.ld ho).andThen .now) hq
        · obtain ⟨v0, vr, rfl⟩ := List.exists_cons_of_ne_nil hne
          have hall : ((List.map (fun _ => Value.type "tuple") (v0 :: vr)).toArray.all fun x => x == Value.type "tuple") = true := by
            simp only [List.all_toArray, List.all_map, List.all_eq_true]
            intro _ _
            exact beq_self_eq_true _
          have h0 : (List.map (fun _ => Value.type "tuple") (v0 :: vr)).toArray[0]? = some (Value.type "tuple") := by simp
          rw [h0]
          simp only [hall, if_true]
          exact wpAny_pure (wpAny_pure hq)
  · refine SortsAt.data e hal (.inl fun d hd => ?_) hu
    obtain ⟨xs, rfl⟩ := ht d hd
    cases xs with
    | nil => exact absurd hd hm
    | cons x r => exact ⟨x, r, rfl⟩
/-- sorted(xs) of tuples -/
theorem sorted_tups {β : Type} {vs : List Value} {bs : List β} {enc : β → PyData} {R : Value → β → Prop} {l : Addr} {Q : Value → Shared → Prop} (hl : s.heap.IsList l vs.toArray) (e : EachIs R vs bs) (er : EachIs (fun v b => ∃ as, Reads s.heap v (enc b) as) vs bs) (hal : AllAlike (bs.map enc))
    (ht : ∀ d, d ∈ bs.map enc → ∃ xs, d = .tuple xs) (hL : bs.length ≤ sizeLine) (hu : ∀ b, b ∈ bs → A.units + 2 + (enc b).depth < cLine)
    (h : ∀ out, out.length = bs.length → EachIs R out (bs.mergeSort (dataLe false enc)) → Q (.ref (s.heap.objs.size + 1)) { s with heap := sortedAll s.heap vs (List.toArray out) }) : wpAny (model prog w) A (call (.builtin "sorted") [.ref l]) Q E s := by
  have er' : EachIs (fun v b => ∃ as, Reads (sortingHeap (copyHeap s.heap vs) (s.heap.objs.size + 1) vs) v (enc b) as) vs bs := er.mono fun _ _ ⟨as, r⟩ => ⟨as, PyProof.Rows.Reads.keeps (fun _ _ => sorting_copy_old) r⟩
  exact sorted_vals hl (sortsAt_tups (s := { s with heap := sortingHeap (copyHeap s.heap vs) (s.heap.objs.size + 1) vs }) (each_map (R := fun v d => ∃ as, Reads (sortingHeap (copyHeap s.heap vs) (s.heap.objs.size + 1) vs) v d as) enc er') hal ht (bound_map hu)) (by rw [e.length]; exact hL)
    (h _ (by rw [sortVals_length false rfl]; exact e.length) (sortVals_data false e er' hal))
end
end MP

set_option linter.all false
set_option autoImplicit false
/-! MiniPy: sorted, methods. -/
namespace MP
open PySem PyProof.Rows L2
section
variable {K : PySem.W.Frag} {L : List Nat} {μ : List Addr} {h : MH} {H : Hp}
def encM (b : MV × V) : PyData := b.1.toD.getD .none
theorem toDs_map : ∀ {xs : List MV} {ds : List PyData}, MV.toDs xs = some ds → ds = xs.map fun x => x.toD.getD .none
  | [], _, e => by simp only [MV.toDs, Option.some.injEq] at e; subst e; rfl
  | x :: xs, _, e => by
    simp only [MV.toDs, Option.bind_eq_some_iff, Option.map_eq_some_iff] at e
    obtain ⟨d, e1, ds, e2, rfl⟩ := e
    rw [List.map_cons, e1, ← toDs_map e2]; rfl
theorem toDs_some : ∀ {xs : List MV} {ds : List PyData} {x : MV}, MV.toDs xs = some ds → x ∈ xs → ∃ d, x.toD = some d ∧ d ∈ ds
  | y :: xs, _, x, e, m => by
    simp only [MV.toDs, Option.bind_eq_some_iff, Option.map_eq_some_iff] at e
    obtain ⟨d, e1, ds, e2, rfl⟩ := e
    rcases List.mem_cons.mp m with rfl | m
    · exact ⟨d, e1, by simp⟩
    · obtain ⟨d', h1, h2⟩ := toDs_some e2 m
      exact ⟨d', h1, by simp [h2]⟩
theorem zip_rv : ∀ {xs : List MV} {vs : List V} {us : List Value}, RVs K μ H xs vs → Vals vs us → W.EachIs (fun u (b : MV × V) => L2.RelV b.2 u ∧ RV K μ H b.1 b.2) us (xs.zip vs)
  | _, _, _, .nil, .nil => .nil
  | _, _, _, .cons r t, .cons r2 t2 => .cons ⟨r2, r⟩ (zip_rv t t2)
theorem zip_rd {X : Cx} {pins : List (Addr × Obj)} {σ : L2.St} {s : Shared} (I : L2.Inv X pins σ H s) : ∀ {xs : List MV} {vs : List V} {us : List Value} {ds : List PyData}, RVs X.K μ H xs vs → Vals vs us → MV.toDs xs = some ds →
    W.EachIs (fun u (b : MV × V) => ∃ as, Reads s.heap u (encM b) as) us (xs.zip vs)
  | _, _, _, _, .nil, .nil, _ => .nil
  | _, _, _, _, .cons r t, .cons r2 t2, e => by
    simp only [MV.toDs, Option.bind_eq_some_iff, Option.map_eq_some_iff] at e
    obtain ⟨d, e1, ds, e2, rfl⟩ := e
    refine .cons ?_ (zip_rd I t t2 e2)
    simp only [encM, e1, Option.getD_some]
    exact Dp.reads I d _ _ (r.dp e1) r2
theorem each_out : ∀ {us : List Value} {bs : List (MV × V)}, W.EachIs (fun u (b : MV × V) => L2.RelV b.2 u ∧ RV K μ H b.1 b.2) us bs → Vals (bs.map (·.2)) us ∧ RVs K μ H (bs.map (·.1)) (bs.map (·.2))
  | _, _, .nil => ⟨.nil, .nil⟩
  | _, _, .cons r t => ⟨.cons r.1 (each_out t).1, .cons r.2 (each_out t).2⟩
theorem zip_fst : ∀ {xs : List MV} {vs : List V}, RVs K μ H xs vs → (xs.zip vs).map (·.1) = xs
  | _, _, .nil => rfl
  | _, _, .cons r t => by rw [List.zip_cons_cons, List.map_cons, zip_fst t]
theorem zip_mem : ∀ {xs : List MV} {vs : List V} {b : MV × V}, b ∈ xs.zip vs → b.1 ∈ xs := fun {xs vs b} h => (List.of_mem_zip h).1
end
section
variable {X : Cx} {L : List Nat}
theorem f_sorted (hr : X.A.units + 100 < cLine) : CallR X (.builtin "sorted") (rFn X.K L .sorted) := by
  intro pins s σ H xs us Q I rx ⟨μ, h, H0, as, tv, rh, ra, dm, e0, f⟩
  obtain ⟨a, rfl, e⟩ := f1_some (show f1 _ as = some tv from e0)
  obtain ⟨x, rfl, r⟩ := ra.one
  clear e0
  simp only [Option.bind_eq_some_iff] at e
  obtain ⟨ys, e1, e2⟩ := e
  split at e2
  · rename_i ok
    cases e2
    obtain ⟨p, vs, rfl, h1, h2⟩ := r.list rh e1
    obtain ⟨u, rfl, ru⟩ := vals1 rx
    cases (show u = Value.ref p from ru)
    obtain ⟨its, rv, hl, hz⟩ := I.list h1
    unfold sortOk at ok
    split at ok
    · rename_i ds hds
      simp only [Bool.and_eq_true, Bool.or_eq_true, List.all_eq_true, decide_eq_true_eq] at ok
      obtain ⟨o1, o2, o3⟩ := ok
      have mem : ∀ b, b ∈ ys.zip vs → ∃ d, b.1.toD = some d ∧ d ∈ ds ∧ encM b = d := fun b hb => by
        obtain ⟨d, q1, q2⟩ := toDs_some hds (zip_mem hb)
        exact ⟨d, q1, q2, by simp [encM, q1]⟩
      have hlen : ys.length = vs.length := h2.length
      have hz' : (ys.zip vs).length ≤ sizeLine := by
        rw [List.length_zip, hlen, Nat.min_self]; exact sq_len rh.bnd (.inl h1)
      have fin : ∀ out : List Value, out.length = (ys.zip vs).length → W.EachIs (fun u (b : MV × V) => L2.RelV b.2 u ∧ RV X.K μ H b.1 b.2) out ((ys.zip vs).mergeSort (W.dataLe false encM)) → EP X pins σ Q (.ref (s.heap.objs.size + 1)) { s with heap := sortedAll s.heap its out.toArray } := by
        intro out ho eo
        obtain ⟨ep, he'⟩ := PyProof.Rows.sortedAll_at s.heap its out.toArray
        obtain ⟨g1, g2⟩ := each_out (K := X.K) eo
        have es : ((ys.zip vs).mergeSort (W.dataLe false encM)).map (·.1) = sortT ys := by
          have em := List.map_mergeSort (r := W.dataLe false encM) (s := leD) (f := fun b : MV × V => b.1) (l := ys.zip vs) (fun a ha b hb => by
            obtain ⟨d1, q0, q1, q2⟩ := mem a ha
            obtain ⟨d2, q3, q4, q5⟩ := mem b hb
            simp only [leD, q0, q3]
            show (!W.dataLt (encM b) (encM a)) = _
            rw [q2, q5])
          rw [em, zip_fst h2]; rfl
        rw [es] at g2
        have hl2 : (((ys.zip vs).mergeSort (W.dataLe false encM)).map (·.2)).length ≤ sizeLine := by
          rw [List.length_map, List.length_mergeSort]; exact hz'
        exact ⟨.ref _, upd H (s.heap.objs.size + 1) (.lst (((ys.zip vs).mergeSort (W.dataLe false encM)).map (·.2))), I.laid (t' := s.toks) (fun _ _ => PyProof.Rows.sortedAll_old) (Nat.le_succ _) ⟨hl2, out, ep, g1, by simpa using he'⟩, rfl,
          f.new rh dm g2 hl2 _ (I.hok.fresh (Nat.le_succ _))⟩
      have al : W.AllAlike ((ys.zip vs).map encM) := by
        intro d hd d' hd'
        obtain ⟨b, hb, rfl⟩ := List.mem_map.mp hd
        obtain ⟨b', hb', rfl⟩ := List.mem_map.mp hd'
        obtain ⟨d1, _, q1, q2⟩ := mem b hb
        obtain ⟨d2, _, q3, q4⟩ := mem b' hb'
        rw [q2, q4]
        exact o1 d1 q1 d2 q3
      have dep : ∀ b, b ∈ ys.zip vs → X.A.units + 2 + (encM b).depth < cLine := by
        intro b hb
        obtain ⟨d1, _, q1, q2⟩ := mem b hb
        rw [q2]
        have := o2 d1 q1
        omega
      rcases o3 with o3 | o3
      · refine sorted_tups (bs := ys.zip vs) (enc := encM) hl.isList (zip_rv h2 rv) (zip_rd I h2 rv hds) al (fun d hd => ?_) hz' dep fin
        obtain ⟨b, hb, rfl⟩ := List.mem_map.mp hd
        obtain ⟨d1, _, q1, q2⟩ := mem b hb
        rw [q2]
        have := o3 d1 q1
        split at this
        · exact ⟨_, rfl⟩
        · cases this
      · refine W.sorted_data (bs := ys.zip vs) (enc := encM) hl.isList (zip_rv h2 rv) (zip_rd I h2 rv hds) al (.inr fun d hd => ?_) hz' dep fin
        obtain ⟨b, hb, rfl⟩ := List.mem_map.mp hd
        obtain ⟨d1, _, q1, q2⟩ := mem b hb
        rw [q2]
        have := o3 d1 q1
        refine ⟨fun z => ?_, fun xs z => ?_⟩ <;> (subst z; cases this)
    · cases ok
  · cases e2
/-! methods -/
def rMt (K : PySem.W.Frag) (L : List Nat) (m : MM) : V → List V → Hp → VK → Prop := fun x xs H Q => ∃ μ h H0 o as tv h', RH K L μ h H ∧ RV K μ H o x ∧ RTs K μ H as xs ∧ (∀ a, H a = none → H0 a = none) ∧ mthT h m o as = some (tv, h') ∧
  ∀ μ' H' z, Ext μ H μ' H' → RH K L μ' h' H' → RTn K H0 tv μ' H' z → Q z H'
theorem atL_some {h : MH} {o : MV} {g : Nat → List MV → Option (TV × MH)} {r : TV × MH} (e : atL h o g = some r) : ∃ p xs, o = .ref p ∧ h[p]? = some (.lst xs) ∧ g p xs = some r := by
  unfold atL at e
  split at e
  · split at e
    · rename_i q1; exact ⟨_, _, rfl, q1, e⟩
    · cases e
  · cases e
theorem argV_some {as : List TV} {y : MV} (e : argV as = some y) : as = [.v y] := by
  unfold argV at e
  split at e
  · cases e; rfl
  · cases e
theorem arg1_some {as : List TV} {y : TV} (e : arg1 as = some y) : as = [y] := by
  unfold arg1 at e
  split at e
  · cases e; rfl
  · cases e
theorem strM_some {o : MV} {z : Str} (e : strM o = some z) : o = .str z := by
  unfold strM at e
  split at e
  · cases e; rfl
  · cases e
theorem RTs.v1 {K : PySem.W.Frag} {μ : List Addr} {H : Hp} {y : MV} {xs : List V} (r : RTs K μ H [.v y] xs) : ∃ z, xs = [z] ∧ RV K μ H y z := by
  obtain ⟨x, rfl, r'⟩ := r.one
  cases r' with | v r' => exact ⟨x, rfl, r'⟩
theorem m_append : MtR X "list.append" (rMt X.K L .append) := by
  intro pins s σ H x xs v us Q I rx rxs ⟨μ, h, H0, o, as, tv, h', rh, ro, ra, dm, e, f⟩
  obtain ⟨y, e1, e⟩ := Option.bind_eq_some_iff.mp (show appendT h o as = some (tv, h') from e)
  have ea := argV_some e1
  subst ea
  obtain ⟨p, ys, rfl, q1, e⟩ := atL_some e
  split at e
  · rename_i z
    cases e
    cases ro with | ref e2 =>
    obtain ⟨w, rfl, rw'⟩ := ra.v1
    obtain ⟨vs, g1, g2⟩ := rh.lstO q1 e2
    have z' := z
    rw [g2.length] at z'
    obtain ⟨ex, rh'⟩ := rh.setL (ys := ys ++ [y]) (ws := vs ++ [w]) q1 e2 g1 (g2.append (.cons rw' .nil)) (by rw [List.length_append]; exact z')
    exact mt_append pins s σ H _ _ v us Q I rx rxs ⟨_, vs, w, rfl, rfl, g1, z', f μ _ _ ex rh' ⟨.v .non, fun _ _ e => nomatch e⟩⟩
  · cases e
theorem m_extend : MtR X "list.extend" (rMt X.K L .extend) := by
  intro pins s σ H x xs v us Q I rx rxs ⟨μ, h, H0, o, as, tv, h', rh, ro, ra, dm, e, f⟩
  obtain ⟨a, e1, e⟩ := Option.bind_eq_some_iff.mp (show extendT h o as = some (tv, h') from e)
  have ea := arg1_some e1
  subst ea
  obtain ⟨zs, e3, e⟩ := Option.bind_eq_some_iff.mp e
  obtain ⟨p, ys, rfl, q1, e⟩ := atL_some e
  split at e
  · rename_i z
    cases e
    cases ro with | ref e2 =>
    obtain ⟨w, rfl, rw'⟩ := ra.one
    obtain ⟨q, ws, rfl, w1, w2⟩ := rw'.lst rh e3
    obtain ⟨vs, g1, g2⟩ := rh.lstO q1 e2
    have z' := z
    rw [g2.length, w2.length] at z'
    obtain ⟨ex, rh'⟩ := rh.setL (ys := ys ++ zs) (ws := vs ++ ws) q1 e2 g1 (g2.append w2) (by rw [List.length_append]; exact z')
    exact mt_extend pins s σ H _ _ v us Q I rx rxs ⟨_, q, vs, ws, rfl, rfl, g1, w1, z', f μ _ _ ex rh' ⟨.v .non, fun _ _ e => nomatch e⟩⟩
  · cases e
theorem m_pop : MtR X "list.pop" (rMt X.K L .pop) := by
  intro pins s σ H x xs v us Q I rx rxs ⟨μ, h, H0, o, as, tv, h', rh, ro, ra, dm, e, f⟩
  have e' : popT h o as = some (tv, h') := e
  unfold popT at e'
  split at e'
  · obtain ⟨p, ys, rfl, q1, e'⟩ := atL_some e'
    obtain ⟨y, e3, e4⟩ := Option.map_eq_some_iff.mp e'
    cases e4
    cases ra
    cases ro with | ref e2 =>
    obtain ⟨vs, g1, g2⟩ := rh.lstO q1 e2
    obtain ⟨w, w1, w2⟩ := g2.get e3
    rw [g2.length] at w1
    have hz : vs.dropLast.length ≤ sizeLine := by
      have := rh.bnd _ vs (.inr (.inl g1))
      rw [List.length_dropLast]; omega
    obtain ⟨ex, rh'⟩ := rh.setL (ys := ys.dropLast) (ws := vs.dropLast) q1 e2 g1 g2.dropLast hz
    exact mt_pop pins s σ H _ _ v us Q I rx rxs ⟨_, vs, w, rfl, rfl, g1, w1, f μ _ _ ex rh' ⟨.v (w2.mono ex), fun _ _ e => nomatch e⟩⟩
  · cases e'
theorem m_join : MtR X "str.join" (rMt X.K L .join) := by
  intro pins s σ H x xs v us Q I rx rxs ⟨μ, h, H0, o, as, tv, h', rh, ro, ra, dm, e, f⟩
  obtain ⟨a, e1, e⟩ := Option.bind_eq_some_iff.mp (show joinT h o as = some (tv, h') from e)
  have ea := arg1_some e1
  subst ea
  obtain ⟨z, e2, e⟩ := Option.bind_eq_some_iff.mp e
  have eo := strM_some e2
  subst eo
  obtain ⟨ys, e3, e⟩ := Option.bind_eq_some_iff.mp e
  obtain ⟨ts, e4, e⟩ := Option.bind_eq_some_iff.mp e
  split at e
  · rename_i hz
    cases e
    cases ro
    obtain ⟨w, rfl, rw'⟩ := ra.one
    obtain ⟨p, vs, rfl, g1, g2⟩ := rw'.seq rh e3
    rw [g2.strs_of e4] at g1
    exact mt_join pins s σ H _ _ v us Q I rx rxs ⟨_, p, ts, rfl, rfl, g1, hz, f μ H _ (Ext.refl _ _) rh ⟨.v (.str _), fun _ _ e => nomatch e⟩⟩
  · cases e
theorem m_split : MtR X "str.split" (rMt X.K L .split) := by
  intro pins s σ H x xs v us Q I rx rxs ⟨μ, h, H0, o, as, tv, h', rh, ro, ra, dm, e, f⟩
  obtain ⟨a, e1, e⟩ := Option.bind_eq_some_iff.mp (show splitT h o as = some (tv, h') from e)
  have ea := argV_some e1
  subst ea
  obtain ⟨z, e2, e⟩ := Option.bind_eq_some_iff.mp e
  have eo := strM_some e2
  subst eo
  obtain ⟨b, e3, e6⟩ := Option.bind_eq_some_iff.mp e
  have eb := strM_some e3
  subst eb
  split at e6
  · rename_i hz
    cases e6
    cases ro
    obtain ⟨w, rfl, rw'⟩ := ra.v1
    cases rw'
    have hl : ((Txt.split z b).map V.str).length ≤ sizeLine := by
      rw [List.length_map]; exact Nat.le_trans (PyProof.Rows.split_le z b) (by have := hz.2; omega)
    have ff : Fin X.K L H0 μ h H (.t ((Txt.split z b).map .str)) Q := f
    exact mt_split pins s σ H _ _ v us Q I rx rxs ⟨_, _, rfl, rfl, hz.1, hz.2, fun p n => ff.new rh dm (RVs.strs _) hl p n⟩
  · cases e6
theorem m_starts : MtR X "str.startswith" (rMt X.K L .startswith) := by
  intro pins s σ H x xs v us Q I rx rxs ⟨μ, h, H0, o, as, tv, h', rh, ro, ra, dm, e, f⟩
  obtain ⟨a, e1, e⟩ := Option.bind_eq_some_iff.mp (show startsT h o as = some (tv, h') from e)
  have ea := argV_some e1
  subst ea
  obtain ⟨z, e2, e⟩ := Option.bind_eq_some_iff.mp e
  have eo := strM_some e2
  subst eo
  obtain ⟨b, e3, e6⟩ := Option.bind_eq_some_iff.mp e
  have eb := strM_some e3
  subst eb
  cases e6
  cases ro
  obtain ⟨w, rfl, rw'⟩ := ra.v1
  cases rw'
  exact mt_startswith pins s σ H _ _ v us Q I rx rxs ⟨_, _, rfl, rfl, f μ H _ (Ext.refl _ _) rh ⟨.v (.bl _), fun _ _ e => nomatch e⟩⟩
end
end MP

set_option linter.all false
set_option autoImplicit false
/-! MiniPy: built-ins, methods and defs called. -/
namespace MP
open PySem PyProof.Rows L2
section
variable {X : Cx} {T : XT} {L : List Nat} {W : WX}
/-- an argument that is no star -/
def noStar : Expr → Bool
  | .Starred _ _ => false
  | _ => true
theorem star_cons {e : Expr} {es : List Expr} {env : Env} (h : noStar e = true) : starEach (e :: es) env = (false, eval e env) :: starEach es env := by
  cases e <;> first | rfl | cases h
theorem star_any {pos : Pos} {env : Env} : ∀ {es : List Expr}, es.all noStar = true → ((backTo pos (starEach es env)).any fun x => x.1) = false
  | [], _ => rfl
  | e :: es, h => by
    rw [List.all_cons, Bool.and_eq_true] at h
    rw [star_cons h.1]
    show (false || (backTo pos (starEach es env)).any _) = false
    rw [Bool.false_or]
    exact star_any h.2
theorem e_fnB {x : Str} {e : Expr} {es : List Expr} {p pos : Pos} {ds : MS → MH → Res (List TV)} {b : BI} {id : String} (hc : CallR X (.builtin id) (rFn X.K L b)) (hg : Gl X x) (hm : X.mg x = none) (hv : bootBuiltins x = some (.builtin id)) (hn : x ≠ "__name__") (hdb : (x == ("__debug__" : Str)) = false)
    (ha : QTs X T L W (e :: es) ds) (hs : (e :: es).all noStar = true) : QT X T L W (.Call (.Name x p) (e :: es) [] pos) (fun σ h => (ds σ h).bind fun as h => Res.of h (fnT h b as)) := by
  rw [List.all_cons, Bool.and_eq_true] at hs
  refine PE.imp (pe_callB hc hg hm hv ha hn hdb (star_cons hs.1) (star_any hs.2)) fun σ H Q ⟨μ, h, σm, ri, p⟩ => ?_
  refine ⟨μ, h, σm, ri, (Post.bind p).imp fun x H1 ⟨a, h1, μ1, e1, rh1, ra, p1⟩ => ?_⟩
  obtain ⟨tv, etv, f⟩ := Post.of p1
  exact ⟨μ1, h1, H, a, tv, rh1, ra, e1.dom, etv, f⟩
theorem e_fnT {x : Str} {e : Expr} {es : List Expr} {p pos : Pos} {ds : MS → MH → Res (List TV)} {b : BI} {id : String} (hc : CallR X (.type id) (rFn X.K L b)) (hg : Gl X x) (hm : X.mg x = none) (hv : bootBuiltins x = some (.type id)) (hn : x ≠ "__name__") (hdb : (x == ("__debug__" : Str)) = false)
    (ha : QTs X T L W (e :: es) ds) (hs : (e :: es).all noStar = true) : QT X T L W (.Call (.Name x p) (e :: es) [] pos) (fun σ h => (ds σ h).bind fun as h => Res.of h (fnT h b as)) := by
  rw [List.all_cons, Bool.and_eq_true] at hs
  refine PE.imp (pe_callTy hc hg hm hv ha hn hdb (star_cons hs.1) (star_any hs.2)) fun σ H Q ⟨μ, h, σm, ri, p⟩ => ?_
  refine ⟨μ, h, σm, ri, (Post.bind p).imp fun x H1 ⟨a, h1, μ1, e1, rh1, ra, p1⟩ => ?_⟩
  obtain ⟨tv, etv, f⟩ := Post.of p1
  exact ⟨μ1, h1, H, a, tv, rh1, ra, e1.dom, etv, f⟩
/-! methods -/
theorem rvs_ts {K : PySem.W.Frag} {μ : List Addr} {H : Hp} : ∀ {xs : List MV} {vs : List V}, RVs K μ H xs vs → RTs K μ H (xs.map TV.v) vs
  | _, _, .nil => .nil
  | _, _, .cons r t => .cons (.v r) (rvs_ts t)
theorem vs_ts {es : List Expr} {ds : MS → MH → Res (List MV)} (h : QVs X T L W es ds) : QTs X T L W es (fun σ h => (ds σ h).bind fun as h => .ok (as.map TV.v) h) := by
  refine PA.imp h fun σ H Q ⟨μ, h, σm, ri, p⟩ => ?_
  refine ⟨μ, h, σm, ri, (Post.bind p).imp fun x H1 ⟨a, h1, μ1, e1, rh1, ra, p1⟩ => ?_⟩
  exact p1.ok rh1 (rvs_ts ra)
/-- the kind of thing whose method it is -/
def mmT : MM → String
  | .append => "list" | .extend => "list" | .pop => "list" | .insert => "list" | .remove => "list"
  | .join => "str" | .split => "str" | .startswith => "str" | .count => "list" | .index => "list" | .get => "dict"
theorem mth_ty {K : PySem.W.Frag} {μ : List Addr} {h : MH} {H : Hp} {m : MM} {o : MV} {x : V} (rh : RH K L μ h H) (ro : RV K μ H o x) (e : mOk h m o = true) : tyV K (mmT m) x H := by
  have lst : (lstOf h (.v o)).isSome = true → tyV K "list" x H := by
    intro e
    obtain ⟨xs, e⟩ := Option.isSome_iff_exists.mp e
    obtain ⟨p, vs, rfl, g, _⟩ := (RT.v ro).lst rh e
    exact .inl ⟨rfl, vs, .inl (.inl g)⟩
  have st : (strM o).isSome = true → tyV K "str" x H := by
    intro e
    obtain ⟨z, e⟩ := Option.isSome_iff_exists.mp e
    have := strM_some e
    subst this
    cases ro; rfl
  cases m <;> first | exact lst e | exact st e | cases e
abbrev dMth (m : MM) (eo : MS → MH → Res TV) (ds : MS → MH → Res (List TV)) : MS → MH → Res TV := fun σ h => (eo σ h).bind fun x h => (Res.of h (vOf x)).bind fun ov h => if mOk h m ov then
    (ds σ h).bind fun as h => (match mthT h m ov as with
    | some (v, h') => .ok v h'
    | none => .bad) else .bad
theorem dMth_ok {m : MM} {eo : MS → MH → Res TV} {ds : MS → MH → Res (List TV)} {σ : L2.St} {H : Hp} {Q : VK} (q : tT X.K T L W (dMth m eo ds) σ H Q) : tBM X.K (mmT m) (rMt X.K L m) (tT X.K T L W eo) (tTs X.K T L W ds) σ H Q := by
  obtain ⟨μ, h, σm, ri, p⟩ := q
  refine ⟨μ, h, σm, ri, (Post.bind p).imp fun x H1 ⟨a, h1, μ1, e1, rh1, ra, p1⟩ => ?_⟩
  obtain ⟨ov, ev, p2⟩ := Post.of_bind p1
  have ea := vOf_v ev
  subst ea
  cases ra.1 with | v ro =>
  split at p2
  · rename_i ok
    refine ⟨mth_ty rh1 ro ok, μ1, h1, σm, ri.mono e1 rh1, (Post.bind p2).imp fun xs H2 ⟨as, h2, μ2, e2, rh2, rs, p3⟩ => ?_⟩
    split at p3
    · rename_i tv h' e3
      exact ⟨μ2, h2, H, ov, as, tv, h', rh2, ro.mono e2, rs, fun _ z => e1.dom _ (e2.dom _ z), e3, fun μ' H' z x y g => p3 μ' H' z x y g⟩
    · exact p3.elim
  · exact p2.elim
theorem e_mth {m : MM} {name : Str} {id : String} {o e : Expr} {es : List Expr} {apos cpos : Pos} {eo : MS → MH → Res TV} {ds : MS → MH → Res (List TV)} (pa : PlainAttrs (mmT m)) (slot : Slot (mmT m) name id) (hty : typeOf (.builtin id) = pure (.type "method_descriptor")) (hm : MtR X id (rMt X.K L m))
    (ho : QT X T L W o eo) (ha : QTs X T L W (e :: es) ds) (hb : attributeBase o name X.env (eval o X.env) = eval o X.env) (hs : (e :: es).all noStar = true) (hz : es.length < 20) (hl : (apos.endLine == cpos.line) = true) :
    QT X T L W (.Call (.Attribute o name apos) (e :: es) [] cpos) (dMth m eo ds) := by
  have hs' := hs
  rw [List.all_cons, Bool.and_eq_true] at hs
  refine PE.imp (pe_bm pa slot hty hm ho ha hb ?_ hl (star_cons hs.1) (star_any hs.2)) fun _ _ _ => dMth_ok
  have h1 : ((backTo cpos (starEach (e :: es) X.env)).all fun x => !x.1) = true := by
    have := star_any (pos := cpos) (env := X.env) hs'
    rw [List.all_eq_not_any_not, Bool.not_eq_true']
    simpa using this
  rw [h1]
  simp only [keywordEach, backToKw, List.map_nil, List.all_nil, Bool.and_true, Bool.true_and, decide_eq_true_eq, List.length_cons, List.length_nil, List.isEmpty_nil, if_true]
  omega
theorem e_mth0 {m : MM} {name : Str} {id : String} {o : Expr} {apos cpos : Pos} {eo : MS → MH → Res TV} (pa : PlainAttrs (mmT m)) (slot : Slot (mmT m) name id) (hty : typeOf (.builtin id) = pure (.type "method_descriptor")) (hm : MtR X id (rMt X.K L m))
    (ho : QT X T L W o eo) (hb : attributeBase o name X.env (eval o X.env) = eval o X.env) (hl : (apos.endLine == cpos.line) = true) :
    QT X T L W (.Call (.Attribute o name apos) [] [] cpos) (dMth m eo fun _ h => .ok [] h) := by
  refine PE.imp (pe_bm0 pa slot hty hm ho hb hl) fun σ H Q q => ?_
  obtain ⟨μ, h, σm, ri, q⟩ := dMth_ok q
  refine ⟨μ, h, σm, ri, q.imp fun x H1 ⟨t1, μ1, h1, σm1, ri1, q1⟩ => ⟨t1, ?_⟩⟩
  exact q1.ok ri1.h .nil
end
end MP

set_option linter.all false
set_option autoImplicit false
/-! MiniPy: defs called. -/
namespace MP
open PySem PyProof.Rows L2

/-- what a def of the program promises: what C says of it -/
def spM (K : PySem.W.Frag) (T : XT) (C : List Nat → List MV → MH → Res MV) (n : Nat) : Sp := fun vs H Q Ex => ∃ L μ h as, RH K L μ h H ∧ RVs K μ H as vs ∧ as.length = n ∧ Post K T L (fun a μ H z => RV K μ H a z) μ H Ex Q (C L as h)
theorem spM_len {K : PySem.W.Frag} {T : XT} {C : List Nat → List MV → MH → Res MV} {n : Nat} {ps : List Str} (hp : ps.length = n) : ∀ vs H Q E, spM K T C n vs H Q E → vs.length = ps.length := fun vs H Q E ⟨L, μ, h, as, _, r, l, _⟩ => by rw [← r.length, l, hp]
/-- the keywords of a call: so many values by place, these names, the parameters' places of the names -/
abbrev Kws := Nat × List Str × List Nat
structure CallOk (X : Cx) (T : XT) (C : List Nat → List MV → MH → Res MV) (x : Str) (n : Nat) (kws : List Kws) : Prop where
  ex : ∃ (f : Addr) (fd : FuncData) (k : Nat) (ps : List Str), FnOk X.prog X.w X.K X.mg X.base (L2.CX X.prog X.w) k f fd ps (spM X.K T C n) ∧ ps.length = n ∧ Room k X.A ∧ X.mg x = some (.ref f) ∧ PySem.W.keepIn X.K (.ref f) = true ∧ Binds X.K fd ps [] ∧
    ∀ q ∈ kws, ∀ (s : Shared) (us ws : List Value), X.K.In s.heap → us.length = q.1 → ws.length = q.2.1.length → (arr q.2.2 us ws).length = n → BindsTo s fd ⟨us, q.2.1.zip ws⟩ (ps.zip (arr q.2.2 us ws))
  bad : ∀ L as h, as.length ≠ n → C L as h = .bad
section
variable {X : Cx} {T : XT} {L : List Nat} {W : WX}
theorem at_takes (tk : Takes X W) (σ : L2.St) : PassesAt (L2.CX X.prog X.w) X σ (fun c d H => W c d σ H) := passAt tk σ
abbrev dCall (C : List Nat → List MV → MH → Res MV) (L : List Nat) (ds : MS → MH → Res (List MV)) : MS → MH → Res TV := fun σ h => (ds σ h).bind fun as h => (C L as h).bind fun v h => .ok (.v v) h
theorem post_v {K : PySem.W.Frag} {μ : List Addr} {H H0 : Hp} {Wx : XK} {Q : VK} {r : Res MV} (p : Post K T L (RTn K H0) μ H Wx Q (r.bind fun v h => .ok (.v v) h)) : Post K T L (fun a μ H z => RV K μ H a z) μ H Wx Q r := by
  cases r with
  | ok a h => exact fun μ' H' z x y g => p μ' H' z x y ⟨.v g, fun _ _ e => nomatch e⟩
  | exc c vs h => exact p
  | bad => exact p
theorem post_len {α β : Type} {K : PySem.W.Frag} {G : α → List Addr → Hp → β → Prop} {μ : List Addr} {H : Hp} {Wx : XK} {Q : β → Hp → Prop} {γ : Type} {C : List MV → MH → Res γ} {f : γ → MH → Res α} {n : Nat} {as : List MV} {h : MH} (hb : as.length ≠ n → C as h = .bad) (p : Post K T L G μ H Wx Q ((C as h).bind f)) : as.length = n := by
  by_cases c : as.length = n
  · exact c
  · rw [hb c] at p; exact p.elim
theorem e_call {C : List Nat → List MV → MH → Res MV} {x : Str} {n : Nat} {kws : List Kws} {e : Expr} {es : List Expr} {p pos : Pos} {ds : MS → MH → Res (List MV)} (ck : CallOk X T C x n kws) (tk : Takes X W) (hg : Gl X x) (hdb : (x == ("__debug__" : Str)) = false)
    (ha : QVs X T L W (e :: es) ds) (hs : (e :: es).all noStar = true) : QT X T L W (.Call (.Name x p) (e :: es) [] pos) (dCall C L ds) := by
  obtain ⟨f, fd, k, ps, F, hp, hr, hm, hk, hb, _⟩ := ck.ex
  rw [List.all_cons, Bool.and_eq_true] at hs
  refine PE.imp (pe_callS F hr hg hm hk hb (at_takes tk) ha hdb (star_cons hs.1) (star_any hs.2)) fun σ H Q ⟨μ, h, σm, ri, p⟩ => ?_
  refine ⟨μ, h, σm, ri, (Post.bind p).imp fun vs H1 ⟨as, h1, μ1, e1, rh1, ra, p1⟩ => ?_⟩
  exact ⟨L, μ1, h1, as, rh1, ra, post_len (ck.bad L as h1) p1, post_v p1⟩
theorem run_fn0 {C : List Nat → List MV → MH → Res MV} {f : Addr} {fd : FuncData} {k n : Nat} {ps : List Str} (F : FnOk X.prog X.w X.K X.mg X.base (L2.CX X.prog X.w) k f fd ps (spM X.K T C n)) (hr : Room k X.A) (hb : Binds X.K fd ps []) (tk : Takes X W) {pins : List (Addr × Obj)} {σ : L2.St} {H : Hp} {s : Shared} {Q : VK}
    (I : L2.Inv X pins σ H s) (h : spM X.K T C n [] H Q (fun c d H => W c d σ H)) : wpAny (model X.prog X.w) X.A (call (.ref f) []) (EP X pins σ Q) X.xe s := run_fnS (us := []) (vs := []) (E := fun σ c d H => W c d σ H) F hr hb (at_takes tk σ) I .nil h
theorem e_call0 {C : List Nat → List MV → MH → Res MV} {x : Str} {n : Nat} {kws : List Kws} {p pos : Pos} (ck : CallOk X T C x n kws) (tk : Takes X W) (hg : Gl X x) (hdb : (x == ("__debug__" : Str)) = false) :
    QT X T L W (.Call (.Name x p) [] [] pos) (dCall C L fun _ h => .ok [] h) := by
  obtain ⟨f, fd, k, ps, F, hp, hr, hm, hk, hb, _⟩ := ck.ex
  refine ⟨fun pins s σ H Q I ⟨μ, h, σm, ri, p⟩ => ?_⟩
  refine wpAny_Call_Name_kw (ld_glob I hg hm ?_ hdb)
  refine PySem.W.callWith_K0 I.kIn hk (run_fn0 F hr hb tk I ?_)
  exact ⟨L, μ, h, [], ri.h, .nil, post_len (ck.bad L [] h) p, post_v p⟩
/-! keywords -/
abbrev QKs (X : Cx) (T : XT) (L : List Nat) (W : WX) (e : List Keyword) (d : MS → MH → Res (List MV)) : Prop := PK X e (tVs X.K T L W d)
theorem PK.imp {e : List Keyword} {t t' : TA} (p : PK X e t) (h : ∀ σ H Q, t' σ H Q → t σ H Q) : PK X e t' := ⟨fun pos pins s σ H Q I q => p.run pos pins s σ H Q I (h σ H Q q)⟩
theorem ks_nil : QKs X T L W [] (fun _ h => .ok [] h) := PK.imp pk_nil fun σ H Q ⟨μ, h, σm, ri, p⟩ => p.ok ri.h .nil
theorem ks_cons {nm : Option Str} {e : Expr} {kp : Pos} {es : List Keyword} {ea : MS → MH → Res TV} {ds : MS → MH → Res (List MV)} (ha : QT X T L W e ea) (hr : QKs X T L W es ds) :
    QKs X T L W (⟨nm, e, kp⟩ :: es) (fun σ h => ((ea σ h).bind settle).bind fun v h => (ds σ h).bind fun vs h => .ok (v :: vs) h) := by
  refine PK.imp (pk_cons (settle_ok ha) hr) fun σ H Q ⟨μ, h, σm, ri, p⟩ => ?_
  exact ⟨μ, h, σm, ri, (Post.bind p).imp fun x H1 ⟨a, h1, μ1, e1, rh1, ra, p1⟩ => ⟨μ1, h1, σm, ri.mono e1 rh1, (Post.bind p1).imp fun y H2 ⟨b, h2, μ2, e2, rh2, rb, p2⟩ => p2.ok rh2 (.cons (ra.mono e2) rb)⟩⟩
theorem kw_all {pos : Pos} {env : Env} : ∀ {ks : List Keyword}, ks.all (fun k => k.arg.isSome) = true → ((backToKw pos (keywordEach ks env)).all fun x => x.1.isSome) = true ∧ ((backToKw pos (keywordEach ks env)).any fun x => x.1.isNone) = false ∧ (backToKw pos (keywordEach ks env)).filterMap (fun x => x.1) = ks.filterMap (fun k => k.arg)
  | [], _ => ⟨rfl, rfl, rfl⟩
  | ⟨nm, e, kp⟩ :: ks, h => by
    rw [List.all_cons, Bool.and_eq_true] at h
    obtain ⟨h1, h2, h3⟩ := kw_all (pos := pos) (env := env) h.2
    cases nm with
    | none => cases h.1
    | some nm =>
      refine ⟨?_, ?_, ?_⟩
      · show (true && (backToKw pos (keywordEach ks env)).all _) = true
        rw [h1]; rfl
      · show (false || (backToKw pos (keywordEach ks env)).any _) = false
        rw [h2]; rfl
      · show nm :: (backToKw pos (keywordEach ks env)).filterMap _ = nm :: _
        rw [h3]
theorem vals_at : ∀ {zs : List V} {ws : List Value} (i : Nat), Vals zs ws → (∃ z w, zs[i]? = some z ∧ ws[i]? = some w ∧ L2.RelV z w) ∨ (zs[i]? = none ∧ ws[i]? = none)
  | _, _, _, .nil => .inr ⟨by simp, by simp⟩
  | _, _, 0, .cons r _ => .inl ⟨_, _, rfl, rfl, r⟩
  | _, _, i + 1, .cons _ t => by simpa using vals_at i t
theorem vals_pick {zs : List V} {ws : List Value} (r : Vals zs ws) (f : Nat → Nat) : ∀ is : List Nat, Vals (is.filterMap fun i => zs[f i]?) (is.filterMap fun i => ws[f i]?)
  | [] => .nil
  | i :: is => by
    rcases vals_at (f i) r with ⟨z, w, e1, e2, q⟩ | ⟨e1, e2⟩
    · simp only [List.filterMap_cons, e1, e2]
      exact .cons q (vals_pick r f is)
    · simp only [List.filterMap_cons, e1, e2]
      exact vals_pick r f is
theorem vals_arr {ks : List Nat} {vs zs : List V} {us ws : List Value} (r : Vals vs us) (r2 : Vals zs ws) : Vals (arr ks vs zs) (arr ks us ws) := by
  unfold arr
  rw [r.length]
  exact r.append (vals_pick r2 (fun i => ks.idxOf (us.length + i)) _)
theorem rvs_at {K : PySem.W.Frag} {μ : List Addr} {H : Hp} : ∀ {zs : List MV} {ws : List V} (i : Nat), RVs K μ H zs ws → (∃ z w, zs[i]? = some z ∧ ws[i]? = some w ∧ RV K μ H z w) ∨ (zs[i]? = none ∧ ws[i]? = none)
  | _, _, _, .nil => .inr ⟨by simp, by simp⟩
  | _, _, 0, .cons r _ => .inl ⟨_, _, rfl, rfl, r⟩
  | _, _, i + 1, .cons _ t => by simpa using rvs_at i t
theorem rvs_pick {K : PySem.W.Frag} {μ : List Addr} {H : Hp} {zs : List MV} {ws : List V} (r : RVs K μ H zs ws) (f : Nat → Nat) : ∀ is : List Nat, RVs K μ H (is.filterMap fun i => zs[f i]?) (is.filterMap fun i => ws[f i]?)
  | [] => .nil
  | i :: is => by
    rcases rvs_at (f i) r with ⟨z, w, e1, e2, q⟩ | ⟨e1, e2⟩
    · simp only [List.filterMap_cons, e1, e2]
      exact .cons q (rvs_pick r f is)
    · simp only [List.filterMap_cons, e1, e2]
      exact rvs_pick r f is
theorem rvs_arr {K : PySem.W.Frag} {μ : List Addr} {H : Hp} {ks : List Nat} {vs zs : List MV} {us ws : List V} (r : RVs K μ H vs us) (r2 : RVs K μ H zs ws) : RVs K μ H (arr ks vs zs) (arr ks us ws) := by
  unfold arr
  rw [r.length]
  exact r.append (rvs_pick r2 (fun i => ks.idxOf (us.length + i)) _)
abbrev dCallK (C : List Nat → List MV → MH → Res MV) (L : List Nat) (ks : List Nat) (ds dk : MS → MH → Res (List MV)) : MS → MH → Res TV := fun σ h => (ds σ h).bind fun as h => (dk σ h).bind fun bs h => (C L (arr ks as bs) h).bind fun v h => .ok (.v v) h
theorem run_fnkS {C : List Nat → List MV → MH → Res MV} {f : Addr} {fd : FuncData} {k n : Nat} {ps : List Str} {q : Kws} (F : FnOk X.prog X.w X.K X.mg X.base (L2.CX X.prog X.w) k f fd ps (spM X.K T C n)) (hp : ps.length = n) (hr : Room k X.A)
    (hb : ∀ (s : Shared) (us ws : List Value), X.K.In s.heap → us.length = q.1 → ws.length = q.2.1.length → (arr q.2.2 us ws).length = n → BindsTo s fd ⟨us, q.2.1.zip ws⟩ (ps.zip (arr q.2.2 us ws))) (tk : Takes X W)
    {pins : List (Addr × Obj)} {σ : L2.St} {H : Hp} {s : Shared} {Q : VK} {us ws : List Value} {vs zs : List V} (I : L2.Inv X pins σ H s) (r : Vals vs us) (rz : Vals zs ws) (l1 : vs.length = q.1) (l2 : zs.length = q.2.1.length) (h : spM X.K T C n (arr q.2.2 vs zs) H Q (fun c d H => W c d σ H)) :
    wpAny (model X.prog X.w) X.A (call (.ref f) us (q.2.1.zip ws)) (EP X pins σ Q) X.xe s := by
  have r2 : Vals (arr q.2.2 vs zs) (arr q.2.2 us ws) := vals_arr r rz
  have hl : (arr q.2.2 us ws).length = n := by rw [← r2.length, F.len _ _ _ _ h, hp]
  have bt := hb s us ws I.kIn (r.length.symm.trans l1) (rz.length.symm.trans l2) hl
  refine wpAny_call (codeAny_mono (F.run X.A X.stack s H ⟨us, q.2.1.zip ws⟩ _ _ Q (fun c d H => W c d σ H) hr I.env0 bt r2 h) fun r s' hq => ?_)
  match r, hq with
  | .error e, hq => exact at_takes tk σ pins H s e s' I hq
  | .ok (.ret u), hq => exact I.after hq
  | .ok .next, hq => exact False.elim hq
  | .ok .brk, hq => exact False.elim hq
  | .ok .cont, hq => exact False.elim hq
theorem e_callk0 {C : List Nat → List MV → MH → Res MV} {x : Str} {n : Nat} {kws : List Kws} {kn : List Str} {ks : List Nat} {kw : List Keyword} {p pos : Pos} {dk : MS → MH → Res (List MV)} (ck : CallOk X T C x n kws) (hq : (0, kn, ks) ∈ kws) (hl : ∀ σ h bs h', dk σ h = .ok bs h' → bs.length = kn.length) (tk : Takes X W) (hg : Gl X x) (hdb : (x == ("__debug__" : Str)) = false)
    (hk2 : QKs X T L W kw dk) (ha : kw.all (fun k => k.arg.isSome) = true) (hn : kw.filterMap (fun k => k.arg) = kn) : QT X T L W (.Call (.Name x p) [] kw pos) (dCallK C L ks (fun _ h => .ok [] h) dk) := by
  obtain ⟨f, fd, k, ps, F, hp, hr, hm, hk, _, hb⟩ := ck.ex
  obtain ⟨k1, k2, k3⟩ := kw_all (pos := pos) (env := X.env) ha
  refine ⟨fun pins s σ H Q I ⟨μ, h, σm, ri, p⟩ => ?_⟩
  refine wpAny_Call_Name_kw (ld_glob I hg hm ?_ hdb)
  refine PySem.W.callWith_KW0 (h₀ := X.base) I.ok.mod.kin hk k1 ?_ (by rw [k2]; rfl)
  have t : tVs X.K T L W dk σ H (fun zs H2 => ∃ bs h2 μ2, dk σm h = .ok bs h2 ∧ RH X.K L μ2 h2 H2 ∧ RVs X.K μ2 H2 bs zs ∧ Post X.K T L (RTn X.K H) μ2 H2 (fun c d H' => W c d σ H') Q ((C L (arr ks [] bs) h2).bind fun v h => .ok (.v v) h)) :=
    ⟨μ, h, σm, ri, (Post.bindE (r := dk σm h) p).imp fun zs H2 ⟨bs, h2, μ2, c2, e2, rh2, rb, p2⟩ => ⟨bs, h2, μ2, c2, rh2, rb, p2⟩⟩
  refine thn (hk2.run pos pins s σ H _ I t) fun ws s2 ⟨zs, H2, I2, rz, bs, h2, μ2, c2, rh2, rb, p2⟩ => ⟨I2.kIn, ?_⟩
  rw [k3, hn]
  have ln := hl _ _ _ _ c2
  exact run_fnkS (q := (0, kn, ks)) (us := []) (vs := []) F hp hr (hb _ hq) tk I2 .nil rz rfl (by rw [← rb.length]; exact ln) ⟨L, μ2, h2, _, rh2, rvs_arr .nil rb, post_len (ck.bad L _ h2) p2, post_v p2⟩
theorem e_callk {C : List Nat → List MV → MH → Res MV} {x : Str} {n m : Nat} {kws : List Kws} {kn : List Str} {ks : List Nat} {e : Expr} {es : List Expr} {kw : List Keyword} {p pos : Pos} {ds dk : MS → MH → Res (List MV)} (ck : CallOk X T C x n kws) (hq : (m, kn, ks) ∈ kws)
    (hl1 : ∀ σ h bs h', ds σ h = .ok bs h' → bs.length = m) (hl : ∀ σ h bs h', dk σ h = .ok bs h' → bs.length = kn.length) (tk : Takes X W) (hg : Gl X x) (hdb : (x == ("__debug__" : Str)) = false)
    (hv : QVs X T L W (e :: es) ds) (hs : (e :: es).all noStar = true) (hk2 : QKs X T L W kw dk) (ha : kw.all (fun k => k.arg.isSome) = true) (hn : kw.filterMap (fun k => k.arg) = kn) : QT X T L W (.Call (.Name x p) (e :: es) kw pos) (dCallK C L ks ds dk) := by
  obtain ⟨f, fd, k, ps, F, hp, hr, hm, hk, _, hb⟩ := ck.ex
  obtain ⟨k1, k2, k3⟩ := kw_all (pos := pos) (env := X.env) ha
  refine ⟨fun pins s σ H Q I ⟨μ, h, σm, ri, p⟩ => ?_⟩
  refine wpAny_Call_Name_kw (ld_glob I hg hm ?_ hdb)
  have hs1 := hs
  rw [List.all_cons, Bool.and_eq_true] at hs
  have t0 : tVs X.K T L W ds σ H (fun vs H1 => ∃ as h1 μ1, ds σm h = .ok as h1 ∧ RI X.K L μ1 h1 σm σ H1 ∧ RVs X.K μ1 H1 as vs ∧ Post X.K T L (RTn X.K H) μ1 H1 (fun c d H' => W c d σ H') Q ((dk σm h1).bind fun bs h => (C L (arr ks as bs) h).bind fun v h => .ok (.v v) h)) :=
    ⟨μ, h, σm, ri, (Post.bindE p).imp fun vs H1 ⟨as, h1, μ1, c1, e1, rh1, ra, p1⟩ => ⟨as, h1, μ1, c1, ri.mono e1 rh1, ra, p1⟩⟩
  refine PySem.W.callWith_KW (h₀ := X.base) I.ok.mod.kin hk k1 (thn (hv.run pos pins s σ H _ I t0) fun us s1 ⟨vs, H1, I1, r, as, h1, μ1, c1, ri1, ra, p1⟩ => ?_) (by rw [star_any hs1, k2]; rfl) (star_cons hs.1)
  have t : tVs X.K T L W dk σ H1 (fun zs H2 => ∃ bs h2 μ2, dk σm h1 = .ok bs h2 ∧ RH X.K L μ2 h2 H2 ∧ RVs X.K μ2 H2 as vs ∧ RVs X.K μ2 H2 bs zs ∧ Post X.K T L (RTn X.K H) μ2 H2 (fun c d H' => W c d σ H') Q ((C L (arr ks as bs) h2).bind fun v h => .ok (.v v) h)) :=
    ⟨μ1, h1, σm, ri1, (Post.bindE p1).imp fun zs H2 ⟨bs, h2, μ2, c2, e2, rh2, rb, p2⟩ => ⟨bs, h2, μ2, c2, rh2, ra.mono e2, rb, p2⟩⟩
  refine thn (hk2.run pos pins s1 σ H1 _ I1 t) fun ws s2 ⟨zs, H2, I2, rz, bs, h2, μ2, c2, rh2, ra2, rb, p2⟩ => ⟨I2.kIn, ?_⟩
  rw [k3, hn]
  have ln := hl _ _ _ _ c2
  have ln1 := hl1 _ _ _ _ c1
  exact run_fnkS (q := (m, kn, ks)) F hp hr (hb _ hq) tk I2 r rz (by rw [← ra2.length]; exact ln1) (by rw [← rb.length]; exact ln) ⟨L, μ2, h2, _, rh2, rvs_arr ra2 rb, post_len (ck.bad L _ h2) p2, post_v p2⟩
end
end MP

set_option linter.all false
set_option autoImplicit false
/-! MiniPy: targets, sources, list comprehensions. -/
namespace MP
open PySem PyProof.Rows L2

/-! ### targets -/
mutual
def MT.ix : MT → List Nat
  | .nm i => [i]
  | .tp ts => MT.ixs ts
def MT.ixs : List MT → List Nat
  | [] => []
  | t :: ts => t.ix ++ MT.ixs ts
end
theorem wipe_set {σ : L2.St} {i : Nat} {o : Option V} : ∀ {vs : List Nat}, i ∈ vs → L2.wipe (σ.set i o) vs = L2.wipe σ vs
  | [], h => nomatch h
  | v :: vs, h => by
    show (L2.wipe (σ.set i o) vs).set v none = (L2.wipe σ vs).set v none
    by_cases e : i = v
    · subst e
      by_cases m : i ∈ vs
      · rw [wipe_set m]
      · have : ∀ (us : List Nat), i ∉ us → L2.wipe (σ.set i o) us = (L2.wipe σ us).set i o := by
          intro us
          induction us with
          | nil => intro _; rfl
          | cons u us ih =>
            intro hm
            rw [List.mem_cons, not_or] at hm
            show (L2.wipe (σ.set i o) us).set u none = ((L2.wipe σ us).set u none).set i o
            rw [ih hm.2, List.set_comm _ _ hm.1]
        rw [this vs m, List.set_set]
    · rw [wipe_set ((List.mem_cons.mp h).resolve_left e)]
abbrev WipeEq (is : List Nat) (σ σ' : L2.St) : Prop := ∀ vs : List Nat, (∀ i ∈ is, i ∈ vs) → L2.wipe σ' vs = L2.wipe σ vs
def gM (K : PySem.W.Frag) (mt : MT) : TG := fun z σ H Q => ∃ μ x σm σm', RS K μ H σm σ ∧ RV K μ H x z ∧ bindT mt x σm = some σm' ∧ ∀ σ', RS K μ H σm' σ' → WipeEq mt.ix σ σ' → Q σ' H
def gMs (K : PySem.W.Frag) (ts : List MT) : TGs := fun zs σ H Q => ∃ μ xs σm σm', RS K μ H σm σ ∧ RVs K μ H xs zs ∧ bindTs ts xs σm = some σm' ∧ ∀ σ', RS K μ H σm' σ' → WipeEq (MT.ixs ts) σ σ' → Q σ' H
theorem PG.imp {X : Cx} {e : Expr} {t t' : TG} (p : PG X e t) (h : ∀ z σ H Q, t' z σ H Q → t z σ H Q) : PG X e t' := ⟨fun pins s σ H v u Q I r q => p.run pins s σ H v u Q I r (h v σ H Q q)⟩
theorem PGs.imp {X : Cx} {e : List Expr} {t t' : TGs} (p : PGs X e t) (h : ∀ z σ H Q, t' z σ H Q → t z σ H Q) : PGs X e t' := ⟨fun pins s σ H v u Q I r q => p.run pins s σ H v u Q I r (h v σ H Q q)⟩
section
variable {X : Cx}
theorem g_nm {i : Nat} {x : Str} {pos : Pos} (hN : X.N.Nodup) (hi : X.N[i]? = some x) (hx : Loc X.env.scope x) (hf : X.fn x = true ∨ X.env.scope.names.lookup x = some .local) : PG X (.Name x pos) (gM X.K (.nm i)) :=
  PG.imp (pg_name hN hi hx hf) fun z σ H Q ⟨μ, x, σm, σm', rs, r, e, f⟩ => by
    cases e
    exact f _ (rs.set r i) fun vs m => wipe_set (m i (by simp [MT.ix]))
theorem gs_nil : PGs X [] (gMs X.K []) := PGs.imp pgs_nil fun zs σ H Q ⟨μ, xs, σm, σm', rs, r, e, f⟩ => by
  cases r with
  | nil => cases e; exact ⟨rfl, f _ rs fun _ _ => rfl⟩
  | cons _ _ => cases e
theorem gs_cons {e : Expr} {es : List Expr} {t : MT} {ts : List MT} (h1 : PG X e (gM X.K t)) (h2 : PGs X es (gMs X.K ts)) (hs : (assignEach (e :: es) X.env).map (·.2) = assign e X.env :: (assignEach es X.env).map (·.2)) : PGs X (e :: es) (gMs X.K (t :: ts)) :=
  PGs.imp (pgs_cons h1 h2 hs) fun zs σ H Q ⟨μ, xs, σm, σm', rs, r, e, f⟩ => by
    cases r with
    | nil => cases e
    | @cons x xs z zs r1 r2 =>
      have e' : (bindT t x σm).bind (fun σ' => bindTs ts xs σ') = some σm' := e
      cases e1 : bindT t x σm with
      | none => rw [e1] at e'; cases e'
      | some σ1 =>
        rw [e1] at e'
        exact ⟨_, _, rfl, μ, x, σm, σ1, rs, r1, e1, fun σ' rs' w => ⟨μ, xs, σ1, σm', rs', r2, e', fun σ'' rs'' w' => f σ'' rs'' fun vs m => (w' vs fun i hi => m i (by simp [MT.ixs, hi])).trans (w vs fun i hi => m i (by simp [MT.ixs, hi]))⟩⟩
theorem bindTs_len : ∀ {ts : List MT} {xs : List MV} {σ σ' : MS}, bindTs ts xs σ = some σ' → ts.length = xs.length
  | [], [], _, _, _ => rfl
  | [], _ :: _, _, _, h => nomatch h
  | _ :: _, [], _, _, h => nomatch h
  | t :: ts, x :: xs, σ, σ', h => by
    have h : (bindT t x σ).bind (fun σ' => bindTs ts xs σ') = some σ' := h
    cases e : bindT t x σ with
    | none => rw [e] at h; cases h
    | some σ1 => rw [e] at h; rw [List.length_cons, List.length_cons, bindTs_len h]
theorem g_tp {es : List Expr} {k : Nat} {pos : Pos} {ts : List MT} (hc : X.calm = true) (h : PGs X es (gMs X.K ts)) (hn : (assignEach es X.env).length = ts.length) (hst : (assignEach es X.env).findIdx? (·.1) = none) : PG X (.Tuple es k pos) (gM X.K (.tp ts)) :=
  PG.imp (pg_tup hc h hn hst) fun z σ H Q ⟨μ, x, σm, σm', rs, r, e, f⟩ => by
    cases r with
    | @tup a vs xs ha r =>
      have e : bindTs ts xs σm = some σm' := e
      exact ⟨a, vs, rfl, .inl (.inl ha), by rw [← r.length, bindTs_len e], μ, xs, σm, σm', rs, r, e, f⟩
    | _ => cases e
end

/-! ### sources -/
abbrev lockL (t : MIt) (L : List Nat) : List Nat := match t.lock with
  | none => L
  | some p => p :: L
structure Src (K : PySem.W.Frag) (L : List Nat) (μ : List Addr) (H : Hp) (it : MIt) (J : It) : Prop where
  len : it.items.length ≤ sizeLine
  go : ∀ μ' h' H', Ext μ H μ' H' → RH K L μ' h' H' → it.still h' = true → ∀ (i : Nat) (x : MV), it.items[i]? = some x → J.go i H' ∧ ∀ z H'', J.yld i H' z H'' → H'' = H' ∧ RV K μ' H' x z
  stop : ∀ μ' h' H', Ext μ H μ' H' → RH K L μ' h' H' → it.still h' = true → J.stop it.items.length H'
theorem Src.ext {K : PySem.W.Frag} {L : List Nat} {μ μ1 : List Addr} {H H1 : Hp} {it : MIt} {J : It} (s : Src K L μ H it J) (e : Ext μ H μ1 H1) : Src K L μ1 H1 it J :=
  ⟨s.len, fun μ' h' H' x => s.go μ' h' H' (e.trans x), fun μ' h' H' x => s.stop μ' h' H' (e.trans x)⟩
def tI (K : PySem.W.Frag) (T : XT) (L : List Nat) (W : WX) (d : MS → MH → Res MIt) : TI := fun σ H R => ∃ μ h σm, RI K L μ h σm σ H ∧ Post K T L (fun it μ H (J : It) => it.lock = none ∧ Src K L μ H it J) μ H (fun c d H' => W c d σ H') R (d σm h)
abbrev QI (X : Cx) (T : XT) (L : List Nat) (W : WX) (tg e : Expr) (d : MS → MH → Res MIt) : Prop := PI X tg e (tI X.K T L W d)
theorem PI.imp {X : Cx} {tg e : Expr} {t t' : TI} (p : PI X tg e t) (h : ∀ σ H R, t' σ H R → t σ H R) : PI X tg e t' := ⟨fun pins s σ H R I q => p.run pins s σ H R I (h σ H R q)⟩
theorem PI.or {X : Cx} {tg e : Expr} {t u : TI} (h : PI X tg e t) (g : PI X tg e u) : PI X tg e (fun σ H R => t σ H R ∨ u σ H R) := ⟨fun pins s σ H R I q => q.elim (h.run pins s σ H R I) (g.run pins s σ H R I)⟩
section
variable {K : PySem.W.Frag} {L : List Nat} {μ : List Addr} {H : Hp}
theorem src_tmp {p : Addr} {vs : List V} {xs : List MV} (hp : p ∉ μ) (e : H p = some (.lst vs)) (r : RVs K μ H xs vs) (b : Bnd H) : Src K L μ H ⟨none, none, xs⟩ (Itl K p) := by
  have sq : ∀ {μ' : List Addr} {H' : Hp}, Ext μ H μ' H' → SqL K H' p vs := fun x => .inl (.inl (x.kept p _ e hp))
  refine ⟨by show xs.length ≤ _; rw [r.length]; exact b p vs (.inr (.inl e)), fun μ' h' H' x rh st i y ey => ?_, fun μ' h' H' x rh st => ⟨vs, sq x, by show vs.length ≤ xs.length; rw [r.length]; exact Nat.le_refl _⟩⟩
  obtain ⟨z, ez, rz⟩ := r.get ey
  exact ⟨⟨vs, z, sq x, ez⟩, fun z' H'' y => ⟨y.1, by have := y.2 vs (sq x); rw [ez] at this; cases this; exact rz.mono x⟩⟩
theorem src_tup {p : Addr} {vs : List V} {xs : List MV} (e : SqT K H p vs) (r : RVs K μ H xs vs) (b : Bnd H) : Src K L μ H ⟨none, none, xs⟩ (Itt K p) := by
  have sq : ∀ {μ' : List Addr} {H' : Hp}, Ext μ H μ' H' → SqT K H' p vs := fun x => x.ex0.sqT e
  refine ⟨by show xs.length ≤ _; rw [r.length]; exact sq_len b (.inr e), fun μ' h' H' x rh st i y ey => ?_, fun μ' h' H' x rh st => ⟨vs, sq x, by show vs.length ≤ xs.length; rw [r.length]; exact Nat.le_refl _⟩⟩
  obtain ⟨z, ez, rz⟩ := r.get ey
  exact ⟨⟨vs, z, sq x, ez⟩, fun z' H'' y => ⟨y.1, by have := y.2 vs (sq x); rw [ez] at this; cases this; exact rz.mono x⟩⟩
theorem src_frz {p : Addr} {vs : List V} {xs : List MV} {o : Obj} (e : H p = some (.frz o (.lst vs))) (r : RVs K μ H xs vs) (b : Bnd H) : Src K L μ H ⟨none, none, xs⟩ (Itl K p) := by
  have sq : ∀ {μ' : List Addr} {H' : Hp}, Ext μ H μ' H' → SqL K H' p vs := fun x => .inl (.inr ⟨o, x.frz p _ _ e⟩)
  refine ⟨by show xs.length ≤ _; rw [r.length]; exact b p vs (.inr (.inr ⟨o, e⟩)), fun μ' h' H' x rh st i y ey => ?_, fun μ' h' H' x rh st => ⟨vs, sq x, by show vs.length ≤ xs.length; rw [r.length]; exact Nat.le_refl _⟩⟩
  obtain ⟨z, ez, rz⟩ := r.get ey
  exact ⟨⟨vs, z, sq x, ez⟩, fun z' H'' y => ⟨y.1, by have := y.2 vs (sq x); rw [ez] at this; cases this; exact rz.mono x⟩⟩
theorem src_lst {i : Nat} {p : Addr} {xs : List MV} {h : MH} (rh : RH K L μ h H) (e1 : h[i]? = some (.lst xs)) (e2 : μ[i]? = some p) : Src K L μ H ⟨some i, none, xs⟩ (Itl K p) := by
  obtain ⟨vs0, ev0, rv0⟩ := rh.lstO e1 e2
  have sq : ∀ {μ' : List Addr} {h' : MH} {H' : Hp}, Ext μ H μ' H' → RH K L μ' h' H' → MIt.still ⟨some i, none, xs⟩ h' = true → ∃ vs, SqL K H' p vs ∧ RVs K μ' H' xs vs := fun {μ' h' H'} x rh' st => by
    have st : (match h'[i]? with | some (.lst ys) => MV.eqbs ys xs | _ => false) = true := st
    split at st
    · rename_i ys ey
      obtain rfl := (MV.eqbs_iff _ _).mp st
      obtain ⟨vs, ev, rv⟩ := rh'.lstO ey (x.at e2)
      exact ⟨vs, .inl (.inl ev), rv⟩
    · cases st
  refine ⟨by show xs.length ≤ _; rw [rv0.length]; exact rh.bnd p vs0 (.inr (.inl ev0)), fun μ' h' H' x rh st j y ey => ?_, fun μ' h' H' x rh st => ?_⟩
  · obtain ⟨vs, q, r⟩ := sq x rh st
    obtain ⟨z, ez, rz⟩ := r.get ey
    exact ⟨⟨vs, z, q, ez⟩, fun z' H'' y => ⟨y.1, by have := y.2 vs q; rw [ez] at this; cases this; exact rz⟩⟩
  · obtain ⟨vs, q, r⟩ := sq x rh st
    exact ⟨vs, q, by show vs.length ≤ xs.length; rw [r.length]; exact Nat.le_refl _⟩
theorem src_rng {a : Int} {n : Nat} (z : n ≤ sizeLine) : Src K L μ H ⟨none, none, (List.range n).map fun (k : Nat) => MV.int (a + k)⟩ (Itr a n) := by
  refine ⟨by simpa using z, fun μ' h' H' x rh st i y ey => ?_, fun μ' h' H' x rh st => by show n ≤ _; simp⟩
  rw [List.getElem?_map] at ey
  obtain ⟨k, ek, rfl⟩ := Option.map_eq_some_iff.mp ey
  obtain ⟨h1, h2⟩ := List.getElem?_eq_some_iff.mp ek
  have hi : i < n := by simpa using h1
  have : k = i := by rw [← h2]; simp
  subst this
  exact ⟨hi, fun z H'' y => ⟨y.1, by rw [y.2]; exact .int _⟩⟩
theorem src_str {z : Str} (hz : z.length ≤ sizeLine) : Src K L μ H ⟨none, none, chars z⟩ (Its z) := by
  have hl : (chars z).length = z.cps.size := by simp [chars]
  refine ⟨by show (chars z).length ≤ _; rw [hl]; exact hz, fun μ' h' H' x rh st i y ey => ?_, fun μ' h' H' x rh st => by show z.cps.size ≤ _; rw [hl]; exact Nat.le_refl _⟩
  have hi : i < z.cps.size := by
    rw [← hl]
    exact (List.getElem?_eq_some_iff.mp ey).1
  have ey : (z.cps.toList.map fun c => MV.str ⟨#[c]⟩)[i]? = some y := ey
  rw [List.getElem?_map] at ey
  obtain ⟨c, ec, rfl⟩ := Option.map_eq_some_iff.mp ey
  refine ⟨hi, fun z' H'' y => ⟨y.1, ?_⟩⟩
  obtain ⟨c', ec', rfl⟩ := y.2
  rw [Array.getElem?_toList, ec'] at ec
  cases ec
  exact .str _
theorem src_keys {p : Addr} {o : Obj} {kvs : List (Key × MV)} {ws : List (Key × V)} (e : H p = some (.frz o (.dK ws))) (r : RKs K μ H kvs ws) (z : kvs.length ≤ sizeLine) (lk : Option Nat) : Src K L μ H ⟨none, lk, kvs.map fun kv => keyV kv.1⟩ (Itk p o ws) := by
  have gt : ∀ {xs : List (Key × MV)} {vs : List (Key × V)} {i : Nat} {y : MV}, RKs K μ H xs vs → (xs.map fun kv => keyV kv.1)[i]? = some y → ∃ k v, vs[i]? = some (k, v) ∧ y = keyV k := by
    intro xs vs i y r
    induction r generalizing i with
    | nil => intro e; simp at e
    | cons q t ih =>
      rename_i k x xs v vs
      cases i with
      | zero => intro e; simp at e; exact ⟨k, v, rfl, e.symm⟩
      | succ i => intro e; simpa using ih (i := i) (by simpa using e)
  refine ⟨by simpa using z, fun μ' h' H' x rh st i y ey => ?_, fun μ' h' H' x rh st => ⟨x.frz _ _ _ e, by show ws.length ≤ _; rw [← r.length]; simp⟩⟩
  obtain ⟨k, v, ek, rfl⟩ := gt r ey
  refine ⟨⟨x.frz _ _ _ e, (List.getElem?_eq_some_iff.mp ek).1⟩, fun z H'' yy => ⟨yy.1, ?_⟩⟩
  obtain ⟨k', v', ek', rfl⟩ := yy.2
  rw [ek] at ek'
  cases ek'
  cases k with
  | inl n => exact .int n
  | inr s => exact .str s
end
abbrev dItV (L : List Nat) (ea : MS → MH → Res TV) : MS → MH → Res MIt := fun σ h => (ea σ h).bind fun x h => Res.of h (itE false L h x)
section
variable {X : Cx} {T : XT} {L : List Nat} {W : WX}
theorem i_val {tg a : Expr} {ea : MS → MH → Res TV} (ha : QT X T L W a ea) : QI X T L W tg a (dItV L ea) := by
  refine PI.imp (PI.or (pi_list ha) (PI.or (pi_tup ha) (pi_str ha))) fun σ H R ⟨μ, h, σm, ri, p⟩ => ?_
  cases e : ea σm h with
  | bad => rw [show dItV L ea σm h = .bad by simp [dItV, e]] at p; exact p.elim
  | exc c vs h1 =>
    rw [show dItV L ea σm h = .exc c vs h1 by simp [dItV, e]] at p
    exact .inl ⟨μ, h, σm, ri, by rw [e]; exact p⟩
  | ok x h1 =>
    rw [show dItV L ea σm h = Res.of h1 (itE false L h1 x) by simp [dItV, e]] at p
    obtain ⟨it, eit, f⟩ := Post.of p
    have e0 : itOf h1 x = some it ∧ it.lock = none := by
      unfold itE at eit
      cases e1 : itOf h1 x with
      | none => rw [e1] at eit; cases eit
      | some it1 =>
        rw [e1] at eit
        have eit : (match it1.lock with | none => some it1 | some p => if (false = true) ∧ p ∉ L then some it1 else none) = some it := eit
        split at eit
        · cases eit; exact ⟨rfl, by assumption⟩
        · simp at eit
    obtain ⟨e0, el⟩ := e0
    cases x with
    | t xs =>
      cases e0
      refine .inl ⟨μ, h, σm, ri, ?_⟩
      rw [e]
      refine fun μ1 H1 z x1 rh1 r1 => ?_
      obtain ⟨r, _⟩ := r1
      cases r with
      | t hp hh r => exact ⟨_, rfl, ⟨_, .inl (.inl hh)⟩, f μ1 H1 _ x1 rh1 ⟨rfl, src_tmp hp hh r rh1.bnd⟩⟩
    | c xs =>
      cases e0
      refine .inr (.inl ⟨μ, h, σm, ri, ?_⟩)
      rw [e]
      refine fun μ1 H1 z x1 rh1 r1 => ?_
      obtain ⟨r, _⟩ := r1
      cases r with
      | c hh r => exact ⟨_, rfl, ⟨_, hh⟩, f μ1 H1 _ x1 rh1 ⟨rfl, src_tup hh r rh1.bnd⟩⟩
    | v y =>
      cases y with
      | tup xs =>
        cases e0
        refine .inr (.inl ⟨μ, h, σm, ri, ?_⟩)
        rw [e]
        refine fun μ1 H1 z x1 rh1 r1 => ?_
        obtain ⟨r, _⟩ := r1
        cases r with
        | v r => cases r with
          | tup hh r => exact ⟨_, rfl, ⟨_, .inl (.inl hh)⟩, f μ1 H1 _ x1 rh1 ⟨rfl, src_tup (.inl (.inl hh)) r rh1.bnd⟩⟩
      | str z0 =>
        have e0 : (if z0.length ≤ sizeLine then some (⟨none, none, chars z0⟩ : MIt) else none) = some it := e0
        split at e0
        · cases e0
          refine .inr (.inr ⟨μ, h, σm, ri, ?_⟩)
          rw [e]
          refine fun μ1 H1 z x1 rh1 r1 => ?_
          obtain ⟨r, _⟩ := r1
          cases r with
          | v r => cases r with
            | str => exact ⟨_, rfl, f μ1 H1 _ x1 rh1 ⟨rfl, src_str (by assumption)⟩⟩
        · cases e0
      | ref i =>
        refine .inl ⟨μ, h, σm, ri, ?_⟩
        rw [e]
        refine fun μ1 H1 z x1 rh1 r1 => ?_
        obtain ⟨r, _⟩ := r1
        cases r with
        | v r => cases r with
          | @ref _ a ei =>
            have e0 : (match h1[i]? with
              | some (.lst xs) => some (⟨some i, none, xs⟩ : MIt)
              | some (.scr ns) => some ⟨none, none, ns.map .int⟩
              | some (.dk kvs) => if kvs.length ≤ sizeLine then some ⟨none, some i, kvs.map fun kv => keyV kv.1⟩ else none
              | _ => none) = some it := e0
            split at e0
            · rename_i xs ex
              cases e0
              obtain ⟨vs, ev, rv⟩ := rh1.lstO ex ei
              exact ⟨a, rfl, ⟨vs, .inl (.inl ev)⟩, f μ1 H1 _ x1 rh1 ⟨rfl, src_lst rh1 ex ei⟩⟩
            · rename_i ns ex
              cases e0
              obtain ⟨o, ev⟩ := rh1.ro ex ei
              exact ⟨a, rfl, ⟨_, .inl (.inr ⟨o, ev⟩)⟩, f μ1 H1 _ x1 rh1 ⟨rfl, src_frz ev (RVs.ints ns) rh1.bnd⟩⟩
            · split at e0
              · cases e0; cases el
              · cases e0
            · cases e0
      | non => cases e0
      | bl b => cases e0
      | int b => cases e0
abbrev dRng (ds : MS → MH → Res (List MV)) : MS → MH → Res MIt := fun σ h => (ds σ h).bind fun vs h => Res.of h (rngOf vs)
theorem i_rng1 {tg a : Expr} {p pos : Pos} {ds : MS → MH → Res (List MV)} (hg : Gl X "range") (hm : X.mg "range" = none) (ha : QVs X T L W [a] ds) (hs : starEach [a] X.env = [(false, eval a X.env)]) : QI X T L W tg (.Call (.Name "range" p) [a] [] pos) (dRng fun σ h => (ds σ h).bind fun vs h => if vs.length = 1 then .ok vs h else .bad) := by
  refine PI.imp (pi_range1 hg hm ha hs) fun σ H R ⟨μ, h, σm, ri, p⟩ => ?_
  refine ⟨μ, h, σm, ri, ?_⟩
  cases e : ds σm h with
  | bad => simp [dRng, e] at p; exact p.elim
  | exc c vs h1 => simp [dRng, e] at p; exact p
  | ok vs h1 =>
    simp only [dRng, e, Res.bind_ok] at p
    refine fun μ1 H1 zs x1 rh1 r1 => ?_
    by_cases l : vs.length = 1
    · rw [if_pos l, Res.bind_ok] at p
      obtain ⟨it, eit, f⟩ := Post.of p
      match vs, l, r1, eit with
      | [v], _, .cons r .nil, eit =>
        cases v with
        | int n =>
          have eit : (if rngOk 0 n then some (⟨none, none, rngI 0 n⟩ : MIt) else none) = some it := eit
          split at eit
          · rename_i ok
            cases eit
            unfold rngOk at ok
            simp only [decide_eq_true_eq] at ok
            cases r
            refine ⟨n, rfl, ok.2.2.1, ok.2.2.2.1, f μ1 H1 _ x1 rh1 ⟨rfl, ?_⟩⟩
            have := src_rng (K := X.K) (L := L) (μ := μ1) (H := H1) (a := 0) (n := n.toNat) (by have := ok.2.2.2.2; rwa [Int.sub_zero] at this)
            unfold rngI
            rw [Int.sub_zero]
            exact this
          · cases eit
        | _ => cases eit
    · rw [if_neg l] at p; exact p.elim
theorem i_rng2 {tg a b : Expr} {p pos : Pos} {ds : MS → MH → Res (List MV)} (hg : Gl X "range") (hm : X.mg "range" = none) (ha : QVs X T L W [a, b] ds) (hs : starEach [a, b] X.env = [(false, eval a X.env), (false, eval b X.env)]) (hs2 : starEach [b] X.env = [(false, eval b X.env)]) : QI X T L W tg (.Call (.Name "range" p) [a, b] [] pos) (dRng fun σ h => (ds σ h).bind fun vs h => if vs.length = 2 then .ok vs h else .bad) := by
  refine PI.imp (pi_range2 hg hm ha hs hs2) fun σ H R ⟨μ, h, σm, ri, p⟩ => ?_
  refine ⟨μ, h, σm, ri, ?_⟩
  cases e : ds σm h with
  | bad => simp [dRng, e] at p; exact p.elim
  | exc c vs h1 => simp [dRng, e] at p; exact p
  | ok vs h1 =>
    simp only [dRng, e, Res.bind_ok] at p
    refine fun μ1 H1 zs x1 rh1 r1 => ?_
    by_cases l : vs.length = 2
    · rw [if_pos l, Res.bind_ok] at p
      obtain ⟨it, eit, f⟩ := Post.of p
      match vs, l, r1, eit with
      | [v, w], _, .cons r (.cons r' .nil), eit =>
        cases v with
        | int n =>
          cases w with
          | int m =>
            have eit : (if rngOk n m then some (⟨none, none, rngI n m⟩ : MIt) else none) = some it := eit
            split at eit
            · rename_i ok
              cases eit
              unfold rngOk at ok
              simp only [decide_eq_true_eq] at ok
              cases r; cases r'
              exact ⟨n, m, rfl, ⟨ok.1, ok.2.1, ok.2.2.1, ok.2.2.2.1⟩, f μ1 H1 _ x1 rh1 ⟨rfl, src_rng ok.2.2.2.2⟩⟩
            · cases eit
          | _ => cases eit
        | _ => cases eit
    · rw [if_neg l] at p; exact p.elim
end
end MP

set_option linter.all false
set_option autoImplicit false
/-! MiniPy: list comprehensions; dicts locked while walked. -/
namespace MP
open PySem PyProof.Rows L2

abbrev W0 : WX := fun _ _ _ _ => False
abbrev dTurn (mt : MT) (own : List Nat) (dq : MS → MH → Res Bool) (de : MS → MH → Res TV) (σ : MS) (x : MV) (h : MH) : Res (Option MV) :=
  (Res.of h (bindT mt x (wipeM σ own))).bind fun σ2 h => (dq σ2 h).bind fun k h => if k then ((de σ2 h).bind settle).bind fun y h => .ok (some y) h else .ok none h
abbrev QIf (X : Cx) (T : XT) (L : List Nat) (W : WX) (ifs : List Expr) (d : MS → MH → Res Bool) : Prop := PTs X ifs (tB X.K T L W d)
theorem PTs.imp {X : Cx} {e : List Expr} {t t' : TT} (p : PTs X e t) (h : ∀ σ H Q, t' σ H Q → t σ H Q) : PTs X e t' := ⟨fun pins s σ H Q I q => p.run pins s σ H Q I (h σ H Q q)⟩
theorem if_nil {X : Cx} {T : XT} {L : List Nat} {W : WX} : QIf X T L W [] (fun _ h => .ok true h) := PTs.imp pts_nil fun σ H Q ⟨μ, h, σm, ri, p⟩ => p.ok ri.h rfl
theorem if_one {X : Cx} {T : XT} {L : List Nat} {W : WX} {c : Expr} {d : MS → MH → Res Bool} (hc : QB X T L W c d) : QIf X T L W [c] d := pts_one hc

theorem loopC_len {t : MIt} {f : MV → MH → Res (Option MV)} : ∀ {xs : List MV} {h h' : MH} {ys : List MV}, loopC t f xs h = .ok ys h' → ys.length ≤ xs.length
  | [], h, h', ys, e => by
    unfold loopC at e
    split at e
    · cases e; exact Nat.le_refl _
    · cases e
  | x :: xs, h, h', ys, e => by
    unfold loopC at e
    split at e
    · cases e1 : f x h with
      | ok o h1 =>
        rw [e1, Res.bind_ok] at e
        cases e2 : loopC t f xs h1 with
        | ok zs h2 =>
          rw [e2, Res.bind_ok] at e
          cases e
          have := loopC_len e2
          cases o <;> simp <;> omega
        | exc c vs h2 => rw [e2] at e; cases e
        | bad => rw [e2] at e; cases e
      | exc c vs h1 => rw [e1] at e; cases e
      | bad => rw [e1] at e; cases e
    · cases e
section
variable {K : PySem.W.Frag} {T : XT} {L : List Nat}
theorem ex0_upd {μ : List Addr} {H : Hp} {D : Addr} {vs ws : List V} (e : H D = some (.lst vs)) : Ex0 μ H μ (upd H D (.lst ws)) :=
  ⟨⟨[], (List.append_nil μ).symm⟩, fun a xs q => by
    by_cases h : a = D
    · rw [h, e] at q; cases q
    · rw [upd_ne h]; exact q, fun a o u q => by
    by_cases h : a = D
    · rw [h, e] at q; cases q
    · rw [upd_ne h]; exact q⟩
/-- the turns of a list comprehension -/
theorem lc_loop {it : MIt} {J : It} {μ1 : List Addr} {H1 : Hp} {h1 hn : MH} {σ : L2.St} {σm : MS} {mt : MT} {own : List Nat} {dq : MS → MH → Res Bool} {de : MS → MH → Res TV} {D : Addr} {ys : List MV} {Qd : Hp → Prop} (src : Src K L μ1 H1 it J) (rh : RH K L μ1 h1 H1) (rs : RS K μ1 H1 σm σ) (hD : H1 D = none)
    (hix : ∀ i ∈ mt.ix, i ∈ own) (el : loopC it (dTurn mt own dq de σm) it.items h1 = .ok ys hn)
    (fin : ∀ μn Hn vs, Ext μ1 H1 μn Hn → RH K L μn hn Hn → D ∉ μn → Hn D = some (.lst vs) → RVs K μn Hn ys vs → Qd Hn) :
    ∃ W : Nat → Nat → Hp → Prop, (∃ m, W 0 m (upd H1 D (.lst []))) ∧ ∀ i m H, W i m H →
      (J.stop i H ∧ Qd H) ∨ (J.go i H ∧ ∃ Nx : Hp → Prop, (∀ H', Nx H' → ∃ m', m' < m ∧ W (i + 1) m' H') ∧ ∀ x H', J.yld i H x H' → gM K mt x (L2.wipe σ own) H' fun σ2 H2 => L2.wipe σ2 own = L2.wipe σ own ∧ tB K T L W0 dq σ2 H2 fun b H3 =>
        if b = true then tV K T L W0 (fun σ h => (de σ h).bind settle) σ2 H3 fun y H4 => ∃ acc, H4 D = some (.lst acc) ∧ acc.length < sizeLine ∧ Nx (upd H4 D (.lst (acc ++ [y]))) else Nx H3) := by
  let Inv := fun (i : Nat) (H : Hp) => ∃ μ' h' acc rest vs, loopC it (dTurn mt own dq de σm) (it.items.drop i) h' = .ok rest hn ∧ ys = acc ++ rest ∧ acc.length ≤ i ∧ Ext μ1 H1 μ' H ∧ RH K L μ' h' H ∧ D ∉ μ' ∧ H D = some (.lst vs) ∧ RVs K μ' H acc vs
  refine ⟨fun i m H => m = it.items.length - i ∧ i ≤ it.items.length ∧ Inv i H, ⟨it.items.length, by simp, Nat.zero_le _, μ1, h1, [], ys, [], el, rfl, Nat.le_refl _, ext_upd hD, rh.upd hD (Nat.zero_le _), rh.new hD, upd_same, .nil⟩, ?_⟩
  rintro i m H ⟨rfl, hi, μ', h', acc, rest, vs, e, ey, la, x, rh', nD, hDv, ra⟩
  by_cases hlt : i < it.items.length
  · have ed : it.items.drop i = it.items[i] :: it.items.drop (i + 1) := List.drop_eq_getElem_cons hlt
    rw [ed] at e
    unfold loopC at e
    split at e
    next st =>
      have ex : it.items[i]? = some it.items[i] := List.getElem?_eq_getElem hlt
      obtain ⟨go, yl⟩ := src.go μ' h' H x rh' st i _ ex
      cases e1 : dTurn mt own dq de σm it.items[i] h' with
      | bad => rw [e1] at e; cases e
      | exc c ws h2 => rw [e1] at e; cases e
      | ok o h2 =>
        rw [e1, Res.bind_ok] at e
        cases e2 : loopC it (dTurn mt own dq de σm) (it.items.drop (i + 1)) h2 with
        | bad => rw [e2] at e; cases e
        | exc c ws h2 => rw [e2] at e; cases e
        | ok zs h3 =>
          rw [e2, Res.bind_ok] at e
          cases e
          refine .inr ⟨go, fun H' => Inv (i + 1) H', fun H' iv => ⟨it.items.length - (i + 1), by omega, rfl, hlt, iv⟩, fun z H' y => ?_⟩
          obtain ⟨rfl, rz⟩ := yl z H' y
          cases eb : bindT mt it.items[i] (wipeM σm own) with
          | none => simp [dTurn, eb] at e1
          | some σ2m =>
            simp only [dTurn, eb, Res.of_some, Res.bind_ok] at e1
            refine ⟨μ', _, _, σ2m, (rs.mono x).wipe own, rz, eb, fun σ2 rs2 we => ⟨?_, ?_⟩⟩
            · rw [we own hix]
              have ww : ∀ (is : List Nat) (τ : L2.St), (∀ i ∈ is, i ∈ own) → L2.wipe (L2.wipe τ is) own = L2.wipe τ own := by
                intro is
                induction is with
                | nil => intro τ _; rfl
                | cons k ks ih =>
                  intro τ hk
                  show L2.wipe ((L2.wipe τ ks).set k none) own = _
                  rw [wipe_set (hk k (by simp)), ih τ fun i hi => hk i (by simp [hi])]
              exact ww own σ fun i hi => hi
            · refine ⟨μ', h', σ2m, ⟨rs2, rh'⟩, ?_⟩
              cases e3 : dq σ2m h' with
              | bad => rw [e3] at e1; cases e1
              | exc c ws h2 => rw [e3] at e1; cases e1
              | ok k h4 =>
                rw [e3, Res.bind_ok] at e1
                intro μ4 H4 z4 x4 rh4 g4
                subst g4
                have nD4 : D ∉ μ4 := fun mm => by rw [x4.fresh D mm nD] at hDv; cases hDv
                cases k with
                | false =>
                  simp only [Bool.false_eq_true, if_false] at e1 ⊢
                  cases e1
                  exact ⟨μ4, _, acc, zs, vs, e2, ey, Nat.le_succ_of_le la, x.trans x4, rh4, nD4, x4.kept D _ hDv nD, ra.mono x4⟩
                | true =>
                  simp only [if_true] at e1 ⊢
                  refine ⟨μ4, h4, σ2m, ⟨rs2.mono x4, rh4⟩, ?_⟩
                  cases e5 : (de σ2m h4).bind settle with
                  | bad => rw [e5] at e1; cases e1
                  | exc c ws h2 => rw [e5] at e1; cases e1
                  | ok v h5 =>
                    rw [e5, Res.bind_ok] at e1
                    cases e1
                    show Post K T L _ μ4 H4 _ _ ((de σ2m h4).bind settle)
                    rw [e5]
                    intro μ5 H5 z5 x5 rh5 g5
                    have x45 := x4.trans x5
                    have nD5 : D ∉ μ5 := fun mm => by rw [x45.fresh D mm nD] at hDv; cases hDv
                    have hD5 : H5 D = some (.lst vs) := x45.kept D _ hDv nD
                    have hlen : vs.length < sizeLine := by
                      rw [← ra.length]
                      have := src.len
                      omega
                    refine ⟨vs, hD5, hlen, μ5, _, acc ++ [v], zs, vs ++ [z5], e2, ?_, ?_, ?_, ?_, nD5, upd_same, ?_⟩
                    · rw [ey]; simp
                    · rw [List.length_append]; exact Nat.succ_le_succ la
                    · have xx := x.trans x45
                      refine ⟨xx.pre, fun a o h n => ?_, xx.fresh, fun a ws h => ?_, fun a o u h => ?_, fun a h => ?_⟩
                      · rw [upd_ne (fun q => by rw [q, hD] at h; cases h)]; exact xx.kept a o h n
                      · rw [upd_ne (fun q => by rw [q, hD] at h; cases h)]; exact xx.tup a ws h
                      · rw [upd_ne (fun q => by rw [q, hD] at h; cases h)]; exact xx.frz a o u h
                      · by_cases q : a = D
                        · rw [q]; exact hD
                        · rw [upd_ne q] at h; exact xx.dom a h
                    · refine ⟨rh5.len, rh5.nd, fun i o a q1 q2 => ?_, rh5.bnd.upd (by show (vs ++ [z5]).length ≤ _; rw [List.length_append]; exact hlen)⟩
                      have ro := rh5.obj i o a q1 q2
                      have na : a ≠ D := fun q => nD5 (by rw [← q]; exact List.mem_of_getElem? q2)
                      exact ro.stay (ex0_upd hD5) fun w hw => by rw [upd_ne na]; exact hw
                    · exact ((ra.mono x45).append (.cons g5 .nil)).mono0 (ex0_upd hD5)
    next => cases e
  · have ei : i = it.items.length := by omega
    subst ei
    rw [List.drop_length] at e
    unfold loopC at e
    split at e
    next st =>
      cases e
      rw [List.append_nil] at ey
      subst ey
      exact .inl ⟨src.stop μ' hn H x rh' st, fin μ' H vs x rh' nD hDv ra⟩
    next => cases e
end
abbrev dLc (di : MS → MH → Res MIt) (mt : MT) (own : List Nat) (dq : List Nat → MS → MH → Res Bool) (de : List Nat → MS → MH → Res TV) (L : List Nat) : MS → MH → Res TV :=
  fun σ h => (di σ h).bind fun it h => (loopC it (dTurn mt own (dq (lockL it L)) (de (lockL it L)) σ) it.items h).noX.bind fun ys h => .ok (.t ys) h
section
variable {X : Cx} {T : XT} {L : List Nat} {W : WX}
structure LcOk (X : Cx) (T : XT) (elt tg : Expr) (ifs : List Expr) (scope : Scope) (own : List (Str × Nat)) (mt : MT) (dq : List Nat → MS → MH → Res Bool) (de : List Nat → MS → MH → Res TV) : Prop where
  calm : X.calm = true
  nd : X.N.Nodup
  blk : BlkOk X.N X.env.scope scope own
  tg : ∀ (s : Shared) (H : Hp) (C : Addr) (cl : List (Str × Addr)) (fp : List Addr), PG (X.blk s H scope (compEnvC scope cl C X.env) fp) tg (gM X.K mt)
  ifs : ∀ (L : List Nat) (s : Shared) (H : Hp) (C : Addr) (cl : List (Str × Addr)) (fp : List Addr), QIf (X.blk s H scope (compEnvC scope cl C X.env) fp) T L W0 ifs (dq L)
  elt : ∀ (L : List Nat) (s : Shared) (H : Hp) (C : Addr) (cl : List (Str × Addr)) (fp : List Addr), QT (X.blk s H scope (compEnvC scope cl C X.env) fp) T L W0 elt (de L)
  ix : ∀ i ∈ mt.ix, i ∈ own.map (·.2)
theorem lc_read {di : MS → MH → Res MIt} {mt : MT} {own : List Nat} {dq : List Nat → MS → MH → Res Bool} {de : List Nat → MS → MH → Res TV} (hix : ∀ i ∈ mt.ix, i ∈ own) {σ : L2.St} {H : Hp} {Q : VK} (q : tT X.K T L W (dLc di mt own dq de L) σ H Q)
    (hl : ∀ μ h σm it h1, RI X.K L μ h σm σ H → di σm h = .ok it h1 → it.lock = none) : tLc (tI X.K T L W di) (gM X.K mt) (tB X.K T L W0 (dq L)) (tV X.K T L W0 fun σ h => (de L σ h).bind settle) own σ H Q := by
  obtain ⟨μ, h, σm, ri, p⟩ := q
  refine ⟨μ, h, σm, ri, ?_⟩
  cases e : di σm h with
  | bad => rw [show dLc di mt own dq de L σm h = .bad by simp [dLc, e]] at p; exact p.elim
  | exc c vs h1 => rw [show dLc di mt own dq de L σm h = .exc c vs h1 by simp [dLc, e]] at p; exact p
  | ok it h1 =>
    have lk := hl μ h σm it h1 ri e
    have eL : lockL it L = L := by unfold lockL; rw [lk]
    have p : Post X.K T L (RTn X.K H) μ H (fun c d H' => W c d σ H') Q ((loopC it (dTurn mt own (dq (lockL it L)) (de (lockL it L)) σm) it.items h1).noX.bind fun ys h => .ok (.t ys) h) := by
      have e' : dLc di mt own dq de L σm h = (loopC it (dTurn mt own (dq (lockL it L)) (de (lockL it L)) σm) it.items h1).noX.bind fun ys h => .ok (.t ys) h := by simp [dLc, e]
      rw [← e']; exact p
    rw [eL] at p
    intro μ1 H1 J x1 rh1 g1 D hD
    cases el : loopC it (dTurn mt own (dq L) (de L) σm) it.items h1 with
    | bad => rw [el] at p; exact p.elim
    | exc c vs h2 => rw [el] at p; exact p.elim
    | ok ys hn =>
      rw [el] at p
      exact lc_loop g1.2 rh1 (ri.s.mono x1) hD hix el fun μn Hn vs xn rhn nD eD rn => p μn Hn (.ref D) (x1.trans xn) rhn ⟨.t nD eD rn, fun xs q _ e2 => by cases e2; exact x1.dom _ hD⟩
theorem e_lc {elt tg iter : Expr} {ifs : List Expr} {scope : Scope} {own : List (Str × Nat)} {pos : Pos} {di : MS → MH → Res MIt} {mt : MT} {dq : List Nat → MS → MH → Res Bool} {de : List Nat → MS → MH → Res TV} (ok : LcOk X T elt tg ifs scope own mt dq de) (hi : QI X T L W tg iter di)
    (hl : ∀ σ h it h1, di σ h = .ok it h1 → it.lock = none) (hs : ∀ x, foldedSetIterable iter X.env x = pure x) : QT X T L W (.ListComp elt [⟨tg, iter, ifs, 0⟩] scope pos) (dLc di mt (own.map (·.2)) dq de L) :=
  PE.imp (pe_lc ok.calm ok.nd hi ok.blk ok.tg (ok.ifs L) (fun s H C cl fp => settle_ok (ok.elt L s H C cl fp)) hs) fun σ H Q q => lc_read ok.ix q fun μ h σm it h1 ri e => hl σm h it h1 e
/-- the value of a name, a dict or not -/
abbrev dItN (L : List Nat) (i : Nat) : MS → MH → Res MIt := fun σ h => (match σ[i]? with
  | some (some v) => Res.ok (TV.v v) h
  | _ => .bad).bind fun x h => Res.of h (itE true L h x)
end
end MP

set_option linter.all false
set_option autoImplicit false
/-! MiniPy: a dict walked by a comprehension, locked the while. -/
namespace MP
open PySem PyProof.Rows L2

theorem PE.ex {X : Cx} {ι : Type} {e : Expr} {t : ι → TE} (h : ∀ i, PE X e (t i)) : PE X e (fun σ H Q => ∃ i, t i σ H Q) := ⟨fun pins s σ H Q I q => let ⟨i, q⟩ := q; (h i).run pins s σ H Q I q⟩
structure Ex1 (μ : List Addr) (H : Hp) (μ' : List Addr) (H' : Hp) : Prop where
  pre : ∀ (i : Nat) a, μ[i]? = some a → μ'[i]? = some a
  tup : ∀ a vs, H a = some (.tup vs) → H' a = some (.tup vs)
section
variable {K : PySem.W.Frag} {μ μ' : List Addr} {H H' : Hp}
mutual
theorem RV.mono1 (e : Ex1 μ H μ' H') : ∀ {x : MV} {v : V}, RV K μ H x v → RV K μ' H' x v
  | _, _, .non => .non
  | _, _, .bl b => .bl b
  | _, _, .int i => .int i
  | _, _, .str z => .str z
  | _, _, .tup h r => .tup (e.tup _ _ h) (RVs.mono1 e r)
  | _, _, .ref h => .ref (e.pre _ _ h)
theorem RVs.mono1 (e : Ex1 μ H μ' H') : ∀ {xs : List MV} {vs : List V}, RVs K μ H xs vs → RVs K μ' H' xs vs
  | _, _, .nil => .nil
  | _, _, .cons r t => .cons (RV.mono1 e r) (RVs.mono1 e t)
end
theorem RKs.mono1 {κ : Type} (e : Ex1 μ H μ' H') : ∀ {xs : List (κ × MV)} {vs : List (κ × V)}, RKs K μ H xs vs → RKs K μ' H' xs vs
  | _, _, .nil => .nil
  | _, _, .cons r t => .cons (r.mono1 e) (RKs.mono1 e t)
theorem RO.cong {L L' : List Nat} {i : Nat} {a : Addr} {o : MO} (r : RO K L μ H i a o) (hl : i ∈ L ↔ i ∈ L') (x : Ex1 μ H μ' H') (e : H' a = H a) : RO K L' μ' H' i a o := by
  cases o with
  | lst xs => obtain ⟨vs, h1, h2⟩ := r; exact ⟨vs, e.trans h1, h2.mono1 x⟩
  | scr ns => obtain ⟨ob, h1⟩ := r; exact ⟨ob, e.trans h1⟩
  | dk kvs =>
    obtain ⟨ws, h1, h2⟩ := r
    refine ⟨ws, ?_, h2.mono1 x⟩
    by_cases m : i ∈ L
    · rw [if_pos m] at h1; rw [if_pos (hl.mp m), e]; exact h1
    · rw [if_neg m] at h1; rw [if_neg (fun q => m (hl.mpr q)), e]; exact h1
  | dt kvs =>
    obtain ⟨ws, h1, h2⟩ := r
    refine ⟨ws, ?_, h2.mono1 x⟩
    by_cases m : i ∈ L
    · rw [if_pos m] at h1; rw [if_pos (hl.mp m), e]; exact h1
    · rw [if_neg m] at h1; rw [if_neg (fun q => m (hl.mpr q)), e]; exact h1
  | ins c fs => exact r
theorem nodup_at {μ : List Addr} (nd : μ.Nodup) {i j : Nat} {a : Addr} (h1 : μ[i]? = some a) (h2 : μ[j]? = some a) : i = j := by
  obtain ⟨l1, e1⟩ := List.getElem?_eq_some_iff.mp h1
  obtain ⟨l2, e2⟩ := List.getElem?_eq_some_iff.mp h2
  exact (List.getElem_inj nd).mp (e1.trans e2.symm)
theorem RH.lock {L : List Nat} {h : MH} {p : Nat} {a : Addr} {kvs : List (Key × MV)} {ws : List (Key × V)} {od : Obj} (r : RH K L μ h H) (e1 : h[p]? = some (.dk kvs)) (e2 : μ[p]? = some a) (hp : p ∉ L) (e3 : H a = some (.dK ws)) : RH K (p :: L) μ h (L2.upd H a (.frz od (.dK ws))) ∧ Ext μ H μ (L2.upd H a (.frz od (.dK ws))) := by
  have x1 : Ex1 μ H μ (L2.upd H a (.frz od (.dK ws))) := ⟨fun _ _ h => h, fun b vs q => by rw [upd_ne (fun z => by rw [z, e3] at q; cases q)]; exact q⟩
  refine ⟨⟨r.len, r.nd, fun i o b q1 q2 => ?_, ?_⟩, ?_⟩
  · have ro := r.obj i o b q1 q2
    by_cases z : i = p
    · subst z
      rw [e1] at q1; cases q1
      rw [e2] at q2; cases q2
      obtain ⟨ws', h1, h2⟩ := ro
      rw [if_neg hp, e3] at h1
      cases h1
      exact ⟨ws, by rw [if_pos (List.mem_cons_self ..)]; exact ⟨od, upd_same⟩, h2.mono1 x1⟩
    · refine ro.cong ?_ x1 (upd_ne fun q => z (nodup_at r.nd (by rw [← q]; exact q2) e2))
      rw [List.mem_cons]
      exact ⟨.inr, fun q => q.resolve_left z⟩
  · intro b vs q
    by_cases z : b = a
    · rw [z] at q
      rcases q with (q | ⟨o, q⟩) | (q | ⟨o, q⟩) <;> rw [upd_same] at q <;> cases q
    · refine r.bnd b vs ?_
      unfold Rd at q ⊢
      rw [upd_ne z] at q
      exact q
  · exact ⟨⟨[], (List.append_nil μ).symm⟩, fun b o q n => by rw [upd_ne (fun z => n (by rw [z]; exact List.mem_of_getElem? e2))]; exact q, fun _ h n => absurd h n, x1.tup, fun b o u q => by rw [upd_ne (fun z => by rw [z, e3] at q; cases q)]; exact q, fun b q => by
      by_cases z : b = a
      · rw [z, upd_same] at q; cases q
      · rw [upd_ne z] at q; exact q⟩
theorem RH.unlock {L : List Nat} {h : MH} {p : Nat} {a : Addr} {ws : List (Key × V)} {od : Obj} (r : RH K (p :: L) μ h H) (e2 : μ[p]? = some a) (hp : p ∉ L) (e3 : H a = some (.frz od (.dK ws))) : RH K L μ h (L2.upd H a (.dK ws)) := by
  have x1 : Ex1 μ H μ (L2.upd H a (.dK ws)) := ⟨fun _ _ h => h, fun b vs q => by rw [upd_ne (fun z => by rw [z, e3] at q; cases q)]; exact q⟩
  refine ⟨r.len, r.nd, fun i o b q1 q2 => ?_, ?_⟩
  · have ro := r.obj i o b q1 q2
    by_cases z : i = p
    · subst z
      rw [e2] at q2; cases q2
      cases o with
      | lst xs => obtain ⟨vs, h1, _⟩ := ro; rw [e3] at h1; cases h1
      | scr ns => obtain ⟨ob, h1⟩ := ro; rw [e3] at h1; cases h1
      | dk kvs =>
        obtain ⟨ws', h1, h2⟩ := ro
        rw [if_pos (List.mem_cons_self ..)] at h1
        obtain ⟨od', h1⟩ := h1
        rw [e3] at h1
        cases h1
        exact ⟨ws, by rw [if_neg hp]; exact upd_same, h2.mono1 x1⟩
      | dt kvs =>
        obtain ⟨ws', h1, h2⟩ := ro
        rw [if_pos (List.mem_cons_self ..)] at h1
        obtain ⟨od', h1⟩ := h1
        rw [e3] at h1
        cases h1
      | ins c fs => exact ro
    · refine ro.cong ?_ x1 (upd_ne fun q => z (nodup_at r.nd (by rw [← q]; exact q2) e2))
      rw [List.mem_cons]
      exact ⟨fun q => q.resolve_left z, .inr⟩
  · intro b vs q
    by_cases z : b = a
    · rw [z] at q
      rcases q with (q | ⟨o, q⟩) | (q | ⟨o, q⟩) <;> rw [upd_same] at q <;> cases q
    · refine r.bnd b vs ?_
      unfold Rd at q ⊢
      rw [upd_ne z] at q
      exact q
theorem Ext.unlock {a : Addr} {ws : List (Key × V)} {od : Obj} (e3 : H a = some (.dK ws)) (ha : a ∈ μ) (x : Ext μ (L2.upd H a (.frz od (.dK ws))) μ' H') : Ext μ H μ' (L2.upd H' a (.dK ws)) := by
  refine ⟨x.pre, fun b o q n => ?_, fun b m n => ?_, fun b vs q => ?_, fun b o u q => ?_, fun b q => ?_⟩
  · have z : b ≠ a := fun z => n (by rw [z]; exact ha)
    rw [upd_ne z]
    exact x.kept b o (by rw [upd_ne z]; exact q) n
  · have z : b ≠ a := fun z => n (by rw [z]; exact ha)
    have := x.fresh b m n
    rw [upd_ne z] at this
    exact this
  · have z : b ≠ a := fun z => by rw [z, e3] at q; cases q
    rw [upd_ne z]
    exact x.tup b vs (by rw [upd_ne z]; exact q)
  · have z : b ≠ a := fun z => by rw [z, e3] at q; cases q
    rw [upd_ne z]
    exact x.frz b o u (by rw [upd_ne z]; exact q)
  · have z : b ≠ a := fun z => by rw [z, upd_same] at q; cases q
    rw [upd_ne z] at q
    have := x.dom b q
    rw [upd_ne z] at this
    exact this
end
section
variable {X : Cx} {T : XT} {L : List Nat} {W : WX}
abbrev tLc1 (X : Cx) (T : XT) (L : List Nat) (W : WX) (mt : MT) (own : List (Str × Nat)) (dq : List Nat → MS → MH → Res Bool) (de : List Nat → MS → MH → Res TV) (i : Nat) : TE :=
  tLc (tI X.K T L W (dItV L (fun σ h => match σ[i]? with
            | some (some v) => .ok (.v v) h
            | _ => .bad))) (gM X.K mt) (tB X.K T L W0 (dq L)) (tV X.K T L W0 fun σ h => (de L σ h).bind settle) (own.map (·.2))
abbrev tLc3 (X : Cx) (T : XT) (L : List Nat) (mt : MT) (own : List (Str × Nat)) (dq : List Nat → MS → MH → Res Bool) (de : List Nat → MS → MH → Res TV) (i : Nat) : TE :=
  tLc (iKeys (tVar i)) (gM X.K mt) (tB X.K T L W0 (dq L)) (tV X.K T L W0 fun σ h => (de L σ h).bind settle) (own.map (·.2))
theorem lcN_read {mt : MT} {own : List (Str × Nat)} {dq : List Nat → MS → MH → Res Bool} {de : List Nat → MS → MH → Res TV} {i : Nat} (hix : ∀ i ∈ mt.ix, i ∈ own.map (·.2)) {σ : L2.St} {H : Hp} {Q : VK} (q : tT X.K T L W (dLc (dItN L i) mt (own.map (·.2)) dq de L) σ H Q) :
    tLc1 X T L W mt own dq de i σ H Q ∨ ∃ L', tLockE (tLc3 X T L' mt own dq de i) σ H Q := by
  obtain ⟨μ, h, σm, ri, p⟩ := q
  cases ev : σm[i]? with
  | none => simp [dLc, dItN, ev] at p; exact p.elim
  | some ov => cases ov with
    | none => simp [dLc, dItN, ev] at p; exact p.elim
    | some v =>
      have e0 : dLc (dItN L i) mt (own.map (·.2)) dq de L σm h = (Res.of h (itE true L h (.v v))).bind fun it h => (loopC it (dTurn mt (own.map (·.2)) (dq (lockL it L)) (de (lockL it L)) σm) it.items h).noX.bind fun ys h => .ok (.t ys) h := by simp [dLc, dItN, ev]
      rw [e0] at p
      obtain ⟨it, eit, p2⟩ := Post.of_bind p
      have eit' : (itOf h (.v v)).bind (fun it => match it.lock with | none => some it | some p => if (true = true) ∧ p ∉ L then some it else none) = some it := eit
      cases eo : itOf h (.v v) with
      | none => rw [eo] at eit'; cases eit'
      | some it1 =>
        rw [eo] at eit'
        have eit' : (match it1.lock with | none => some it1 | some p => if (true = true) ∧ p ∉ L then some it1 else none) = some it := eit'
        cases lk : it1.lock with
        | none =>
          rw [lk] at eit'
          cases eit'
          refine .inl (lc_read hix (di := dItV L (fun σ h => match σ[i]? with
            | some (some v) => .ok (.v v) h
            | _ => .bad)) ⟨μ, h, σm, ri, ?_⟩ fun μ' h' σm' it' h1 _ e => ?_)
          · have e1 : dItV L (fun σ h => match σ[i]? with
                | some (some v) => Res.ok (.v v) h
                | _ => .bad) σm h = .ok it h := by simp [dItV, ev, itE, eo, lk]
            show Post X.K T L _ μ H _ Q ((dItV L (fun σ h => match σ[i]? with
                | some (some v) => Res.ok (.v v) h
                | _ => .bad) σm h).bind _)
            rw [e1]
            exact p2
          · have e9 := e
            cases hx : (match σm'[i]? with
                | some (some v) => Res.ok (TV.v v) h'
                | _ => .bad : Res TV) with
            | bad => simp only [dItV, hx, Res.bind_bad] at e9; cases e9
            | exc c vs h2 => simp only [dItV, hx, Res.bind_exc] at e9; cases e9
            | ok y h2 =>
              simp only [dItV, hx, Res.bind_ok] at e9
              cases ei : itE false L h2 y with
              | none => rw [ei] at e9; cases e9
              | some it3 =>
                rw [ei] at e9
                have e9 : Res.ok it3 h2 = Res.ok it' h1 := e9
                injection e9 with q1 q2
                subst q1
                unfold itE at ei
                cases eo2 : itOf h2 y with
                | none => rw [eo2] at ei; cases ei
                | some it4 =>
                  rw [eo2] at ei
                  have ei : (match it4.lock with | none => some it4 | some p => if (false = true) ∧ p ∉ L then some it4 else none) = some it3 := ei
                  split at ei
                  · cases ei; assumption
                  · simp at ei
        | some pd =>
          rw [lk] at eit'
          have eit' : (if (true = true) ∧ pd ∉ L then some it1 else none) = some it := eit'
          split at eit'
          · rename_i hpd
            cases eit'
            refine .inr ⟨pd :: L, ?_⟩
            obtain ⟨z, ez, rz⟩ := ri.s.get i v ev
            cases v with
            | ref k =>
              cases rz with
              | @ref _ a ea =>
                have eo : (match h[k]? with
                  | some (.lst xs) => some (⟨some k, none, xs⟩ : MIt)
                  | some (.scr ns) => some ⟨none, none, ns.map .int⟩
                  | some (.dk kvs) => if kvs.length ≤ sizeLine then some ⟨none, some k, kvs.map fun kv => keyV kv.1⟩ else none
                  | _ => none) = some it := eo
                split at eo
                · cases eo; cases lk
                · cases eo; cases lk
                · rename_i kvs ek
                  split at eo
                  · rename_i hz
                    cases eo
                    cases lk
                    obtain ⟨ws, h1, h2⟩ := ri.h.ro ek ea
                    rw [if_neg hpd.2] at h1
                    refine ⟨a, .dK ws, h1, trivial, fun od => ⟨_, ez, a, od, rfl, .inl ⟨ws, upd_same, fun D hD => ?_⟩⟩⟩
                    obtain ⟨rhL, xL⟩ := ri.h.lock (od := od) ek ea hpd.2 h1
                    cases el : loopC ⟨none, some pd, kvs.map fun kv => keyV kv.1⟩ (dTurn mt (own.map (·.2)) (dq (pd :: L)) (de (pd :: L)) σm) (kvs.map fun kv => keyV kv.1) h with
                    | bad => rw [show lockL ⟨none, some pd, kvs.map fun kv => keyV kv.1⟩ L = pd :: L from rfl] at p2; simp only [el] at p2; exact p2.elim
                    | exc c vs h2 => rw [show lockL ⟨none, some pd, kvs.map fun kv => keyV kv.1⟩ L = pd :: L from rfl] at p2; simp only [el] at p2; exact p2.elim
                    | ok ys hn =>
                      rw [show lockL ⟨none, some pd, kvs.map fun kv => keyV kv.1⟩ L = pd :: L from rfl] at p2
                      simp only [el] at p2
                      refine lc_loop (src_keys upd_same (h2.mono xL) hz (some pd)) rhL (ri.s.mono xL) hD hix el fun μn Hn vs xn rhn nD eD rn => ?_
                      have ef : Hn a = some (.frz od (.dK ws)) := xn.frz a od _ upd_same
                      refine ⟨ef, ?_⟩
                      have hDa : D ≠ a := fun q => by rw [q, ef] at eD; cases eD
                      have x1 : Ex1 μn Hn μn (L2.upd Hn a (.dK ws)) := ⟨fun _ _ h => h, fun b vs q => by rw [upd_ne (fun z => by rw [z, ef] at q; cases q)]; exact q⟩
                      have hD0 : H D = none := (upd_ne (H := H) (o := .frz od (.dK ws)) hDa).symm.trans hD
                      exact p2 μn _ (.ref D) (Ext.unlock h1 (List.mem_of_getElem? ea) xn) (rhn.unlock (xn.at ea) hpd.2 ef) ⟨.t nD (by rw [upd_ne hDa]; exact eD) (rn.mono1 x1), fun xs q _ e2 => by cases e2; exact hD0⟩
                  · cases eo
                · cases eo
            | str z =>
              have eo : (if z.length ≤ sizeLine then some (⟨none, none, chars z⟩ : MIt) else none) = some it := eo
              split at eo
              · cases eo; cases lk
              · cases eo
            | tup xs => cases eo; cases lk
            | non => cases eo
            | bl b => cases eo
            | int b => cases eo
          · cases eit'
theorem e_lcN {elt tg : Expr} {ifs : List Expr} {scope : Scope} {own : List (Str × Nat)} {pos : Pos} {mt : MT} {dq : List Nat → MS → MH → Res Bool} {de : List Nat → MS → MH → Res TV} {i : Nat} {x : Str} {p : Pos} (ok : LcOk X T elt tg ifs scope own mt dq de)
    (hN : X.N[i]? = some x) (hv : Vis X.env.scope x) (hd : (x == ("__debug__" : Str)) = false) (hcd : (x == ("__classdict__" : Str)) = false) (hs : ∀ y, foldedSetIterable (.Name x p) X.env y = pure y) : QT X T L W (.ListComp elt [⟨tg, .Name x p, ifs, 0⟩] scope pos) (dLc (dItN L i) mt (own.map (·.2)) dq de L) :=
  PE.imp (PE.or (pe_lc ok.calm ok.nd (i_val (e_var hN hv hd hcd)) ok.blk ok.tg (ok.ifs L) (fun s H C cl fp => settle_ok (ok.elt L s H C cl fp)) hs)
    (PE.ex fun L' => pe_lock (pe_lc ok.calm ok.nd (pi_keys (pe_var hN hv hd hcd)) ok.blk ok.tg (ok.ifs L') (fun s H C cl fp => settle_ok (ok.elt L' s H C cl fp)) hs))) fun σ H Q q => lcN_read ok.ix q
end
end MP

set_option linter.all false
set_option autoImplicit false
/-! MiniPy: statements. -/
namespace MP
open PySem PyProof.Rows L2

def SPost (K : PySem.W.Frag) (T : XT) (L : List Nat) (W : WX) (D : Ends) (μ : List Addr) (H : Hp) : SR → Prop
  | .next σm h => ∀ μ' H' σ, Ext μ H μ' H' → RI K L μ' h σm σ H' → D.nx σ H'
  | .brk σm h => ∀ μ' H' σ, Ext μ H μ' H' → RI K L μ' h σm σ H' → D.bk σ H'
  | .cnt σm h => ∀ μ' H' σ, Ext μ H μ' H' → RI K L μ' h σm σ H' → D.ct σ H'
  | .ret v h => ∀ μ' H' z, Ext μ H μ' H' → RH K L μ' h H' → RV K μ' H' v z → D.rt z H'
  | .exc c vs σm h => ∀ μ' H' cls d σ, Ext μ H μ' H' → RI K L μ' h σm σ H' → RX K T c vs μ' H' cls d → W cls d σ H'
  | .bad => False
def tS (K : PySem.W.Frag) (T : XT) (L : List Nat) (W : WX) (f : MS → MH → SR) : TS := fun D σ H => ∃ μ h σm, RI K L μ h σm σ H ∧ SPost K T L W D μ H (f σm h)
abbrev QS (X : Cx) (T : XT) (L : List Nat) (W : WX) (st : Stmt) (f : MS → MH → SR) : Prop := PS X st (tS X.K T L W f)
abbrev QSs (X : Cx) (T : XT) (L : List Nat) (W : WX) (st : List Stmt) (f : MS → MH → SR) : Prop := PSs X st (tS X.K T L W f)
theorem PS.imp {X : Cx} {e : Stmt} {t t' : TS} (p : PS X e t) (h : ∀ D σ H, t' D σ H → t D σ H) : PS X e t' := ⟨fun pins s σ H D I q => p.run pins s σ H D I (h D σ H q)⟩
theorem PSs.imp {X : Cx} {e : List Stmt} {t t' : TS} (p : PSs X e t) (h : ∀ D σ H, t' D σ H → t D σ H) : PSs X e t' := ⟨fun pins s σ H D I q => p.run pins s σ H D I (h D σ H q)⟩
theorem PS.or {X : Cx} {e : Stmt} {t u : TS} (h : PS X e t) (g : PS X e u) : PS X e (fun D σ H => t D σ H ∨ u D σ H) := ⟨fun pins s σ H D I q => q.elim (h.run pins s σ H D I) (g.run pins s σ H D I)⟩
theorem PS.ex {X : Cx} {ι : Type} {e : Stmt} {t : ι → TS} (h : ∀ i, PS X e (t i)) : PS X e (fun D σ H => ∃ i, t i D σ H) := ⟨fun pins s σ H D I q => let ⟨i, q⟩ := q; (h i).run pins s σ H D I q⟩
section
variable {K : PySem.W.Frag} {T : XT} {L : List Nat} {W : WX} {D : Ends} {μ : List Addr} {H : Hp}
theorem SPost.ext {μ1 : List Addr} {H1 : Hp} {r : SR} (p : SPost K T L W D μ H r) (x : Ext μ H μ1 H1) : SPost K T L W D μ1 H1 r := by
  cases r with
  | next σm h => exact fun μ' H' σ y ri => p μ' H' σ (x.trans y) ri
  | brk σm h => exact fun μ' H' σ y ri => p μ' H' σ (x.trans y) ri
  | cnt σm h => exact fun μ' H' σ y ri => p μ' H' σ (x.trans y) ri
  | ret v h => exact fun μ' H' z y rh rv => p μ' H' z (x.trans y) rh rv
  | exc c vs σm h => exact fun μ' H' cls d σ y ri rx => p μ' H' cls d σ (x.trans y) ri rx
  | bad => exact p
theorem SPost.imp {D' : Ends} {r : SR} (p : SPost K T L W D μ H r) (h1 : ∀ σ H, D.nx σ H → D'.nx σ H) (h2 : ∀ z H, D.rt z H → D'.rt z H) (h3 : ∀ σ H, D.bk σ H → D'.bk σ H) (h4 : ∀ σ H, D.ct σ H → D'.ct σ H) : SPost K T L W D' μ H r := by
  cases r with
  | next σm h => exact fun μ' H' σ y ri => h1 _ _ (p μ' H' σ y ri)
  | brk σm h => exact fun μ' H' σ y ri => h3 _ _ (p μ' H' σ y ri)
  | cnt σm h => exact fun μ' H' σ y ri => h4 _ _ (p μ' H' σ y ri)
  | ret v h => exact fun μ' H' z y rh rv => h2 _ _ (p μ' H' z y rh rv)
  | exc c vs σm h => exact p
  | bad => exact p
theorem tT_settle {d : MS → MH → Res TV} {σ : L2.St} {Q : VK} (q : tV K T L W (fun σ h => (d σ h).bind settle) σ H Q) : tT K T L W d σ H Q := by
  obtain ⟨μ, h, σm, ri, p⟩ := q
  refine ⟨μ, h, σm, ri, ?_⟩
  cases e : d σm h with
  | ok x h1 =>
    simp only [e, Res.bind_ok] at p
    intro μ1 H1 z x1 y g
    cases x with
    | v x => cases g.1 with | v r => exact p μ1 H1 z x1 y r
    | t xs => cases g.1 with | @t _ q vs n e1 r =>
      have n0 := g.2 _ _ rfl rfl
      have X0 : Ex0 μ1 H1 (μ1 ++ [q]) H1 := ⟨⟨_, rfl⟩, fun _ _ h => h, fun _ _ _ h => h⟩
      exact p (μ1 ++ [q]) H1 _ (ext_name n x1 n0) (y.name n ⟨vs, e1, r.mono0 X0⟩) (.ref (by rw [← y.len]; simp))
    | c xs => exact p.elim
  | exc c vs h1 => simp only [e, Res.bind_exc] at p; exact p
  | bad => simp only [e, Res.bind_bad] at p; exact p
theorem gM_nm {i : Nat} {z : V} {σ : L2.St} {Q : L2.St → Hp → Prop} (g : gM K (.nm i) z σ H Q) : gName i z σ H Q := by
  obtain ⟨μ, x, σm, σm', rs, r, e, f⟩ := g
  cases e
  exact f _ (rs.set r i) fun vs m => wipe_set (m i (by simp [MT.ix]))
/-- an expression, and on -/
theorem SPost.st {α β : Type} {G : α → List Addr → Hp → β → Prop} {r : Res α} {σm : MS} {σ : L2.St} {f : α → MH → SR} (rs : RS K μ H σm σ) (p : SPost K T L W D μ H (r.st σm f)) :
    Post K T L G μ H (fun c d H' => W c d σ H') (fun z H1 => ∃ a h1 μ1, r = .ok a h1 ∧ Ext μ H μ1 H1 ∧ RI K L μ1 h1 σm σ H1 ∧ G a μ1 H1 z ∧ SPost K T L W D μ1 H1 (f a h1)) r := by
  cases r with
  | ok a h1 => exact fun μ' H' z x y g => ⟨a, h1, μ', rfl, x, ⟨rs.mono x, y⟩, g, p.ext x⟩
  | exc c vs h1 => exact fun μ' H' cls d x y rx => p μ' H' cls d σ x ⟨rs.mono x, y⟩ rx
  | bad => exact p.elim
theorem SPost.then {r : SR} {f : MS → MH → SR} (p : SPost K T L W D μ H (r.then f)) : SPost K T L W { D with nx := tS K T L W f D } μ H r := by
  cases r with
  | next σm h => exact fun μ' H' σ x ri => ⟨μ', h, σm, ri, SPost.ext p x⟩
  | brk σm h => exact p
  | cnt σm h => exact p
  | ret v h => exact p
  | exc c vs σm h => exact p
  | bad => exact p
end
section
variable {X : Cx} {T : XT} {L : List Nat} {W : WX}
theorem ss_nil : QSs X T L W [] (fun σ h => .next σ h) := PSs.imp pss_nil fun D σ H ⟨μ, h, σm, ri, p⟩ => p μ H σ (Ext.refl μ H) ri
theorem ss_cons {s : Stmt} {ss : List Stmt} {f g : MS → MH → SR} (h1 : QS X T L W s f) (h2 : QSs X T L W ss g) : QSs X T L W (s :: ss) (fun σ h => (f σ h).then g) :=
  PSs.imp (pss_cons h1 h2) fun D σ H ⟨μ, h, σm, ri, p⟩ => ⟨μ, h, σm, ri, p.then⟩
theorem s_pass {pos : Pos} : QS X T L W (.Pass pos) (fun σ h => .next σ h) := PS.imp ps_pass fun D σ H ⟨μ, h, σm, ri, p⟩ => p μ H σ (Ext.refl μ H) ri
theorem s_brk {pos : Pos} : QS X T L W (.Break pos) (fun σ h => .brk σ h) := PS.imp ps_break fun D σ H ⟨μ, h, σm, ri, p⟩ => p μ H σ (Ext.refl μ H) ri
theorem s_cnt {pos : Pos} : QS X T L W (.Continue pos) (fun σ h => .cnt σ h) := PS.imp ps_continue fun D σ H ⟨μ, h, σm, ri, p⟩ => p μ H σ (Ext.refl μ H) ri
theorem s_retN {pos : Pos} : QS X T L W (.Return none pos) (fun _ h => .ret .non h) := PS.imp ps_retN fun D σ H ⟨μ, h, σm, ri, p⟩ => p μ H .non (Ext.refl μ H) ri.h .non
theorem s_ret {e : Expr} {pos : Pos} {ee : MS → MH → Res MV} (he : QV X T L W e ee) : QS X T L W (.Return (some e) pos) (fun σ h => (ee σ h).st σ fun v h => .ret v h) :=
  PS.imp (ps_ret he) fun D σ H ⟨μ, h, σm, ri, p⟩ => ⟨μ, h, σm, ri, (SPost.st ri.s p).imp fun z H1 ⟨a, h1, μ1, _, x, ri1, g, p1⟩ => p1 μ1 H1 z (Ext.refl _ _) ri1.h g⟩
theorem s_exp {e : Expr} {pos : Pos} {ee : MS → MH → Res TV} (he : QT X T L W e ee) (hs : swapsWith e none pos.line X.env = pure false) : QS X T L W (.Expr e pos) (fun σ h => (ee σ h).st σ fun _ h => .next σ h) :=
  PS.imp (ps_expr he hs) fun D σ H ⟨μ, h, σm, ri, p⟩ => ⟨μ, h, σm, ri, (SPost.st (G := RTn X.K H) ri.s p).imp fun z H1 ⟨a, h1, μ1, _, x, ri1, g, p1⟩ => p1 μ1 H1 σ (Ext.refl _ _) ri1⟩
theorem s_if {c : Expr} {a b : List Stmt} {pos : Pos} {ec : MS → MH → Res Bool} {fa fb : MS → MH → SR} (hc : QB X T L W c ec) (ha : QSs X T L W a fa) (hb : QSs X T L W b fb) : QS X T L W (.If c a b pos) (fun σ h => (ec σ h).st σ fun k h => if k then fa σ h else fb σ h) :=
  PS.imp (ps_if hc ha hb) fun D σ H ⟨μ, h, σm, ri, p⟩ => ⟨μ, h, σm, ri, (SPost.st ri.s p).imp fun z H1 ⟨a, h1, μ1, _, x, ri1, g, p1⟩ => by
    have g : a = z := g
    subst g
    cases a with
    | true => exact ⟨μ1, h1, σm, ri1, p1⟩
    | false => exact ⟨μ1, h1, σm, ri1, p1⟩⟩
abbrev dAsg (mt : MT) (ee : MS → MH → Res MV) : MS → MH → SR := fun σ h => (ee σ h).st σ fun v h => (match bindT mt v σ with
    | some σ' => .next σ' h
    | none => .bad)
theorem asg_read {mt : MT} {ee : MS → MH → Res MV} {D : Ends} {σ : L2.St} {H : Hp} (q : tS X.K T L W (dAsg mt ee) D σ H) : tAsg (tV X.K T L W ee) (gM X.K mt) D σ H := by
  obtain ⟨μ, h, σm, ri, p⟩ := q
  refine ⟨μ, h, σm, ri, (SPost.st ri.s p).imp fun z H1 ⟨a, h1, μ1, _, x, ri1, g, p1⟩ => ?_⟩
  cases e : bindT mt a σm with
  | none => rw [e] at p1; exact p1.elim
  | some σ' =>
    rw [e] at p1
    exact ⟨μ1, a, σm, σ', ri1.s, g, e, fun σ2 rs2 _ => p1 μ1 H1 σ2 (Ext.refl _ _) ⟨rs2, ri1.h⟩⟩
theorem s_asg {tg e : Expr} {pos : Pos} {mt : MT} {ee : MS → MH → Res MV} (he : QV X T L W e ee) (hg : PG X tg (gM X.K mt)) (hs : swapsWithSole [tg] e pos.line X.env = pure false) (hw : swappedStores [tg] e X.env = pure none) (h1 : (assignEach [tg] X.env).map (·.2) = [assign tg X.env]) :
    QS X T L W (.Assign [tg] e pos) (dAsg mt ee) := PS.imp (ps_asg he hg hs hw h1) fun D σ H q => asg_read q
end
section
variable {K : PySem.W.Frag} {L : List Nat} {μ : List Addr} {h : MH} {H : Hp} {p : Addr}
/-- a named object is changed -/
theorem RH.setO {i : Nat} {o : MO} {u0 u : HO} (r : RH K L μ h H) (e2 : μ[i]? = some p) (e3 : H p = some u0) (m : Mut (some u0)) (z : okLen u) (q : ∀ μ' H', Ext μ H μ' H' → H' p = some u → RO K L μ' H' i p o) :
    Ext μ H μ (L2.upd H p u) ∧ RH K L μ (h.set i o) (L2.upd H p u) := by
  have nt : ∀ vs, u0 ≠ .tup vs := fun vs e => by rw [e] at m; exact m
  have nf : ∀ ob w, u0 ≠ .frz ob w := fun ob w e => by rw [e] at m; exact m
  have x : Ext μ H μ (L2.upd H p u) := by
    refine ⟨⟨[], (List.append_nil μ).symm⟩, fun a u e n => ?_, fun a m nm => absurd m nm, fun a vs e => ?_, fun a ob u e => ?_, fun a e => ?_⟩
    · rw [upd_ne (fun z => n (by rw [z]; exact List.mem_of_getElem? e2))]; exact e
    · rw [upd_ne (fun z => by rw [z, e3] at e; exact nt vs (Option.some.inj e))]; exact e
    · rw [upd_ne (fun z => by rw [z, e3] at e; exact nf ob u (Option.some.inj e))]; exact e
    · by_cases q : a = p
      · rw [q, upd_same] at e; cases e
      · rw [upd_ne q] at e; exact e
  refine ⟨x, by simp [r.len], r.nd, fun j u' a f1 f2 => ?_, r.bnd.upd z⟩
  by_cases c : i = j
  · subst c
    rw [e2] at f2; cases f2
    rw [List.getElem?_set, if_pos rfl] at f1
    split at f1
    · cases f1
      exact q μ _ x upd_same
    · cases f1
  · rw [List.getElem?_set_ne c] at f1
    have na : a ≠ p := fun z => by
      subst z
      exact c ((List.getElem?_inj (List.getElem?_eq_some_iff.mp e2).1 r.nd).mp (e2.trans f2.symm))
    exact RO.stay (r.ro f1 f2) x.ex0 fun w e => by rw [upd_ne na]; exact e
theorem RKs.put {κ : Type} [DecidableEq κ] {k : κ} {v : MV} {z : V} (q : RV K μ H v z) {xs : List (κ × MV)} {vs : List (κ × V)} (r : RKs K μ H xs vs) : RKs K μ H (putKV xs k v) (putK vs k z) := by
  have ea : (xs.any fun kv => decide (kv.1 = k)) = (vs.any fun kv => decide (kv.1 = k)) := by
    clear q
    induction r with
    | nil => rfl
    | cons _ _ ih => rw [List.any_cons, List.any_cons, ih]
  unfold putKV putK
  rw [ea]
  split <;> rename_i hc <;> clear hc
  · clear ea
    induction r with
    | nil => exact .nil
    | @cons a x xs w vs r1 _ ih =>
      rw [List.map_cons, List.map_cons]
      by_cases c : a = k
      · rw [if_pos c, if_pos c]; exact .cons q ih
      · rw [if_neg c, if_neg c]; exact .cons r1 ih
  · clear ea
    induction r with
    | nil => exact .cons q .nil
    | cons r1 _ ih => exact .cons r1 ih
/-- o[i] = v, by values -/
def rSetM (K : PySem.W.Frag) (L : List Nat) : TSet := fun o i v H Q => ∃ μ h a b c h', RH K L μ h H ∧ RV K μ H a o ∧ RV K μ H b i ∧ RV K μ H c v ∧ setItT L h a b c = some h' ∧ ∀ H', Ext μ H μ H' → RH K L μ h' H' → Q H'
theorem set_M {X : Cx} {L : List Nat} (hu : X.A.units + 1 < cLine) : PSet X (rSetM X.K L) := by
  intro pins s σ H o i v ov iv u Q I ro ri rv q
  obtain ⟨μ, h, a, b, c, h', rh, ra, rb, rc, e, f⟩ := q
  unfold setItT at e
  split at e
  next p =>
    cases ra with
    | @ref _ ad ea =>
      split at e
      next xs k exs =>
        obtain ⟨j, ej, rfl⟩ := Option.map_eq_some_iff.mp e
        obtain ⟨vs, ev, rvs⟩ := rh.lstO exs ea
        cases rb
        refine set_list pins s σ H _ _ v ov iv u Q I ro ri rv ⟨ad, vs, k, j, rfl, rfl, ev, by rw [← rvs.length]; exact ej, ?_⟩
        obtain ⟨x, rh2⟩ := rh.setL exs ea ev (rvs.set rc j) (by rw [List.length_set]; exact rh.bnd ad vs (.inr (.inl ev)))
        exact f _ x rh2
      next b' _ _ kvs exs =>
        cases ek : keyOf b' with
        | none => rw [ek] at e; cases e
        | some k =>
          rw [ek] at e
          have e : (if p ∈ L ∨ ¬ kvs.length < sizeLine then none else some (h.set p (.dk (putKV kvs k c)))) = some h' := e
          split at e
          · cases e
          · rename_i hp
            rw [not_or, Decidable.not_not] at hp
            cases e
            obtain ⟨ws, h1, h2⟩ := rh.ro exs ea
            rw [if_neg hp.1] at h1
            have hl : ws.length < sizeLine := by rw [← h2.length]; exact hp.2
            obtain ⟨x, rh2⟩ := rh.setO (u := .dK (putK ws k v)) (o := .dk (putKV kvs k c)) ea h1 trivial trivial fun μ' H' x e => ⟨_, by rw [if_neg hp.1]; exact e, (h2.mono x).put (rc.mono x)⟩
            rw [keyOf_V rb ek] at ri
            exact set_dict hu pins s σ H _ _ v ov iv u Q I ro ri rv ⟨ad, _, rfl, .k h1 hl, f _ x rh2⟩
      next kvs ks exs =>
        cases ek : keysOf ks with
        | none => rw [ek] at e; cases e
        | some k =>
          rw [ek] at e
          have e : (if p ∈ L ∨ ¬ kvs.length < sizeLine then none else some (h.set p (.dt (putKV kvs k c)))) = some h' := e
          split at e
          · cases e
          · rename_i hp
            rw [not_or, Decidable.not_not] at hp
            cases e
            obtain ⟨ws, h1, h2⟩ := rh.ro exs ea
            rw [if_neg hp.1] at h1
            have hl : ws.length < sizeLine := by rw [← h2.length]; exact hp.2
            obtain ⟨x, rh2⟩ := rh.setO (u := .dT (putK ws k v)) (o := .dt (putKV kvs k c)) ea h1 trivial trivial fun μ' H' x e => ⟨_, by rw [if_neg hp.1]; exact e, (h2.mono x).put (rc.mono x)⟩
            cases rb with
            | @tup bd ks' _ hb rks =>
              rw [keysOf_V rks ek] at hb
              exact set_dict hu pins s σ H _ _ v ov iv u Q I ro ri rv ⟨ad, _, rfl, .t h1 hb hl, f _ x rh2⟩
      next => cases e
  next => cases e
end
section
variable {X : Cx} {T : XT} {L : List Nat} {W : WX}
theorem s_sub {o i e : Expr} {pos pos' : Pos} {eo ei ee : MS → MH → Res MV} (hu : X.A.units + 1 < cLine) (he : QV X T L W e ee) (ho : QV X T L W o eo) (hi : QV X T L W i ei)
    (ha : ∀ v, assign (.Subscript o i pos') X.env v = (do
      let ov ← holding [v] (eval o X.env)
      let iv ← holding [v, ov] (eval i X.env)
      standAt pos'
      holding [v, ov, iv] (setItem ov iv v)
      release [v, ov, iv] [])) (hs : swapsWithSole [.Subscript o i pos'] e pos.line X.env = pure false) (hw : swappedStores [.Subscript o i pos'] e X.env = pure none) (h1 : (assignEach [.Subscript o i pos'] X.env).map (·.2) = [assign (.Subscript o i pos') X.env]) :
    QS X T L W (.Assign [.Subscript o i pos'] e pos) (fun σ h => (ee σ h).st σ fun v h => (eo σ h).st σ fun x h => (ei σ h).st σ fun j h => (match setItT L h x j v with
      | some h' => .next σ h'
      | none => .bad)) := by
  refine PS.imp (ps_asg he (pg_sub ho hi (set_M (L := L) hu) ha) hs hw h1) fun D σ H ⟨μ, h, σm, ri, p⟩ => ?_
  refine ⟨μ, h, σm, ri, (SPost.st ri.s p).imp fun z H1 ⟨a, h1, μ1, _, x, ri1, g, p1⟩ => ?_⟩
  refine ⟨μ1, h1, σm, ri1, (SPost.st ri1.s p1).imp fun z2 H2 ⟨a2, h2, μ2, _, x2, ri2, g2, p2⟩ => ?_⟩
  refine ⟨μ2, h2, σm, ri2, (SPost.st ri2.s p2).imp fun z3 H3 ⟨a3, h3, μ3, _, x3, ri3, g3, p3⟩ => ?_⟩
  cases e : setItT L h3 a2 a3 a with
  | none => rw [e] at p3; exact p3.elim
  | some h' =>
    rw [e] at p3
    exact ⟨μ3, h3, a2, a3, a, h', ri3.h, g2.mono x3, g3, g.mono (x2.trans x3), e, fun H' x4 rh4 => p3 μ3 H' σ x4 ⟨ri3.s.mono x4, rh4⟩⟩
/-- name = [..] on the name's own line -/
theorem s_setLc {i : Nat} {y : Str} {py : Pos} {elt tg iter : Expr} {ifs : List Expr} {scope : Scope} {own : List (Str × Nat)} {pos spos : Pos} {di : MS → MH → Res MIt} {mt : MT} {dq : List Nat → MS → MH → Res Bool} {de : List Nat → MS → MH → Res TV} (ok : LcOk X T elt tg ifs scope own mt dq de) (hi : QI X T L W tg iter di)
    (hl : ∀ σ h it h1, di σ h = .ok it h1 → it.lock = none) (hs : ∀ x, foldedSetIterable iter X.env x = pure x) (hy : X.N[i]? = some y) (hyl : X.env.scope.names.lookup y = some .local)
    (hsw : swapsWith (.ListComp elt [⟨tg, iter, ifs, 0⟩] scope pos) (some (.Name y py)) spos.line X.env = pure true) :
    QS X T L W (.Assign [.Name y py] (.ListComp elt [⟨tg, iter, ifs, 0⟩] scope pos) spos) (dAsg (.nm i) fun σ h => (dLc di mt (own.map (·.2)) dq de L σ h).bind settle) := by
  refine PS.imp (ps_setLc (tt := tB X.K T L W0 (dq L)) (te := tV X.K T L W0 fun σ h => (de L σ h).bind settle) ok.calm ok.nd hy hyl hsw hi ok.blk ok.tg (ok.ifs L) (fun s H C cl fp => settle_ok (ok.elt L s H C cl fp)) hs) fun D σ H q => ?_
  obtain ⟨μ, h, σm, ri, p⟩ := asg_read q
  exact lc_read ok.ix (tT_settle ⟨μ, h, σm, ri, p.imp fun z H1 g => gM_nm g⟩) fun μ h σm it h1 _ e => hl σm h it h1 e
theorem s_setLcN {j : Nat} {y : Str} {py : Pos} {elt tg : Expr} {ifs : List Expr} {scope : Scope} {own : List (Str × Nat)} {pos spos : Pos} {mt : MT} {dq : List Nat → MS → MH → Res Bool} {de : List Nat → MS → MH → Res TV} {i : Nat} {x : Str} {p : Pos} (ok : LcOk X T elt tg ifs scope own mt dq de)
    (hN : X.N[i]? = some x) (hv : Vis X.env.scope x) (hd : (x == ("__debug__" : Str)) = false) (hcd : (x == ("__classdict__" : Str)) = false) (hs : ∀ y, foldedSetIterable (.Name x p) X.env y = pure y) (hy : X.N[j]? = some y) (hyl : X.env.scope.names.lookup y = some .local)
    (hsw : swapsWith (.ListComp elt [⟨tg, .Name x p, ifs, 0⟩] scope pos) (some (.Name y py)) spos.line X.env = pure true) :
    QS X T L W (.Assign [.Name y py] (.ListComp elt [⟨tg, .Name x p, ifs, 0⟩] scope pos) spos) (dAsg (.nm j) fun σ h => (dLc (dItN L i) mt (own.map (·.2)) dq de L σ h).bind settle) := by
  refine PS.imp (PS.or (ps_setLc (tt := tB X.K T L W0 (dq L)) (te := tV X.K T L W0 fun σ h => (de L σ h).bind settle) ok.calm ok.nd hy hyl hsw (i_val (L := L) (T := T) (W := W) (e_var hN hv hd hcd)) ok.blk ok.tg (ok.ifs L) (fun s H C cl fp => settle_ok (ok.elt L s H C cl fp)) hs)
    (PS.ex fun L' => ps_lock (ps_setLc (tt := tB X.K T L' W0 (dq L')) (te := tV X.K T L' W0 fun σ h => (de L' σ h).bind settle) ok.calm ok.nd hy hyl hsw (pi_keys (pe_var hN hv hd hcd)) ok.blk ok.tg (ok.ifs L') (fun s H C cl fp => settle_ok (ok.elt L' s H C cl fp)) hs))) fun D σ H q => ?_
  obtain ⟨μ, h, σm, ri, p⟩ := asg_read q
  rcases lcN_read ok.ix (tT_settle ⟨μ, h, σm, ri, p.imp fun z H1 g => gM_nm g⟩) with q | ⟨L', d, u, e, m, f⟩
  · exact .inl q
  · exact .inr ⟨L', d, u, e, m, fun od => f od⟩
end
end MP

set_option linter.all false
set_option autoImplicit false
/-! MiniPy: loops, op=, stores in parallel. -/
namespace MP
open PySem PyProof.Rows L2

section
variable {X : Cx} {T : XT} {L : List Nat} {W : WX}
theorem SPost.turn {K : PySem.W.Frag} {D : Ends} {μ : List Addr} {H : Hp} {r : SR} {g : MS → MH → SR} (p : SPost K T L W D μ H (r.turn g)) :
    SPost K T L W { D with nx := fun σ H' => ∃ μ' h σm, Ext μ H μ' H' ∧ RI K L μ' h σm σ H' ∧ SPost K T L W D μ' H' (g σm h), ct := fun σ H' => ∃ μ' h σm, Ext μ H μ' H' ∧ RI K L μ' h σm σ H' ∧ SPost K T L W D μ' H' (g σm h), bk := D.nx } μ H r := by
  cases r with
  | next σm h => exact fun μ' H' σ x ri => ⟨μ', h, σm, x, ri, SPost.ext p x⟩
  | cnt σm h => exact fun μ' H' σ x ri => ⟨μ', h, σm, x, ri, SPost.ext p x⟩
  | brk σm h => exact p
  | ret v h => exact p
  | exc c vs σm h => exact p
  | bad => exact p
abbrev dFor (L : List Nat) (di : MS → MH → Res MIt) (mt : MT) (fb : MS → MH → SR) : MS → MH → SR := fun σ h => (di σ h).st σ fun it h => (match it.lock with
  | none => loopS it (fun x σ h => (match bindT mt x σ with
      | some σ' => fb σ' h
      | none => .bad)) it.items σ h
  | some _ => .bad)
theorem s_for {tg iter : Expr} {body : List Stmt} {pos : Pos} {di : MS → MH → Res MIt} {mt : MT} {fb : MS → MH → SR} (hp : PassesOwn (model X.prog X.w) X.A X.env X.xe) (hc : X.calm = true) (hi : QI X T L W tg iter di) (hg : PG X tg (gM X.K mt)) (hb : QSs X T L W body fb) (hs : ∀ x, foldedSetIterable iter X.env x = pure x) :
    QS X T L W (.For tg iter body [] pos) (dFor L di mt fb) := by
  refine PS.imp (ps_for hp hc hi hg hb hs) fun D σ H ⟨μ, h, σm, ri, p⟩ => ?_
  refine ⟨μ, h, σm, ri, (SPost.st ri.s p).imp fun J H1 ⟨it, h1, μ1, _, x1, ri1, ⟨lk, src⟩, p1⟩ => ?_⟩
  rw [lk] at p1
  simp only at p1
  let f : MV → MS → MH → SR := fun x σ h => (match bindT mt x σ with
      | some σ' => fb σ' h
      | none => .bad)
  have p1 : SPost X.K T L W D μ1 H1 (loopS it f it.items σm h1) := p1
  refine ⟨fun i m σ' H' => m = it.items.length - i ∧ i ≤ it.items.length ∧ ∃ μ' h' σm', RI X.K L μ' h' σm' σ' H' ∧ Ext μ1 H1 μ' H' ∧ SPost X.K T L W D μ' H' (loopS it f (it.items.drop i) σm' h'), ⟨it.items.length, by simp, Nat.zero_le _, μ1, h1, σm, ri1, Ext.refl _ _, p1⟩, ?_⟩
  rintro i m σ2 H2 ⟨rfl, hi, μ2, h2, σm2, ri2, x2, p2⟩
  by_cases hlt : i < it.items.length
  · have ed : it.items.drop i = it.items[i] :: it.items.drop (i + 1) := List.drop_eq_getElem_cons hlt
    rw [ed] at p2
    unfold loopS at p2
    split at p2
    next st =>
      obtain ⟨go, yl⟩ := src.go μ2 h2 H2 x2 ri2.h st i _ (List.getElem?_eq_getElem hlt)
      have p3 := p2.turn
      refine .inr ⟨go, _, fun σ' H' n => n, fun z H' y => ?_⟩
      obtain ⟨rfl, rz⟩ := yl z H' y
      cases eb : bindT mt it.items[i] σm2 with
      | none => rw [show f it.items[i] σm2 h2 = .bad by simp [f, eb]] at p3; exact p3.elim
      | some σ3 =>
        rw [show f it.items[i] σm2 h2 = fb σ3 h2 by simp [f, eb]] at p3
        refine ⟨μ2, _, σm2, σ3, ri2.s, rz, eb, fun σ4 rs4 _ => ⟨μ2, h2, σ3, ⟨rs4, ri2.h⟩, p3.imp (fun σ' H'' ⟨μ', h', σm', x', ri', p'⟩ => ?_) (fun _ _ q => q) (fun _ _ q => q) (fun σ' H'' ⟨μ', h', σm', x', ri', p'⟩ => ?_)⟩⟩
        · exact ⟨it.items.length - (i + 1), by omega, rfl, hlt, μ', h', σm', ri', x2.trans x', p'⟩
        · exact ⟨it.items.length - (i + 1), by omega, rfl, hlt, μ', h', σm', ri', x2.trans x', p'⟩
    next => exact p2.elim
  · have ei : i = it.items.length := by omega
    subst ei
    rw [List.drop_length] at p2
    unfold loopS at p2
    split at p2
    next st => exact .inl ⟨src.stop μ2 h2 H2 x2 ri2.h st, p2 μ2 H2 σ2 (Ext.refl _ _) ri2⟩
    next => exact p2.elim
theorem s_whl {c : Expr} {body : List Stmt} {pos : Pos} {ec : MS → MH → Res Bool} {fb : MS → MH → SR} {n : Nat} (hp : PassesOwn (model X.prog X.w) X.A X.env X.xe) (hc : QB X T L W c ec) (hb : QSs X T L W body fb) :
    QS X T L W (.While c body [] pos) (fun σ h => whileS ec fb n σ h) := by
  refine PS.imp (ps_while hp hc hb) fun D σ H ⟨μ, h, σm, ri, p⟩ => ?_
  refine ⟨fun m σ' H' => ∃ μ' h' σm', RI X.K L μ' h' σm' σ' H' ∧ SPost X.K T L W D μ' H' (whileS ec fb m σm' h'), ⟨n, μ, h, σm, ri, p⟩, ?_⟩
  rintro m σ1 H1 ⟨μ1, h1, σm1, ri1, p1⟩
  cases m with
  | zero => exact p1.elim
  | succ m =>
    unfold whileS at p1
    refine ⟨μ1, h1, σm1, ri1, (SPost.st ri1.s p1).imp fun z H2 ⟨a, h2, μ2, _, x2, ri2, g, p2⟩ => ?_⟩
    have g : a = z := g
    subst g
    cases a with
    | true =>
      simp only [if_true] at p2 ⊢
      refine ⟨_, fun σ' H' q => q, μ2, h2, σm1, ri2, p2.turn.imp (fun σ' H'' ⟨μ', h', σm', x', ri', p'⟩ => ?_) (fun _ _ q => q) (fun _ _ q => q) (fun σ' H'' ⟨μ', h', σm', x', ri', p'⟩ => ?_)⟩
      · exact ⟨m, Nat.lt_succ_self m, μ', h', σm', ri', p'⟩
      · exact ⟨m, Nat.lt_succ_self m, μ', h', σm', ri', p'⟩
    | false =>
      simp only [Bool.false_eq_true, if_false] at p2 ⊢
      exact p2 μ2 H2 σ1 (Ext.refl _ _) ri2
def rAug (K : PySem.W.Frag) (op : Operator) : TIp := fun x y H Q => ∃ μ a b c, RV K μ H a x ∧ RV K μ H b y ∧ augT op a b = some c ∧ ∀ z, RV K μ H c z → Q z H
theorem ip_M {op : Operator} : PIp X op (rAug X.K op) := by
  intro pins s σ H x y v u Q I rx ry ⟨μ, a, b, c, ra, rb, e, f⟩
  unfold augT at e
  split at e
  · cases e; cases ra; cases rb
    exact iop_add pins s σ H _ _ v u Q I rx ry ⟨_, _, rfl, rfl, f _ (.int _)⟩
  · cases e; cases ra; cases rb
    exact iop_sub pins s σ H _ _ v u Q I rx ry ⟨_, _, rfl, rfl, f _ (.int _)⟩
  · split at e
    · cases e; cases ra; cases rb
      exact iop_add_str pins s σ H _ _ v u Q I rx ry ⟨_, _, rfl, rfl, by assumption, f _ (.str _)⟩
    · cases e
  · cases e
theorem s_aug {i : Nat} {x : Str} {e : Expr} {ee : MS → MH → Res MV} {op : Operator} {p pos : Pos} (hN : X.N.Nodup) (hi : X.N[i]? = some x) (hx : Loc X.env.scope x) (he : QV X T L W e ee) (hf : X.fn x = true ∨ X.env.scope.names.lookup x = some .local) :
    QS X T L W (.AugAssign (.Name x p) op e pos) (fun σ h => (match σ[i]? with
    | some (some x) => (ee σ h).st σ fun v h => (match augT op x v with
      | some y => .next (σ.set i (some y)) h
      | none => .bad)
    | _ => .bad)) := by
  refine PS.imp (ps_aug hN hi hx he (ip_M (op := op)) hf) fun D σ H ⟨μ, h, σm, ri, p⟩ => ?_
  cases e1 : σm[i]? with
  | none => simp only [e1] at p; exact p.elim
  | some o => cases o with
    | none => simp only [e1] at p; exact p.elim
    | some v =>
      simp only [e1] at p
      obtain ⟨z, ez, rz⟩ := ri.s.get i v e1
      refine ⟨z, ez, μ, h, σm, ri, (SPost.st ri.s p).imp fun y H1 ⟨b, h1, μ1, _, x1, ri1, g, p1⟩ => ?_⟩
      cases e2 : augT op v b with
      | none => rw [e2] at p1; exact p1.elim
      | some c =>
        rw [e2] at p1
        exact ⟨μ1, v, b, c, rz.mono x1, g, e2, fun w rw => p1 μ1 H1 _ (Ext.refl _ _) ⟨ri1.s.set rw i, ri1.h⟩⟩
/-- the stores of a, b = x, y -/
abbrev dPar (is : List Nat) (ds : MS → MH → Res (List MV)) : MS → MH → SR := dAsg (.tp (is.map .nm)) fun σ h => ((ds σ h).bind fun vs h => if vs.length ≤ sizeLine then Res.ok (TV.v (.tup vs)) h else .bad).bind settle
theorem bindNm : ∀ {is : List Nat} {vs : List MV} {σ σ' : MS}, bindTs (is.map MT.nm) vs σ = some σ' → is.length = vs.length
  | is, vs, σ, σ', h => by have := bindTs_len h; simpa using this
theorem par_read {is : List Nat} {ds : MS → MH → Res (List MV)} {D : Ends} {σ : L2.St} {H : Hp} (q : tS X.K T L W (dPar is ds) D σ H) :
    tVs X.K T L W ds σ H fun vs H1 => ∃ (μ : List Addr) (h : MH) (σm σm' : MS) (as : List MV), RS X.K μ H1 σm σ ∧ RVs X.K μ H1 as vs ∧ bindTs (is.map .nm) as σm = some σm' ∧ ∀ σ', RS X.K μ H1 σm' σ' → D.nx σ' H1 := by
  obtain ⟨μ, h, σm, ri, p⟩ := q
  refine ⟨μ, h, σm, ri, ?_⟩
  have e0 : dPar is ds σm h = (ds σm h).st σm fun vs h => if vs.length ≤ sizeLine then (match bindTs (is.map .nm) vs σm with
      | some σ' => SR.next σ' h
      | none => .bad) else .bad := by
    cases e : ds σm h with
    | bad => simp [dPar, dAsg, e]
    | exc c vs h1 => simp [dPar, dAsg, e]
    | ok vs h1 =>
      simp only [dPar, dAsg, e, Res.bind_ok, Res.st_ok]
      split
      · rfl
      · rfl
  rw [e0] at p
  refine (SPost.st ri.s p).imp fun vs H1 ⟨as, h1, μ1, _, x1, ri1, g, p1⟩ => ?_
  split at p1
  · cases eb : bindTs (is.map MT.nm) as σm with
    | none => rw [eb] at p1; exact p1.elim
    | some σ2 => rw [eb] at p1; exact ⟨μ1, h1, σm, σ2, as, ri1.s, g, eb, fun σ' rs' => p1 μ1 H1 σ' (Ext.refl _ _) ⟨rs', ri1.h⟩⟩
  · exact p1.elim
theorem s_par2 {i j : Nat} {x y : Str} {a b : Expr} {px py pt pos : Pos} {kt k2 : Nat} {pt2 : Pos} {ds : MS → MH → Res (List MV)} (hc : X.calm = true) (hN : X.N.Nodup) (hi : X.N[i]? = some x) (hj : X.N[j]? = some y) (hij : i ≠ j)
    (hx : X.env.scope.names.lookup x = some .local) (hy : X.env.scope.names.lookup y = some .local) (ha : QVs X T L W [a, b] ds)
    (hw : swappedStores [.Tuple [.Name x px, .Name y py] kt pt] (.Tuple [a, b] k2 pt2) X.env = pure (some [x, y])) (hs : swapsWithSole [.Tuple [.Name x px, .Name y py] kt pt] (.Tuple [a, b] k2 pt2) pos.line X.env = pure false) :
    QS X T L W (.Assign [.Tuple [.Name x px, .Name y py] kt pt] (.Tuple [a, b] k2 pt2) pos) (dPar [i, j] ds) := by
  refine PS.imp (ps_par hc hN hi hj hij hx hy ha hw hs) fun D σ H q => ?_
  obtain ⟨μ, h, σm, ri, p⟩ := par_read q
  refine ⟨μ, h, σm, ri, p.imp fun vs H1 ⟨μ1, h1, σm1, σm2, as, rs, ra, eb, f⟩ => ?_⟩
  have l := bindNm eb
  match as, l, ra, eb with
  | [u, v], _, .cons r1 (.cons r2 .nil), eb =>
    cases eb
    exact ⟨_, _, rfl, f _ ((rs.set r1 i).set r2 j)⟩
theorem s_par3 {i j l : Nat} {x y z : Str} {a b c : Expr} {px py pz pt pos : Pos} {kt k2 : Nat} {pt2 : Pos} {ds : MS → MH → Res (List MV)} (hc : X.calm = true) (hN : X.N.Nodup) (hi : X.N[i]? = some x) (hj : X.N[j]? = some y) (hl : X.N[l]? = some z) (hij : i ≠ j) (hil : i ≠ l) (hjl : j ≠ l)
    (hx : X.env.scope.names.lookup x = some .local) (hy : X.env.scope.names.lookup y = some .local) (hz : X.env.scope.names.lookup z = some .local) (ha : QVs X T L W [a, b, c] ds)
    (hw : swappedStores [.Tuple [.Name x px, .Name y py, .Name z pz] kt pt] (.Tuple [a, b, c] k2 pt2) X.env = pure (some [x, y, z])) (hs : swapsWithSole [.Tuple [.Name x px, .Name y py, .Name z pz] kt pt] (.Tuple [a, b, c] k2 pt2) pos.line X.env = pure false) :
    QS X T L W (.Assign [.Tuple [.Name x px, .Name y py, .Name z pz] kt pt] (.Tuple [a, b, c] k2 pt2) pos) (dPar [i, j, l] ds) := by
  refine PS.imp (ps_par3 hc hN hi hj hl hij hil hjl hx hy hz ha hw hs) fun D σ H q => ?_
  obtain ⟨μ, h, σm, ri, p⟩ := par_read q
  refine ⟨μ, h, σm, ri, p.imp fun vs H1 ⟨μ1, h1, σm1, σm2, as, rs, ra, eb, f⟩ => ?_⟩
  have l2 := bindNm eb
  match as, l2, ra, eb with
  | [u, v, w], _, .cons r1 (.cons r2 (.cons r3 .nil)), eb =>
    cases eb
    exact ⟨_, _, _, rfl, f _ (((rs.set r1 i).set r2 j).set r3 l)⟩
end
end MP

set_option linter.all false
set_option autoImplicit false
set_option maxHeartbeats 1000000
/-! MiniPy: errors raised; try with clauses of all kinds. -/
namespace MP
open PySem PyProof.Rows L2

/-! ### try -/
abbrev TSX := Addr → Value → Option Addr → TS
/-- the ends of a suite whose clause names slot i -/
abbrev offD (o : Option Nat) (D : Ends) : Ends := match o with
  | none => D
  | some i => ⟨fun τ G => D.nx (τ.set i none) G, D.rt, fun τ G => D.bk (τ.set i none) G, fun τ G => D.ct (τ.set i none) G⟩
abbrev onS (o : Option Nat) (a : Addr) (σ : L2.St) : L2.St := match o with
  | none => σ
  | some i => σ.set i (some (.ref a))
def wMix (K : PySem.W.Frag) (Wo : WX) (D : Ends) : List (Option Nat × Value × TSX) → WX
  | [] => Wo
  | (o, c, ts) :: r => fun cl dd τ G => ∃ b, PySem.W.exmOne K cl c = some b ∧ (b = true → ∀ a, G a = none → ts a cl dd (offD o D) (onS o a τ) G) ∧ (b = false → wMix K Wo D r cl dd τ G)
abbrev SuiteOk (X : Cx) (ss : List Stmt) (ts : TSX) : Prop := ∀ (a : Addr) (ob : Obj) (cl : Value) (dd : Option Addr) (pn : List (Addr × Obj)), Zc cl dd ob → (∃ fv, ob.data = .fields fv) → PSs (X.suite a ((a, ob) :: pn)) ss (ts a cl dd)
inductive HdM (X : Cx) : List ExceptHandler → List (Option Nat × Value × TSX) → Prop
  | nil : HdM X [] []
  | pl {x : Str} {c : Value} {ts : TSX} {st : Stmt} {ss : List Stmt} {p1 p2 : Pos} {hds : List ExceptHandler} {l : List (Option Nat × Value × TSX)} (nm : Names X x c) (su : SuiteOk X (st :: ss) ts) (r : HdM X hds l) :
      HdM X (.ExceptHandler (some (.Name x p1)) none (st :: ss) p2 :: hds) ((none, c, ts) :: l)
  | as {x n : Str} {i : Nat} {c : Value} {ts : TSX} {st : Stmt} {ss : List Stmt} {p1 p2 : Pos} {hds : List ExceptHandler} {l : List (Option Nat × Value × TSX)} (nm : Names X x c) (at_ : X.N[i]? = some n) (lo : X.env.kindOf n = some .local) (su : SuiteOk X (st :: ss) ts) (r : HdM X hds l) :
      HdM X (.ExceptHandler (some (.Name x p1)) (some n) (st :: ss) p2 :: hds) ((some i, c, ts) :: l)
/-- an exception that has come down to the frame that looks at it -/
structure Down (X : Cx) (pins : List (Addr × Obj)) (τ : L2.St) (G : Hp) (cl : Value) (dd : Option Addr) (a : Addr) (B : Heap) (sI s : Shared) : Prop where
  inv : Inv X pins τ G sI
  nb : ∀ b o, sI.heap.get? b = some o → b ∉ frs X.stack → B.get? b = some o
  up : sI.heap.UpToSlots s.heap
  fl : HandSPX.FlyingZ B (X.env :: X.outer) a (Zc cl dd) s.heap
  na : G a = none
  os : s.os = sI.os
  ag : AllBare s.gens
section
variable {X : Cx} {pins : List (Addr × Obj)} {τ : L2.St} {G : Hp} {cl : Value} {dd : Option Addr} {a : Addr} {B : Heap} {sI s : Shared}
theorem Down.now (w : Down X pins τ G cl dd a B sI s) : Inv X pins τ G s := w.inv.landed w.nb w.fl.1 w.up w.os w.ag
theorem Down.apart (w : Down X pins τ G cl dd a B sI s) (hf : X.env.frame = some X.env.locals) : a ≠ X.env.locals ∧ a ∉ X.fs := by
  obtain ⟨ob, fv, e1, _, e3⟩ := w.fl.there
  have no : a ∉ frs (X.env :: X.outer) := fun m => by
    obtain ⟨_, ob', e4, e5⟩ := w.fl.2.2.1.mem m
    rw [e1] at e4
    cases e4
    exact e5 _ e3
  refine ⟨fun z => no (List.mem_filterMap.mpr ⟨X.env, .head _, by rw [hf, z]⟩), fun m => ?_⟩
  obtain ⟨en, m1, m2⟩ := List.mem_filterMap.mp m
  exact no (List.mem_filterMap.mpr ⟨en, .tail _ m1, m2⟩)
theorem Down.in_ (w : Down X pins τ G cl dd a B sI s) (hf : X.env.frame = some X.env.locals) : ∃ ob : Obj, Zc cl dd ob ∧ (∃ fv, ob.data = .fields fv) ∧ s.heap.get? a = some ob ∧ Inv (X.suite a ((a, ob) :: (X.pn ++ pins))) [] τ G s := by
  obtain ⟨ob, fv, e1, e2, e3⟩ := w.fl.there
  obtain ⟨h1, h2⟩ := w.apart hf
  exact ⟨ob, e2, ⟨fv, e3⟩, e1, w.now.suite e1 e3 w.na h1 h2⟩
/-- the flight is set to none once more -/
theorem Down.again {M : Model} {A : Around} {E : Value → Shared → Prop} {Q : Unit → Shared → Prop} (w : Down X pins τ G cl dd a B sI s) (k : ∀ h, Down X pins τ G cl dd a B sI { s with heap := h } → Q () { s with heap := h }) : wpAny M A (setFlight (.ref a) none) Q E s :=
  HandSPX.lands_againZ w.fl fun h f2 u2 => k h ⟨w.inv, w.nb, w.up.trans u2, f2, w.na, w.os, w.ag⟩
theorem Down.test {x : Str} {c : Value} {p : Pos} {Q : Value → Shared → Prop} {E : Value → Shared → Prop} (w : Down X pins τ G cl dd a B sI s) (hf : X.env.frame = some X.env.locals) (nm : Names X x c) (q : Q c s) : wpAny (model X.prog X.w) (X.A.mark (some (.ref a))) (eval (.Name x p) X.env) Q E s := by
  obtain ⟨ob, _, _, _, J⟩ := w.in_ hf
  obtain ⟨g1, g2, g3⟩ := nm
  rcases g3 with g3 | ⟨g3, g4, g5⟩
  · exact ld_glob (X := X.suite a ((a, ob) :: (X.pn ++ pins))) J g1 g3 q g2
  · exact ld_blt (X := X.suite a ((a, ob) :: (X.pn ++ pins))) J g1 g3 g4 q g5 g2
theorem Down.looks (w : Down X pins τ G cl dd a B sI s) : PySem.W.Looks (model X.prog X.w) s.heap (typeOf (.ref a)) cl := by
  obtain ⟨ob, fv, e1, e2, e3⟩ := w.fl.there
  intro A Q E t k q
  exact wpAny_typeOf_ref (k _ _ e1) (by rw [e2.1]; exact q)
/-- no clause takes it: it goes on -/
theorem Down.out {W : WX} {D : Ends} (w : Down X pins τ G cl dd a B sI s) (hs : X.stack = X.env :: X.outer) (hf : X.env.frame = some X.env.locals) (tk : Takes X W) (q : W cl dd τ G) : wpAny (model X.prog X.w) X.A (handleBy (.ref a) X.env []) (SP X pins D) X.xe s := by
  refine wpAny_handleBy_nil ?_
  obtain ⟨k1, k2, k3, ob, fv, T, oT, ts', g1, g2, g3, g4, g5⟩ := id w.fl
  have go : wpAny (model X.prog X.w) X.A (setFlight (.ref a) X.env.frame) (fun _ s4 => wpAny (model X.prog X.w) X.A (throw (.ref a) : Sem Flow) (SP X pins D) X.xe s4) X.xe s := by
    rw [hf]
    refine HandSPX.setFlight_upZ w.fl fun h h1 h2 => wpAny_throw (tk _ _ ?_)
    exact ⟨a, B, sI, pins, τ, G, cl, dd, rfl, w.inv, w.nb, w.up.trans h2, .inr (.inr (by rw [hs]; exact h1)), w.na, w.os, w.ag, q⟩
  unfold PySem.passOn
  refine wpAny_bind (wpAny_field g1 g3 g4 ?_)
  have nn : ¬ ((Value.ref T == Value.none) = true) := by simp
  rw [if_neg nn]
  first
    | exact wpAny_bind go
    | exact wpAny_bind (wpAny_pure (wpAny_bind go))
theorem handle_mix {Wo : WX} {D : Ends} (hs : X.stack = X.env :: X.outer) (hf : X.env.frame = some X.env.locals) (hN : X.N.Nodup) (tk : Takes X Wo) : ∀ {hds : List ExceptHandler} {l : List (Option Nat × Value × TSX)} {s : Shared}, HdM X hds l → Down X pins τ G cl dd a B sI s →
    wMix X.K Wo D l cl dd τ G → wpAny (model X.prog X.w) X.A (handleBy (.ref a) X.env hds) (SP X pins D) X.xe s := by
  intro hds l s hk
  induction hk generalizing s with
  | nil => exact fun w q => w.out hs hf tk q
  | @pl x c ts st ss p1 p2 hds l nm su r ih =>
    intro w ⟨b, q1, q2, q3⟩
    have LM := PySem.W.exm_one (M := model X.prog X.w) w.now.kIn w.looks q1
    refine wpAny_handleBy_cons (codeAny_handlers_test (w.test hf nm (LM.here ?_))) (by intro q; cases q)
    cases b with
    | false => exact ih w (q3 rfl)
    | true =>
      refine codeAny_handlers_suite (w.again fun h w2 => ?_)
      obtain ⟨ob, z1, z2, z3, J⟩ := w2.in_ hf
      refine wpAny_mono ((su a ob cl dd (X.pn ++ pins) z1 z2).run [] _ _ G _ J (q2 rfl a w.na)) (fun f s6 sp => ?_) (fun _ _ z => False.elim z)
      have ok := w.inv.ok
      cases f with
      | ret u => obtain ⟨v6, τ6, G6, J6, r6, q6⟩ := sp; exact ⟨v6, τ6, G6, J6.unsuite ok, r6, q6⟩
      | next => obtain ⟨τ6, G6, J6, q6⟩ := sp; exact ⟨τ6, G6, J6.unsuite ok, q6⟩
      | brk => obtain ⟨τ6, G6, J6, q6⟩ := sp; exact ⟨τ6, G6, J6.unsuite ok, q6⟩
      | cont => obtain ⟨τ6, G6, J6, q6⟩ := sp; exact ⟨τ6, G6, J6.unsuite ok, q6⟩
  | @as x n i c ts st ss p1 p2 hds l nm at_ lo su r ih =>
    intro w ⟨b, q1, q2, q3⟩
    have LM := PySem.W.exm_one (M := model X.prog X.w) w.now.kIn w.looks q1
    refine wpAny_handleBy_cons (codeAny_handlers_test (w.test hf nm (LM.here ?_))) (by intro q; cases q)
    cases b with
    | false => exact ih w (q3 rfl)
    | true =>
      refine codeAny_handlers_suite_as (w.again fun h w2 => ?_)
      obtain ⟨ob, z1, z2, z3, J⟩ := w2.in_ hf
      refine store_ok (X := X.suite a ((a, ob) :: (X.pn ++ pins))) (v := .ref a) J hN at_ (.inl lo) rfl (fun s5 J5 => ?_) (.inr lo)
      refine wpAny_mono ((su a ob cl dd (X.pn ++ pins) z1 z2).run [] s5 _ G _ J5 (q2 rfl a w.na)) (fun f s6 sp => ?_) (fun _ _ z => False.elim z)
      have ok := w.inv.ok
      cases f with
      | ret u => obtain ⟨v6, τ6, G6, J6, r6, q6⟩ := sp; exact gone_ok (J6.unsuite ok) hN at_ lo fun s7 J7 => ⟨v6, _, G6, J7, r6, q6⟩
      | next => obtain ⟨τ6, G6, J6, q6⟩ := sp; exact gone_ok (J6.unsuite ok) hN at_ lo fun s7 J7 => ⟨_, G6, J7, q6⟩
      | brk => obtain ⟨τ6, G6, J6, q6⟩ := sp; exact gone_ok (J6.unsuite ok) hN at_ lo fun s7 J7 => ⟨_, G6, J7, q6⟩
      | cont => obtain ⟨τ6, G6, J6, q6⟩ := sp; exact gone_ok (J6.unsuite ok) hN at_ lo fun s7 J7 => ⟨_, G6, J7, q6⟩
end
section
variable {X : Cx}
theorem SP.ofTr {xe : Value → Shared → Prop} {pins : List (Addr × Obj)} {D : Ends} {f : Flow} {s : Shared} (ok : X.Ok) (h : SP (X.tr (X.pn ++ pins) xe) [] D f s) : SP X pins D f s := by
  cases f with
  | ret u => obtain ⟨v, τ, G, J, r, q⟩ := h; exact ⟨v, τ, G, J.ofTry ok, r, q⟩
  | next => obtain ⟨τ, G, J, q⟩ := h; exact ⟨τ, G, J.ofTry ok, q⟩
  | brk => obtain ⟨τ, G, J, q⟩ := h; exact ⟨τ, G, J.ofTry ok, q⟩
  | cont => obtain ⟨τ, G, J, q⟩ := h; exact ⟨τ, G, J.ofTry ok, q⟩
theorem ps_try_mix {body : List Stmt} {hd : ExceptHandler} {hds : List ExceptHandler} {l : List (Option Nat × Value × TSX)} {pos : Pos} {tb : WX → TS} {Wo : WX} (hs : X.stack = X.env :: X.outer) (hf : X.env.frame = some X.env.locals) (hN : X.N.Nodup) (tk : Takes X Wo)
    (hb : ∀ (W : WX) (pn : List (Addr × Obj)) (xe : Value → Shared → Prop), Takes (X.tr pn xe) W → PassesOwn (model X.prog X.w) X.A X.env xe → PSs (X.tr pn xe) body (tb W)) (hh : HdM X (hd :: hds) l) : PS X (.Try body (hd :: hds) [] [] pos) (fun D σ H => tb (wMix X.K Wo D l) D σ H) := by
  refine ⟨fun pins s σ H D I h => wpAny_Try_except ?_⟩
  have ok := I.ok
  let ca : Value → Shared → Prop := fun e s1 => wpAny (model X.prog X.w) X.A (noteFrame e X.env) (fun _ s2 => wpAny (model X.prog X.w) X.A (setFlight e none) (fun _ s3 => wpAny (model X.prog X.w) X.A (handleBy e X.env (hd :: hds)) (SP X pins D) X.xe s3) X.xe s2) X.xe s1
  have body_ := (hb (wMix X.K Wo D l) (X.pn ++ pins) ca (fun u s' xx => ?_) PassesOwn.looking).run [] s σ H D (I.toTry _) h
  · refine wpAny_mono body_ (fun f s1 hsp => ?_) (fun e s1 he => he)
    have hsp := SP.ofTr ok hsp
    cases f with
    | next => exact wpAny_execs_nil hsp
    | ret u => exact hsp
    | brk => exact hsp
    | cont => exact hsp
  · obtain ⟨a, B, sI, pins', σ', H', cls, d, rfl, J', nb, up, sky, na, os, ag, w⟩ := xx
    have J : Inv X pins σ' H' sI := J'.ofTry ok
    have sk2 : Sky B (X.env :: X.outer) a (Zc cls d) X.env.locals s'.heap := by
      have e : (X.tr (X.pn ++ pins) ca).stack = X.env :: X.outer := hs
      rw [← e]; exact sky
    have fr : X.A.frames = some (X.env :: X.outer) := by rw [ok.frames, hs]
    exact Sky.land Zc.steady fr hf sk2 fun h3 f3 u3 => handle_mix hs hf hN tk hh ⟨J, nb, up.trans u3, f3, na, os, ag⟩ w
end
end MP

set_option linter.all false
set_option autoImplicit false
set_option maxHeartbeats 1000000
/-! MiniPy: own errors made and raised; what a clause with a name gives back. -/
namespace MP
open PySem PyProof.Rows L2

/-! ### Base.__init__(self, ..), Base an own class over ValueError -/
theorem pe_obinit {X : Cx} {x : Str} {C0 : Addr} {mc : Value} {e : Expr} {es : List Expr} {ta : TA} {p1 p2 pos : Pos} {pl : Sem Bool} (hg : Gl X x) (hm : X.mg x = some (.ref C0)) (hdb : (x == ("__debug__" : Str)) = false) (rd : PySem.W.readsIn X.K C0 mc = true) (ga : PySem.W.specialIn X.K (.ref C0) "__getattribute__" = some (some (.builtin "type.__getattribute__"))) (vV : PySem.W.findCls X.K (.ref C0) mc "__init__" = some (.val (.builtin "ValueError.__init__"))) (ha : PA X (e :: es) ta)
    (hc : eval (.Call (.Attribute (.Name x p1) "__init__" p2) (e :: es) [] pos) X.env = (do
      let ov ← eval (.Name x p1) X.env
      standAt p2.atName
      let (f, first) ← holding [ov] (getMethod ov "__init__" pl)
      callWith pos f first (backTo pos (starEach (e :: es) X.env)) (backToKw pos (keywordEach [] X.env))))
    (he : starEach (e :: es) X.env = (false, eval e X.env) :: starEach es X.env) (hpl : (backTo pos (starEach es X.env)).any (·.1) = false) :
    PE X (.Call (.Attribute (.Name x p1) "__init__" p2) (e :: es) [] pos) (tVeI X.K ta) := by
  refine ⟨fun pins s σ H Q I h => PySem.W.methodCall_KW (ld_glob I hg hm ?_ hdb) hc⟩
  refine PySem.W.method_cls I.kIn ga (PySem.W.cls_value I.kIn rd vV (by decide +kernel) ?_)
  show wpAny _ _ (callWith pos (Value.builtin "ValueError.__init__") [] (backTo pos (starEach (e :: es) X.env)) []) _ _ _
  refine PyProof.Rows.callWith_method1 (thn (ha.run pos pins
    _ σ H _ (I.tok _) h) fun us s1 ⟨vs, H1, I1, r1, a, C, ws, ev, hl, T, ea, q⟩ => ?_) he hpl
  subst ev
  cases r1 with
  | @cons _ u0 _ ur ra rw' =>
    obtain rfl : u0 = Value.ref a := ra
    have hn := Paired.length rw'
    exact oinit_ok T I1 ea (by rw [← hn, sizeLine_eq]; omega) fun s' J => ⟨.non, H1, J, rfl, q⟩
/-! ### the body of an __init__ -/
/-- what __init__ keeps: the fields, by the parameters' places -/
def spI (C : Addr) (flds : List Str) : Sp := fun vs H Q _ => ∃ a ws, vs = .ref a :: ws ∧ ws.length = flds.length ∧ H a = some (exo a C none) ∧
  ∀ d H2 fs, H d = none → d ≠ a → H2 a = some (exo a C (some d)) → H2 d = some (exd d fs) → (∀ b, b ≠ a → b ≠ d → H2 b = H b) → (∀ (j : Nat) f, flds[j]? = some f → fs.lookup f = ws[j]?) → Q .non H2
/-- self.f = y, one after the other -/
inductive FldS (X : Cx) : List Stmt → List (Str × Nat) → Prop
  | nil : FldS X [] []
  | cons {f : Str} {j : Nat} {st : Stmt} {sts : List Stmt} {fl : List (Str × Nat)} (h : PS X st (tOst X.K f (tVar 0) (tVar j))) (r : FldS X sts fl) : FldS X (st :: sts) ((f, j) :: fl)
/-- the fields' values, the last one first -/
def fldV (σ : L2.St) : List (Str × Nat) → List (Str × V) → List (Str × V)
  | [], fs => fs
  | (f, j) :: fl, fs => fldV σ fl ((f, ((σ[j]?).getD none).getD .non) :: fs)
theorem fldV_len (σ : L2.St) : ∀ (fl : List (Str × Nat)) (fs : List (Str × V)), (fldV σ fl fs).length = fl.length + fs.length
  | [], fs => by simp [fldV]
  | (f, j) :: fl, fs => by rw [fldV, fldV_len σ fl]; simp; omega
section
variable {X : Cx}
def tF1 (X : Cx) (fl : List (Str × Nat)) : TS := fun D σ H => ∃ a C d fs, σ[0]? = some (some (.ref a)) ∧ OexC X.K C ∧ (∀ p ∈ fl, PySem.W.findIn X.K (.ref C) p.1 = some none) ∧ (∀ p ∈ fl, ∃ v, σ[p.2]? = some (some v)) ∧ fl.length + fs.length ≤ 800 ∧ d ≠ a ∧
  H a = some (exo a C (some d)) ∧ H d = some (exd d fs) ∧ ∀ H2, H2 d = some (exd d (fldV σ fl fs)) → (∀ b, b ≠ d → H2 b = H b) → D.nx σ H2
theorem fld_more {sts : List Stmt} {fl : List (Str × Nat)} (h : FldS X sts fl) : PSs X sts (tF1 X fl) := by
  induction h with
  | nil => exact PSs.imp pss_nil fun D σ H ⟨a, C, d, fs, _, _, _, _, _, _, _, h2, q⟩ => q H h2 fun _ _ => rfl
  | @cons f j st sts fl hh r ih =>
    refine PSs.imp (pss_cons hh ih) fun D σ H ⟨a, C, d, fs, h0, T, hf, hv, hl, da, h1, h2, q⟩ => ?_
    obtain ⟨v, ev⟩ := hv (f, j) (.head _)
    have hl' : fl.length + 1 + fs.length ≤ 800 := hl
    refine ⟨v, ev, .ref a, h0, a, C, rfl, T, hf (f, j) (.head _), .inr ⟨d, fs, h1, h2, by omega, ?_⟩⟩
    refine ⟨a, C, d, (f, v) :: fs, h0, T, fun p m => hf p (.tail _ m), fun p m => hv p (.tail _ m), by simp only [List.length_cons]; omega, da, by rw [upd_ne (Ne.symm da)]; exact h1, upd_same, fun H2 g1 g2 => q H2 ?_ fun b nb => by rw [g2 b nb, upd_ne nb]⟩
    rw [fldV, ev]
    exact g1
/-- the whole of it: Base.__init__(self, '..'), then the fields -/
def tInit (X : Cx) (fl : List (Str × Nat)) : TS := fun D σ H => ∃ a C, σ[0]? = some (some (.ref a)) ∧ OexC X.K C ∧ fl ≠ [] ∧ (∀ p ∈ fl, PySem.W.findIn X.K (.ref C) p.1 = some none) ∧ (∀ p ∈ fl, ∃ v, σ[p.2]? = some (some v)) ∧ fl.length ≤ 800 ∧ H a = some (exo a C none) ∧
  ∀ d H2, H d = none → d ≠ a → H2 a = some (exo a C (some d)) → H2 d = some (exd d (fldV σ fl [])) → (∀ b, b ≠ a → b ≠ d → H2 b = H b) → D.nx σ H2
theorem init_body {st : Stmt} {sts : List Stmt} {fl : List (Str × Nat)} {z : Str} (he : PS X st (tDrop (tVeI X.K fun σ H Q => ∃ v, σ[0]? = some (some v) ∧ Q [v, .str z] H))) (h : FldS X sts fl) : PSs X (st :: sts) (tInit X fl) := by
  cases h with
  | nil => exact ⟨fun pins s σ H D I ⟨a, C, _, _, n, _⟩ => absurd rfl n⟩
  | @cons f j st2 sts fl hh r =>
    refine PSs.imp (pss_cons he (pss_cons hh (fld_more r))) fun D σ H ⟨a, C, h0, T, _, hf, hv, hl, h1, q⟩ => ?_
    obtain ⟨v, ev⟩ := hv (f, j) (.head _)
    have hl' : fl.length + 1 ≤ 800 := hl
    refine ⟨.ref a, h0, a, C, [.str z], rfl, by show 1 ≤ 1000; decide, T, h1, v, ev, .ref a, h0, a, C, rfl, T, hf (f, j) (.head _), .inl ⟨h1, fun d hd da => ?_⟩⟩
    refine ⟨a, C, d, [(f, v)], h0, T, fun p m => hf p (.tail _ m), fun p m => hv p (.tail _ m), by simp only [List.length_cons, List.length_nil]; omega, da, upd_same, by rw [upd_ne da, upd_same], fun H2 g1 g2 => q d H2 hd da ?_ ?_ fun b n1 n2 => ?_⟩
    · rw [g2 a (Ne.symm da), upd_same]
    · rw [fldV, ev]; exact g1
    · rw [g2 b n2, upd_ne n1, upd_ne n2]
theorem fldV_look (σ : L2.St) (f : Str) : ∀ (fl : List (Str × Nat)) (fs : List (Str × V)), (fldV σ fl fs).lookup f = match fl.reverse.lookup f with
    | some j => some (((σ[j]?).getD none).getD .non)
    | none => fs.lookup f
  | [], fs => rfl
  | (g, j) :: fl, fs => by
    rw [fldV, fldV_look σ f fl, List.reverse_cons]
    have la : ∀ (l : List (Str × Nat)), (l ++ [(g, j)]).lookup f = match l.lookup f with | some k => some k | none => if f = g then some j else none := by
      intro l
      induction l with
      | nil =>
        by_cases c : f = g
        · subst c; simp [List.lookup]
        · have e : (f == g) = false := by simpa using c
          simp [List.lookup, e, c]
      | cons p l ih =>
        obtain ⟨k, v⟩ := p
        rw [List.cons_append, List.lookup_cons, List.lookup_cons]
        cases f == k with
        | true => rfl
        | false => exact ih
    rw [la]
    cases fl.reverse.lookup f with
    | some k => rfl
    | none =>
      rw [lookup_put]
      by_cases c : f = g
      · rw [if_pos c, if_pos c]
      · rw [if_neg c, if_neg c]
theorem eval_two {x n : Str} {a b : Expr} {p1 p2 pos : Pos} {env : Env} (ha : starEach [a, b] env = [(false, eval a env), (false, eval b env)]) (hl : (p2.endLine == pos.line) = true) : eval (.Call (.Attribute (.Name x p1) n p2) [a, b] [] pos) env = (do
      let ov ← eval (.Name x p1) env
      standAt p2.atName
      let (f, first) ← holding [ov] (getMethod ov n (do return (← importBound (.Name x p1) env).getD true))
      callWith pos f first (backTo pos (starEach [a, b] env)) (backToKw pos (keywordEach [] env))) := by
  have hpos : methodCallPos true (.Name x p1) env p2 pos = pure pos := by unfold methodCallPos; simp [hl]
  have hform : methodCallForm ([a, b].length + ([] : List Keyword).length) (backTo pos (starEach [a, b] env)) (backToKw pos (keywordEach [] env)) = true := by rw [ha]; rfl
  show (do
      let ov ← eval (.Name x p1) env
      standAt p2.atName
      methodCall (.Name x p1) n p2 pos env ov ([a, b].length + ([] : List Keyword).length) (backTo pos (starEach [a, b] env)) (backToKw pos (keywordEach [] env))) = _
  unfold methodCall
  rw [hform, hpos]
  rfl
def initFl (N : List Str) : List Stmt → Option (List (Str × Nat))
  | [] => some []
  | .Assign [.Attribute (.Name z _) f _] (.Name y _) _ :: r => if N[0]? = some z ∧ N[N.idxOf y]? = some y then (initFl N r).map fun fl => (f, N.idxOf y) :: fl else none
  | _ => none
/-- names that are read as locals -/
structure LocN (X : Cx) : Prop where
  vis : ∀ (i : Nat) x, X.N[i]? = some x → Vis X.env.scope x
  db : ∀ (i : Nat) x, X.N[i]? = some x → (x == ("__debug__" : Str)) = false ∧ (x == ("__classdict__" : Str)) = false
theorem LocN.pe (l : LocN X) {i : Nat} {x : Str} {p : Pos} (h : X.N[i]? = some x) : PE X (.Name x p) (tVar i) := pe_var h (l.vis i x h) (l.db i x h).1 (l.db i x h).2
theorem fldS_of (l : LocN X) : ∀ {sts : List Stmt} {fl : List (Str × Nat)}, initFl X.N sts = some fl → FldS X sts fl
  | [], fl, h => by cases h; exact .nil
  | st :: r, fl, h => by
    unfold initFl at h
    split at h
    · rename_i e; cases e
    · rename_i z p1 f p2 y p3 p4 r' e
      cases e
      split at h
      · rename_i c
        obtain ⟨fl', e1, rfl⟩ := Option.map_eq_some_iff.mp h
        exact .cons (ps_ost (l.pe c.1) (l.pe c.2)) (fldS_of l e1)
      · cases h
    · cases h
/-- the whole of an __init__'s text: its base's name, its fields -/
def initB (N : List Str) (base : Str) (flds : List Str) : List Stmt → Bool
  | .Expr (.Call (.Attribute (.Name x _) m p2) [.Name z _, .Constant (.str _) _ _] [] p5) _ :: sts => (p2.endLine == p5.line) && (decide (x = base) && (decide (m = ("__init__" : Str)) && (decide (N[0]? = some z) && (match initFl N sts with
    | some fl => !fl.isEmpty && (decide (fl.length ≤ 800) && ((fl.all fun p => decide (1 ≤ p.2 ∧ p.2 ≤ flds.length ∧ p.1 ∈ flds)) && (List.range flds.length).all fun j => decide (fl.reverse.lookup (flds.getD j "") = some (j + 1))))
    | none => false))))
  | _ => false
/-- what of the program's facts the base class must have -/
structure BaseC (X : Cx) (x : Str) : Prop where
  gl : Gl X x
  db : (x == ("__debug__" : Str)) = false
  ex : ∃ (C0 : Addr) (mc : Value), X.mg x = some (.ref C0) ∧ PySem.W.readsIn X.K C0 mc = true ∧ PySem.W.specialIn X.K (.ref C0) "__getattribute__" = some (some (.builtin "type.__getattribute__")) ∧ PySem.W.findCls X.K (.ref C0) mc "__init__" = some (.val (.builtin "ValueError.__init__"))
theorem init_pss (l : LocN X) {base : Str} {flds : List Str} {body : List Stmt} (b : BaseC X base) (h : initB X.N base flds body = true) :
    ∃ fl, PSs X body (tInit X fl) ∧ fl ≠ [] ∧ fl.length ≤ 800 ∧ (∀ p ∈ fl, 1 ≤ p.2 ∧ p.2 ≤ flds.length ∧ p.1 ∈ flds) ∧ (∀ (j : Nat) f, flds[j]? = some f → fl.reverse.lookup f = some (j + 1)) := by
  unfold initB at h
  split at h
  · rename_i x p1 m p2 z p3 zz j1 p4 p5 p6 sts
    simp only [Bool.and_eq_true, decide_eq_true_eq] at h
    obtain ⟨hln, rfl, rfl, h0, h⟩ := h
    split at h
    · rename_i fl ef
      simp only [Bool.and_eq_true, decide_eq_true_eq, List.all_eq_true, Bool.not_eq_true', List.isEmpty_eq_false_iff] at h
      obtain ⟨h1, h2, h3, h4⟩ := h
      obtain ⟨C0, mc, e1, e2, e3, e4⟩ := b.ex
      have pa : PA X [.Name z p3, .Constant (.str zz) j1 p4] (fun σ H Q => ∃ v, σ[0]? = some (some v) ∧ Q [v, .str zz] H) := PA.imp (pa_cons (l.pe h0) (pa_cons pe_str pa_nil)) fun σ H Q ⟨v, e, q⟩ => ⟨v, e, q⟩
      refine ⟨fl, init_body (z := zz) (ps_expr (pe_obinit b.gl e1 b.db e2 e3 e4 pa (eval_two rfl hln) rfl rfl) rfl) (fldS_of l ef), h1, h2, h3, fun j f hf => ?_⟩
      · obtain ⟨hj, e⟩ := List.getElem?_eq_some_iff.mp hf
        have := h4 j (List.mem_range.mpr hj)
        rwa [List.getD_eq_getElem?_getD, hf] at this
    · cases h
  · cases h
end
/-- an __init__ keeps its promise -/
theorem init_ok {P : Program} {w : World} {K : PySem.W.Frag} {mg : Str → Option Value} {base : Heap} {f C : Addr} {fd : FuncData} {x qual bs : Str} {params : Arguments} {body : List Stmt} {scope : Scope} {N flds : List Str} {kws : List (Str × V)} (F : FunD K x qual params body scope [] kws f fd) (S : FnScope N N scope)
    (hl : N.length = flds.length + 1) (T : OexC K C) (hno : ∀ g ∈ flds, PySem.W.findIn K (.ref C) g = some none) (hb : initB N bs flds body = true) (hgl : scope.names.lookup bs = some .globalImplicit) (hd2 : ∀ (i : Nat) x, N[i]? = some x → (x == ("__debug__" : Str)) = false ∧ (x == ("__classdict__" : Str)) = false) (hdb : (bs == ("__debug__" : Str)) = false)
    (hC : ∃ (C0 : Addr) (mc : Value), mg bs = some (.ref C0) ∧ PySem.W.readsIn K C0 mc = true ∧ PySem.W.specialIn K (.ref C0) "__getattribute__" = some (some (.builtin "type.__getattribute__")) ∧ PySem.W.findCls K (.ref C0) mc "__init__" = some (.val (.builtin "ValueError.__init__"))) :
    FnOk P w K mg base (L2.CX P w) 1 f fd N (spI C flds) := by
  refine F.ok S (fun vs H Q E ⟨a, ws, e, l, _⟩ => by rw [e, List.length_cons, l, hl]) (fun cdv A outer s H vs Q E hr h => ?_)
  obtain ⟨a, ws, rfl, lw, ea, q⟩ := h
  have l : LocN (cxOf (L2.CX P w) P w K mg base N qual scope f cdv A outer s H E) := ⟨fun i x h => (S.par x (List.mem_of_getElem? h)).elim .inl fun k => .inr (.inl k), hd2⟩
  have b : BaseC (cxOf (L2.CX P w) P w K mg base N qual scope f cdv A outer s H E) bs := ⟨hgl, hdb, hC⟩
  obtain ⟨fl, p, h1, h2, h3, h4⟩ := init_pss l b hb
  refine ⟨_, p, ?_⟩
  have st : ∀ i : Nat, (L2.start N (.ref a :: ws))[i]? = ((V.ref a :: ws)[i]?).map some := fun i => by
    unfold L2.start
    have : N.length - (V.ref a :: ws).length = 0 := by rw [List.length_cons, lw, hl]; omega
    rw [this, List.replicate_zero, List.append_nil, List.getElem?_map]
  refine ⟨a, C, by rw [st]; rfl, T, h1, fun p m => hno p.1 (h3 p m).2.2, fun p m => ?_, h2, ea, fun d H2 hd da g1 g2 g3 => q d H2 _ hd da g1 g2 g3 fun j f hf => ?_⟩
  · rw [st]
    have hlt : p.2 < (V.ref a :: ws).length := by rw [List.length_cons, lw]; have := (h3 p m).2.1; omega
    exact ⟨_, by rw [List.getElem?_eq_getElem hlt]; rfl⟩
  · rw [fldV_look, h4 j f hf]
    show some (((L2.start N (V.ref a :: ws))[j + 1]?.getD none).getD V.non) = ws[j]?
    rw [st]
    have hj : j < ws.length := by rw [lw]; exact (List.getElem?_eq_some_iff.mp hf).1
    show some (((ws[j]?).map some).getD none |>.getD V.non) = ws[j]?
    rw [List.getElem?_eq_getElem hj]
    rfl
/-! ### raise -/
structure RaiseOk (X : Cx) (T : XT) (c : Nat) (x : Str) (n : Nat) : Prop where
  ex : ∃ (fI : Addr) (fd : FuncData) (k : Nat) (ps : List Str), OexC X.K (T.adr c) ∧ PySem.W.findIn X.K (.ref (T.adr c)) "__init__" = some (some (.ref fI)) ∧ PySem.W.typeIn X.K (.ref fI) = some (.type "function") ∧
    FnOk X.prog X.w X.K X.mg X.base (L2.CX X.prog X.w) k fI fd ps (spI (T.adr c) (T.fld c)) ∧ Room (k + 1) X.A ∧ Binds X.K fd ps [] ∧ X.mg x = some (.ref (T.adr c))
  len : (T.fld c).length = n
  small : n ≤ 1000
section
variable {X : Cx} {T : XT} {L : List Nat} {W : WX}
theorem s_raise {c : Nat} {x : Str} {e : Expr} {es : List Expr} {p p2 pos : Pos} {ds : MS → MH → Res (List MV)} (hc : X.calm = true) (tk : Takes X W) (R : RaiseOk X T c x (e :: es).length) (hlen : ∀ σ h as h', ds σ h = .ok as h' → as.length = (e :: es).length) (hg : Gl X x) (hdb : (x == ("__debug__" : Str)) = false)
    (ha : QVs X T L W (e :: es) ds) (he : starEach (e :: es) X.env = (false, eval e X.env) :: starEach es X.env) (hpl : (backTo p2 (starEach es X.env)).any (·.1) = false) :
    QS X T L W (.Raise (some (.Call (.Name x p) (e :: es) [] p2)) none pos) (fun σ h => (ds σ h).st σ fun vs h => .exc c vs σ h) := by
  obtain ⟨fI, fd, k, ps, o1, o2, o3, o4, o5, o6, o7⟩ := R.ex
  have hx : Passes (L2.CX X.prog X.w) X (fun _ _ _ => False) := fun pins σ H s e s' I ⟨_, _, _, _, _, _, _, _, _, _, _, _, z⟩ => z.elim
  refine PS.imp (ps_raise hc tk (pmk_oex (dvs := []) (ds := []) o1 o2 o3 o4 o5 o6 .nil hx hg o7 ha hdb he hpl)) fun D σ H ⟨μ, h, σm, ri, p⟩ => ?_
  refine ⟨μ, h, σm, ri, (SPost.st ri.s p).imp fun zs H1 ⟨as, h1, μ1, ed, x1, ri1, g, p1⟩ => ?_⟩
  have ln := hlen _ _ _ _ ed
  have lz : zs.length = (e :: es).length := by rw [← g.length]; exact ln
  refine ⟨by rw [lz]; exact R.small, fun a na => ?_⟩
  rw [List.append_nil]
  refine ⟨a, zs, rfl, by rw [lz, R.len], upd_same, fun d H2 fs hd da g1 g2 g3 g4 => ⟨rfl, d, fs, g1, g2, by rw [upd_ne da] at hd; exact hd, ?_⟩⟩
  have hd1 : H1 d = none := by rw [upd_ne da] at hd; exact hd
  have eq : upd (L2.del H2 a) d (.xd fs) = upd H1 d (.xd fs) := by
    funext b
    by_cases c1 : b = d
    · rw [c1, upd_same, upd_same]
    · rw [upd_ne c1, upd_ne c1]
      by_cases c2 : b = a
      · rw [c2, del_same, na]
      · rw [del_ne c2, g3 b c2 c1, upd_ne c2]
  rw [eq]
  have ex := ext_upd (μ := μ1) (o := .xd fs) hd1
  refine p1 μ1 _ _ _ σ ex ⟨ri1.s.mono ex, ri1.h.upd hd1 trivial⟩ ⟨rfl, d, fs, rfl, upd_same, ri1.h.new hd1, by rw [R.len, ln], fun j f v q1 q2 => ?_⟩
  have hz := g4 j f q1
  obtain ⟨z, ez, rz⟩ := g.get q2
  exact ⟨z, by rw [hz]; exact ez, rz.mono ex⟩
end
end MP

set_option linter.all false
set_option autoImplicit false
set_option maxHeartbeats 1000000
/-! MiniPy: try .. except, read as MiniPy reads it. -/
namespace MP
open PySem PyProof.Rows L2

/-- what the text must hold of the classes of errors -/
structure ExcF (K : PySem.W.Frag) (T : XT) (S : SubT) : Prop where
  sub : ∀ c c', PySem.W.exmOne K (.ref (T.adr c)) (.ref (T.adr c')) = some (S c c')
  xf : ∀ c, XfC K (T.adr c)
  no : ∀ c, ∀ g ∈ T.fld c, PySem.W.findIn K (.ref (T.adr c)) g = some none
inductive DH where
  | pl (c : Nat) (f : MS → MH → SR)
  | as (c i : Nat) (items : List HI)
def dH (S : SubT) : List DH → Nat → List MV → MS → MH → SR
  | [], c, vs, σ, h => .exc c vs σ h
  | .pl c' f :: hs, c, vs, σ, h => if S c c' then (match f σ h with
      | .exc _ _ _ _ => .bad
      | r => r) else dH S hs c vs σ h
  | .as c' i items :: hs, c, vs, σ, h => if S c c' then (if i < σ.length then (match hItems S c vs items with
      | some xs => .ret (.ref h.length) (h ++ [.lst xs])
      | none => .bad) else .bad) else dH S hs c vs σ h
theorem RX.mono {K : PySem.W.Frag} {T : XT} {c : Nat} {vs : List MV} {μ μ' : List Addr} {H H' : Hp} {cl : Value} {d : Option Addr} (r : RX K T c vs μ H cl d) (x : Ext μ H μ' H') : RX K T c vs μ' H' cl d := by
  obtain ⟨e1, dd, fs, e2, e3, e4, e5, e6⟩ := r
  refine ⟨e1, dd, fs, e2, x.kept dd _ e3 e4, fun m => (by rw [x.fresh dd m e4] at e3; cases e3), e5, fun j f v q1 q2 => ?_⟩
  obtain ⟨z, ez, rz⟩ := e6 j f v q1 q2
  exact ⟨z, ez, rz.mono x⟩
/-- an item of the list, read in the suite -/
def tHi (K : PySem.W.Frag) (T : XT) (S : SubT) (c' i : Nat) (a : Addr) (cl : Value) (dd : Option Addr) (it : HI) : TE := fun σ H Q => ∃ μ c vs v, σ[i]? = some (some (.ref a)) ∧ RX K T c vs μ H cl dd ∧ S c c' = true ∧ it.ev S c vs = some v ∧ ∀ z, RV K μ H v z → Q z H
def tHs (K : PySem.W.Frag) (T : XT) (S : SubT) (c' i : Nat) (a : Addr) (cl : Value) (dd : Option Addr) (its : List HI) : TA := fun σ H Q => ∃ μ c vs xs, σ[i]? = some (some (.ref a)) ∧ RX K T c vs μ H cl dd ∧ S c c' = true ∧ hItems S c vs its = some xs ∧ ∀ zs, RVs K μ H xs zs → Q zs H
def tAs (K : PySem.W.Frag) (T : XT) (S : SubT) (L : List Nat) (c' i : Nat) (its : List HI) : TSX := fun a cl dd D σ H => ∃ μ h c vs xs, RH K L μ h H ∧ σ[i]? = some (some (.ref a)) ∧ RX K T c vs μ H cl dd ∧ S c c' = true ∧ hItems S c vs its = some xs ∧ xs.length ≤ sizeLine ∧
  ∀ μ' H' z, Ext μ H μ' H' → RH K L μ' (h ++ [.lst xs]) H' → RV K μ' H' (.ref h.length) z → D.rt z H'
/-- the text of an item -/
def hiOk (T : XT) (S : SubT) (c' : Nat) (e : Str) : HI → Expr → Prop
  | .lit .non, .Constant .none _ _ => True
  | .lit (.bl b), .Constant (.bool b') _ _ => b = b'
  | .lit (.int b), .Constant (.int b') _ _ => b = b'
  | .lit (.str b), .Constant (.str b') _ _ => b = b'
  | .fld f, .Attribute (.Name x _) n _ => x = e ∧ ∀ c, S c c' = true → (T.fld c)[f]? = some n
  | _, _ => False
section
variable {X : Cx} {T : XT} {S : SubT} {L : List Nat}
theorem hi_pe {c' i : Nat} {en : Str} {a : Addr} {ob : Obj} {cl : Value} {dd : Option Addr} {pn : List (Addr × Obj)} {it : HI} {e : Expr} (F : ExcF X.K T S) (hv : Vis X.env.scope en) (hd : (en == ("__debug__" : Str)) = false ∧ (en == ("__classdict__" : Str)) = false) (hi : X.N[i]? = some en) (hz : Zc cl dd ob) (hf : ∃ fv, ob.data = .fields fv) (h : hiOk T S c' en it e) :
    PE (X.suite a ((a, ob) :: pn)) e (tHi X.K T S c' i a cl dd it) := by
  unfold hiOk at h
  split at h
  · exact PE.imp pe_non fun σ H Q ⟨μ, c, vs, v, _, _, _, e, q⟩ => by cases e; exact q _ .non
  · subst h; exact PE.imp pe_bl fun σ H Q ⟨μ, c, vs, v, _, _, _, e, q⟩ => by cases e; exact q _ (.bl _)
  · subst h; exact PE.imp pe_int fun σ H Q ⟨μ, c, vs, v, _, _, _, e, q⟩ => by cases e; exact q _ (.int _)
  · subst h; exact PE.imp pe_str fun σ H Q ⟨μ, c, vs, v, _, _, _, e, q⟩ => by cases e; exact q _ (.str _)
  · obtain ⟨rfl, hn⟩ := h
    refine ⟨fun pins s σ H Q I ⟨μ, c, vs, v, e1, rx, e3, e4, q⟩ => ?_⟩
    have hfn := hn c e3
    refine (pe_xf (F.xf c) (F.no c _ (List.mem_of_getElem? hfn)) hz hf (pe_var hi hv hd.1 hd.2) (by rfl)).run pins s σ H Q I ?_
    obtain ⟨r1, d1, fs, r2, r3, r4, r5, r6⟩ := rx
    obtain ⟨z, ez, rz⟩ := r6 _ _ _ hfn e4
    exact ⟨_, e1, rfl, r1, d1, fs, z, r2, r3, ez, q z rz⟩
  · exact h.elim
inductive HiOks (T : XT) (S : SubT) (c' : Nat) (en : Str) : List HI → List Expr → Prop
  | nil : HiOks T S c' en [] []
  | cons {it : HI} {its : List HI} {e : Expr} {es : List Expr} (h : hiOk T S c' en it e) (r : HiOks T S c' en its es) : HiOks T S c' en (it :: its) (e :: es)
theorem hi_star {c' : Nat} {en : Str} {it : HI} {e : Expr} {es : List Expr} {env : Env} (h : hiOk T S c' en it e) : starEach (e :: es) env = (false, eval e env) :: starEach es env := by
  unfold hiOk at h
  split at h <;> first | rfl | exact h.elim
theorem hi_pa {c' i : Nat} {en : Str} {a : Addr} {ob : Obj} {cl : Value} {dd : Option Addr} {pn : List (Addr × Obj)} {its : List HI} {es : List Expr} (F : ExcF X.K T S) (hv : Vis X.env.scope en) (hd : (en == ("__debug__" : Str)) = false ∧ (en == ("__classdict__" : Str)) = false) (hi : X.N[i]? = some en) (hz : Zc cl dd ob) (hf : ∃ fv, ob.data = .fields fv) (h : HiOks T S c' en its es) :
    PA (X.suite a ((a, ob) :: pn)) es (tHs X.K T S c' i a cl dd its) := by
  induction h with
  | nil => exact PA.imp pa_nil fun σ H Q ⟨μ, c, vs, xs, _, _, _, e, q⟩ => by cases e; exact q _ .nil
  | @cons it its e es h r ih =>
    refine PA.imp (pa_cons (hi_pe F hv hd hi hz hf h) ih (hi_star h)) fun σ H Q ⟨μ, c, vs, xs, e1, rx, e3, e4, q⟩ => ?_
    have e4 : (it.ev S c vs).bind (fun v => (hItems S c vs its).map (v :: ·)) = some xs := e4
    cases ev : it.ev S c vs with
    | none => rw [ev] at e4; cases e4
    | some v =>
      rw [ev] at e4
      obtain ⟨ys, ey, rfl⟩ := Option.map_eq_some_iff.mp e4
      exact ⟨μ, c, vs, v, e1, rx, e3, ev, fun z rz => ⟨μ, c, vs, ys, e1, rx, e3, ey, fun zs rzs => q _ (.cons rz rzs)⟩⟩
theorem as_suite {c' i : Nat} {en : Str} {its : List HI} {es : List Expr} {p1 p2 : Pos} (F : ExcF X.K T S) (hv : Vis X.env.scope en) (hd : (en == ("__debug__" : Str)) = false ∧ (en == ("__classdict__" : Str)) = false) (hi : X.N[i]? = some en) (h : HiOks T S c' en its es) : SuiteOk X [.Return (some (.List es p1)) p2] (tAs X.K T S L c' i its) := fun a ob cl dd pn hz hf =>
  pss_one (PS.imp (ps_ret (pe_lst (hi_pa F hv hd hi hz hf h))) fun D σ H ⟨μ, h, c, vs, xs, rh, e1, rx, e3, e4, hz, q⟩ => ⟨μ, c, vs, xs, e1, rx, e3, e4, fun zs rzs => by
    have hl : zs.length ≤ sizeLine := by rw [← rzs.length]; exact hz
    refine ⟨hl, fun p np => ?_⟩
    have x := ext_upd (μ := μ) (o := .lst zs) np
    have rh1 := rh.upd (o := .lst zs) np hl
    have hp : p ∉ μ := rh.new np
    have X0 : Ex0 μ (upd H p (.lst zs)) (μ ++ [p]) (upd H p (.lst zs)) := ⟨⟨_, rfl⟩, fun _ _ h => h, fun _ _ _ h => h⟩
    exact q (μ ++ [p]) _ _ (ext_name hp x np) (rh1.name hp ⟨zs, upd_same, (rzs.mono x).mono0 X0⟩) (.ref (by rw [← rh.len]; simp))⟩)
/-- the clauses -/
inductive HsOk (X : Cx) (T : XT) (S : SubT) (L : List Nat) : List ExceptHandler → List DH → List (Option Nat × Value × TSX) → Prop
  | nil : HsOk X T S L [] [] []
  | pl {x : Str} {c : Nat} {f : MS → MH → SR} {st : Stmt} {ss : List Stmt} {p1 p2 : Pos} {hds : List ExceptHandler} {hs : List DH} {l : List (Option Nat × Value × TSX)} (nm : Names X x (.ref (T.adr c)))
      (su : ∀ (a : Addr) (ob : Obj) (pn : List (Addr × Obj)), QSs (X.suite a ((a, ob) :: pn)) T L W0 (st :: ss) f) (r : HsOk X T S L hds hs l) :
      HsOk X T S L (.ExceptHandler (some (.Name x p1)) none (st :: ss) p2 :: hds) (.pl c f :: hs) ((none, .ref (T.adr c), fun _ _ _ => tS X.K T L W0 f) :: l)
  | as {x n : Str} {i c : Nat} {its : List HI} {es : List Expr} {p1 p2 p3 p4 : Pos} {hds : List ExceptHandler} {hs : List DH} {l : List (Option Nat × Value × TSX)} (nm : Names X x (.ref (T.adr c))) (at_ : X.N[i]? = some n) (lo : X.env.kindOf n = some .local) (il : its.length ≤ sizeLine)
      (su : HiOks T S c n its es) (r : HsOk X T S L hds hs l) :
      HsOk X T S L (.ExceptHandler (some (.Name x p1)) (some n) [.Return (some (.List es p3)) p4] p2 :: hds) (.as c i its :: hs) ((some i, .ref (T.adr c), tAs X.K T S L c i its) :: l)
abbrev DbN (X : Cx) : Prop := ∀ (i : Nat) x, X.N[i]? = some x → (x == ("__debug__" : Str)) = false ∧ (x == ("__classdict__" : Str)) = false
theorem HsOk.hdm (F : ExcF X.K T S) (ln : DbN X) {hds : List ExceptHandler} {hs : List DH} {l : List (Option Nat × Value × TSX)} (h : HsOk X T S L hds hs l) : HdM X hds l := by
  induction h with
  | nil => exact .nil
  | pl nm su r ih => exact .pl nm (fun a ob cl dd pn _ _ => su a ob pn) ih
  | as nm at_ lo il su r ih => exact .as nm at_ lo (as_suite F (.inl lo) (ln _ _ at_) at_ su) ih
theorem hItems_len {c : Nat} {vs : List MV} : ∀ {its : List HI} {xs : List MV}, hItems S c vs its = some xs → xs.length = its.length
  | [], xs, e => by cases e; rfl
  | it :: its, xs, e => by
    have e : (it.ev S c vs).bind (fun v => (hItems S c vs its).map (v :: ·)) = some xs := e
    cases ev : it.ev S c vs with
    | none => rw [ev] at e; cases e
    | some v =>
      rw [ev] at e
      obtain ⟨ys, ey, rfl⟩ := Option.map_eq_some_iff.mp e
      rw [List.length_cons, List.length_cons, hItems_len ey]
theorem mix_of {W : WX} {D : Ends} {c : Nat} {vs : List MV} {μ : List Addr} {G : Hp} {cl : Value} {dd : Option Addr} {σm : MS} {h : MH} {τ : L2.St} (F : ExcF X.K T S) (ri : RI X.K L μ h σm τ G) (rx : RX X.K T c vs μ G cl dd) :
    ∀ {hds : List ExceptHandler} {hs : List DH} {l : List (Option Nat × Value × TSX)}, HsOk X T S L hds hs l → SPost X.K T L W D μ G (dH S hs c vs σm h) → wMix X.K W D l cl dd τ G := by
  intro hds hs l hk
  induction hk with
  | nil => exact fun p => p μ G cl dd τ (Ext.refl _ _) ri rx
  | @pl x c' f st ss p1 p2 hds hs l nm su r ih =>
    intro p
    unfold dH at p
    refine ⟨S c c', by rw [rx.1]; exact F.sub c c', fun e a na => ?_, fun e => ?_⟩
    · rw [if_pos e] at p
      refine ⟨μ, h, σm, ri, ?_⟩
      show SPost X.K T L W0 D μ G (f σm h)
      cases ef : f σm h with
      | exc c2 v2 s2 h2 => rw [ef] at p; exact p.elim
      | next s2 h2 => rw [ef] at p; exact p
      | brk s2 h2 => rw [ef] at p; exact p
      | cnt s2 h2 => rw [ef] at p; exact p
      | ret v h2 => rw [ef] at p; exact p
      | bad => rw [ef] at p; exact p
    · rw [if_neg (by rw [e]; decide)] at p
      exact ih p
  | @as x n i c' its es p1 p2 p3 p4 hds hs l nm at_ lo il su r ih =>
    intro p
    unfold dH at p
    refine ⟨S c c', by rw [rx.1]; exact F.sub c c', fun e a na => ?_, fun e => ?_⟩
    · rw [if_pos e] at p
      split at p
      next hi0 =>
       cases ex : hItems S c vs its with
       | none => rw [ex] at p; exact p.elim
       | some xs =>
        rw [ex] at p
        have hi : i < τ.length := by rw [← ri.s.len]; exact hi0
        exact ⟨μ, h, c, vs, xs, ri.h, List.getElem?_set_self hi, rx, e, ex, by rw [hItems_len ex]; exact il, fun μ' H' z x rh rv => p μ' H' z x rh rv⟩
      next => exact p.elim
    · rw [if_neg (by rw [e]; decide)] at p
      exact ih p
/-- try -/
theorem s_try {W : WX} {body : List Stmt} {hd : ExceptHandler} {hds : List ExceptHandler} {hs : List DH} {l : List (Option Nat × Value × TSX)} {pos : Pos} {fb : MS → MH → SR} (F : ExcF X.K T S) (ln : DbN X) (hst : X.stack = X.env :: X.outer) (hf : X.env.frame = some X.env.locals) (hN : X.N.Nodup) (tk : Takes X W)
    (hb : ∀ (W : WX) (pn : List (Addr × Obj)) (xe : Value → Shared → Prop), Takes (X.tr pn xe) W → PassesOwn (model X.prog X.w) X.A X.env xe → QSs (X.tr pn xe) T L W body fb) (hh : HsOk X T S L (hd :: hds) hs l) :
    QS X T L W (.Try body (hd :: hds) [] [] pos) (fun σ h => match fb σ h with
      | .exc c vs σ' h' => dH S hs c vs σ' h'
      | r => r) := by
  refine PS.imp (ps_try_mix (tb := fun W => tS X.K T L W fb) hst hf hN tk hb (hh.hdm F ln)) fun D σ H ⟨μ, h, σm, ri, p⟩ => ⟨μ, h, σm, ri, ?_⟩
  show SPost X.K T L (wMix X.K W D l) D μ H (fb σm h)
  simp only at p
  cases e : fb σm h with
  | exc c vs s2 h2 =>
    rw [e] at p
    exact fun μ' H' cls d σ' x ri' rx => mix_of F ri' rx hh (SPost.ext p x)
  | next s2 h2 => rw [e] at p; exact p
  | brk s2 h2 => rw [e] at p; exact p
  | cnt s2 h2 => rw [e] at p; exact p
  | ret v h2 => rw [e] at p; exact p
  | bad => rw [e] at p; exact p
end
end MP

set_option linter.all false
set_option autoImplicit false
namespace MP
open PySem PyProof.Rows L2 HT
theorem places_rev (n : Nat) : Builtin.Slice.sliceAdjust none none (-1) (n : Int) = ((n : Int) - 1, -1) ∧ Builtin.Slice.slicePlaces ((n : Int) - 1) (-1) (-1) = n := by
  refine ⟨rfl, ?_⟩
  unfold Builtin.Slice.slicePlaces
  simp only [show ¬ ((-1 : Int) > 0) by decide, if_false]
  rw [show (- -1 : Int) = 1 from rfl, Int.ediv_one]
  split <;> omega
theorem fm_some {α β : Type} {f : α → Option β} {g : α → β} : ∀ {l : List α}, (∀ m ∈ l, f m = some (g m)) → l.filterMap f = l.map g
  | [], _ => rfl
  | a :: l, h => by rw [List.filterMap_cons, h a (.head _), List.map_cons, fm_some fun m q => h m (.tail _ q)]
theorem pick_rev (xs : Array Value) : ((List.range xs.size).filterMap fun (m : Nat) => xs[((xs.size : Int) - 1 + (m : Int) * (-1)).toNat]?) = xs.toList.reverse := by
  apply List.ext_getElem?
  intro i
  have e : ∀ m ∈ List.range xs.size, xs[((xs.size : Int) - 1 + (m : Int) * (-1)).toNat]? = some (xs.toList.reverse.getD m .none) := fun m hm => by
    have hm := List.mem_range.mp hm
    have h1 : ((xs.size : Int) - 1 + (m : Int) * (-1)).toNat = xs.size - 1 - m := by omega
    rw [h1, ← Array.getElem?_toList, List.getD_eq_getElem?_getD, List.getElem?_reverse (by simpa using hm)]
    rw [Array.length_toList, List.getElem?_eq_getElem (by rw [Array.length_toList]; omega)]
    rfl
  have e2 : ((List.range xs.size).filterMap fun (m : Nat) => xs[((xs.size : Int) - 1 + (m : Int) * (-1)).toNat]?) = (List.range xs.size).map fun m => xs.toList.reverse.getD m .none := by
    exact fm_some e
  rw [e2, List.getElem?_map]
  by_cases h : i < xs.size
  · rw [List.getElem?_range h]
    simp [List.getD_eq_getElem?_getD, h]
  · rw [List.getElem?_eq_none (by simpa using h), List.getElem?_eq_none (by simpa using h)]
    rfl
/-- t[::-1] of a tuple -/
theorem rev_item {prog : Program} {w : World} {A : Around} {E : Value → Shared → Prop} {s : Shared} {t sl : Addr} {items : Array Value} {vl vu vs : Value} {Q : Value → Shared → Prop} (ht : IsTup s.heap t items) (hs : s.heap.IsSliceOf sl vl vu vs) (pl : IsPart vl none) (pu : IsPart vu none) (ps : IsPart vs (some (-1))) (hsz : items.size ≤ sizeLine)
    (h : Q (.ref s.heap.objs.size) { s with heap := s.heap.push { cls := .type "tuple", data := .seq items.toList.reverse.toArray } }) : wpAny (model prog w) A (getItem (.ref t) (.ref sl)) Q E s := by
  obtain ⟨os, q1, q2, q3⟩ := id hs
  have tS : s.TypeIs (.ref sl) "slice" := ⟨os, q1, q2⟩
  have fit : sizeOk (.seq items.toList.reverse.toArray) := by
    show items.toList.reverse.toArray.size ≤ sizeLine
    simpa using hsz
  have ga := PyProof.Rows.slot_tuple_getitem
  unfold getItem
  try with_reducible refine wpAny_holding ?_
  first | refine wpAny_bind (wpAny_pure ?_) | skip
  refine wpAny_bind (wpAny_sequenceKey ht.typeIs
    (by decide) ?_)
  refine wpAny_bind (wpAny_callSpecial?_slot (name := Str.ofString "__getitem__") ht.typeIs ga
    (wpAny_call_entry ga ht.typeIs
      entry_tuple_getitem ?_ (args_tuple_getitem _ _)))
  show wpAny _ _ (Builtin.Tuple.tupleItemsOf
    (.ref t) >>= _) _ _ s
  refine wpAny_bind (tupleItemsOf_ ht (wpAny_bind (wpAny_typeOf tS ?_)))
  rw [if_pos (by decide)]
  have ap : ∀ {R : Int × Int × Nat → Shared → Prop} {E2 : Value → Shared → Prop}, R ((items.size : Int) - 1, -1, items.size) s → wpAny (model prog w) A.in1 (Builtin.Slice.sliceApplied (.ref sl) (pure (items.size : Int))) R E2 s := fun {R E2} r => by
    unfold Builtin.Slice.sliceApplied Builtin.Slice.sliceFields
    refine wpAny_bind (wpAny_bind (wpAny_field q1 q3 (x := vl) rfl
      (wpAny_bind (wpAny_field q1 q3 (x := vu) rfl (wpAny_bind (wpAny_field q1 q3 (x := vs) rfl (wpAny_pure ?_)))))))
    refine wpAny_bind (slicePart_ ps ?_)
    show wpAny _ _ (if ((-1 : Int) == 0) = true then _ else _) _ _ s
    rw [if_neg (by decide)]
    refine wpAny_bind (slicePart_ pl (wpAny_bind (slicePart_ pu (wpAny_bind (wpAny_pure ?_)))))
    obtain ⟨e1, e2⟩ := places_rev items.size
    show wpAny _ _ (match Builtin.Slice.sliceAdjust none none (-1) (items.size : Int) with | (lo, hi) => pure (lo, (-1 : Int), Builtin.Slice.slicePlaces lo hi (-1))) _ _ s
    rw [e1]
    show wpAny _ _ (pure ((items.size : Int) - 1, (-1 : Int), Builtin.Slice.slicePlaces ((items.size : Int) - 1) (-1) (-1))) _ _ s
    rw [e2]
    exact wpAny_pure r
  refine wpAny_bind (ap ?_)
  have no1 : ¬ ((((items.size : Int) - 1) == 0 && (-1 : Int) == 1 && items.size == items.size) = true) := by
    intro z
    rw [Bool.and_eq_true, Bool.and_eq_true] at z
    exact absurd z.1.2 (by decide)
  show wpAny _ _ (if (((items.size : Int) - 1) == 0 && (-1 : Int) == 1 && items.size == items.size) = true then _ else _) _ _ s
  rw [if_neg no1, pick_rev]
  first
    | exact wpAny_bind (m := Builtin.Tuple.tupleExact _) (wpAny_newObj_type (wpAny_pure ⟨_, rfl, wpAny_pure h⟩) fit)
    | exact wpAny_bind (m := Builtin.Tuple.tupleExact _) (wpAny_newObj_type (wpAny_bind (wpAny_pure (wpAny_pure ⟨_, rfl, wpAny_pure h⟩))) fit)
    | exact wpAny_bind (wpAny_bind (m := Builtin.Tuple.tupleExact _) (wpAny_newObj_type (wpAny_pure (wpAny_pure ⟨_, rfl, wpAny_pure h⟩)) fit))
def tRevT (K : PySem.W.Frag) (te : TE) : TE := fun σ H Q => te σ H fun x H1 => ∃ a xs, x = .ref a ∧ SqT K H1 a xs ∧ ∀ p, H1 p = none → Q (.ref p) (upd H1 p (.tup xs.reverse))
theorem pe_revT {X : Cx} {e : Expr} {te : TE} {k : Nat} {p1 p2 p3 pos : Pos} (he : PE X e te) : PE X (.Subscript e (.Slice none none (some (.UnaryOp .USub (.Constant (.int 1) k p1) p2)) p3) pos) (tRevT X.K te) := by
  refine ⟨fun pins s σ H Q I h => Subscript_ (thn (he.run pins s σ H _ I h) fun v s1 ⟨x, H1, I1, r1, a, xs, ex, hx, q⟩ => ?_)⟩
  subst ex
  cases r1
  have step : PO X (some (.UnaryOp .USub (.Constant (.int 1) k p1) p2)) (tPart (tUn (rU fun i => .int (-i)) (tC (.int 1)))) := po_some (pe_un un_neg pe_int)
  refine wpAny_Slice (thn (po_none.run pins s1 σ H1 (fun o H2 => o = none ∧ H2 = H1) I1 ⟨rfl, rfl⟩) fun vl s2 ⟨l, H2, I2, a1, b1, c1⟩ => ?_)
  subst b1 c1
  refine thn (po_none.run pins s2 σ H2 (fun o H3 => o = none ∧ H3 = H2) I2 ⟨rfl, rfl⟩) fun vu s3 ⟨u, H3, I3, a2, b2, c2⟩ => ?_
  subst b2 c2
  refine thn (step.run pins s3 σ H3 (fun o H4 => o = some (-1) ∧ H4 = H3) I3 ⟨1, rfl, -1, rfl, rfl, rfl⟩) fun vs s4 ⟨o, H4, I4, a3, b3, c3⟩ => ?_
  subst b3 c3
  have J : Inv X pins σ H4 { s4 with heap := s4.heap.push { cls := .type "slice", data := .fields #[vl, vu, vs] } } :=
    I4.kept (t' := s4.toks) fun b ob z => Heap.get?_push_of_some _ z
  obtain ⟨its, r, ht, hz⟩ := J.tuple hx
  have hl := r.length
  show wpAny (model X.prog X.w) X.A (subscriptTail e (.Slice none none (some (.UnaryOp .USub (.Constant (.int 1) k p1) p2)) p3) (.ref a) (.ref s4.heap.objs.size)) (EP X pins σ Q) X.xe _
  refine tail_any (ops := [.ref a, .ref s4.heap.objs.size]) ht.typeIs PyProof.Rows.slot_tuple_getitem.lookup ?_ (by with_unfolding_all rfl)
  refine rev_item ht (Heap.IsSliceOf.new _ vl vu vs) a1 a2 a3 (by rw [List.size_toArray]; omega) ?_
  refine ⟨.ref _, _, J.laid (t' := s4.toks) (o := .tup xs.reverse) (fun b ob z => Heap.get?_push_of_some _ z) (Nat.le_refl _) ?_, rfl, q _ (J.hok.fresh (Nat.le_refl _))⟩
  exact ⟨by rw [List.length_reverse]; exact hz, its.reverse, r.reverse, IsTup.new _ _⟩
end MP

set_option linter.all false
set_option autoImplicit false
/-! MiniPy: what was left of expressions. -/
namespace MP
open PySem PyProof.Rows L2

section
variable {X : Cx} {T : XT} {L : List Nat} {W : WX}
theorem e_and1 {b : Expr} {pos : Pos} {eb : MS → MH → Res TV} (h : QT X T L W b eb) : QT X T L W (.BoolOp .And [b] pos) eb := ⟨fun pins s σ H Q I q => h.run pins s σ H Q I q⟩
theorem e_or1 {b : Expr} {pos : Pos} {eb : MS → MH → Res TV} (h : QT X T L W b eb) : QT X T L W (.BoolOp .Or [b] pos) eb := ⟨fun pins s σ H Q I q => h.run pins s σ H Q I q⟩
/-- a module's constant -/
def GlbOk (X : Cx) (x : Str) (v : MV) : Prop := (∃ xs, v = .tup xs ∧ ∃ p vs, X.mg x = some (.ref p) ∧ (∀ H, SqT X.K H p vs) ∧ ∀ μ H, RVs X.K μ H xs vs) ∨ ((∀ xs, v ≠ .tup xs) ∧ ∃ z u, X.mg x = some u ∧ RelV z u ∧ ∀ μ H, RV X.K μ H v z)
theorem e_glb {x : Str} {v : MV} {pos : Pos} {i : Nat} {E : Ev} (hg : Gl X x) (hdb : (x == ("__debug__" : Str)) = false) (g : GlbOk X x v) (he : E.glb[i]? = some v) : QT X T L W (.Name x pos) (evT E (.glb i)) := by
  rcases g with ⟨xs, rfl, p, vs, hm, hq, hr⟩ | ⟨hn, z, u, hm, rz, hr⟩
  · refine PE.imp (pe_glob (v := .ref p) hg hm rfl hdb) fun σ H Q ⟨μ, h, σm, ri, pp⟩ => ?_
    have e : evT E (.glb i) σm h = .ok (.c xs) h := by simp only [evT, he]
    rw [e] at pp
    exact pp.ok ri.h ⟨.c (hq H) (hr μ H), fun _ _ e => nomatch e⟩
  · refine PE.imp (pe_glob (v := z) hg hm rz hdb) fun σ H Q ⟨μ, h, σm, ri, pp⟩ => ?_
    have e : evT E (.glb i) σm h = .ok (.v v) h := by
      simp only [evT, he]
    rw [e] at pp
    exact pp.ok ri.h ⟨.v (hr μ H), fun _ _ e => nomatch e⟩
/-- {} -/
theorem e_dctK {pos : Pos} : QT X T L W (.Dict [] [] pos) (fun _ h => if h.length ∈ L then .bad else .ok (.v (.ref h.length)) (h ++ [.dk []])) := by
  refine PE.imp pe_dnewK fun σ H Q ⟨μ, h, σm, ri, p⟩ a na => ?_
  have x := ext_upd (μ := μ) (o := .dK []) na
  have rh1 := ri.h.upd (o := .dK []) na trivial
  have hp : a ∉ μ := ri.h.new na
  have X0 : Ex0 μ (upd H a (.dK [])) (μ ++ [a]) (upd H a (.dK [])) := ⟨⟨_, rfl⟩, fun _ _ h => h, fun _ _ _ h => h⟩
  simp only at p
  by_cases c : h.length ∈ L
  · rw [if_pos c] at p; exact p.elim
  · rw [if_neg c] at p
    exact p (μ ++ [a]) _ _ (ext_name hp x na) (rh1.name hp ⟨[], by rw [if_neg c]; exact upd_same, .nil⟩) ⟨.v (.ref (by rw [← ri.h.len]; simp)), fun _ _ e => nomatch e⟩
theorem e_dctT {pos : Pos} : QT X T L W (.Dict [] [] pos) (fun _ h => if h.length ∈ L then .bad else .ok (.v (.ref h.length)) (h ++ [.dt []])) := by
  refine PE.imp pe_dnewT fun σ H Q ⟨μ, h, σm, ri, p⟩ a na => ?_
  have x := ext_upd (μ := μ) (o := .dT []) na
  have rh1 := ri.h.upd (o := .dT []) na trivial
  have hp : a ∉ μ := ri.h.new na
  have X0 : Ex0 μ (upd H a (.dT [])) (μ ++ [a]) (upd H a (.dT [])) := ⟨⟨_, rfl⟩, fun _ _ h => h, fun _ _ _ h => h⟩
  simp only at p
  by_cases c : h.length ∈ L
  · rw [if_pos c] at p; exact p.elim
  · rw [if_neg c] at p
    exact p (μ ++ [a]) _ _ (ext_name hp x na) (rh1.name hp ⟨[], by rw [if_neg c]; exact upd_same, .nil⟩) ⟨.v (.ref (by rw [← ri.h.len]; simp)), fun _ _ e => nomatch e⟩
theorem b_ite {c a b : Expr} {pos : Pos} {ec ea eb : MS → MH → Res TV} (hc : QB X T L W c (dTru ec)) (ha : QB X T L W a (dTru ea)) (hb : QB X T L W b (dTru eb)) :
    QB X T L W (.IfExp c a b pos) (dTru fun σ h => (ec σ h).bind fun x h => (Res.of h (tru h x)).bind fun k h => if k then ea σ h else eb σ h) := by
  refine ⟨fun pins s σ H Q I ⟨μ, h, σm, ri, p⟩ => ?_⟩
  have e0 : dTru (fun σ h => (ec σ h).bind fun x h => (Res.of h (tru h x)).bind fun k h => if k then ea σ h else eb σ h) σm h = (dTru ec σm h).bind fun k h => if k then dTru ea σm h else dTru eb σm h := by
    simp only [dTru]
    cases ec σm h with
    | bad => simp only [Res.bind_bad]
    | exc c vs h1 => simp only [Res.bind_exc]
    | ok x h1 =>
      simp only [Res.bind_ok]
      cases MP.tru h1 x with
      | none => simp only [Res.of_none, Res.bind_bad]
      | some k => cases k <;> simp only [Res.of_some, Res.bind_ok, if_true, Bool.false_eq_true, if_false]
  rw [e0] at p
  refine PyProof.Rows.isTrue_IfExp (thn (hc.run pins s σ H _ I ⟨μ, h, σm, ri, Post.bind p⟩) fun k s1 ⟨H1, I1, a1, h1, μ1, x1, rh1, g, p1⟩ => ?_)
  have g : a1 = k := g
  subst g
  cases a1 with
  | true => exact ha.run pins s1 σ H1 Q I1 ⟨μ1, h1, σm, ri.mono x1 rh1, p1⟩
  | false => exact hb.run pins s1 σ H1 Q I1 ⟨μ1, h1, σm, ri.mono x1 rh1, p1⟩
/-- xs[::-1] of a list -/
theorem e_revL {a : Expr} {k : Nat} {p1 p2 p3 pos : Pos} {ea : MS → MH → Res TV} (ha : QT X T L W a ea) : QT X T L W (.Subscript a (.Slice none none (some (.UnaryOp .USub (.Constant (.int 1) k p1) p2)) p3) pos) (fun σ h => (ea σ h).bind fun x h => (Res.of h (listOf h x)).bind fun xs h => .ok (.t xs.reverse) h) := by
  refine PE.imp (pe_revL ha) fun σ H Q ⟨μ, h, σm, ri, p⟩ => ⟨μ, h, σm, ri, (Post.bind p).imp fun x H1 ⟨b, h1, μ1, e1, rh1, rb, p1⟩ => ?_⟩
  obtain ⟨xs, ex, p2⟩ := Post.of_bind p1
  obtain ⟨q, vs, rfl, sq, rv⟩ := rb.1.list rh1 ex
  refine ⟨q, vs, rfl, sq, fun a na => ?_⟩
  have hl : vs.reverse.length ≤ sizeLine := by rw [List.length_reverse]; exact sq_len rh1.bnd (.inl sq)
  have x := ext_upd (μ := μ1) (o := .lst vs.reverse) na
  exact p2 μ1 _ _ x (rh1.upd na hl) ⟨.t (rh1.new na) upd_same (rv.reverse.mono x), fun _ q' _ e => by cases e; exact e1.dom _ na⟩
abbrev dRev (ea : MS → MH → Res TV) : MS → MH → Res TV := fun σ h => (ea σ h).bind fun x h => (match x with
    | .v (.tup xs) => .ok (.v (.tup xs.reverse)) h
    | x => (Res.of h (listOf h x)).bind fun xs h => .ok (.t xs.reverse) h)
theorem e_rev {a : Expr} {k : Nat} {p1 p2 p3 pos : Pos} {ea : MS → MH → Res TV} (ha : QT X T L W a ea) : QT X T L W (.Subscript a (.Slice none none (some (.UnaryOp .USub (.Constant (.int 1) k p1) p2)) p3) pos) (dRev ea) := by
  refine PE.imp (PE.or (e_revL (k := k) (p1 := p1) (p2 := p2) (p3 := p3) (pos := pos) ha) (pe_revT ha)) fun σ H Q ⟨μ, h, σm, ri, p⟩ => ?_
  have p : Post X.K T L (RTn X.K H) μ H (fun c d H' => W c d σ H') Q (dRev ea σm h) := p
  cases e : ea σm h with
  | bad => rw [show dRev ea σm h = .bad by simp only [dRev, e, Res.bind_bad]] at p; exact p.elim
  | exc c vs h1 =>
    rw [show dRev ea σm h = .exc c vs h1 by simp only [dRev, e, Res.bind_exc]] at p
    exact .inl ⟨μ, h, σm, ri, by simp only [e, Res.bind_exc]; exact p⟩
  | ok x h1 =>
    have other : (∀ xs, x ≠ .v (.tup xs)) → (tT X.K T L W (fun σ h => (ea σ h).bind fun x h => (Res.of h (listOf h x)).bind fun xs h => .ok (.t xs.reverse) h) σ H Q) := fun n => by
      refine ⟨μ, h, σm, ri, ?_⟩
      have e2 : dRev ea σm h = (Res.of h1 (listOf h1 x)).bind fun xs h => .ok (.t xs.reverse) h := by
        simp only [dRev, e, Res.bind_ok]
        try (cases x with
          | v y => cases y <;> first | rfl | exact absurd rfl (n _)
          | _ => rfl)
      rw [e2] at p
      simp only [e, Res.bind_ok]
      exact p
    cases x with
    | t xs => exact .inl (other fun _ q => nomatch q)
    | c xs => exact .inl (other fun _ q => nomatch q)
    | v y =>
      cases y with
      | tup xs =>
        right
        rw [show dRev ea σm h = .ok (.v (.tup xs.reverse)) h1 by simp only [dRev, e, Res.bind_ok]] at p
        refine ⟨μ, h, σm, ri, ?_⟩
        rw [e]
        intro μ1 H1 z x1 rh1 r1
        cases r1.1 with
        | v r => cases r with
          | @tup a vs _ ha' rv =>
            refine ⟨a, vs, rfl, .inl (.inl ha'), fun q nq => ?_⟩
            have hl : vs.reverse.length ≤ sizeLine := by rw [List.length_reverse]; exact rh1.bnd a vs (.inl (.inl ha'))
            have ex := ext_upd (μ := μ1) (o := .tup vs.reverse) nq
            exact p μ1 _ _ (x1.trans ex) (rh1.upd nq hl) ⟨.v (.tup upd_same (rv.reverse.mono ex)), fun _ _ e => nomatch e⟩
      | non => exact .inl (other fun _ q => nomatch q)
      | bl b => exact .inl (other fun _ q => nomatch q)
      | int b => exact .inl (other fun _ q => nomatch q)
      | str b => exact .inl (other fun _ q => nomatch q)
      | ref b => exact .inl (other fun _ q => nomatch q)
end
end MP

set_option linter.all false
set_option autoImplicit false
/-! MiniPy: which text an expression of MiniPy stands for. -/
namespace MP
open PySem PyProof.Rows L2

/-- what the program has: defs (name, number of parameters, keywords of calls), constants, classes of errors -/
structure Tab where
  defs : List (Str × Nat × List Kws)
  glb : List (Str × MV)
  exc : List (Str × Nat)
/-- the block that is read -/
structure CE where
  N : List Str
  sc : Scope
  fn : Str → Bool
  calm : Bool
def lkp (c : CE) (x : Str) : Option NameKind := c.sc.names.lookup x
def dbgOk (x : Str) : Bool := !(x == ("__debug__" : Str)) && !(x == ("__classdict__" : Str))
def varB (c : CE) (i : Nat) (x : Str) : Bool := decide (c.N[i]? = some x) && ((lkp c x == some .local || lkp c x == some .cell || lkp c x == some .free) && dbgOk x)
def glB (c : CE) (x : Str) : Bool := (lkp c x == some .globalImplicit) && dbgOk x
def biS : BI → Str
  | .len => "len" | .abs => "abs" | .int => "int" | .str => "str" | .bool => "bool" | .max => "max" | .min => "min" | .sum => "sum" | .all => "all" | .any => "any" | .list => "list" | .tuple => "tuple" | .sorted => "sorted" | .dict => "dict"
def biC (calm : Bool) : BI → Bool
  | .len => true | .abs => true | .int => true | .str => true | .tuple => true | .sorted => true
  | .max => calm | .min => calm | .sum => calm | .all => calm | .any => calm | .list => calm
  | _ => false
def mmS : MM → Str
  | .append => "append" | .extend => "extend" | .pop => "pop" | .join => "join" | .split => "split" | .startswith => "startswith"
  | .insert => "insert" | .count => "count" | .index => "index" | .get => "get" | .remove => "remove"
def mmC : MM → Bool
  | .append => true | .extend => true | .pop => true | .join => true | .split => true | .startswith => true
  | _ => false
def opC : Operator → Bool
  | .Add => true | .Mult => true | .Sub => true | .FloorDiv => true | .Mod => true | .Pow => true
  | _ => false
def tyEs (c : CE) : List TY → List Expr → Bool
  | [], [] => true
  | t :: ts, .Name x _ :: es => decide (x = PySem.Str.ofString (tyS t)) && (glB c x && tyEs c ts es)
  | _, _ => false
/-- o of o.m(..): anything but a call (super()) -/
def plainO : Expr → Bool
  | .Call _ _ _ _ => false
  | _ => true
def plainIxB : Expr → Bool
  | .Slice _ _ _ _ => false
  | .Constant _ _ _ => true
  | .Name _ _ => true
  | .BinOp _ _ _ _ => true
  | .Tuple _ _ _ => true
  | .Call _ _ _ _ => true
  | .Subscript _ _ _ => true
  | .UnaryOp _ _ _ => true
  | _ => false
mutual
/-- the targets of a block: own names -/
def tgB (c : CE) : MT → Expr → Bool
  | .nm i, .Name x _ => decide (c.N[i]? = some x) && ((lkp c x == some .local || (lkp c x == some .cell && c.fn x)) && dbgOk x)
  | .tp ts, .Tuple es _ _ => c.calm && tgBs c ts es
  | _, _ => false
def tgBs (c : CE) : List MT → List Expr → Bool
  | [], [] => true
  | t :: ts, e :: es => tgB c t e && tgBs c ts es
  | _, _ => false
end
def CE.blk (c : CE) (scope : Scope) : CE := ⟨c.N, relS scope c.sc, fun x => scope.names.lookup x == some .cell, c.calm⟩
def foldOk : Expr → Bool
  | .Set _ _ _ => false
  | _ => true
mutual
def ckT (t : Tab) (c : CE) : ME → Expr → Bool
  | .lit .non, .Constant .none _ _ => true
  | .lit (.bl b), .Constant (.bool b') _ _ => b == b'
  | .lit (.int b), .Constant (.int b') _ _ => decide (b = b')
  | .lit (.str b), .Constant (.str b') _ _ => decide (b = b')
  | .var i, .Name x _ => varB c i x
  | .glb i, .Name x _ => glB c x && (match t.glb[i]? with | some (y, _) => decide (y = x) | none => false)
  | .tup es, .Tuple xs _ _ => ckTs t c es xs
  | .lst es, .List xs _ => ckTs t c es xs
  | .dct _, .Dict [] [] _ => true
  | .bin op a b, .BinOp x op' y _ => decide (op = op') && (opC op && (ckT t c a x && ckT t c b y))
  | .neg a, .UnaryOp .USub x _ => ckT t c a x
  | .not a, .UnaryOp .Not x _ => ckT t c a x
  | .and a b, .BoolOp .And [x, y] _ => ckT t c a x && ckT t c b y
  | .and a b, .BoolOp .And (x :: y :: z :: r) p => ckT t c a x && ckT t c b (.BoolOp .And (y :: z :: r) p)
  | .or a b, .BoolOp .Or [x, y] _ => ckT t c a x && ckT t c b y
  | .or a b, .BoolOp .Or (x :: y :: z :: r) p => ckT t c a x && ckT t c b (.BoolOp .Or (y :: z :: r) p)
  | .ite a b d, .IfExp x y z _ => ckT t c a x && (ckT t c b y && ckT t c d z)
  | .cmp op a b, .Compare x [op'] [y] _ => decide (op = op') && (!behindInMarks op y && (ckT t c a x && ckT t c b y))
  | .chain op1 op2 a b d, .Compare x [o1, o2] [y, z] _ => decide (op1 = o1 ∧ op2 = o2) && (!lastMarks [op1, op2] [y, z] && (ckT t c a x && (ckT t c b y && ckT t c d z)))
  | .idx a b, .Subscript x y _ => plainIxB y && (ckT t c a x && ckT t c b y)
  | .slc a l u, .Subscript x (.Slice lo hi none _) _ => ckT t c a x && (ckO t c l lo && ckO t c u hi)
  | .rev a, .Subscript x (.Slice none none (some (.UnaryOp .USub (.Constant (.int 1) _ _) _)) _) _ => ckT t c a x
  | .isi a ts one, .Call (.Name f _) [x, y] [] _ => decide (f = ("isinstance" : Str)) && (noStar x && (glB c f && (ckT t c a x && (match one, y with
    | true, y => (match ts with | [_] => tyEs c ts [y] | _ => false)
    | false, .Tuple ys _ _ => decide (ts.length ≤ 100) && tyEs c ts ys
    | _, _ => false))))
  | .fn b es, .Call (.Name f _) (x :: xs) [] _ => decide (f = biS b) && (biC c.calm b && (glB c f && ckTs t c es (x :: xs)))
  | .mth m o es, .Call (.Attribute y f p) xs [] q => decide (f = mmS m) && (mmC m && ((p.endLine == q.line) && (plainO y && (decide (xs.length < 20) && (ckT t c o y && ckTs t c es xs)))))
  | .call d es, .Call (.Name f _) xs [] _ => c.calm && (glB c f && ((match t.defs[d]? with | some (y, _, _) => decide (y = f) | none => false) && ckTs t c es xs))
  | .callk d es ks ws, .Call (.Name f _) xs kw _ => c.calm && (glB c f && ((match t.defs[d]? with
    | some (y, _, kws) => decide (y = f) && (kws.any fun q => decide (q.1 = es.length) && (decide (q.2.1.map some = kw.map fun k => k.arg) && decide (q.2.2 = ks)))
    | none => false) && (ckTs t c es xs && ckKs t c ws kw)))
  | .lc elt tg src ifs own, .ListComp e [⟨g, it, fs, 0⟩] scope _ => c.calm && (decide c.N.Nodup && (blkC c.N c.sc scope own && (tgB (c.blk scope) tg g && (tg.ix.all (fun i => decide (i ∈ own.map (·.2))) && (foldOk it && (ckI t c src it && (decide (ifs.length ≤ 1) && (ckTs t (c.blk scope) ifs fs && ckT t (c.blk scope) elt e))))))))
  | _, _ => false
def ckTs (t : Tab) (c : CE) : List ME → List Expr → Bool
  | [], [] => true
  | m :: ms, e :: es => noStar e && (ckT t c m e && ckTs t c ms es)
  | _, _ => false
def ckO (t : Tab) (c : CE) : Option ME → Option Expr → Bool
  | none, none => true
  | some m, some e => ckT t c m e
  | _, _ => false
def ckKs (t : Tab) (c : CE) : List ME → List Keyword → Bool
  | [], [] => true
  | m :: ms, ⟨some _, e, _⟩ :: es => ckT t c m e && ckKs t c ms es
  | _, _ => false
def ckI (t : Tab) (c : CE) : MI → Expr → Bool
  | .e a, x => ckT t c a x
  | .rng es, .Call (.Name f _) xs [] _ => decide (f = ("range" : Str)) && (glB c f && ((decide (xs.length = 1) || decide (xs.length = 2)) && ckTs t c es xs))
  | _, _ => false
end
end MP

set_option linter.all false
set_option autoImplicit false
set_option maxHeartbeats 2000000
/-! MiniPy: expressions are read as MiniPy reads them. -/
namespace MP
open PySem PyProof.Rows L2

def bltN : List Str := ["len", "abs", "int", "str", "max", "min", "sum", "all", "any", "tuple", "list", "sorted", "isinstance", "range", "bool", "dict"]
structure Good (t : Tab) (X : Cx) (T : XT) (E : Ev) : Prop where
  defs : X.calm = true → ∀ (i : Nat) x n kws, t.defs[i]? = some (x, n, kws) → CallOk X T (fun L => E.C L i) x n kws
  glb : ∀ (i : Nat) x v, t.glb[i]? = some (x, v) → GlbOk X x v ∧ E.glb[i]? = some v
  blt : ∀ x ∈ bltN, X.mg x = none
  un : X.A.units + 100 < cLine
structure In (c : CE) (X : Cx) : Prop where
  N : X.N = c.N
  sc : X.env.scope = c.sc
  fn : ∀ x, c.fn x = true → X.fn x = true
  nd : X.N.Nodup
  calm : c.calm = true → X.calm = true
section
variable {t : Tab} {c : CE} {X : Cx} {T : XT} {E : Ev} {W : WX}
theorem dbg_of {x : Str} (h : dbgOk x = true) : (x == ("__debug__" : Str)) = false ∧ (x == ("__classdict__" : Str)) = false := by
  unfold dbgOk at h
  rw [Bool.and_eq_true, Bool.not_eq_true', Bool.not_eq_true'] at h
  exact h
theorem In.var (I : In c X) {i : Nat} {x : Str} (h : varB c i x = true) : X.N[i]? = some x ∧ Vis X.env.scope x ∧ (x == ("__debug__" : Str)) = false ∧ (x == ("__classdict__" : Str)) = false := by
  unfold varB lkp at h
  simp only [Bool.and_eq_true, decide_eq_true_eq, Bool.or_eq_true, beq_iff_eq] at h
  obtain ⟨h1, h2, h3⟩ := h
  refine ⟨by rw [I.N]; exact h1, ?_, dbg_of h3⟩
  unfold Vis
  rw [I.sc]
  rcases h2 with (h2 | h2) | h2
  · exact .inl h2
  · exact .inr (.inl h2)
  · exact .inr (.inr h2)
theorem In.gl (I : In c X) {x : Str} (h : glB c x = true) : Gl X x ∧ (x == ("__debug__" : Str)) = false := by
  unfold glB lkp at h
  simp only [Bool.and_eq_true, beq_iff_eq] at h
  refine ⟨?_, (dbg_of h.2).1⟩
  show X.env.scope.names.lookup x = _
  rw [I.sc]
  exact h.1
theorem Good.blk (G : Good t X T E) (L : List Nat) (s : Shared) (H : Hp) (scope : Scope) (cenv : Env) (fp : List Addr) : Good t (X.blk s H scope cenv fp) T { E with L := L } :=
  ⟨fun hc i x n kws h => let q := G.defs hc i x n kws h; ⟨q.ex, q.bad⟩, G.glb, G.blt, G.un⟩
theorem In.blk (I : In c X) (s : Shared) (H : Hp) (scope : Scope) (C : Addr) (cl : List (Str × Addr)) (fp : List Addr) : In (c.blk scope) (X.blk s H scope (compEnvC scope cl C X.env) fp) :=
  ⟨I.N, by show relS scope X.env.scope = relS scope c.sc; rw [I.sc], fun x h => h, I.nd, I.calm⟩
theorem takes0 {X : Cx} : Takes X W0 := fun u s' ⟨_, _, _, _, _, _, _, _, _, _, _, _, _, _, _, _, w⟩ => w.elim
/-! ### parts -/
theorem tyEs_of (G : Good t X T E) (I : In c X) : ∀ {ts : List TY} {es : List Expr}, tyEs c ts es = true → TyEs X es ts
  | [], [], _ => .nil
  | [], _ :: _, h => nomatch h
  | _ :: _, [], h => nomatch h
  | ty :: ts, e :: es, h => by
    cases e with
    | Name x p =>
      unfold tyEs at h
      simp only [Bool.and_eq_true, decide_eq_true_eq] at h
      obtain ⟨rfl, h2, h3⟩ := h
      exact .cons ⟨p, rfl, (I.gl h2).1, G.blt _ (by cases ty <;> decide)⟩ (tyEs_of G I h3)
    | _ => cases h
theorem bi_blt {b : BI} {k : Bool} (h : biC k b = true) : biS b ∈ bltN := by cases b <;> first | decide | cases h
theorem e_fn {b : BI} {x : Expr} {xs : List Expr} {p pos : Pos} {ds : MS → MH → Res (List TV)} {k : Bool} (G : Good t X T E) (hk : k = true → X.calm = true) (hb : biC k b = true) (hg : Gl X (biS b)) (ha : QTs X T E.L W (x :: xs) ds) (hs : (x :: xs).all noStar = true) :
    QT X T E.L W (.Call (.Name (biS b) p) (x :: xs) [] pos) (fun σ h => (ds σ h).bind fun as h => Res.of h (fnT h b as)) := by
  have hm := G.blt _ (bi_blt hb)
  cases b with
  | len => exact e_fnB f_len hg hm (by decide +kernel) (by decide) (by decide) ha hs
  | abs => exact e_fnB f_abs hg hm (by decide +kernel) (by decide) (by decide) ha hs
  | int => exact e_fnT f_int hg hm (by decide +kernel) (by decide) (by decide) ha hs
  | str => exact e_fnT f_str hg hm (by decide +kernel) (by decide) (by decide) ha hs
  | tuple => exact e_fnT f_tuple hg hm (by decide +kernel) (by decide) (by decide) ha hs
  | sorted => exact e_fnB (f_sorted G.un) hg hm (by decide +kernel) (by decide) (by decide) ha hs
  | max => exact e_fnB (f_max (hk hb)) hg hm (by decide +kernel) (by decide) (by decide) ha hs
  | min => exact e_fnB (f_min (hk hb)) hg hm (by decide +kernel) (by decide) (by decide) ha hs
  | sum => exact e_fnB (f_sum (hk hb)) hg hm (by decide +kernel) (by decide) (by decide) ha hs
  | all => exact e_fnB (f_all (hk hb)) hg hm (by decide +kernel) (by decide) (by decide) ha hs
  | any => exact e_fnB (f_any (hk hb)) hg hm (by decide +kernel) (by decide) (by decide) ha hs
  | list => exact e_fnT (f_list (hk hb)) hg hm (by decide +kernel) (by decide) (by decide) ha hs
  | _ => cases hb
structure MmOk (X : Cx) (L : List Nat) (m : MM) : Prop where
  ex : ∃ id, PlainAttrs (mmT m) ∧ Slot (mmT m) (mmS m) id ∧ typeOf (.builtin id) = pure (.type "method_descriptor") ∧ MtR X id (rMt X.K L m)
theorem base_of {y : Expr} (h : plainO y = true) (f : Str) (env : Env) : attributeBase y f env (eval y env) = eval y env := by cases y <;> first | rfl | cases h
end
end MP

set_option linter.all false
set_option autoImplicit false
set_option maxHeartbeats 2000000
/-! MiniPy: expressions are read as MiniPy reads them (the recursion). -/
namespace MP
open PySem PyProof.Rows L2

section
variable {t : Tab} {c : CE} {X : Cx} {T : XT} {E : Ev} {W : WX}
theorem mm_ok {L : List Nat} {m : MM} (h : mmC m = true) : MmOk X L m := by
  cases m with
  | append => exact ⟨_, PySem.F.plainAttrs_list, PySem.F.slot_list_append, PySem.F.type_list_append, m_append⟩
  | extend => exact ⟨_, PySem.F.plainAttrs_list, PySem.F.slot_list_extend, PySem.F.type_list_extend, m_extend⟩
  | pop => exact ⟨_, PySem.F.plainAttrs_list, PySem.F.slot_list_pop, PySem.F.type_list_pop, m_pop⟩
  | join => exact ⟨_, PySem.F.plainAttrs_str, PySem.F.slot_str_join, PySem.F.type_str_join, m_join⟩
  | split => exact ⟨_, PySem.F.plainAttrs_str, PySem.F.slot_str_split, PySem.F.type_str_split, m_split⟩
  | startswith => exact ⟨_, PySem.F.plainAttrs_str, PySem.F.slot_str_startswith, PySem.F.type_str_startswith, m_starts⟩
  | _ => cases h
theorem evs_len : ∀ {ms : List ME} {σ : MS} {h h' : MH} {vs : List MV}, evs E ms σ h = .ok vs h' → vs.length = ms.length
  | [], σ, h, h', vs, e => by simp only [evs] at e; cases e; rfl
  | m :: ms, σ, h, h', vs, e => by
    simp only [evs] at e
    cases e1 : (evT E m σ h).bind settle with
    | ok v h1 =>
      rw [e1, Res.bind_ok] at e
      cases e2 : evs E ms σ h1 with
      | ok ws h2 =>
        rw [e2, Res.bind_ok] at e
        cases e
        rw [List.length_cons, List.length_cons, evs_len e2]
      | exc c vs h2 => rw [e2] at e; cases e
      | bad => rw [e2] at e; cases e
    | exc c vs h1 => rw [e1] at e; cases e
    | bad => rw [e1] at e; cases e
theorem ckTs_star : ∀ {ms : List ME} {es : List Expr}, ckTs t c ms es = true → es.all noStar = true
  | [], [], _ => rfl
  | [], _ :: _, h => by unfold ckTs at h; cases h
  | _ :: _, [], h => by unfold ckTs at h; cases h
  | m :: ms, e :: es, h => by
    unfold ckTs at h
    simp only [Bool.and_eq_true] at h
    rw [List.all_cons, h.1, ckTs_star h.2.2]; rfl
theorem ckTs_len : ∀ {ms : List ME} {es : List Expr}, ckTs t c ms es = true → ms.length = es.length
  | [], [], _ => rfl
  | [], _ :: _, h => by unfold ckTs at h; cases h
  | _ :: _, [], h => by unfold ckTs at h; cases h
  | m :: ms, e :: es, h => by
    unfold ckTs at h
    simp only [Bool.and_eq_true] at h
    rw [List.length_cons, List.length_cons, ckTs_len h.2.2]
theorem ckKs_len : ∀ {ms : List ME} {es : List Keyword}, ckKs t c ms es = true → ms.length = es.length ∧ es.all (fun k => k.arg.isSome) = true
  | [], [], _ => ⟨rfl, rfl⟩
  | [], _ :: _, h => by unfold ckKs at h; cases h
  | _ :: _, [], h => by unfold ckKs at h; cases h
  | m :: ms, ⟨a, e, p⟩ :: es, h => by
    cases a with
    | none => unfold ckKs at h; cases h
    | some a =>
      unfold ckKs at h
      simp only [Bool.and_eq_true] at h
      obtain ⟨h1, h2⟩ := ckKs_len h.2
      exact ⟨by rw [List.length_cons, List.length_cons, h1], by rw [List.all_cons, h2]; rfl⟩
theorem kw_some : ∀ {kw : List Keyword} {kn : List Str}, kn.map some = kw.map (fun k => k.arg) → kw.filterMap (fun k => k.arg) = kn
  | [], [], _ => rfl
  | [], _ :: _, h => nomatch h
  | _ :: _, [], h => nomatch h
  | k :: kw, a :: kn, h => by
    rw [List.map_cons, List.map_cons, List.cons.injEq] at h
    rw [List.filterMap_cons, ← h.1]
    show a :: kw.filterMap _ = a :: kn
    rw [kw_some h.2]
theorem tg_cons {mt : MT} {e : Expr} {es : List Expr} {env : Env} (h : tgB c mt e = true) : assignEach (e :: es) env = (false, assign e env) :: assignEach es env := by
  cases e with
  | Starred x p => cases mt <;> (unfold tgB at h; cases h)
  | _ => rfl
mutual
theorem tg_ok (I : In c X) : ∀ (mt : MT) (e : Expr), tgB c mt e = true → PG X e (gM X.K mt)
  | .nm i, e, h => by
    cases e with
    | Name x p =>
      unfold tgB lkp at h
      simp only [Bool.and_eq_true, decide_eq_true_eq, Bool.or_eq_true, beq_iff_eq] at h
      obtain ⟨h1, h2, h3⟩ := h
      have e1 : X.N[i]? = some x := by rw [I.N]; exact h1
      rcases h2 with h2 | ⟨h2, h4⟩
      · exact g_nm I.nd e1 (.inl (by rw [I.sc]; exact h2)) (.inr (by rw [I.sc]; exact h2))
      · exact g_nm I.nd e1 (.inr (by rw [I.sc]; exact h2)) (.inl (I.fn x h4))
    | _ => unfold tgB at h; cases h
  | .tp ts, e, h => by
    cases e with
    | Tuple es k p =>
      unfold tgB at h
      rw [Bool.and_eq_true] at h
      obtain ⟨g1, g2, g3⟩ := tgs_ok I ts es h.2
      exact g_tp (I.calm h.1) g1 g2 g3
    | _ => unfold tgB at h; cases h
theorem tgs_ok (I : In c X) : ∀ (ts : List MT) (es : List Expr), tgBs c ts es = true → PGs X es (gMs X.K ts) ∧ (assignEach es X.env).length = ts.length ∧ (assignEach es X.env).findIdx? (·.1) = none
  | [], [], _ => ⟨gs_nil, rfl, rfl⟩
  | [], _ :: _, h => by unfold tgBs at h; cases h
  | _ :: _, [], h => by unfold tgBs at h; cases h
  | t :: ts, e :: es, h => by
    unfold tgBs at h
    rw [Bool.and_eq_true] at h
    have hc := tg_cons (env := X.env) (es := es) h.1
    obtain ⟨g1, g2, g3⟩ := tgs_ok I ts es h.2
    refine ⟨gs_cons (tg_ok I t e h.1) g1 (by rw [hc]; rfl), by rw [hc, List.length_cons, List.length_cons, g2], ?_⟩
    rw [hc, List.findIdx?_cons, g3]
    rfl
end
theorem itE_none {L : List Nat} {h : MH} {x : TV} {it : MIt} (e : itE false L h x = some it) : it.lock = none := by
  unfold itE at e
  cases e1 : itOf h x with
  | none => rw [e1] at e; cases e
  | some i2 =>
    rw [e1] at e
    have e : (match i2.lock with | none => some i2 | some p => if (false = true) ∧ p ∉ L then some i2 else none) = some it := e
    split at e
    · cases e; assumption
    · simp at e
theorem rngOf_none {vs : List MV} {it : MIt} (e : rngOf vs = some it) : it.lock = none := by
  unfold rngOf at e
  split at e
  · split at e <;> cases e; rfl
  · split at e <;> cases e; rfl
  · cases e
theorem dItV_none {L : List Nat} {ea : MS → MH → Res TV} : ∀ σ h it h1, dItV L ea σ h = .ok it h1 → it.lock = none := fun σ h it h1 e => by
  simp only [dItV] at e
  cases e1 : ea σ h with
  | ok x h2 =>
    rw [e1, Res.bind_ok] at e
    cases e2 : itE false L h2 x with
    | none => rw [e2] at e; cases e
    | some i2 => rw [e2] at e; cases e; exact itE_none e2
  | exc c vs h2 => rw [e1] at e; cases e
  | bad => rw [e1] at e; cases e
theorem dRng_none {ds : MS → MH → Res (List MV)} : ∀ σ h it h1, dRng ds σ h = .ok it h1 → it.lock = none := fun σ h it h1 e => by
  simp only [dRng] at e
  cases e1 : ds σ h with
  | ok x h2 =>
    rw [e1, Res.bind_ok] at e
    cases e2 : rngOf x with
    | none => rw [e2] at e; cases e
    | some i2 => rw [e2] at e; cases e; exact rngOf_none e2
  | exc c vs h2 => rw [e1] at e; cases e
  | bad => rw [e1] at e; cases e
theorem fold_of {e : Expr} (h : foldOk e = true) {env : Env} : ∀ x, foldedSetIterable e env x = pure x := by
  intro x
  cases e with
  | Set a b d => cases h
  | _ => rfl
theorem plainIx_of {e : Expr} (h : plainIxB e = true) : PlainIx e := by
  intro o i
  cases e <;> first | rfl | cases h
/-- a test of an expression that has no test of its own -/
def ordB : Expr → Bool
  | .BoolOp _ _ _ => false
  | .UnaryOp .Not _ _ => false
  | .Compare _ _ _ _ => false
  | .IfExp _ _ _ _ => false
  | _ => true
theorem ord_of {e : Expr} (h : ordB e = true) {env : Env} : ∀ whole, PySem.isTrue e env whole = (do let v ← whole; standAt e.pos; holding [v] (truthy v)) := by
  intro w
  cases e with
  | UnaryOp o a p => cases o <;> first | rfl | cases h
  | BoolOp o a p => cases h
  | Compare a b d p => cases h
  | IfExp a b d p => cases h
  | _ => rfl
end
end MP

set_option linter.all false
set_option autoImplicit false
set_option maxHeartbeats 4000000
/-! MiniPy: expressions are read as MiniPy reads them: the recursion. -/
namespace MP
open PySem PyProof.Rows L2

def S1 (t : Tab) (T : XT) (m : ME) : Prop := ∀ (c : CE) (X : Cx) (E : Ev) (W : WX) (e : Expr), Good t X T E → In c X → Takes X W → ckT t c m e = true →
  QT X T E.L W e (evT E m) ∧ QB X T E.L W e (dTru (evT E m)) ∧ ∀ op vs p, e = .BoolOp op vs p → PW X e (tB X.K T E.L W (dTru (evT E m)))
def SL (t : Tab) (T : XT) (ms : List ME) : Prop := (∀ (c : CE) (X : Cx) (E : Ev) (W : WX) (es : List Expr), Good t X T E → In c X → Takes X W → ckTs t c ms es = true →
  QVs X T E.L W es (evs E ms) ∧ QTs X T E.L W es (evTs E ms) ∧ (ms.length ≤ 1 → QIf X T E.L W es (evIfs E ms))) ∧
  (∀ (c : CE) (X : Cx) (E : Ev) (W : WX) (kw : List Keyword), Good t X T E → In c X → Takes X W → ckKs t c ms kw = true → QKs X T E.L W kw (evs E ms))
def SO (t : Tab) (T : XT) (o : Option ME) : Prop := ∀ (c : CE) (X : Cx) (E : Ev) (W : WX) (e : Option Expr), Good t X T E → In c X → Takes X W → ckO t c o e = true → PO X e (tO X.K T E.L W (evO E o))
def SI (t : Tab) (T : XT) (s : MI) : Prop := ∀ (c : CE) (X : Cx) (E : Ev) (W : WX) (e : Expr), Good t X T E → In c X → Takes X W → ckI t c s e = true →
  (∃ i x p, s = .e (.var i) ∧ e = .Name x p ∧ varB c i x = true) ∨ ((∀ tg, QI X T E.L W tg e (evI E s)) ∧ ∀ σ h it h1, evI E s σ h = .ok it h1 → it.lock = none)
section
variable {t : Tab} {T : XT}
theorem ord_fin {X : Cx} {L : List Nat} {W : WX} {e : Expr} {d : MS → MH → Res TV} (h : QT X T L W e d) (o : ordB e = true) : QT X T L W e d ∧ QB X T L W e (dTru d) ∧ ∀ op vs p, e = .BoolOp op vs p → PW X e (tB X.K T L W (dTru d)) :=
  ⟨h, b_truth h (ord_of o), fun op vs p q => by subst q; cases o⟩
theorem no {p : Prop} (h : false = true) : p := nomatch h
theorem and2 {a b : Bool} (h : (a && b) = true) : a = true ∧ b = true := (Bool.and_eq_true a b).mp h
theorem lc_eq {E : Ev} {elt : ME} {tg : MT} {src : MI} {ifs : List ME} {own : List (Str × Nat)} : evT E (.lc elt tg src ifs own) = dLc (evI E src) tg (own.map (·.2)) (fun L => evIfs { E with L := L } ifs) (fun L => evT { E with L := L } elt) E.L := by
  funext σ h
  have lk : ∀ it : MIt, E.locked it = { E with L := lockL it E.L } := fun it => by
    unfold Ev.locked lockL
    cases it.lock <;> rfl
  simp only [evT, dLc, lk]
theorem evI_eq {E : Ev} {a : ME} : evI E (.e a) = fun σ h => (evT E a σ h).bind fun x h => Res.of h (itE a.isVar E.L h x) := by funext σ h; simp only [evI]
theorem src_fin {X : Cx} {E : Ev} {W : WX} {a : ME} {e : Expr} (h : QT X T E.L W e (evT E a)) (n : a.isVar = false) : (∀ tg, QI X T E.L W tg e (evI E (.e a))) ∧ ∀ σ h it h1, evI E (.e a) σ h = .ok it h1 → it.lock = none := by
  rw [evI_eq, n]
  exact ⟨fun tg => i_val h, dItV_none⟩
theorem k_lit (v : MV) : S1 t T (.lit v) := fun c X E W e G I tk h => by
  have ev : evT E (.lit v) = fun _ h => .ok (.v v) h := by funext σ h; simp only [evT]
  cases e with
  | Constant k j p =>
    refine ord_fin ?_ rfl
    rw [ev]
    cases v with
    | non => cases k <;> first | exact e_lit (.inl ⟨rfl, rfl⟩) | exact no h
    | bl b => cases k <;> first | exact no h | (rename_i b'; have h : (b == b') = true := h; exact e_lit (.inr (.inl ⟨b, by rw [eq_of_beq h], rfl⟩)))
    | int b => cases k <;> first | exact no h | (rename_i b'; have h : decide (b = b') = true := h; exact e_lit (.inr (.inr (.inl ⟨b, by rw [of_decide_eq_true h], rfl⟩))))
    | str b => cases k <;> first | exact no h | (rename_i b'; have h : decide (b = b') = true := h; exact e_lit (.inr (.inr (.inr ⟨b, by rw [of_decide_eq_true h], rfl⟩))))
    | tup xs => cases k <;> exact no h
    | ref i => cases k <;> exact no h
  | _ => cases v <;> exact no h
theorem k_var (i : Nat) : S1 t T (.var i) := fun c X E W e G I tk h => by
  cases e with
  | Name x p =>
    have h : (varB c i x) = true := h
    obtain ⟨h1, h2, h3, h4⟩ := I.var h
    refine ord_fin ?_ rfl
    have ev : evT E (.var i) = fun σ h => (match σ[i]? with
      | some (some v) => .ok (.v v) h
      | _ => .bad) := by funext σ h; simp only [evT]; try rfl
    rw [ev]
    exact e_var h1 h2 h3 h4
  | _ => exact no h
theorem k_glb (i : Nat) : S1 t T (.glb i) := fun c X E W e G I tk h => by
  cases e with
  | Name x p =>
    have h : (glB c x && (match t.glb[i]? with | some (y, _) => decide (y = x) | none => false)) = true := h
    obtain ⟨h1, h2⟩ := and2 h
    obtain ⟨g1, g2⟩ := I.gl h1
    refine ord_fin ?_ rfl
    cases q : t.glb[i]? with
    | none => rw [q] at h2; exact no h2
    | some yv =>
      obtain ⟨y, v⟩ := yv
      rw [q] at h2
      have e : y = x := of_decide_eq_true h2
      subst e
      obtain ⟨k1, k2⟩ := G.glb i _ v q
      exact e_glb g1 g2 k1 k2
  | _ => exact no h
theorem k_tup (es : List ME) (ih : SL t T es) : S1 t T (.tup es) := fun c X E W e G I tk h => by
  cases e with
  | Tuple xs k p =>
    have h : (ckTs t c es xs) = true := h
    refine ord_fin ?_ rfl
    have ev : evT E (.tup es) = fun σ h => (evs E es σ h).bind fun vs h => if vs.length ≤ sizeLine then .ok (.v (.tup vs)) h else .bad := by funext σ h; simp only [evT]
    rw [ev]
    exact e_tup (ih.1 c X E W xs G I tk h).1
  | _ => exact no h
theorem k_lst (es : List ME) (ih : SL t T es) : S1 t T (.lst es) := fun c X E W e G I tk h => by
  cases e with
  | List xs p =>
    have h : (ckTs t c es xs) = true := h
    refine ord_fin ?_ rfl
    have ev : evT E (.lst es) = fun σ h => (evs E es σ h).bind fun vs h => if vs.length ≤ sizeLine then .ok (.t vs) h else .bad := by funext σ h; simp only [evT]
    rw [ev]
    exact e_lst (ih.1 c X E W xs G I tk h).1
  | _ => exact no h
theorem k_dct (b : Bool) : S1 t T (.dct b) := fun c X E W e G I tk h => by
  cases e with
  | Dict ks vs p =>
    cases ks with
    | nil => cases vs with
      | nil =>
        refine ord_fin ?_ rfl
        cases b with
        | false =>
          have ev : evT E (.dct false) = fun σ h => if h.length ∈ E.L then .bad else .ok (.v (.ref h.length)) (h ++ [.dk []]) := by funext σ h; simp only [evT, Bool.false_eq_true, if_false]
          rw [ev]; exact e_dctK
        | true =>
          have ev : evT E (.dct true) = fun σ h => if h.length ∈ E.L then .bad else .ok (.v (.ref h.length)) (h ++ [.dt []]) := by funext σ h; simp only [evT, if_true]
          rw [ev]; exact e_dctT
      | cons _ _ => exact no h
    | cons _ _ => exact no h
  | _ => exact no h
theorem k_bin (op : Operator) (a b : ME) (ia : S1 t T a) (ib : S1 t T b) : S1 t T (.bin op a b) := fun c X E W e G I tk h => by
  cases e with
  | BinOp x op' y p =>
    have h : (decide (op = op') && (opC op && (ckT t c a x && ckT t c b y))) = true := h
    obtain ⟨h1, h⟩ := and2 h
    obtain ⟨h2, h⟩ := and2 h
    obtain ⟨h3, h4⟩ := and2 h
    have e := of_decide_eq_true h1
    subst e
    refine ord_fin ?_ rfl
    have ev : evT E (.bin op a b) = fun σ h => (evT E a σ h).bind fun x h => (evT E b σ h).bind fun y h => Res.of h (binT h op x y) := by funext σ h; simp only [evT]
    rw [ev]
    exact e_bin (g := fun h => binT h op) (b_op op (by cases op <;> first | exact no h2 | simp)) (ia c X E W x G I tk h3).1 (ib c X E W y G I tk h4).1
  | _ => exact no h
theorem k_neg (a : ME) (ia : S1 t T a) : S1 t T (.neg a) := fun c X E W e G I tk h => by
  cases e with
  | UnaryOp o x p =>
    cases o with
    | USub =>
      have h : ckT t c a x = true := h
      refine ord_fin ?_ rfl
      have ev : evT E (.neg a) = fun σ h => (evT E a σ h).bind fun x h => (match x with
        | .v (.int i) => .ok (.v (.int (-i))) h
        | _ => .bad) := by funext σ h; simp only [evT]; try rfl
      rw [ev]
      exact e_neg (ia c X E W x G I tk h).1
    | _ => exact no h
  | _ => exact no h
theorem not_eq {E : Ev} {a : ME} : evT E (.not a) = fun σ h => (evT E a σ h).bind fun x h => (Res.of h (tru h x)).bind fun k h => .ok (.v (.bl (!k))) h := by funext σ h; simp only [evT]
theorem k_not (a : ME) (ia : S1 t T a) : S1 t T (.not a) := fun c X E W e G I tk h => by
  cases e with
  | UnaryOp o x p =>
    cases o with
    | Not =>
      have h : ckT t c a x = true := h
      obtain ⟨q1, q2, _⟩ := ia c X E W x G I tk h
      rw [not_eq]
      exact ⟨e_not q1, b_not q2, fun _ _ _ q => nomatch q⟩
    | _ => exact no h
  | _ => exact no h
theorem and_eq {E : Ev} {a b : ME} : evT E (.and a b) = fun σ h => (evT E a σ h).bind fun x h => (Res.of h (tru h x)).bind fun k h => if k then evT E b σ h else .ok x h := by funext σ h; simp only [evT]
theorem or_eq {E : Ev} {a b : ME} : evT E (.or a b) = fun σ h => (evT E a σ h).bind fun x h => (Res.of h (tru h x)).bind fun k h => if k then .ok x h else evT E b σ h := by funext σ h; simp only [evT]
theorem k_and (a b : ME) (ia : S1 t T a) (ib : S1 t T b) : S1 t T (.and a b) := fun c X E W e G I tk h => by
  cases e with
  | BoolOp o xs p =>
    cases o with
    | And =>
      match xs, h with
      | [], h => exact no h
      | [_], h => exact no h
      | [x, y], h =>
        have h : (ckT t c a x && ckT t c b y) = true := h
        obtain ⟨h1, h2⟩ := and2 h
        obtain ⟨q1, q2, _⟩ := ia c X E W x G I tk h1
        obtain ⟨r1, r2, _⟩ := ib c X E W y G I tk h2
        rw [and_eq]
        have w := w_and (pos := p) q2 (pw_and1 (pos := p) r2)
        exact ⟨e_and q1 (e_and1 r1), w.pt, fun op vs p' q => by cases q; exact w⟩
      | x :: y :: z :: r, h =>
        have h : (ckT t c a x && ckT t c b (.BoolOp .And (y :: z :: r) p)) = true := h
        obtain ⟨h1, h2⟩ := and2 h
        obtain ⟨q1, q2, _⟩ := ia c X E W x G I tk h1
        obtain ⟨r1, r2, r3⟩ := ib c X E W _ G I tk h2
        rw [and_eq]
        have w := w_and (pos := p) q2 (r3 _ _ _ rfl)
        exact ⟨e_and q1 r1, w.pt, fun op vs p' q => by cases q; exact w⟩
    | _ => exact no h
  | _ => exact no h
theorem k_or (a b : ME) (ia : S1 t T a) (ib : S1 t T b) : S1 t T (.or a b) := fun c X E W e G I tk h => by
  cases e with
  | BoolOp o xs p =>
    cases o with
    | Or =>
      match xs, h with
      | [], h => exact no h
      | [_], h => exact no h
      | [x, y], h =>
        have h : (ckT t c a x && ckT t c b y) = true := h
        obtain ⟨h1, h2⟩ := and2 h
        obtain ⟨q1, q2, _⟩ := ia c X E W x G I tk h1
        obtain ⟨r1, r2, _⟩ := ib c X E W y G I tk h2
        rw [or_eq]
        have w := w_or (pos := p) q2 (pw_or1 (pos := p) r2)
        exact ⟨e_or q1 (e_or1 r1), w.pt, fun op vs p' q => by cases q; exact w⟩
      | x :: y :: z :: r, h =>
        have h : (ckT t c a x && ckT t c b (.BoolOp .Or (y :: z :: r) p)) = true := h
        obtain ⟨h1, h2⟩ := and2 h
        obtain ⟨q1, q2, _⟩ := ia c X E W x G I tk h1
        obtain ⟨r1, r2, r3⟩ := ib c X E W _ G I tk h2
        rw [or_eq]
        have w := w_or (pos := p) q2 (r3 _ _ _ rfl)
        exact ⟨e_or q1 r1, w.pt, fun op vs p' q => by cases q; exact w⟩
    | _ => exact no h
  | _ => exact no h
theorem ite_eq {E : Ev} {a b d : ME} : evT E (.ite a b d) = fun σ h => (evT E a σ h).bind fun x h => (Res.of h (tru h x)).bind fun k h => if k then evT E b σ h else evT E d σ h := by funext σ h; simp only [evT]
theorem k_ite (a b d : ME) (ia : S1 t T a) (ib : S1 t T b) (id_ : S1 t T d) : S1 t T (.ite a b d) := fun c X E W e G I tk h => by
  cases e with
  | IfExp x y z p =>
    have h : (ckT t c a x && (ckT t c b y && ckT t c d z)) = true := h
    obtain ⟨h1, h⟩ := and2 h
    obtain ⟨h2, h3⟩ := and2 h
    obtain ⟨q1, q2, _⟩ := ia c X E W x G I tk h1
    obtain ⟨r1, r2, _⟩ := ib c X E W y G I tk h2
    obtain ⟨s1, s2, _⟩ := id_ c X E W z G I tk h3
    rw [ite_eq]
    refine ⟨?_, b_ite q2 r2 s2, fun _ _ _ q => nomatch q⟩
    have ev : (fun σ h => (dTru (evT E a) σ h).bind fun k h => if k then evT E b σ h else evT E d σ h) = (fun σ h => (evT E a σ h).bind fun x h => (Res.of h (tru h x)).bind fun k h => if k then evT E b σ h else evT E d σ h) := by
      funext σ h
      simp only [dTru]
      cases evT E a σ h <;> simp only [Res.bind_ok, Res.bind_bad, Res.bind_exc]
    rw [← ev]
    exact e_ite q2 r1 s1
  | _ => exact no h
theorem k_cmp (op : CmpOp) (a b : ME) (ia : S1 t T a) (ib : S1 t T b) : S1 t T (.cmp op a b) := fun c X E W e G I tk h => by
  cases e with
  | Compare x ops ys p =>
    match ops, ys, h with
    | [op'], [y], h =>
      have h : (decide (op = op') && (!behindInMarks op y && (ckT t c a x && ckT t c b y))) = true := h
      obtain ⟨h1, h⟩ := and2 h
      obtain ⟨h2, h⟩ := and2 h
      obtain ⟨h3, h4⟩ := and2 h
      have e := of_decide_eq_true h1
      subst e
      have hm : behindInMarks op y = false := by simpa using h2
      have ev : evT E (.cmp op a b) = dCmp (fun h => cmpT h op) (evT E a) (evT E b) := by funext σ h; simp only [evT, dCmp]
      have hu : X.A.units + 64 < cLine := by have := G.un; omega
      rw [ev]
      exact ⟨e_cmp (c_cmp hu op) (ia c X E W x G I tk h3).1 (ib c X E W y G I tk h4).1 hm, b_cmp (c_cmp hu op) (ia c X E W x G I tk h3).1 (ib c X E W y G I tk h4).1 hm, fun _ _ _ q => nomatch q⟩
    | [], _, h => exact no h
    | [_], [], h => exact no h
    | [_], _ :: _ :: _, h => exact no h
    | _ :: _ :: _, _, h => exact no h
  | _ => exact no h
theorem k_chain (o1 o2 : CmpOp) (a b d : ME) (ia : S1 t T a) (ib : S1 t T b) (id_ : S1 t T d) : S1 t T (.chain o1 o2 a b d) := fun c X E W e G I tk h => by
  cases e with
  | Compare x ops ys p =>
    match ops, ys, h with
    | [p1, p2], [y, z], h =>
      have h : (decide (o1 = p1 ∧ o2 = p2) && (!lastMarks [o1, o2] [y, z] && (ckT t c a x && (ckT t c b y && ckT t c d z)))) = true := h
      obtain ⟨h1, h⟩ := and2 h
      obtain ⟨h2, h⟩ := and2 h
      obtain ⟨h3, h⟩ := and2 h
      obtain ⟨h4, h5⟩ := and2 h
      obtain ⟨e, e'⟩ := of_decide_eq_true h1
      subst e e'
      have hm : lastMarks [o1, o2] [y, z] = false := by simpa using h2
      have ev : evT E (.chain o1 o2 a b d) = dChain (fun h => cmpT h o1) (fun h => cmpT h o2) (evT E a) (evT E b) (evT E d) := by funext σ h; simp only [evT, dChain]
      have hu : X.A.units + 64 < cLine := by have := G.un; omega
      have q1 := (ia c X E W x G I tk h3).1
      have q2 := (ib c X E W y G I tk h4).1
      have q3 := (id_ c X E W z G I tk h5).1
      rw [ev]
      exact ⟨e_chain (c_cmp hu o1) (c_cmp hu o2) q1 q2 q3 hm, b_chain (c_cmp hu o1) (c_cmp hu o2) q1 q2 q3 hm, fun _ _ _ q => nomatch q⟩
    | [], _, h => exact no h
    | [_], _, h => exact no h
    | _ :: _ :: _ :: _, _, h => exact no h
    | [_, _], [], h => exact no h
    | [_, _], [_], h => exact no h
    | [_, _], _ :: _ :: _ :: _, h => exact no h
  | _ => exact no h
theorem k_idx (a b : ME) (ia : S1 t T a) (ib : S1 t T b) : S1 t T (.idx a b) := fun c X E W e G I tk h => by
  cases e with
  | Subscript x y p =>
    have h : (plainIxB y && (ckT t c a x && ckT t c b y)) = true := h
    obtain ⟨h1, h⟩ := and2 h
    obtain ⟨h2, h3⟩ := and2 h
    refine ord_fin ?_ rfl
    have ev : evT E (.idx a b) = dIdx (evT E a) (evT E b) := by funext σ h; simp only [evT, dIdx]
    rw [ev]
    exact e_idx (by have := G.un; omega) (ia c X E W x G I tk h2).1 (ib c X E W y G I tk h3).1 (plainIx_of h1)
  | _ => exact no h
theorem k_slc (a : ME) (l u : Option ME) (ia : S1 t T a) (il : SO t T l) (iu : SO t T u) : S1 t T (.slc a l u) := fun c X E W e G I tk h => by
  cases e with
  | Subscript x y p =>
    cases y with
    | Slice lo hi st p2 =>
      cases st with
      | none =>
        have h : (ckT t c a x && (ckO t c l lo && ckO t c u hi)) = true := h
        obtain ⟨h1, h⟩ := and2 h
        obtain ⟨h2, h3⟩ := and2 h
        refine ord_fin ?_ rfl
        have ev : evT E (.slc a l u) = fun σ h => (evT E a σ h).bind fun x h => (evO E l σ h).bind fun lv h => (evO E u σ h).bind fun uv h => Res.of h (slcT h x lv uv) := by funext σ h; simp only [evT]
        rw [ev]
        exact e_slc (ia c X E W x G I tk h1).1 (il c X E W lo G I tk h2) (iu c X E W hi G I tk h3)
      | some _ => exact no h
    | _ => exact no h
  | _ => exact no h
theorem k_rev (a : ME) (ia : S1 t T a) : S1 t T (.rev a) := fun c X E W e G I tk h => by
  cases e with
  | Subscript x y p =>
    match y, h with
    | .Slice none none (some (.UnaryOp .USub (.Constant (.int 1) k p1) p2)) p3, h =>
      have h : ckT t c a x = true := h
      refine ord_fin ?_ rfl
      have ev : evT E (.rev a) = dRev (evT E a) := by funext σ h; simp only [evT, dRev]; try rfl
      rw [ev]
      exact e_rev (ia c X E W x G I tk h).1
  | _ => exact no h
theorem k_isi (a : ME) (ts : List TY) (one : Bool) (ia : S1 t T a) : S1 t T (.isi a ts one) := fun c X E W e G I tk h => by
  cases e with
  | Call f xs kw p =>
    cases f with
    | Name f pf =>
      match xs, kw, h with
      | [x, y], [], h =>
        have h : (decide (f = ("isinstance" : Str)) && (noStar x && (glB c f && (ckT t c a x && (match (generalizing := false) one, y with
          | true, y => (match (generalizing := false) ts with | [_] => tyEs c ts [y] | _ => false)
          | false, .Tuple ys _ _ => decide (ts.length ≤ 100) && tyEs c ts ys
          | _, _ => false))))) = true := h
        obtain ⟨h1, h⟩ := and2 h
        obtain ⟨h2, h⟩ := and2 h
        obtain ⟨h3, h⟩ := and2 h
        obtain ⟨h4, h9⟩ := and2 h
        have e := of_decide_eq_true h1
        subst e
        have g := (I.gl h3).1
        have hm := G.blt ("isinstance" : Str) (by decide)
        have q := (ia c X E W x G I tk h4).1
        refine ord_fin ?_ rfl
        have ev : evT E (.isi a ts one) = dIsi (evT E a) ts := by funext σ h; simp only [evT, dIsi]
        rw [ev]
        cases one with
        | true =>
          match ts, h9 with
          | [ty], h =>
            cases tyEs_of G I (show tyEs c [ty] [y] = true from h) with
            | cons b _ => exact e_isi1 g hm q b (star_cons h2)
          | [], h => exact no h
          | _ :: _ :: _, h => exact no h
        | false =>
          cases y with
          | Tuple ys k p2 =>
            have h : (decide (ts.length ≤ 100) && tyEs c ts ys) = true := h9
            obtain ⟨h5, h6⟩ := and2 h
            exact e_isiT g hm q (tyEs_of G I h6) (of_decide_eq_true h5) (star_cons h2)
          | _ => exact no h9
      | [], _, h => exact no h
      | [_], _, h => exact no h
      | [_, _], _ :: _, h => exact no h
      | _ :: _ :: _ :: _, _, h => exact no h
    | _ => exact no h
  | _ => exact no h
theorem k_fn (b : BI) (es : List ME) (ih : SL t T es) : S1 t T (.fn b es) := fun c X E W e G I tk h => by
  cases e with
  | Call f xs kw p =>
    cases f with
    | Name f pf =>
      match xs, kw, h with
      | x :: xs, [], h =>
        have h : (decide (f = biS b) && (biC c.calm b && (glB c f && ckTs t c es (x :: xs)))) = true := h
        obtain ⟨h1, h⟩ := and2 h
        obtain ⟨h2, h⟩ := and2 h
        obtain ⟨h3, h4⟩ := and2 h
        have e := of_decide_eq_true h1
        subst e
        refine ord_fin ?_ rfl
        have ev : evT E (.fn b es) = fun σ h => (evTs E es σ h).bind fun as h => Res.of h (fnT h b as) := by funext σ h; simp only [evT]
        rw [ev]
        exact e_fn G I.calm h2 (I.gl h3).1 (ih.1 c X E W _ G I tk h4).2.1 (ckTs_star h4)
      | [], _, h => exact no h
      | _ :: _, _ :: _, h => exact no h
    | _ => exact no h
  | _ => exact no h
theorem k_mth (m : MM) (o : ME) (es : List ME) (io : S1 t T o) (ih : SL t T es) : S1 t T (.mth m o es) := fun c X E W e G I tk h => by
  cases e with
  | Call f xs kw q =>
    cases f with
    | Attribute y f p =>
      cases kw with
      | nil =>
        have h : (decide (f = mmS m) && (mmC m && ((p.endLine == q.line) && (plainO y && (decide (xs.length < 20) && (ckT t c o y && ckTs t c es xs)))))) = true := h
        obtain ⟨h1, h⟩ := and2 h
        obtain ⟨h2, h⟩ := and2 h
        obtain ⟨h3, h⟩ := and2 h
        obtain ⟨h4, h⟩ := and2 h
        obtain ⟨h5, h⟩ := and2 h
        obtain ⟨h6, h7⟩ := and2 h
        have e := of_decide_eq_true h1
        subst e
        have h5 := of_decide_eq_true h5
        refine ord_fin ?_ rfl
        obtain ⟨id, f1, f2, f3, f4⟩ := (mm_ok (X := X) (L := E.L) h2).ex
        obtain ⟨v1, v2, _⟩ := ih.1 c X E W xs G I tk h7
        have qo := (io c X E W y G I tk h6).1
        have hst := ckTs_star h7
        have key : ∀ ds : MS → MH → Res (List TV), QTs X T E.L W xs ds → (xs = [] → ds = fun _ h => .ok [] h) → QT X T E.L W (.Call (.Attribute y (mmS m) p) xs [] q) (dMth m (evT E o) ds) := fun ds hd hz => by
          cases xs with
          | nil => rw [hz rfl]; exact e_mth0 f1 f2 f3 f4 qo (base_of h4 _ _) h3
          | cons x xs => exact e_mth f1 f2 f3 f4 qo hd (base_of h4 _ _) hst (by rw [List.length_cons] at h5; omega) h3
        by_cases ha : m = .append
        · subst ha
          have ev : evT E (.mth .append o es) = dMth .append (evT E o) (fun σ h => (evs E es σ h).bind fun as h => .ok (as.map TV.v) h) := by funext σ h; simp only [evT, dMth]; try rfl
          rw [ev]
          refine key _ (vs_ts v1) fun hx => ?_
          subst hx
          have := ckTs_len h7
          cases es with
          | nil => funext σ h; simp only [evs, Res.bind_ok, List.map_nil]
          | cons _ _ => cases this
        · have ev : evT E (.mth m o es) = dMth m (evT E o) (evTs E es) := by
            funext σ h
            cases m <;> first | exact absurd rfl ha | exact no h2 | (simp only [evT, dMth]; try rfl)
          rw [ev]
          refine key _ v2 fun hx => ?_
          subst hx
          have := ckTs_len h7
          cases es with
          | nil => funext σ h; simp only [evTs]
          | cons _ _ => cases this
      | cons _ _ => exact no h
    | _ => cases kw <;> exact no h
  | _ => exact no h
theorem k_call (d : Nat) (es : List ME) (ih : SL t T es) : S1 t T (.call d es) := fun c X E W e G I tk h => by
  cases e with
  | Call f xs kw p =>
    cases f with
    | Name f pf =>
      cases kw with
      | nil =>
        have h : (c.calm && (glB c f && ((match t.defs[d]? with | some (y, _, _) => decide (y = f) | none => false) && ckTs t c es xs))) = true := h
        obtain ⟨h1, h⟩ := and2 h
        obtain ⟨h2, h⟩ := and2 h
        obtain ⟨h3, h4⟩ := and2 h
        cases q : t.defs[d]? with
        | none => rw [q] at h3; exact no h3
        | some yv =>
          obtain ⟨y, n, kws⟩ := yv
          rw [q] at h3
          have e : y = f := of_decide_eq_true h3
          subst e
          obtain ⟨g1, g2⟩ := I.gl h2
          have ck := G.defs (I.calm h1) d _ n kws q
          refine ord_fin ?_ rfl
          have ev : evT E (.call d es) = dCall (fun L => E.C L d) E.L (evs E es) := by funext σ h; simp only [evT, dCall]
          rw [ev]
          have hst := ckTs_star h4
          have v1 := (ih.1 c X E W xs G I tk h4).1
          cases xs with
          | nil =>
            cases es with
            | nil =>
              have e0 : evs E [] = fun _ h => .ok [] h := by funext σ h; simp only [evs]
              rw [e0]
              exact e_call0 ck tk g1 g2
            | cons _ _ => have := ckTs_len h4; cases this
          | cons x xs => exact e_call ck tk g1 g2 v1 hst
      | cons _ _ => exact no h
    | _ => cases kw <;> exact no h
  | _ => exact no h
theorem k_callk (d : Nat) (es : List ME) (ks : List Nat) (ws : List ME) (ih : SL t T es) (iw : SL t T ws) : S1 t T (.callk d es ks ws) := fun c X E W e G I tk h => by
  cases e with
  | Call f xs kw p =>
    cases f with
    | Name f pf =>
      have h : (c.calm && (glB c f && ((match t.defs[d]? with
        | some (y, _, kws) => decide (y = f) && (kws.any fun q => decide (q.1 = es.length) && (decide (q.2.1.map some = kw.map fun k => k.arg) && decide (q.2.2 = ks)))
        | none => false) && (ckTs t c es xs && ckKs t c ws kw)))) = true := h
      obtain ⟨h1, h⟩ := and2 h
      obtain ⟨h2, h⟩ := and2 h
      obtain ⟨h3, h⟩ := and2 h
      obtain ⟨h4, h5⟩ := and2 h
      cases q : t.defs[d]? with
      | none => rw [q] at h3; exact no h3
      | some yv =>
        obtain ⟨y, n, kws⟩ := yv
        rw [q] at h3
        obtain ⟨h6, h7⟩ := and2 h3
        have e : y = f := of_decide_eq_true h6
        subst e
        obtain ⟨⟨m, kn, ks'⟩, hq, h8⟩ := List.any_eq_true.mp h7
        simp only [Bool.and_eq_true, decide_eq_true_eq] at h8
        obtain ⟨e1, e2, e3⟩ := h8
        subst e3
        obtain ⟨g1, g2⟩ := I.gl h2
        have ck := G.defs (I.calm h1) d _ n kws q
        refine ord_fin ?_ rfl
        have ev : evT E (.callk d es ks' ws) = dCallK (fun L => E.C L d) E.L ks' (evs E es) (evs E ws) := by funext σ h; simp only [evT, dCallK]
        rw [ev]
        have hst := ckTs_star h4
        have v1 := (ih.1 c X E W xs G I tk h4).1
        have v2 := iw.2 c X E W kw G I tk h5
        obtain ⟨l1, l2⟩ := ckKs_len h5
        have kl : kw.length = kn.length := by have := congrArg List.length e2; simpa using this.symm
        have hl : ∀ σ h bs h', evs E ws σ h = .ok bs h' → bs.length = kn.length := fun σ h bs h' e => by rw [evs_len e, l1, kl]
        cases xs with
        | nil =>
          cases es with
          | nil =>
            have e0 : evs E [] = fun _ h => .ok [] h := by funext σ h; simp only [evs]
            rw [e0]
            exact e_callk0 ck (by rw [show m = 0 from e1] at hq; exact hq) hl tk g1 g2 v2 l2 (kw_some e2)
          | cons _ _ => have := ckTs_len h4; cases this
        | cons x xs => exact e_callk ck hq (fun σ h bs h' e => by rw [evs_len e]; exact e1.symm) hl tk g1 g2 v1 hst v2 l2 (kw_some e2)
    | _ => exact no h
  | _ => exact no h
end
end MP

set_option linter.all false
set_option autoImplicit false
set_option maxHeartbeats 4000000
/-! MiniPy: expressions are read as MiniPy reads them: the recursion's end. -/
namespace MP
open PySem PyProof.Rows L2

section
variable {t : Tab} {T : XT}
theorem k_srcE (a : ME) (ia : S1 t T a) : SI t T (.e a) := fun c X E W e G I tk h => by
  have h : ckT t c a e = true := h
  by_cases v : a.isVar = true
  · cases a with
    | var i =>
      cases e with
      | Name x p => exact .inl ⟨i, x, p, rfl, rfl, h⟩
      | _ => exact no h
    | _ => cases v
  · exact .inr (src_fin (ia c X E W e G I tk h).1 (by simpa using v))
theorem rng_eq {E : Ev} {es : List ME} {n : Nat} (l : es.length = n) : evI E (.rng es) = dRng (fun σ h => (evs E es σ h).bind fun vs h => if vs.length = n then .ok vs h else .bad) := by
  funext σ h
  simp only [evI, dRng]
  cases e : evs E es σ h with
  | ok vs h1 =>
    simp only [Res.bind_ok]
    rw [if_pos (by rw [evs_len e, l])]
    rfl
  | exc c vs h1 => rfl
  | bad => rfl
theorem k_rng (es : List ME) (ih : SL t T es) : SI t T (.rng es) := fun c X E W e G I tk h => by
  cases e with
  | Call f xs kw p =>
    cases f with
    | Name f pf =>
      cases kw with
      | nil =>
        have h : (decide (f = ("range" : Str)) && (glB c f && ((decide (xs.length = 1) || decide (xs.length = 2)) && ckTs t c es xs))) = true := h
        obtain ⟨h1, h⟩ := and2 h
        obtain ⟨h2, h⟩ := and2 h
        obtain ⟨h3, h4⟩ := and2 h
        have e := of_decide_eq_true h1
        subst e
        have g := (I.gl h2).1
        have hm := G.blt ("range" : Str) (by decide)
        have hst := ckTs_star h4
        have hl := ckTs_len h4
        have v1 := (ih.1 c X E W xs G I tk h4).1
        refine .inr ?_
        rw [Bool.or_eq_true, decide_eq_true_eq, decide_eq_true_eq] at h3
        rcases h3 with h3 | h3
        · rw [rng_eq (hl.trans h3)]
          refine ⟨fun tg => ?_, dRng_none⟩
          match xs, h3, hst, v1 with
          | [x], _, hst, v1 =>
            rw [List.all_cons, Bool.and_eq_true] at hst
            exact i_rng1 g hm v1 (star_cons hst.1)
        · rw [rng_eq (hl.trans h3)]
          refine ⟨fun tg => ?_, dRng_none⟩
          match xs, h3, hst, v1 with
          | [x, y], _, hst, v1 =>
            rw [List.all_cons, List.all_cons, Bool.and_eq_true, Bool.and_eq_true] at hst
            exact i_rng2 g hm v1 (by rw [star_cons hst.1, star_cons hst.2.1]; rfl) (star_cons hst.2.1)
      | cons _ _ => exact no h
    | _ => cases kw <;> exact no h
  | _ => exact no h
theorem k_nil : SL t T [] := by
  refine ⟨fun c X E W es G I tk h => ?_, fun c X E W kw G I tk h => ?_⟩
  · cases es with
    | nil =>
      have e1 : evs E [] = fun _ h => .ok [] h := by funext σ h; simp only [evs]
      have e2 : evTs E [] = fun _ h => .ok [] h := by funext σ h; simp only [evTs]
      have e3 : evIfs E [] = fun _ h => .ok true h := by funext σ h; simp only [evIfs]
      rw [e1, e2, e3]
      exact ⟨vs_nil, ts_nil, fun _ => if_nil⟩
    | cons _ _ => unfold ckTs at h; cases h
  · cases kw with
    | nil =>
      have e1 : evs E [] = fun _ h => .ok [] h := by funext σ h; simp only [evs]
      rw [e1]
      exact ks_nil
    | cons _ _ => unfold ckKs at h; cases h
theorem k_cons (m : ME) (ms : List ME) (im : S1 t T m) (ih : SL t T ms) : SL t T (m :: ms) := by
  have e1 : ∀ E : Ev, evs E (m :: ms) = fun σ h => ((evT E m σ h).bind settle).bind fun v h => (evs E ms σ h).bind fun vs h => .ok (v :: vs) h := fun E => by funext σ h; simp only [evs]
  refine ⟨fun c X E W es G I tk h => ?_, fun c X E W kw G I tk h => ?_⟩
  · cases es with
    | nil => unfold ckTs at h; cases h
    | cons e es =>
      unfold ckTs at h
      obtain ⟨h1, h⟩ := and2 h
      obtain ⟨h2, h3⟩ := and2 h
      obtain ⟨q1, q2, _⟩ := im c X E W e G I tk h2
      obtain ⟨r1, r2, r3⟩ := ih.1 c X E W es G I tk h3
      have e2 : evTs E (m :: ms) = fun σ h => (evT E m σ h).bind fun v h => (evTs E ms σ h).bind fun vs h => .ok (v :: vs) h := by funext σ h; simp only [evTs]
      have e3 : evIfs E (m :: ms) = dTru (evT E m) := by funext σ h; simp only [evIfs, dTru]
      rw [e1, e2, e3]
      refine ⟨vs_cons q1 r1 (star_cons h1), ts_cons q1 r2 (star_cons h1), fun l => ?_⟩
      have hl := ckTs_len h3
      cases ms with
      | nil => cases es with
        | nil => exact if_one q2
        | cons _ _ => cases hl
      | cons _ _ => simp at l
  · cases kw with
    | nil => unfold ckKs at h; cases h
    | cons k kw =>
      obtain ⟨a, e, p⟩ := k
      cases a with
      | none => unfold ckKs at h; cases h
      | some a =>
        unfold ckKs at h
        obtain ⟨h1, h2⟩ := and2 h
        rw [e1]
        exact ks_cons (im c X E W e G I tk h1).1 (ih.2 c X E W kw G I tk h2)
theorem k_none : SO t T none := fun c X E W e G I tk h => by
  cases e with
  | none =>
    have e1 : evO E none = fun _ h => .ok none h := by funext σ h; simp only [evO]
    rw [e1]
    exact o_none
  | some _ => unfold ckO at h; cases h
theorem k_some (m : ME) (im : S1 t T m) : SO t T (some m) := fun c X E W e G I tk h => by
  cases e with
  | none => unfold ckO at h; cases h
  | some e =>
    have h : ckT t c m e = true := by unfold ckO at h; exact h
    have e1 : evO E (some m) = fun σ h => (evT E m σ h).bind fun v h => (match v with
      | .v (.int i) => .ok (some i) h
      | _ => .bad) := by funext σ h; simp only [evO]; try rfl
    rw [e1]
    exact o_some (im c X E W e G I tk h).1
theorem lcN_eq {E : Ev} {i : Nat} : evI E (.e (.var i)) = dItN E.L i := by
  funext σ h
  simp only [evI, evT, dItN, ME.isVar]
  try rfl
/-- a comprehension's block -/
theorem lc_ok {elt : ME} {tg : MT} {src : MI} {ifs : List ME} {own : List (Str × Nat)} {c : CE} {X : Cx} {E : Ev} {e g it : Expr} {fs : List Expr} {scope : Scope} (ie : S1 t T elt) (ii : SL t T ifs) (G : Good t X T E) (I : In c X)
    (h : (c.calm && (decide c.N.Nodup && (blkC c.N c.sc scope own && (tgB (c.blk scope) tg g && (tg.ix.all (fun i => decide (i ∈ own.map (·.2))) && (foldOk it && (ckI t c src it && (decide (ifs.length ≤ 1) && (ckTs t (c.blk scope) ifs fs && ckT t (c.blk scope) elt e))))))))) = true) :
    LcOk X T e g fs scope own tg (fun L => evIfs { E with L := L } ifs) (fun L => evT { E with L := L } elt) ∧ foldOk it = true ∧ ckI t c src it = true := by
  obtain ⟨h1, h⟩ := and2 h
  obtain ⟨h2, h⟩ := and2 h
  obtain ⟨h3, h⟩ := and2 h
  obtain ⟨h4, h⟩ := and2 h
  obtain ⟨h5, h⟩ := and2 h
  obtain ⟨h6, h⟩ := and2 h
  obtain ⟨h7, h⟩ := and2 h
  obtain ⟨h8, h⟩ := and2 h
  obtain ⟨h9, h10⟩ := and2 h
  refine ⟨⟨I.calm h1, I.nd, ?_, fun s H C cl fp => ?_, fun L s H C cl fp => ?_, fun L s H C cl fp => ?_, fun i m => ?_⟩, h6, h7⟩
  · have := blkOk_by h3
    rw [← I.N, ← I.sc] at this
    exact this
  · exact tg_ok (I.blk s H scope C cl fp) tg g h4
  · exact (ii.1 _ _ _ W0 fs (G.blk L s H scope _ fp) (I.blk s H scope C cl fp) takes0 h9).2.2 (of_decide_eq_true h8)
  · exact (ie _ _ _ W0 e (G.blk L s H scope _ fp) (I.blk s H scope C cl fp) takes0 h10).1
  · exact of_decide_eq_true (List.all_eq_true.mp h5 i m)
theorem k_lc (elt : ME) (tg : MT) (src : MI) (ifs : List ME) (own : List (Str × Nat)) (ie : S1 t T elt) (is_ : SI t T src) (ii : SL t T ifs) : S1 t T (.lc elt tg src ifs own) := fun c X E W e G I tk h => by
  match e, h with
  | .ListComp e [⟨g, it, fs, 0⟩] scope p, h =>
    obtain ⟨ok, hf, hi⟩ := lc_ok (t := t) (T := T) ie ii G I h
    refine ord_fin ?_ rfl
    rw [lc_eq]
    rcases is_ c X E W it G I tk hi with ⟨i, x, p', rfl, rfl, hv⟩ | ⟨q, hl⟩
    · obtain ⟨v1, v2, v3, v4⟩ := I.var hv
      rw [lcN_eq]
      exact e_lcN ok v1 v2 v3 v4 (fold_of hf)
    · exact e_lc ok (q g) hl (fold_of hf)
  | .ListComp e [⟨g, it, fs, .ofNat (n + 1)⟩] scope p, h => exact no h
theorem s_all : ∀ m, S1 t T m := @ME.rec (motive_1 := S1 t T) (motive_2 := SI t T) (motive_3 := SL t T) (motive_4 := SO t T) k_lit k_var k_glb k_tup k_lst k_dct k_bin k_neg k_not k_and k_or k_ite k_cmp k_chain k_idx k_slc k_rev k_isi k_fn k_mth k_call k_callk k_lc k_srcE k_rng k_nil k_cons k_none k_some
theorem s_ls : ∀ ms, SL t T ms
  | [] => k_nil
  | m :: ms => k_cons m ms (s_all m) (s_ls ms)
theorem s_src : ∀ s, SI t T s
  | .e a => k_srcE a (s_all a)
  | .rng es => k_rng es (s_ls es)
end
end MP

set_option linter.all false
set_option autoImplicit false
set_option maxHeartbeats 4000000
/-! MiniPy: which text a statement of MiniPy stands for. -/
namespace MP
open PySem PyProof.Rows L2

/-- the classes of errors: name, the number of what a raise gives (if it can be raised), fields, which are sub-classes of which -/
structure ETab where
  exc : List (Str × Option Nat)
  flds : List (List Str)
  sub : List (List Bool)
def ETab.clip (t : ETab) (c : Nat) : Nat := min c (t.exc.length - 1)
def ETab.fldL (t : ETab) (c : Nat) : List Str := t.flds.getD (t.clip c) []
def ETab.subB (t : ETab) (c d : Nat) : Bool := (t.sub.getD (t.clip c) []).getD (t.clip d) false
theorem ETab.clip_clip (t : ETab) (c : Nat) : t.clip (t.clip c) = t.clip c := by unfold ETab.clip; omega
def swNm (sc : Scope) (ts : List Expr) : List Str :=
  ts.filterMap fun
    | .Name id pos => if sc.names.lookup id == some .local && pos.line == (ts.head?.map (·.pos.line)).getD 0 then some id else none
    | _ => none
/-- the stores are exchanged: the names, from the left -/
def swN (sc : Scope) (ts vs : List Expr) : Option (List Str) :=
  if (!(ts.length == 2 || ts.length == 3) || vs.length != ts.length) = true then none
  else if (vs.any fun | .Starred .. => true | _ => false) = true then none
  else if ((swNm sc ts).length != ts.length || (swNm sc ts).eraseDups.length != (swNm sc ts).length) = true then none
  else if vs.all (foldedForSure 8) = true then none
  else some (swNm sc ts)
/-- no store that the model leaves open -/
def swK (sc : Scope) (ts vs : List Expr) : Bool := !(vs.all (constantsAlone 8)) || vs.all (foldedForSure 8)
theorem sw_eq {ts vs : List Expr} {k k2 : Nat} {p p2 : Pos} {env : Env} (hk : env.scope.kind = .function) (h : swK env.scope ts vs = true) : swappedStores [.Tuple ts k p] (.Tuple vs k2 p2) env = pure (swN env.scope ts vs) := by
  have hb : (env.blockKind != .function) = false := by
    have : env.blockKind = .function := by unfold Env.blockKind; rw [hk]; rfl
    rw [this]; rfl
  unfold swK at h
  unfold swappedStores swN
  simp only [hb, Bool.or_false, Env.kindOf]
  split
  · rfl
  · split
    · rename_i h2; exact congrArg pure (if_pos h2).symm
    · rename_i h2
      refine Eq.trans ?_ (congrArg pure (if_neg h2).symm)
      refine Eq.trans (b := if ((swNm env.scope ts).length != ts.length || (swNm env.scope ts).eraseDups.length != (swNm env.scope ts).length) = true then pure none else if vs.all (foldedForSure 8) = true then pure none else if vs.all (constantsAlone 8) = true then _ else pure (some (swNm env.scope ts))) rfl ?_
      split
      · rfl
      · split
        · rfl
        · rename_i h4
          have : ¬ (vs.all (constantsAlone 8)) = true := fun q => by
            rw [q] at h
            simp only [Bool.not_true, Bool.false_or] at h
            exact h4 h
          rw [if_neg this]
/-- a comprehension's store is exchanged -/
def swLc (sc : Scope) (y : Str) (py : Pos) (cs : Scope) (p : Pos) : Bool := sc.names.lookup y == some .local && py.line == p.line && !(cs.names.any fun (n, k) => n == y && (k == .local || k == .cell))
theorem swLc_eq {elt : Expr} {gs : List Comprehension} {cs : Scope} {p py : Pos} {y : Str} {l : Nat} {env : Env} (hk : env.scope.kind = .function) : swapsWith (.ListComp elt gs cs p) (some (.Name y py)) l env = pure (swLc env.scope y py cs p) := by
  have hb : env.blockKind = .function := by unfold Env.blockKind; rw [hk]; rfl
  unfold swapsWith swLc
  simp only [hb, Env.kindOf]
  rfl
def isLc : Expr → Bool
  | .ListComp _ _ _ _ => true
  | .SetComp _ _ _ _ => true
  | .DictComp _ _ _ _ _ => true
  | _ => false
theorem sw_no {e : Expr} (h : isLc e = false) {tg : Option Expr} {l : Nat} {env : Env} : swapsWith e tg l env = pure false := by cases e <;> first | rfl | cases h
theorem sw_noN {e tg : Expr} (h : ∀ x p, tg ≠ .Name x p) {l : Nat} {env : Env} : swapsWith e (some tg) l env = pure false := by
  cases tg with
  | Name x p => exact absurd rfl (h x p)
  | _ => cases e <;> rfl
def isTup : Expr → Bool
  | .Tuple _ _ _ => true
  | _ => false
theorem st_no {tg e : Expr} (h : (isTup tg && isTup e) = false) {env : Env} (hl : ∀ es p, tg ≠ .List es p) : swappedStores [tg] e env = pure none := by
  cases tg with
  | List es p => exact absurd rfl (hl es p)
  | Tuple es k p => cases e <;> first | rfl | cases h
  | _ => cases e <;> rfl
def hiB (et : ETab) (c' : Nat) (en : Str) : HI → Expr → Bool
  | .lit .non, .Constant .none _ _ => true
  | .lit (.bl b), .Constant (.bool b') _ _ => decide (b = b')
  | .lit (.int b), .Constant (.int b') _ _ => decide (b = b')
  | .lit (.str b), .Constant (.str b') _ _ => decide (b = b')
  | .fld f, .Attribute (.Name x _) n _ => decide (x = en) && (List.range et.exc.length).all fun c => !(et.subB c c') || decide ((et.fldL c)[f]? = some n)
  | _, _ => false
def hiBs (et : ETab) (c' : Nat) (en : Str) : List HI → List Expr → Bool
  | [], [] => true
  | i :: is, e :: es => hiB et c' en i e && hiBs et c' en is es
  | _, _ => false
def names2 : List Expr → Option (List Str)
  | [] => some []
  | .Name x _ :: r => (names2 r).map (x :: ·)
  | _ => none
/-- a store of a value -/
def asgB (t : Tab) (c : CE) (mt : MT) (m : ME) (tg e : Expr) : Bool := match m, tg, e with
  | .tup ms, .Tuple ts _ _, .Tuple vs _ _ => swK c.sc ts vs && (match swN c.sc ts vs with
    | none => tgB c mt tg && ckT t c m e
    | some ns => c.calm && (decide ns.Nodup && (decide (names2 ts = some ns) && ((match mt with | .tp us => decide (us.length = ns.length) && (tgBs c us ts && ns.all fun n => decide (c.sc.names.lookup n = some .local)) | _ => false) && (decide (ns.length = vs.length) && ckTs t c ms vs)))))
  | _, .Name y py, .ListComp _ _ cs p => decide (lkp c y = some .local) && (tgB c mt tg && ckT t c m e)
  | _, .Name _ _, e => !isLc e && (tgB c mt tg && ckT t c m e)
  | _, .Tuple _ _ _, e => !isTup e && (tgB c mt tg && ckT t c m e)
  | _, _, _ => false
mutual
def ckS (t : Tab) (et : ETab) (c : CE) : MSt → Stmt → Bool
  | .asg mt m, .Assign [tg] e _ => asgB t c mt m tg e
  | .sub o i m, .Assign [.Subscript x y _] e _ => plainIxB y && (ckT t c m e && (ckT t c o x && ckT t c i y))
  | .aug i op m, .AugAssign (.Name x _) op' e _ => decide (op = op') && (tgB c (.nm i) (.Name x ⟨0, 0, 0, 0⟩) && ckT t c m e)
  | .exp m, .Expr e _ => !isLc e && ckT t c m e
  | .ifs m a b, .If e xs ys _ => ckT t c m e && (ckSs t et c a xs && ckSs t et c b ys)
  | .fors tg src body, .For g it xs [] _ => c.calm && (foldOk it && (tgB c tg g && (ckI t c src it && ckSs t et c body xs)))
  | .whl m body, .While e xs [] _ => ckT t c m e && ckSs t et c body xs
  | .ret m, .Return (some e) _ => ckT t c m e
  | .retN, .Return none _ => true
  | .pass, .Pass _ => true
  | .brk, .Break _ => true
  | .cnt, .Continue _ => true
  | .rse d es, .Raise (some (.Call (.Name f _) (x :: xs) [] _)) none _ => c.calm && (glB c f && ((match et.exc[d]? with | some (y, some n) => decide (y = f) && decide (n = (x :: xs).length) | _ => false) && ckTs t c es (x :: xs)))
  | .tr body hs, .Try xs (hd :: hds) [] [] _ => decide c.N.Nodup && (ckSs t et c body xs && ckHs t et c hs (hd :: hds))
  | _, _ => false
def ckSs (t : Tab) (et : ETab) (c : CE) : List MSt → List Stmt → Bool
  | [], [] => true
  | s :: ss, x :: xs => ckS t et c s x && ckSs t et c ss xs
  | _, _ => false
def ckH (t : Tab) (et : ETab) (c : CE) : MHd → ExceptHandler → Bool
  | .hd d ss, .ExceptHandler (some (.Name x _)) none (y :: ys) _ => glB c x && ((match et.exc[d]? with | some (z, _) => decide (z = x) | none => false) && ckSs t et { c with calm := false } ss (y :: ys))
  | .as d i its, .ExceptHandler (some (.Name x _)) (some n) [.Return (some (.List es _)) _] _ => glB c x && ((match et.exc[d]? with | some (z, _) => decide (z = x) | none => false) && (decide (c.N[i]? = some n) && (decide (lkp c n = some .local) && (decide (its.length ≤ 100) && hiBs et d n its es))))
  | _, _ => false
def ckHs (t : Tab) (et : ETab) (c : CE) : List MHd → List ExceptHandler → Bool
  | [], [] => true
  | s :: ss, x :: xs => ckH t et c s x && ckHs t et c ss xs
  | _, _ => false
end
end MP

set_option linter.all false
set_option autoImplicit false
set_option maxHeartbeats 4000000
/-! MiniPy: statements are read as MiniPy reads them. -/
namespace MP
open PySem PyProof.Rows L2

structure GoodS (t : Tab) (et : ETab) (X : Cx) (T : XT) (E : Ev) : Prop extends Good t X T E where
  exc : ∀ (c : Nat) x o, et.exc[c]? = some (x, o) → X.mg x = some (.ref (T.adr c))
  rse : X.calm = true → ∀ (c : Nat) x n, et.exc[c]? = some (x, some n) → RaiseOk X T c x n
  F : ExcF X.K T et.subB
  fld : ∀ c, T.fld c = et.fldL c
  pos : 0 < et.exc.length
structure InS (c : CE) (X : Cx) : Prop extends In c X where
  stk : X.stack = X.env :: X.outer
  fr : X.env.frame = some X.env.locals
  own : PassesOwn (model X.prog X.w) X.A X.env X.xe
  kind : X.env.scope.kind = .function
  loc : DbN X
section
variable {t : Tab} {et : ETab} {c : CE} {X : Cx} {T : XT} {E : Ev} {W : WX}
theorem hi_of {c' : Nat} {en : Str} (hf : ∀ c, T.fld c = et.fldL c) (hp : 0 < et.exc.length) {it : HI} {e : Expr} (h : hiB et c' en it e = true) : hiOk T et.subB c' en it e := by
  unfold hiB at h
  split at h
  · trivial
  · exact of_decide_eq_true (p := _ = _) h
  · exact of_decide_eq_true (p := _ = _) h
  · exact of_decide_eq_true (p := _ = _) h
  · rename_i f x p n p2
    obtain ⟨h1, h2⟩ := and2 h
    refine ⟨of_decide_eq_true h1, fun d hd => ?_⟩
    have hlt : et.clip d < et.exc.length := by unfold ETab.clip; omega
    have := List.all_eq_true.mp h2 (et.clip d) (List.mem_range.mpr hlt)
    have e1 : et.subB (et.clip d) c' = et.subB d c' := by unfold ETab.subB; rw [et.clip_clip]
    have e2 : et.fldL (et.clip d) = et.fldL d := by unfold ETab.fldL; rw [et.clip_clip]
    rw [e1, hd, e2] at this
    rw [hf]
    simpa using this
  · cases h
theorem his_of {c' : Nat} {en : Str} (hf : ∀ c, T.fld c = et.fldL c) (hp : 0 < et.exc.length) : ∀ {its : List HI} {es : List Expr}, hiBs et c' en its es = true → HiOks T et.subB c' en its es
  | [], [], _ => .nil
  | [], _ :: _, h => nomatch h
  | _ :: _, [], h => nomatch h
  | i :: is, e :: es, h => by
    unfold hiBs at h
    obtain ⟨h1, h2⟩ := and2 h
    exact .cons (hi_of hf hp h1) (his_of hf hp h2)
theorem names2_of : ∀ {ts : List Expr} {ns : List Str}, names2 ts = some ns → ∃ ps : List Pos, ps.length = ns.length ∧ ts = (ns.zip ps).map fun q => .Name q.1 q.2
  | [], ns, h => by cases h; exact ⟨[], rfl, rfl⟩
  | e :: r, ns, h => by
    cases e with
    | Name x p =>
      have h : (names2 r).map (x :: ·) = some ns := h
      obtain ⟨ms, h1, rfl⟩ := Option.map_eq_some_iff.mp h
      obtain ⟨ps, h2, rfl⟩ := names2_of h1
      exact ⟨p :: ps, by rw [List.length_cons, List.length_cons, h2], rfl⟩
    | _ => cases h
theorem tgN {i : Nat} {x : Str} {mt : MT} {p : Pos} (h : tgB c mt (.Name x p) = true) : ∃ i, mt = .nm i ∧ c.N[i]? = some x := by
  cases mt with
  | nm i =>
    unfold tgB at h
    exact ⟨i, rfl, of_decide_eq_true (and2 h).1⟩
  | tp ts => unfold tgB at h; cases h
/-- a store of a value -/
theorem asg_ok (G : Good t X T E) (I : InS c X) (tk : Takes X W) {mt : MT} {m : ME} {tg e : Expr} {pos : Pos} (h : asgB t c mt m tg e = true) : QS X T E.L W (.Assign [tg] e pos) (dAsg mt (evE E m)) := by
  have hE : evE E m = fun σ h => (evT E m σ h).bind settle := rfl
  -- any target, a value that is stored as it comes
  have plain : ∀ {tg e : Expr}, tgB c mt tg = true → ckT t c m e = true → swapsWith e (some tg) pos.line X.env = pure false → swappedStores [tg] e X.env = pure none → (∀ x p, tg ≠ .Starred x p) → QS X T E.L W (.Assign [tg] e pos) (dAsg mt (evE E m)) := fun {tg e} g1 g2 g3 g4 g5 => by
    refine s_asg (settle_ok (s_all m c X E W e G I.toIn tk g2).1) (tg_ok I.toIn mt tg g1) g3 g4 ?_
    cases tg with
    | Starred x p => exact absurd rfl (g5 x p)
    | _ => rfl
  unfold asgB at h
  split at h
  · -- tuple = tuple
    rename_i ms ts k p vs k2 p2
    obtain ⟨h1, h⟩ := and2 h
    have sw := sw_eq (ts := ts) (vs := vs) (k := k) (k2 := k2) (p := p) (p2 := p2) (env := X.env) I.kind (by rw [I.sc]; exact h1)
    rw [I.sc] at sw
    split at h
    · rename_i hn
      obtain ⟨h2, h3⟩ := and2 h
      rw [hn] at sw
      exact plain h2 h3 rfl sw (fun _ _ q => nomatch q)
    · rename_i ns hn
      obtain ⟨h2, h⟩ := and2 h
      obtain ⟨h3, h⟩ := and2 h
      obtain ⟨h4, h⟩ := and2 h
      obtain ⟨h5, h⟩ := and2 h
      obtain ⟨h6, h7⟩ := and2 h
      rw [hn] at sw
      have hc := I.calm h2
      cases mt with
      | nm i => cases h5
      | tp us =>
        obtain ⟨h8, h9⟩ := and2 (show (decide (us.length = ns.length) && (tgBs c us ts && ns.all fun n => decide (c.sc.names.lookup n = some .local))) = true from h5)
        obtain ⟨h10, h11⟩ := and2 h9
        obtain ⟨ps, hp, rfl⟩ := names2_of (of_decide_eq_true h4)
        have ev : dAsg (.tp us) (evE E (.tup ms)) = dAsg (.tp us) fun σ h => ((evs E ms σ h).bind fun vs h => if vs.length ≤ sizeLine then Res.ok (TV.v (.tup vs)) h else .bad).bind settle := by
          funext σ h; simp only [dAsg, evE, evT]
        rw [ev]
        have v1 := (s_ls ms).1 c X E W vs G I.toIn tk h7 |>.1
        have loc : ∀ n ∈ ns, X.env.scope.names.lookup n = some .local := fun n m => by rw [I.sc]; exact of_decide_eq_true (List.all_eq_true.mp h11 n m)
        have hlen : ns.length = vs.length := of_decide_eq_true h6
        have hul : us.length = ns.length := of_decide_eq_true h8
        have h23 : ns.length = 2 ∨ ns.length = 3 := by
          have : ((ns.zip ps).map fun q => Expr.Name q.1 q.2).length = ns.length := by simp [hp]
          unfold swN at hn
          split at hn
          · cases hn
          · rename_i q
            rw [this] at q
            simp only [Bool.or_eq_true, Bool.not_eq_true', Bool.or_eq_false_iff, beq_eq_false_iff_ne, bne_iff_ne, not_or, not_and, ne_eq, Decidable.not_not] at q
            by_cases q2 : ns.length = 2
            · exact .inl q2
            · exact .inr (q.1 q2)
        have nm : ∀ {u : MT} {x : Str} {p : Pos}, tgB c u (.Name x p) = true → ∃ i, u = .nm i ∧ X.N[i]? = some x := fun {u x p} q => by
          obtain ⟨i, e1, e2⟩ := tgN (i := 0) q
          exact ⟨i, e1, by rw [I.N]; exact e2⟩
        have ne : ∀ {i j : Nat} {x y : Str}, X.N[i]? = some x → X.N[j]? = some y → x ≠ y → i ≠ j := fun e1 e2 n q => n (by subst q; rw [e1] at e2; exact Option.some.inj e2)
        have ndp : ns.Nodup := of_decide_eq_true h3
        match ns, ps, us, vs, hp, hlen, hul, h23, h10, v1, loc, sw, ndp with
        | [x, y], [px, py], [u1, u2], [a, b], _, _, _, _, h10, v1, loc, sw, ndp =>
          unfold tgBs at h10
          obtain ⟨g1, g2⟩ := and2 h10
          unfold tgBs at g2
          obtain ⟨g2, _⟩ := and2 g2
          obtain ⟨i, rfl, i1⟩ := nm g1
          obtain ⟨j, rfl, j1⟩ := nm g2
          have d : x ≠ y := by simp at ndp; exact ndp
          exact s_par2 hc I.nd i1 j1 (ne i1 j1 d) (loc x (by simp)) (loc y (by simp)) v1 sw rfl
        | [x, y, z], [px, py, pz], [u1, u2, u3], [a, b, d], _, _, _, _, h10, v1, loc, sw, ndp =>
          unfold tgBs at h10
          obtain ⟨g1, g2⟩ := and2 h10
          unfold tgBs at g2
          obtain ⟨g2, g3⟩ := and2 g2
          unfold tgBs at g3
          obtain ⟨g3, _⟩ := and2 g3
          obtain ⟨i, rfl, i1⟩ := nm g1
          obtain ⟨j, rfl, j1⟩ := nm g2
          obtain ⟨l, rfl, l1⟩ := nm g3
          have d : (x ≠ y ∧ x ≠ z) ∧ y ≠ z := by simpa using ndp
          exact s_par3 hc I.nd i1 j1 l1 (ne i1 j1 d.1.1) (ne i1 l1 d.1.2) (ne j1 l1 d.2) (loc x (by simp)) (loc y (by simp)) (loc z (by simp)) v1 sw rfl
  · -- name = [..]
    rename_i y py elt gs cs p
    obtain ⟨h1, h⟩ := and2 h
    obtain ⟨h2, h3⟩ := and2 h
    have hl : X.env.scope.names.lookup y = some .local := by rw [I.sc]; exact of_decide_eq_true h1
    obtain ⟨i, rfl, hi⟩ := tgN (i := 0) h2
    have hi : X.N[i]? = some y := by rw [I.N]; exact hi
    have q := swLc_eq (elt := elt) (gs := gs) (cs := cs) (p := p) (py := py) (y := y) (l := pos.line) (env := X.env) I.kind
    cases hsw : swLc X.env.scope y py cs p with
    | false =>
      rw [hsw] at q
      exact plain h2 h3 q rfl (fun _ _ q => nomatch q)
    | true =>
      rw [hsw] at q
      cases m with
      | lc elt' tg' src ifs own =>
        match gs, h3 with
        | [⟨g, it, fs, 0⟩], h3 =>
          obtain ⟨ok, hf, hsrc⟩ := lc_ok (t := t) (T := T) (s_all elt') (s_ls ifs) G I.toIn h3
          have ev : evE E (.lc elt' tg' src ifs own) = fun σ h => (dLc (evI E src) tg' (own.map (·.2)) (fun L => evIfs { E with L := L } ifs) (fun L => evT { E with L := L } elt') E.L σ h).bind settle := by rw [← lc_eq]; rfl
          rw [ev]
          rcases s_src (t := t) (T := T) src c X E W it G I.toIn tk hsrc with ⟨k, x, p', rfl, rfl, hv⟩ | ⟨q2, hl2⟩
          · obtain ⟨v1, v2, v3, v4⟩ := I.toIn.var hv
            rw [lcN_eq]
            exact s_setLcN ok v1 v2 v3 v4 (fold_of hf) hi hl q
          · exact s_setLc ok (q2 g) hl2 (fold_of hf) hi hl q
      | lit v => cases v <;> exact no h3
      | _ => exact no h3
  · rename_i y py hne
    obtain ⟨h1, h⟩ := and2 h
    obtain ⟨h2, h3⟩ := and2 h
    have h1 : isLc e = false := by simpa using h1
    exact plain h2 h3 (sw_no h1) (st_no rfl (fun _ _ q => nomatch q)) (fun _ _ q => nomatch q)
  · rename_i ts k p hne
    obtain ⟨h1, h⟩ := and2 h
    obtain ⟨h2, h3⟩ := and2 h
    have h1 : isTup e = false := by simpa using h1
    exact plain h2 h3 (sw_noN (tg := .Tuple ts k p) (fun _ _ q => nomatch q)) (st_no (by rw [h1, Bool.and_false]) (fun _ _ q => nomatch q)) (fun _ _ q => nomatch q)
  · cases h
end
end MP

set_option linter.all false
set_option autoImplicit false
set_option maxHeartbeats 4000000
/-! MiniPy: statements are read as MiniPy reads them: the recursion. -/
namespace MP
open PySem PyProof.Rows L2

def toDH (S : SubT) (E : Ev) : MHd → DH
  | .hd c ss => .pl c (evSs S E ss)
  | .as c i its => .as c i its
theorem evH_eq {S : SubT} {E : Ev} : ∀ {hs : List MHd} {c : Nat} {vs : List MV} {σ : MS} {h : MH}, evH S E hs c vs σ h = dH S (hs.map (toDH S E)) c vs σ h
  | [], c, vs, σ, h => by simp only [evH, List.map_nil, dH]
  | .hd d ss :: hs, c, vs, σ, h => by
    rw [List.map_cons, toDH]
    simp only [evH, dH]
    rw [evH_eq]
    try rfl
  | .as d i its :: hs, c, vs, σ, h => by
    rw [List.map_cons, toDH]
    simp only [evH, dH]
    rw [evH_eq]
    try rfl
def R1 (t : Tab) (et : ETab) (T : XT) (s : MSt) : Prop := ∀ (c : CE) (X : Cx) (E : Ev) (W : WX) (st : Stmt), GoodS t et X T E → InS c X → Takes X W → ckS t et c s st = true → QS X T E.L W st (evS et.subB E s)
def RL (t : Tab) (et : ETab) (T : XT) (ss : List MSt) : Prop := ∀ (c : CE) (X : Cx) (E : Ev) (W : WX) (sts : List Stmt), GoodS t et X T E → InS c X → Takes X W → ckSs t et c ss sts = true → QSs X T E.L W sts (evSs et.subB E ss)
def RH1 (t : Tab) (et : ETab) (T : XT) (s : MHd) : Prop := ∀ (c : CE) (X : Cx) (E : Ev) (hd : ExceptHandler) (hds : List ExceptHandler) (hs : List DH) (l : List (Option Nat × Value × TSX)), GoodS t et X T E → InS c X → ckH t et c s hd = true → HsOk X T et.subB E.L hds hs l → ∃ l', HsOk X T et.subB E.L (hd :: hds) (toDH et.subB E s :: hs) l'
def RHL (t : Tab) (et : ETab) (T : XT) (ss : List MHd) : Prop := ∀ (c : CE) (X : Cx) (E : Ev) (hds : List ExceptHandler), GoodS t et X T E → InS c X → ckHs t et c ss hds = true → ∃ l, HsOk X T et.subB E.L hds (ss.map (toDH et.subB E)) l
section
variable {t : Tab} {et : ETab} {T : XT}
theorem GoodS.suite {X : Cx} {E : Ev} (G : GoodS t et X T E) (a : Addr) (pn : List (Addr × Obj)) : GoodS t et (X.suite a pn) T E :=
  ⟨⟨fun h => absurd (show false = true from h) Bool.false_ne_true, G.glb, G.blt, G.un⟩, G.exc, fun h => absurd (show false = true from h) Bool.false_ne_true, G.F, G.fld, G.pos⟩
theorem GoodS.tr {X : Cx} {E : Ev} (G : GoodS t et X T E) (pn : List (Addr × Obj)) (xe : Value → Shared → Prop) : GoodS t et (X.tr pn xe) T E :=
  ⟨⟨fun h i x n kws q => let k := G.defs h i x n kws q; ⟨k.ex, k.bad⟩, G.glb, G.blt, G.un⟩, G.exc, fun h c x n q => let k := G.rse h c x n q; ⟨k.ex, k.len, k.small⟩, G.F, G.fld, G.pos⟩
theorem InS.suite {c : CE} {X : Cx} (I : InS c X) (a : Addr) (pn : List (Addr × Obj)) : InS { c with calm := false } (X.suite a pn) :=
  ⟨⟨I.N, I.sc, I.fn, I.nd, fun h => absurd (show false = true from h) Bool.false_ne_true⟩, I.stk, I.fr, PassesOwn.never, I.kind, I.loc⟩
theorem InS.tr {c : CE} {X : Cx} (I : InS c X) (pn : List (Addr × Obj)) (xe : Value → Shared → Prop) (own : PassesOwn (model X.prog X.w) X.A X.env xe) : InS c (X.tr pn xe) :=
  ⟨⟨I.N, I.sc, I.fn, I.nd, I.calm⟩, I.stk, I.fr, own, I.kind, I.loc⟩
theorem r_asg (mt : MT) (m : ME) : R1 t et T (.asg mt m) := fun c X E W st G I tk h => by
  cases st with
  | Assign ts e p =>
    match ts, h with
    | [tg], h =>
      have h : asgB t c mt m tg e = true := h
      have ev : evS et.subB E (.asg mt m) = dAsg mt (evE E m) := by funext σ h; simp only [evS, dAsg]; try rfl
      rw [ev]
      exact asg_ok G.toGood I tk h
    | [], h => exact no h
    | _ :: _ :: _, h => exact no h
  | _ => exact no h
theorem r_sub (o i m : ME) : R1 t et T (.sub o i m) := fun c X E W st G I tk h => by
  cases st with
  | Assign ts e p =>
    match ts, h with
    | [tg], h =>
     cases tg with
     | Subscript x y p' =>
       have h : (plainIxB y && (ckT t c m e && (ckT t c o x && ckT t c i y))) = true := h
       obtain ⟨h1, h⟩ := and2 h
       obtain ⟨h2, h⟩ := and2 h
       obtain ⟨h3, h4⟩ := and2 h
       have ev : evS et.subB E (.sub o i m) = fun σ h => (evE E m σ h).st σ fun v h => (evE E o σ h).st σ fun x h => (evE E i σ h).st σ fun j h => (match setItT E.L h x j v with
         | some h' => .next σ h'
         | none => .bad) := by funext σ h; simp only [evS]; try rfl
       rw [ev]
       have hu : X.A.units + 1 < cLine := by have := G.un; omega
       refine s_sub hu (settle_ok (s_all m c X E W e G.toGood I.toIn tk h2).1) (settle_ok (s_all o c X E W x G.toGood I.toIn tk h3).1) (settle_ok (s_all i c X E W y G.toGood I.toIn tk h4).1) (fun v => ?_) (sw_noN (tg := .Subscript x y p') (l := p.line) (env := X.env) (fun _ _ q => nomatch q)) (st_no rfl (fun _ _ q => nomatch q)) rfl
       cases y <;> first | rfl | exact no h1
     | _ => exact no h
    | [], h => exact no h
    | q :: _ :: _, h => cases q <;> exact no h
  | _ => exact no h
theorem r_aug (i : Nat) (op : Operator) (m : ME) : R1 t et T (.aug i op m) := fun c X E W st G I tk h => by
  cases st with
  | AugAssign tg op' e p =>
    cases tg with
    | Name x p1 =>
      have h : (decide (op = op') && (tgB c (.nm i) (.Name x ⟨0, 0, 0, 0⟩) && ckT t c m e)) = true := h
      obtain ⟨h1, h⟩ := and2 h
      obtain ⟨h2, h3⟩ := and2 h
      have e1 := of_decide_eq_true h1
      subst e1
      have ev : evS et.subB E (.aug i op m) = fun σ h => (match σ[i]? with
        | some (some x) => (evE E m σ h).st σ fun v h => (match augT op x v with
          | some y => .next (σ.set i (some y)) h
          | none => .bad)
        | _ => .bad) := by funext σ h; simp only [evS]; try rfl
      rw [ev]
      unfold tgB lkp at h2
      simp only [Bool.and_eq_true, decide_eq_true_eq, Bool.or_eq_true, beq_iff_eq] at h2
      obtain ⟨k1, k2, k3⟩ := h2
      have hi : X.N[i]? = some x := by rw [I.N]; exact k1
      have hv := settle_ok (s_all m c X E W e G.toGood I.toIn tk h3).1
      rcases k2 with k2 | ⟨k2, k4⟩
      · exact s_aug I.nd hi (.inl (by rw [I.sc]; exact k2)) hv (.inr (by rw [I.sc]; exact k2))
      · exact s_aug I.nd hi (.inr (by rw [I.sc]; exact k2)) hv (.inl (I.fn x k4))
    | _ => exact no h
  | _ => exact no h
theorem r_exp (m : ME) : R1 t et T (.exp m) := fun c X E W st G I tk h => by
  cases st with
  | Expr e p =>
    have h : (!isLc e && ckT t c m e) = true := h
    obtain ⟨h1, h2⟩ := and2 h
    have ev : evS et.subB E (.exp m) = fun σ h => (evT E m σ h).st σ fun _ h => .next σ h := by funext σ h; simp only [evS]
    rw [ev]
    exact s_exp (s_all m c X E W e G.toGood I.toIn tk h2).1 (sw_no (by simpa using h1))
  | _ => exact no h
theorem r_ifs (m : ME) (a b : List MSt) (ia : RL t et T a) (ib : RL t et T b) : R1 t et T (.ifs m a b) := fun c X E W st G I tk h => by
  cases st with
  | If e xs ys p =>
    have h : (ckT t c m e && (ckSs t et c a xs && ckSs t et c b ys)) = true := h
    obtain ⟨h1, h⟩ := and2 h
    obtain ⟨h2, h3⟩ := and2 h
    have ev : evS et.subB E (.ifs m a b) = fun σ h => (dTru (evT E m) σ h).st σ fun k h => if k then evSs et.subB E a σ h else evSs et.subB E b σ h := by
      funext σ h
      simp only [evS, dTru]
      cases evT E m σ h with
      | bad => rfl
      | exc c vs h1 => rfl
      | ok x h1 =>
        simp only [Res.st_ok, Res.bind_ok]
        cases MP.tru h1 x with
        | none => rfl
        | some k => cases k <;> rfl
    rw [ev]
    exact s_if (s_all m c X E W e G.toGood I.toIn tk h1).2.1 (ia c X E W xs G I tk h2) (ib c X E W ys G I tk h3)
  | _ => exact no h
theorem forN {L : List Nat} {i : Nat} {E : Ev} {mt : MT} {fb : MS → MH → SR} (σ : MS) (h : MH) : dFor L (dItN L i) mt fb σ h = .bad ∨ dFor L (dItN L i) mt fb σ h = dFor L (dItV L (evT E (.var i))) mt fb σ h := by
  cases e : σ[i]? with
  | none => left; simp only [dFor, dItN, e, Res.bind_bad, Res.st_bad]
  | some o => cases o with
    | none => left; simp only [dFor, dItN, e, Res.bind_bad, Res.st_bad]
    | some v =>
      have e1 : evT E (.var i) σ h = .ok (.v v) h := by simp only [evT, e]
      have e2 : dItN L i σ h = Res.of h (itE true L h (.v v)) := by simp only [dItN, e, Res.bind_ok]
      have e3 : dItV L (evT E (.var i)) σ h = Res.of h (itE false L h (.v v)) := by simp only [dItV, e1, Res.bind_ok]
      simp only [dFor, e2, e3]
      unfold itE
      cases itOf h (.v v) with
      | none => exact .inl rfl
      | some it =>
        simp only [Option.bind_some]
        cases lk : it.lock with
        | none => exact .inr rfl
        | some p =>
          left
          by_cases c : p ∉ L
          · have q : (if True ∧ ¬p ∈ L then some it else none) = some it := if_pos ⟨trivial, c⟩
            simp only [q, Res.of_some, Res.st_ok, lk]
          · have q : (if True ∧ ¬p ∈ L then some it else none) = none := if_neg (fun z => c z.2)
            simp only [q, Res.of_none, Res.st_bad]
theorem r_for (tg : MT) (src : MI) (body : List MSt) (ib : RL t et T body) : R1 t et T (.fors tg src body) := fun c X E W st G I tk h => by
  cases st with
  | For g it xs ys p =>
    cases ys with
    | nil =>
      have h : (c.calm && (foldOk it && (tgB c tg g && (ckI t c src it && ckSs t et c body xs)))) = true := h
      obtain ⟨h1, h⟩ := and2 h
      obtain ⟨h2, h⟩ := and2 h
      obtain ⟨h3, h⟩ := and2 h
      obtain ⟨h4, h5⟩ := and2 h
      have ev : evS et.subB E (.fors tg src body) = dFor E.L (evI E src) tg (evSs et.subB E body) := by
        funext σ h
        simp only [evS, dFor]
        congr 1
        funext it h
        unfold Ev.unlocked
        cases it.lock with
        | none => simp only [if_true]; try rfl
        | some p => simp only [Bool.false_eq_true, if_false]
      rw [ev]
      have hb := ib c X E W xs G I tk h5
      have hg := tg_ok I.toIn tg g h3
      rcases s_src (t := t) (T := T) src c X E W it G.toGood I.toIn tk h4 with ⟨i, x, p', rfl, rfl, hv⟩ | ⟨q, _⟩
      · have qv := (s_all (t := t) (T := T) (.var i) c X E W (.Name x p') G.toGood I.toIn tk hv).1
        rw [lcN_eq]
        refine PS.imp (s_for (pos := p) I.own (I.calm h1) (i_val qv) hg hb (fold_of h2)) fun D σ H ⟨μ, h, σm, ri, pp⟩ => ⟨μ, h, σm, ri, ?_⟩
        rcases forN (L := E.L) (i := i) (E := E) (mt := tg) (fb := evSs et.subB E body) σm h with e | e
        · rw [e] at pp; exact pp.elim
        · rw [e] at pp; exact pp
      · exact s_for I.own (I.calm h1) (q g) hg hb (fold_of h2)
    | cons _ _ => exact no h
  | _ => exact no h
theorem r_whl (m : ME) (body : List MSt) (ib : RL t et T body) : R1 t et T (.whl m body) := fun c X E W st G I tk h => by
  cases st with
  | While e xs ys p =>
    cases ys with
    | nil =>
      have h : (ckT t c m e && ckSs t et c body xs) = true := h
      obtain ⟨h1, h2⟩ := and2 h
      have ev : evS et.subB E (.whl m body) = fun σ h => whileS (dTru (evT E m)) (evSs et.subB E body) fuelW σ h := by
        funext σ h
        simp only [evS]
      rw [ev]
      exact s_whl I.own (s_all m c X E W e G.toGood I.toIn tk h1).2.1 (ib c X E W xs G I tk h2)
    | cons _ _ => exact no h
  | _ => exact no h
theorem r_ret (m : ME) : R1 t et T (.ret m) := fun c X E W st G I tk h => by
  cases st with
  | Return eo p =>
    cases eo with
    | some e =>
      have h : ckT t c m e = true := h
      have ev : evS et.subB E (.ret m) = fun σ h => (evE E m σ h).st σ fun v h => .ret v h := by funext σ h; simp only [evS]
      rw [ev]
      exact s_ret (settle_ok (s_all m c X E W e G.toGood I.toIn tk h).1)
    | none => exact no h
  | _ => exact no h
theorem r_retN : R1 t et T .retN := fun c X E W st G I tk h => by
  cases st with
  | Return eo p =>
    cases eo with
    | none =>
      have ev : evS et.subB E .retN = fun _ h => .ret .non h := by funext σ h; simp only [evS]
      rw [ev]; exact s_retN
    | some _ => exact no h
  | _ => exact no h
theorem r_pass : R1 t et T .pass := fun c X E W st G I tk h => by
  cases st with
  | Pass p =>
    have ev : evS et.subB E .pass = fun σ h => .next σ h := by funext σ h; simp only [evS]
    rw [ev]; exact s_pass
  | _ => exact no h
theorem r_brk : R1 t et T .brk := fun c X E W st G I tk h => by
  cases st with
  | Break p =>
    have ev : evS et.subB E .brk = fun σ h => .brk σ h := by funext σ h; simp only [evS]
    rw [ev]; exact s_brk
  | _ => exact no h
theorem r_cnt : R1 t et T .cnt := fun c X E W st G I tk h => by
  cases st with
  | Continue p =>
    have ev : evS et.subB E .cnt = fun σ h => .cnt σ h := by funext σ h; simp only [evS]
    rw [ev]; exact s_cnt
  | _ => exact no h
theorem r_rse (d : Nat) (es : List ME) : R1 t et T (.rse d es) := fun c X E W st G I tk h => by
  cases st with
  | Raise eo co p =>
    cases eo with
    | none => exact no h
    | some ex =>
     cases co with
     | some _ => cases ex with
       | Call fe xs0 kw p2 => cases fe <;> cases xs0 <;> cases kw <;> exact no h
       | _ => exact no h
     | none =>
      cases ex with
      | Call fe xs0 kw p2 =>
       cases fe with
       | Name f p1 =>
        cases xs0 with
        | nil => cases kw <;> exact no h
        | cons x xs =>
         cases kw with
         | cons _ _ => exact no h
         | nil =>
           have h : (c.calm && (glB c f && ((match et.exc[d]? with | some (y, some n) => decide (y = f) && decide (n = (x :: xs).length) | _ => false) && ckTs t c es (x :: xs)))) = true := h
           obtain ⟨h1, h⟩ := and2 h
           obtain ⟨h2, h⟩ := and2 h
           obtain ⟨h3, h4⟩ := and2 h
           split at h3
           · rename_i y n q
             obtain ⟨h5, h6⟩ := and2 h3
             have e1 := of_decide_eq_true h5
             have e2 := of_decide_eq_true h6
             subst e1
             obtain ⟨g1, g2⟩ := I.toIn.gl h2
             have R := G.rse (I.calm h1) d _ n q
             rw [e2] at R
             have hst := ckTs_star h4
             rw [List.all_cons, Bool.and_eq_true] at hst
             have ev : evS et.subB E (.rse d es) = fun σ h => (evs E es σ h).st σ fun vs h => .exc d vs σ h := by funext σ h; simp only [evS]
             rw [ev]
             exact s_raise (I.calm h1) tk R (fun σ h as h' e => by rw [evs_len e]; exact ckTs_len h4) g1 g2 ((s_ls es).1 c X E W _ G.toGood I.toIn tk h4).1 (star_cons hst.1) (star_any hst.2)
           · cases h3
       | _ => cases xs0 <;> cases kw <;> exact no h
      | _ => exact no h
  | _ => exact no h
theorem r_tr (body : List MSt) (hs : List MHd) (ib : RL t et T body) (ih : RHL t et T hs) : R1 t et T (.tr body hs) := fun c X E W st G I tk h => by
  cases st with
  | Try xs hds0 os fs p =>
    cases hds0 with
    | nil => exact no h
    | cons hd hds =>
     cases os with
     | cons _ _ => exact no h
     | nil =>
      cases fs with
      | cons _ _ => exact no h
      | nil =>
        have h : (decide c.N.Nodup && (ckSs t et c body xs && ckHs t et c hs (hd :: hds))) = true := h
        obtain ⟨_, h⟩ := and2 h
        obtain ⟨h2, h3⟩ := and2 h
        obtain ⟨l, hl⟩ := ih c X E (hd :: hds) G I h3
        have ev : evS et.subB E (.tr body hs) = fun σ h => (match evSs et.subB E body σ h with
          | .exc c vs σ' h' => dH et.subB (hs.map (toDH et.subB E)) c vs σ' h'
          | r => r) := by
          funext σ h
          simp only [evS]
          cases evSs et.subB E body σ h <;> first | rfl | exact evH_eq
        rw [ev]
        exact s_try G.F I.loc I.stk I.fr I.nd tk (fun W pn xe tk' own => ib c _ E W xs (G.tr pn xe) (I.tr pn xe own) tk' h2) hl
  | _ => exact no h
theorem r_hd (d : Nat) (ss : List MSt) (is_ : RL t et T ss) : RH1 t et T (.hd d ss) := fun c X E hd hds hs l G I h hl => by
  cases hd with
  | ExceptHandler te nm ys0 p2 =>
   cases te with
   | none => exact no h
   | some tx =>
    cases tx with
    | Name x p1 =>
     cases nm with
     | some _ => exact no h
     | none =>
      cases ys0 with
      | nil => exact no h
      | cons y ys =>
        have h : (glB c x && ((match et.exc[d]? with | some (z, _) => decide (z = x) | none => false) && ckSs t et { c with calm := false } ss (y :: ys))) = true := h
        obtain ⟨h1, h⟩ := and2 h
        obtain ⟨h2, h3⟩ := and2 h
        obtain ⟨g1, g2⟩ := I.toIn.gl h1
        split at h2
        · rename_i z o q
          have e := of_decide_eq_true h2
          subst e
          exact ⟨_, .pl ⟨g1, g2, .inl (G.exc d _ o q)⟩ (fun a ob pn => is_ _ _ E W0 _ (G.suite a _) (I.suite a _) takes0 h3) hl⟩
        · cases h2
    | _ => cases nm <;> exact no h
theorem r_as (d i : Nat) (its : List HI) : RH1 t et T (.as d i its) := fun c X E hd hds hs l G I h hl => by
  cases hd with
  | ExceptHandler te nm ys0 p2 =>
   cases te with
   | none => exact no h
   | some tx =>
    cases tx with
    | Name x p1 =>
     cases nm with
     | none => exact no h
     | some n =>
      cases ys0 with
      | nil => exact no h
      | cons y ys =>
       cases ys with
       | cons _ _ => cases y with
         | Return ro _ => cases ro with
           | none => exact no h
           | some re => cases re <;> exact no h
         | _ => exact no h
       | nil =>
        cases y with
        | Return ro p4 =>
         cases ro with
         | none => exact no h
         | some re =>
          cases re with
          | List es p3 =>
            have h : (glB c x && ((match et.exc[d]? with | some (z, _) => decide (z = x) | none => false) && (decide (c.N[i]? = some n) && (decide (lkp c n = some .local) && (decide (its.length ≤ 100) && hiBs et d n its es))))) = true := h
            obtain ⟨h1, h⟩ := and2 h
            obtain ⟨h2, h⟩ := and2 h
            obtain ⟨h3, h⟩ := and2 h
            obtain ⟨h4, h⟩ := and2 h
            obtain ⟨h5, h6⟩ := and2 h
            obtain ⟨g1, g2⟩ := I.toIn.gl h1
            split at h2
            · rename_i z o q
              have e := of_decide_eq_true h2
              subst e
              have hl' : its.length ≤ sizeLine := by have := of_decide_eq_true h5; rw [sizeLine_eq]; omega
              refine ⟨_, .as ⟨g1, g2, .inl (G.exc d _ o q)⟩ (by rw [I.N]; exact of_decide_eq_true h3) ?_ hl' (his_of G.fld G.pos h6) hl⟩
              show X.env.scope.names.lookup n = _
              rw [I.sc]
              exact of_decide_eq_true h4
            · cases h2
          | _ => exact no h
        | _ => exact no h
    | _ => cases nm <;> exact no h
theorem r_nil : RL t et T [] := fun c X E W sts G I tk h => by
  cases sts with
  | nil =>
    have ev : evSs et.subB E [] = fun σ h => .next σ h := by funext σ h; simp only [evSs]
    rw [ev]; exact ss_nil
  | cons _ _ => unfold ckSs at h; cases h
theorem r_cons (s : MSt) (ss : List MSt) (i1 : R1 t et T s) (i2 : RL t et T ss) : RL t et T (s :: ss) := fun c X E W sts G I tk h => by
  cases sts with
  | nil => unfold ckSs at h; cases h
  | cons st sts =>
    unfold ckSs at h
    obtain ⟨h1, h2⟩ := and2 h
    have ev : evSs et.subB E (s :: ss) = fun σ h => (evS et.subB E s σ h).then (evSs et.subB E ss) := by funext σ h; simp only [evSs]
    rw [ev]
    exact ss_cons (i1 c X E W st G I tk h1) (i2 c X E W sts G I tk h2)
theorem r_hnil : RHL t et T [] := fun c X E hds G I h => by
  cases hds with
  | nil => exact ⟨[], .nil⟩
  | cons _ _ => unfold ckHs at h; cases h
theorem r_hcons (s : MHd) (ss : List MHd) (i1 : RH1 t et T s) (i2 : RHL t et T ss) : RHL t et T (s :: ss) := fun c X E hds G I h => by
  cases hds with
  | nil => unfold ckHs at h; cases h
  | cons hd hds =>
    unfold ckHs at h
    obtain ⟨h1, h2⟩ := and2 h
    obtain ⟨l, hl⟩ := i2 c X E hds G I h2
    exact i1 c X E hd hds _ l G I h1 hl
theorem r_all : ∀ s, R1 t et T s := @MSt.rec (motive_1 := R1 t et T) (motive_2 := RH1 t et T) (motive_3 := RL t et T) (motive_4 := RHL t et T) r_asg r_sub r_aug r_exp r_ifs r_for r_whl r_ret r_retN r_pass r_brk r_cnt r_rse r_tr r_hd r_as r_nil r_cons r_hnil r_hcons
theorem r_ls : ∀ ss, RL t et T ss
  | [] => r_nil
  | s :: ss => r_cons s ss (r_all s) (r_ls ss)
end
end MP

set_option linter.all false
set_option autoImplicit false
set_option maxHeartbeats 4000000
/-! MiniPy: a whole program. -/
namespace MP
open PySem PyProof.Rows L2

/-- a def: as the text has it, as MiniPy has it -/
structure DI where
  name : Str
  params : Arguments
  body : List Stmt
  scope : Scope
  m : MDef
def DI.ce (D : DI) : CE := ⟨D.m.ns, D.scope, fun _ => true, true⟩
def DI.ps (D : DI) : List Str := D.m.ns.take D.m.ps
def fnScB (N ps : List Str) (sc : Scope) : Bool := (sc.kind == .function) && (!sc.isCoroutine && (!sc.isGenerator && (decide N.Nodup && (decide (N.take ps.length = ps) && (ps.all (fun x => sc.names.lookup x == some .local || sc.names.lookup x == some .cell) && sc.names.all fun y => y.2 != .free)))))
theorem fnScB_ok {N ps : List Str} {sc : Scope} (h : fnScB N ps sc = true) : FnScope N ps sc := by
  unfold fnScB at h
  simp only [Bool.and_eq_true, beq_iff_eq, Bool.not_eq_true', decide_eq_true_eq, List.all_eq_true, Bool.or_eq_true, bne_iff_ne] at h
  obtain ⟨h1, h2, h3, h4, h5, h6, h7⟩ := h
  exact ⟨h1, h2, h3, h4, h5, h6, h7⟩
def DI.ok (t : Tab) (et : ETab) (D : DI) : Bool := fnScB D.m.ns D.ps D.scope && (decide (D.ps.length = D.m.ps) && ((D.m.ns.all fun x => dbgOk x) && ckSs t et D.ce D.m.body D.body))
structure DefOk (K : PySem.W.Frag) (mg : Str → Option Value) (D : DI) : Prop where
  ex : ∃ f fd, FunD K D.name D.name D.params D.body D.scope [] [] f fd ∧ mg D.name = some (.ref f) ∧ Binds K fd D.ps [] ∧ ∀ q ∈ D.m.kws, ∀ (s : Shared) (us ws : List Value), K.In s.heap → us.length = q.1 → ws.length = q.2.1.length → (arr q.2.2 us ws).length = D.m.ps → BindsTo s fd ⟨us, q.2.1.zip ws⟩ (D.ps.zip (arr q.2.2 us ws))
/-- a class of errors that can be raised -/
structure RsOk (P : Program) (w : World) (K : PySem.W.Frag) (mg : Str → Option Value) (base : Heap) (T : XT) (c n : Nat) : Prop where
  ex : ∃ (fI : Addr) (fd : FuncData) (ps : List Str), OexC K (T.adr c) ∧ PySem.W.findIn K (.ref (T.adr c)) "__init__" = some (some (.ref fI)) ∧ PySem.W.typeIn K (.ref fI) = some (.type "function") ∧ FnOk P w K mg base (L2.CX P w) 1 fI fd ps (spI (T.adr c) (T.fld c)) ∧ Binds K fd ps []
  len : (T.fld c).length = n
  small : n ≤ 1000
structure Prg (P : Program) (w : World) (K : PySem.W.Frag) (mg : Str → Option Value) (base : Heap) (T : XT) (t : Tab) (et : ETab) (Ds : List DI) (M : MProg) : Prop where
  ok : ∀ (i : Nat) D, Ds[i]? = some D → DefOk K mg D ∧ D.ok t et = true ∧ M.defs[i]? = some D.m
  tab : ∀ (i : Nat) x n kws, t.defs[i]? = some (x, n, kws) → ∃ D, Ds[i]? = some D ∧ D.name = x ∧ D.m.ps = n ∧ D.m.kws = kws
  sub : M.sub = et.subB
  glb : ∀ (X : Cx), X.K = K → X.mg = mg → ∀ (i : Nat) x v, t.glb[i]? = some (x, v) → GlbOk X x v ∧ M.glb[i]? = some v
  blt : ∀ x ∈ bltN, mg x = none
  exc : ∀ (c : Nat) x o, et.exc[c]? = some (x, o) → mg x = some (.ref (T.adr c))
  rse : ∀ (c : Nat) x n, et.exc[c]? = some (x, some n) → RsOk P w K mg base T c n
  F : ExcF K T et.subB
  fld : ∀ c, T.fld c = et.fldL c
  pos : 0 < et.exc.length
theorem callM_bad {M : MProg} {k d : Nat} {L : List Nat} {as : List MV} {h : MH} {D : MDef} (e : M.defs[d]? = some D) (n : as.length ≠ D.ps) : callM M k L d as h = .bad := by
  cases k with
  | zero => rfl
  | succ k => simp only [callM, e]; rw [if_neg n]
section
variable {P : Program} {w : World} {K : PySem.W.Frag} {mg : Str → Option Value} {base : Heap} {T : XT} {t : Tab} {et : ETab} {Ds : List DI} {M : MProg}
theorem rs_start {μ : List Addr} {H : Hp} {N : List Str} {as : List MV} {vs : List V} (r : RVs K μ H as vs) : RS K μ H (startM N.length as) (L2.start N vs) := by
  have l := r.length
  refine ⟨by simp [startM, L2.start, l], fun i x h => ?_⟩
  unfold startM at h
  unfold L2.start
  by_cases c : i < as.length
  · rw [List.getElem?_append_left (by simpa using c), List.getElem?_map] at h
    obtain ⟨a, e1, e2⟩ := Option.map_eq_some_iff.mp h
    cases e2
    obtain ⟨z, ez, rz⟩ := r.get e1
    exact ⟨z, by rw [List.getElem?_append_left (by simpa [← l] using c), List.getElem?_map, ez]; rfl, rz⟩
  · rw [List.getElem?_append_right (by simpa using c)] at h
    rw [List.getElem?_replicate] at h
    split at h <;> cases h
theorem out_sp {L : List Nat} {W : WX} {E : XK} {μ : List Addr} {H : Hp} {Q : VK} {r : SR} (hW : ∀ c d σ H, E c d H → W c d σ H) (p : Post K T L (fun a μ H z => RV K μ H a z) μ H E Q r.out) : SPost K T L W { nx := fun _ H' => Q .non H', rt := Q } μ H r := by
  cases r with
  | next σm h => exact fun μ' H' σ x ri => p μ' H' .non x ri.h .non
  | ret v h => exact fun μ' H' z x rh rv => p μ' H' z x rh rv
  | exc c vs σm h => exact fun μ' H' cls d σ x ri rx => hW _ _ _ _ (p μ' H' cls d x ri.h rx)
  | brk σm h => exact p.elim
  | cnt σm h => exact p.elim
  | bad => exact p.elim
theorem prog_ok (G : Prg P w K mg base T t et Ds M) : ∀ (k : Nat) (i : Nat) (D : DI), Ds[i]? = some D → ∀ f fd, FunD K D.name D.name D.params D.body D.scope [] [] f fd → FnOk P w K mg base (L2.CX P w) (k + 2) f fd D.ps (spM K T (fun L => callM M k L i) D.m.ps) := by
  intro k
  induction k with
  | zero =>
    intro i D hD f fd F
    refine ⟨fun vs H Q E ⟨L, μ, h, as, rh, ra, ln, p⟩ => p.elim, fun A outer s H args us vs Q E hr he hb hv ⟨L, μ, h, as, rh, ra, ln, p⟩ => p.elim⟩
  | succ k ih =>
    intro i D hD f fd F
    obtain ⟨dk, ok, em⟩ := G.ok i D hD
    obtain ⟨h1, h⟩ := and2 ok
    obtain ⟨h2, h⟩ := and2 h
    obtain ⟨h3, h4⟩ := and2 h
    have S := fnScB_ok h1
    have hl : D.ps.length = D.m.ps := of_decide_eq_true h2
    refine F.ok S (spM_len hl) fun cdv A outer s H vs Q E hr hsp => ?_
    obtain ⟨L, μ, h, as, rh, ra, ln, p⟩ := hsp
    generalize hX : cxOf (L2.CX P w) P w K mg base D.m.ns D.name D.scope f cdv A outer s H E = X
    have tk : Takes X (fun c d _ H => E c d H) := by rw [← hX]; exact takes_of rfl rfl rfl rfl
    have own : PassesOwn (model X.prog X.w) X.A X.env X.xe := by rw [← hX]; exact passes_of rfl
    have room : Room (k + 2) X.A := by rw [← hX]; exact hr
    have scE : X.env.scope = D.scope := by rw [← hX]; rfl
    have NE : X.N = D.m.ns := by rw [← hX]; rfl
    have I : InS D.ce X := by
      refine ⟨⟨NE, scE, fun x _ => by rw [← hX]; rfl, by rw [NE]; exact S.nd, fun _ => by rw [← hX]; rfl⟩, by rw [← hX]; rfl, by rw [← hX]; rfl, own, by rw [scE]; exact S.kind, fun j x e => ?_⟩
      rw [NE] at e
      exact dbg_of (List.all_eq_true.mp h3 x (List.mem_of_getElem? e))
    have e1 : X.prog = P := by rw [← hX]; rfl
    have e2 : X.w = w := by rw [← hX]; rfl
    have e3 : X.K = K := by rw [← hX]; rfl
    have e4 : X.mg = mg := by rw [← hX]; rfl
    have e5 : X.base = base := by rw [← hX]; rfl
    have GS : GoodS t et X T ⟨callM M k, M.glb, L⟩ := by
      refine ⟨⟨fun _ j x n kws e => ?_, fun j x v e => G.glb X e3 e4 j x v e, by rw [e4]; exact G.blt, ?_⟩, by rw [e4]; exact G.exc, fun _ c x n e => ?_, by rw [e3]; exact G.F, G.fld, G.pos⟩
      · obtain ⟨D', hD', rfl, rfl, rfl⟩ := G.tab j x n kws e
        obtain ⟨dk', _, em'⟩ := G.ok j D' hD'
        obtain ⟨f', fd', F', m', b', kb'⟩ := dk'.ex
        have hl' : D'.ps.length = D'.m.ps := of_decide_eq_true (and2 (and2 (G.ok j D' hD').2.1).2).1
        refine ⟨⟨f', fd', k + 2, D'.ps, by rw [e1, e2, e3, e4, e5]; exact ih j D' hD' f' fd' F', hl', room, by rw [e4]; exact m', by rw [e3]; exact F'.kp, by rw [e3]; exact b', by rw [e3]; exact kb'⟩, fun L as h n => callM_bad em' n⟩
      · have := room.un; omega
      · obtain ⟨⟨fI, fd', ps, o1, o2, o3, o4, o5⟩, o6, o7⟩ := G.rse c x n e
        exact ⟨⟨fI, fd', 1, ps, by rw [e3]; exact o1, by rw [e3]; exact o2, by rw [e3]; exact o3, by rw [e1, e2, e3, e4, e5]; exact o4, room.mono (by omega), by rw [e3]; exact o5, by rw [e4]; exact G.exc c x _ e⟩, o6, o7⟩
    have q := r_ls (t := t) (et := et) (T := T) D.m.body D.ce X ⟨callM M k, M.glb, L⟩ _ D.body GS I tk h4
    refine ⟨_, q, μ, h, startM D.m.ns.length as, ⟨by rw [e3]; exact rs_start ra, by rw [e3]; exact rh⟩, ?_⟩
    have ec : callM M (k + 1) L i as h = (evSs M.sub ⟨callM M k, M.glb, L⟩ D.m.body (startM D.m.ns.length as) h).out := by
      simp only [callM, em]
      rw [if_pos ln]
    have p : Post K T L (fun a μ H z => RV K μ H a z) μ H E Q (callM M (k + 1) L i as h) := p
    rw [ec, G.sub] at p
    rw [e3]
    exact out_sp (fun _ _ _ _ h => h) p
end
end MP

set_option linter.all false
set_option autoImplicit false
set_option maxHeartbeats 4000000
/-! MiniPy: the law. -/
namespace MP
open PySem PyProof.Rows L2

theorem bnd_of {P : Program} {w : World} {H : Hp} {h : Heap} (x : HOk P w H h) : Bnd H := fun a vs r => by
  rcases r with r | r
  · exact (show vs.length ≤ sizeLine ∧ _ from r.ok x).1
  · exact (show vs.length ≤ sizeLine ∧ _ from r.ok x).1
def spB (n : Nat) (sp : Sp) : Sp := fun vs H Q E => vs.length = n ∧ (Bnd H → sp vs H Q E)
theorem fn_bnd {P : Program} {w : World} {K : PySem.W.Frag} {mg : Str → Option Value} {base : Heap} {CX : CXT} {k n : Nat} {f : Addr} {fd : FuncData} {ps : List Str} {sp : Sp} (F : FnOk P w K mg base CX k f fd ps sp) (hn : ps.length = n) : FnOk P w K mg base CX k f fd ps (spB n sp) :=
  ⟨fun vs H Q E h => h.1.trans hn.symm, fun A outer s H args us vs Q E hr e0 hb r h => F.run A outer s H args us vs Q E hr e0 hb r (h.2 (bnd_of e0.hok))⟩
/-- no list stands in the written part -/
def NoList (K : PySem.W.Frag) : Prop := ∀ a o, K.lookup a = some o → o.cls ≠ .type "list"
theorem law_sp {K : PySem.W.Frag} {T : XT} {M : MProg} {k i : Nat} (nl : NoList K) (hev : ∀ ns : List Int, ns.length ≤ 63 → ∃ h, callM M k [] i [.ref 0] [.scr ns] = .ok (.bl true) h) (H : Hp) (a : Addr) (ns : List Int) (hl : ns.length ≤ 63) (ho : Only H) (hs : SqL K H a (ns.map V.int)) :
    spB 1 (spM K T (fun L => callM M k L i) 1) [.ref a] H (fun v _ => v = .bl true) fun _ _ _ => False := by
  refine ⟨rfl, fun b => ?_⟩
  obtain ⟨h, e⟩ := hev ns hl
  have fr : ∃ o, H a = some (.frz o (.lst (ns.map V.int))) := by
    rcases hs with (hs | hs) | ⟨o, its, n, h1, h2, _⟩
    · rcases ho a with q | ⟨o, xs, q⟩ <;> rw [hs] at q <;> cases q
    · exact hs
    · exact absurd h2 (nl a o h1)
  refine ⟨[], [a], [.scr ns], [.ref 0], ⟨rfl, by simp, fun j o b' e1 e2 => ?_, b⟩, .cons (.ref rfl) .nil, rfl, ?_⟩
  · match j, e1, e2 with
    | 0, e1, e2 => cases e1; cases e2; exact fr
    | j + 1, e1, _ => simp at e1
  · show Post K T [] _ [a] H _ _ (callM M k [] i [.ref 0] [.scr ns])
    rw [e]
    intro μ' H' z x rh rv
    cases rv
    rfl
/-! ### the Hook: facts of a part without lists -/
def notL (K : PySem.W.Frag) (a : Addr) : Bool := match K.lookup a with
  | some o => o.cls != .type "list"
  | none => false
def noL (K : PySem.W.Frag) : PySem.W.Frag := K.filter fun q => notL K q.1
theorem filter_lookup {α : Type} (g : Addr → Bool) (a : Addr) : ∀ (l : List (Addr × α)), (l.filter fun q => g q.1).lookup a = if g a then l.lookup a else none
  | [] => by simp
  | (b, o) :: r => by
    have ih := filter_lookup g a r
    rw [List.filter_cons]
    by_cases e : a = b
    · subst e
      by_cases c : g a = true
      · simp only [c, if_true, List.lookup_cons, beq_self_eq_true]
      · have c : g a = false := by simpa using c
        simp only [c, Bool.false_eq_true, if_false] at ih ⊢
        exact ih
    · have e' : (a == b) = false := by simpa using e
      by_cases c : g b = true
      · simp only [c, if_true, List.lookup_cons, e', ih]
      · have c : g b = false := by simpa using c
        simp only [c, Bool.false_eq_true, if_false, List.lookup_cons, e', ih]
theorem noL_lookup (K : PySem.W.Frag) (a : Addr) : (noL K).lookup a = if notL K a then K.lookup a else none := filter_lookup (notL K) a K
theorem noL_no (K : PySem.W.Frag) : NoList (noL K) := fun a o h => by
  rw [noL_lookup] at h
  by_cases c : notL K a = true
  · rw [if_pos c] at h
    unfold notL at c
    rw [h] at c
    simpa using c
  · rw [if_neg c] at h; cases h
theorem noL_in {K : PySem.W.Frag} {h : Heap} (k : K.In h) : (noL K).In h := fun a o e => by
  rw [noL_lookup] at e
  by_cases c : notL K a = true
  · rw [if_pos c] at e; exact k a o e
  · rw [if_neg c] at e; cases e
def obsM (n : Nat) (fa : List He.Fa) (fn : List He.DefD) (ex : PySem.W.Frag → Bool) (g : Addr → Option Obj) : He.AlD × Bool := (He.obsD fa fn (noL (He.frG g (cStatics :: He.asD g n))), ex (noL (He.frG g (cStatics :: He.asD g n))))
def hookM (n : Nat) (fa : List He.Fa) (fn : List He.DefD) (ex : PySem.W.Frag → Bool) : PySem.W.Hook where
  α := He.AlD × Bool
  obs := fun s => obsM n fa fn ex s.heap.get?
  val := fun _ => (He.valD fn, true)
  says := fun _ h => ∃ K : PySem.W.Frag, K.In h ∧ He.SaysD fa fn K ∧ ex K = true ∧ NoList K
  of := fun _ _ e => ⟨_, noL_in He.frG_in, congrArg (fun z : He.AlD × Bool => z.1) e, congrArg (fun z : He.AlD × Bool => z.2) e, noL_no _⟩
  keeps := fun _ _ _ ⟨K, hK, c⟩ k => ⟨K, PySem.W.Frag.In.keeps hK k, c⟩
theorem obsM_eq {n : Nat} {fa : List He.Fa} {fn : List He.DefD} {ex : PySem.W.Frag → Bool} {g : Addr → Option Obj} {s : Shared} (h : ∀ a, g a = s.heap.get? a) : obsM n fa fn ex g = (hookM n fa fn ex).obs s := by
  have e : g = s.heap.get? := funext h
  rw [e]; rfl
end MP

set_option linter.all false
set_option autoImplicit false
set_option maxHeartbeats 4000000
/-! MiniPy: from the head's facts to a program. -/
namespace MP
open PySem PyProof.Rows L2

def oexB (K : PySem.W.Frag) (C : Addr) : Bool := (match K.lookup C with
  | some ⟨.type "type", _, .cls cd, sl⟩ => (match cd.mro, sl.toList with
    | .ref C' :: bm, [_, _, _, _, some (.builtin n), _] => (C' == C) && ((n == "ValueError.__new__") && (!cd.hasDel && (cd.hasDict && PySem.HandSPX.refsVE bm)))
    | _, _ => false)
  | _ => false) && (decide (PySem.W.findIn K (.ref C) "__setattr__" = some (some (.builtin "object.__setattr__"))) && (decide (PySem.W.subIn K (.ref C) (.type "BaseException") = some true) && (decide (PySem.W.typeIn K (.ref C) = some (.type "type")) && PySem.W.keepIn K (.ref C))))
theorem oexB_ok {K : PySem.W.Frag} {C : Addr} (h : oexB K C = true) : OexC K C := by
  unfold oexB at h
  simp only [Bool.and_eq_true, decide_eq_true_eq] at h
  obtain ⟨h0, h1, h2, h3, h4⟩ := h
  refine ⟨?_, h1, h2, h3, h4⟩
  split at h0
  · rename_i dd cd sl ho
    split at h0
    · rename_i C' bm k0 k1 k2 k3 n k5 hm hs
      simp only [Bool.and_eq_true, beq_iff_eq, Bool.not_eq_true'] at h0
      obtain ⟨e1, e2, e3, e4, e5⟩ := h0
      obtain ⟨nm, bs, mro, ns, qn, hd, sn, sub, ab, col, del⟩ := cd
      dsimp only at hm e3 e4
      subst e1 e2 hm e3 e4
      have hsl : sl = #[k0, k1, k2, k3, some (.builtin "ValueError.__new__"), k5] := by
        obtain ⟨l⟩ := sl
        simp only at hs
        rw [hs]
      subst hsl
      exact ⟨nm, qn, ns, bs, bm, sn, sub, ab, col, dd, k0, k1, k2, k3, k5, ho, e5⟩
    · cases h0
  · cases h0
def ETab.nm (et : ETab) (c : Nat) : Str := (et.exc.getD (et.clip c) ("", none)).1
def xtOf (K : PySem.W.Frag) (et : ETab) : XT := ⟨fun c => He.ga K (et.nm c), et.fldL⟩
def excB (K : PySem.W.Frag) (et : ETab) : Bool := (List.range et.exc.length).all fun c => (List.range et.exc.length).all (fun d => decide (PySem.W.exmOne K (.ref (He.ga K (et.nm c))) (.ref (He.ga K (et.nm d))) = some (et.subB c d))) &&
  (xfB K (He.ga K (et.nm c)) && (et.fldL c).all fun g => decide (PySem.W.findIn K (.ref (He.ga K (et.nm c))) g = some none))
theorem excF_of {K : PySem.W.Frag} {et : ETab} (hp : 0 < et.exc.length) (h : excB K et = true) : ExcF K (xtOf K et) et.subB := by
  have lt : ∀ c, et.clip c ∈ List.range et.exc.length := fun c => List.mem_range.mpr (by unfold ETab.clip; omega)
  have en : ∀ c, et.nm (et.clip c) = et.nm c := fun c => by unfold ETab.nm; rw [et.clip_clip]
  have ef : ∀ c, et.fldL (et.clip c) = et.fldL c := fun c => by unfold ETab.fldL; rw [et.clip_clip]
  have es : ∀ c d, et.subB (et.clip c) (et.clip d) = et.subB c d := fun c d => by unfold ETab.subB; rw [et.clip_clip, et.clip_clip]
  have al := List.all_eq_true.mp h
  refine ⟨fun c d => ?_, fun c => ?_, fun c g m => ?_⟩
  · have := of_decide_eq_true (List.all_eq_true.mp (and2 (al _ (lt c))).1 _ (lt d))
    rw [en, en, es] at this
    exact this
  · have := (and2 (and2 (al _ (lt c))).2).1
    rw [en] at this
    exact xfB_ok this
  · have := (and2 (and2 (al _ (lt c))).2).2
    rw [en, ef] at this
    exact of_decide_eq_true (List.all_eq_true.mp this g m)
/-- an __init__: its class's number, its text -/
structure II where
  c : Nat
  cls : Str
  params : Arguments
  body : List Stmt
  scope : Scope
  ns : List Str
  base : Str
def II.d (i : II) : He.DefD := ⟨(i.cls, some "__init__"), "__init__", i.cls ++ (".__init__" : Str), i.params, i.body, i.scope, [], []⟩
def DI.d (D : DI) : He.DefD := ⟨(D.name, none), D.name, D.name, D.params, D.body, D.scope, [], []⟩
def fclB (K : PySem.W.Frag) (x : Str) : Bool := PySem.W.readsIn K (He.ga K x) (.type "type") && (decide (PySem.W.specialIn K (.ref (He.ga K x)) "__getattribute__" = some (some (.builtin "type.__getattribute__"))) && (match PySem.W.findCls K (.ref (He.ga K x)) (.type "type") "__init__" with
  | some (.val (.builtin s)) => s == "ValueError.__init__"
  | _ => false))
def II.okK (K : PySem.W.Frag) (et : ETab) (i : II) : Bool := oexB K (He.ga K i.cls) && (decide (PySem.W.findIn K (.ref (He.ga K i.cls)) "__init__" = some (some (.ref (He.ma K (He.ga K i.cls) "__init__")))) && (decide (PySem.W.typeIn K (.ref (He.ma K (He.ga K i.cls) "__init__")) = some (.type "function")) && fclB K i.base))
def II.ok (et : ETab) (i : II) : Bool := decide (et.nm i.c = i.cls) && (fnScB i.ns i.ns i.scope && (decide (i.ns.length = (et.fldL i.c).length + 1) && (initB i.ns i.base (et.fldL i.c) i.body && (decide (i.scope.names.lookup i.base = some .globalImplicit) && (i.ns.all dbgOk && (dbgOk i.base && decide ((et.fldL i.c).length ≤ 1000)))))))
def exB (et : ETab) (is : List II) (K : PySem.W.Frag) : Bool := excB K et && is.all (II.okK K et)
structure II.Bd (i : II) : Prop where
  pos : ∀ (kV doc pm : Value) (an : Option Addr) (cdv ct : Value) (us : List Value), us.length = i.ns.length → bindArgs (PySem.W.fnOf "__init__" (i.cls ++ (".__init__" : Str)) i.params i.body i.scope .none kV doc pm an cdv ct) ⟨us, []⟩ = pure (i.ns.zip us)
structure DI.Bd (D : DI) : Prop where
  pos : ∀ (kV doc pm : Value) (an : Option Addr) (cdv ct : Value) (us : List Value), us.length = D.ps.length → bindArgs (PySem.W.fnOf D.name D.name D.params D.body D.scope .none kV doc pm an cdv ct) ⟨us, []⟩ = pure (D.ps.zip us)
  kw : ∀ q ∈ D.m.kws, ∀ (kV doc pm : Value) (an : Option Addr) (cdv ct : Value) (us ws : List Value), us.length = q.1 → ws.length = q.2.1.length → bindArgs (PySem.W.fnOf D.name D.name D.params D.body D.scope .none kV doc pm an cdv ct) ⟨us, q.2.1.zip ws⟩ = pure (D.ps.zip (arr q.2.2 us ws))
theorem rs_of {P : Program} {w : World} {K : PySem.W.Frag} {mg : Str → Option Value} {base : Heap} {et : ETab} {i : II} {fd : FuncData} (F : FunD K "__init__" (i.cls ++ (".__init__" : Str)) i.params i.body i.scope [] [] (He.ma K (He.ga K i.cls) "__init__") fd) (b : i.Bd) (h : i.ok et = true) (hK : i.okK K et = true) (hm : mg i.base = some (.ref (He.ga K i.base)))
    (ex : ExcF K (xtOf K et) et.subB) : RsOk P w K mg base (xtOf K et) i.c (et.fldL i.c).length := by
  obtain ⟨h1, h⟩ := and2 h
  obtain ⟨h2, h⟩ := and2 h
  obtain ⟨h3, h⟩ := and2 h
  obtain ⟨h4, h⟩ := and2 h
  obtain ⟨h5, h⟩ := and2 h
  obtain ⟨h6, h⟩ := and2 h
  obtain ⟨h7, h8⟩ := and2 h
  obtain ⟨k1, k⟩ := and2 hK
  obtain ⟨k2, k⟩ := and2 k
  obtain ⟨k3, k4⟩ := and2 k
  obtain ⟨f1, f⟩ := and2 k4
  obtain ⟨f2, f3⟩ := and2 f
  have ec : (xtOf K et).adr i.c = He.ga K i.cls := by show He.ga K (et.nm i.c) = _; rw [of_decide_eq_true h1]
  have fc : PySem.W.findCls K (.ref (He.ga K i.base)) (.type "type") "__init__" = some (.val (.builtin "ValueError.__init__")) := by
    split at f3
    · rename_i s e
      rw [e, eq_of_beq f3]
    · cases f3
  refine ⟨⟨_, fd, i.ns, by rw [ec]; exact oexB_ok k1, by rw [ec]; exact of_decide_eq_true k2, of_decide_eq_true k3, ?_, FunD.bindsN F fun kV doc pm an cdv ct us hl => b.pos kV doc pm an cdv ct us hl⟩, rfl, of_decide_eq_true h8⟩
  have := init_ok (P := P) (w := w) (mg := mg) (base := base) (C := He.ga K i.cls) (flds := et.fldL i.c) (bs := i.base) F (fnScB_ok h2) (of_decide_eq_true h3) (oexB_ok k1) (fun g m => by have := ex.no i.c g m; rw [ec] at this; exact this) h4 (of_decide_eq_true h5) (fun j x e => dbg_of (List.all_eq_true.mp h6 x (List.mem_of_getElem? e))) (dbg_of h7).1 ⟨_, _, hm, f1, of_decide_eq_true f2, fc⟩
  rw [ec]
  exact this
end MP

set_option linter.all false
set_option autoImplicit false
set_option maxHeartbeats 4000000
/-! MiniPy: from the head's facts to the law. -/
namespace MP
open PySem PyProof.Rows L2

def cxA (P : Program) : CXT := fun outer H s E u s' => ∃ w, L2.CX P w outer H s E u s'
theorem fn_cx {P : Program} {w : World} {K : PySem.W.Frag} {mg : Str → Option Value} {base : Heap} {k : Nat} {f : Addr} {fd : FuncData} {ps : List Str} {sp : Sp} (F : FnOk P w K mg base (L2.CX P w) k f fd ps sp) : FnOk P w K mg base (cxA P) k f fd ps sp :=
  ⟨F.len, fun A outer s H args us vs Q E hr e0 hb r h => codeAny_mono (F.run A outer s H args us vs Q E hr e0 hb r h) fun r s' q => by
    match r, q with
    | .error e, q => exact ⟨w, q⟩
    | .ok (.ret u), q => exact q
    | .ok .next, q => exact q
    | .ok .brk, q => exact q
    | .ok .cont, q => exact q⟩
theorem cxA_no {P : Program} (H : Hp) (s : Shared) (e : Value) (s' : Shared) (h : cxA P [] H s (fun _ _ _ => False) e s') : False := by
  obtain ⟨w, a, B, H', cls, d, _, _, _, _, _, _, _, z⟩ := h
  exact z
/-- the text of a law's program -/
structure Txt where
  Ds : List DI
  is : List II
  et : ETab
  glb : List (Str × MV)
def Txt.tab (x : Txt) : Tab := ⟨x.Ds.map fun D => (D.name, D.m.ps, D.m.kws), x.glb, []⟩
def Txt.prog (x : Txt) : MProg := ⟨x.Ds.map (·.m), x.glb.map (·.2), x.et.subB⟩
def Txt.fn (x : Txt) : List He.DefD := x.Ds.map DI.d ++ x.is.map II.d
def Txt.fas (x : Txt) : List He.Fa := (x.Ds.map fun D => He.Fa.glo D.name) ++ (bltN.map He.Fa.free) ++ (x.et.exc.map fun q => He.Fa.glo q.1) ++ (x.is.map fun i => He.Fa.glo i.base)
def dvOf : MV → Option He.Dv
  | .non => some .non
  | .bl b => some (.bl b)
  | .int i => some (.int i)
  | .str z => some (.str z)
  | _ => none
def dvsOf : List MV → Option (List He.Dv)
  | [] => some []
  | v :: vs => (dvOf v).bind fun d => (dvsOf vs).map (d :: ·)
def glbX (K : PySem.W.Frag) : Str × MV → Bool
  | (y, .int i) => He.Fa.ok K (.int y i)
  | (y, .str z) => He.Fa.ok K (.str y z)
  | (y, .tup xs) => He.Fa.ok K (.glo y) && (match dvsOf xs with | some ds => He.tupB K y ds | none => false)
  | _ => false
def Txt.ex (x : Txt) (K : PySem.W.Frag) : Bool := exB x.et x.is K && ((x.glb.all (glbX K)) && x.fas.all (He.Fa.ok K))
def Txt.ok (x : Txt) : Bool := x.Ds.all (DI.ok x.tab x.et) && (x.is.all (II.ok x.et) && (decide (0 < x.et.exc.length) && (List.range x.et.exc.length).all fun c => match x.et.exc[c]? with
  | some (_, some n) => x.is.any fun i => decide (i.c = c ∧ (x.et.fldL c).length = n)
  | _ => true))
structure Txt.Bd (x : Txt) : Prop where
  ds : ∀ D ∈ x.Ds, D.Bd
  is : ∀ i ∈ x.is, i.Bd
section
variable {P : Program} {w : World} {K : PySem.W.Frag} {h : Heap} {mg : Str → Option Value} {x : Txt}
theorem dv_of {v : MV} {d : He.Dv} (e : dvOf v = some d) (μ : List Addr) (H : Hp) : RV K μ H v (d.v K) := by
  cases v with
  | non => cases e; exact .non
  | bl b => cases e; exact .bl b
  | int b => cases e; exact .int b
  | str b => cases e; exact .str b
  | tup xs => cases e
  | ref i => cases e
theorem dvs_of : ∀ {vs : List MV} {ds : List He.Dv}, dvsOf vs = some ds → ∀ (μ : List Addr) (H : Hp), RVs K μ H vs (ds.map (He.Dv.v K))
  | [], ds, e, μ, H => by cases e; exact .nil
  | v :: vs, ds, e, μ, H => by
    have e : (dvOf v).bind (fun d => (dvsOf vs).map (d :: ·)) = some ds := e
    cases e1 : dvOf v with
    | none => rw [e1] at e; cases e
    | some d =>
      rw [e1] at e
      obtain ⟨es, e2, rfl⟩ := Option.map_eq_some_iff.mp e
      exact .cons (dv_of e1 μ H) (dvs_of e2 μ H)
theorem glb_ok (X : K.In h) (G : h.Ns mainGlobals mg) {y : Str} {v : MV} (c : glbX K (y, v) = true) {C : Cx} (eK : C.K = K) (em : C.mg = mg) : GlbOk C y v := by
  subst eK em
  cases v with
  | int i =>
    obtain ⟨t, e⟩ := He.int_ok X G c
    exact .inr ⟨(fun _ q => nomatch q), .int i, _, e, ⟨t, rfl⟩, fun _ _ => .int i⟩
  | str z =>
    obtain ⟨t, e⟩ := He.str_ok X G c
    exact .inr ⟨(fun _ q => nomatch q), .str z, _, e, ⟨t, rfl⟩, fun _ _ => .str z⟩
  | tup xs =>
    obtain ⟨c1, c2⟩ := and2 (show (He.Fa.ok C.K (.glo y) && (match dvsOf xs with | some ds => He.tupB C.K y ds | none => false)) = true from c)
    cases e : dvsOf xs with
    | none => rw [e] at c2; cases c2
    | some ds =>
      rw [e] at c2
      exact .inl ⟨xs, rfl, _, _, He.glo_ok X G c1, fun H => He.tupB_ok c2 H, fun μ H => dvs_of e μ H⟩
  | non => cases c
  | bl b => cases c
  | ref i => cases c
theorem prg_of (X : K.In h) (G : h.Ns mainGlobals mg) (sd : He.SaysD [] x.fn K) (ex : x.ex K = true) (ok : x.ok = true) (bd : x.Bd) (base : Heap) : Prg P w K mg base (xtOf K x.et) x.tab x.et x.Ds x.prog := by
  obtain ⟨o1, o⟩ := and2 ok
  obtain ⟨o2, o⟩ := and2 o
  obtain ⟨o3, o4⟩ := and2 o
  obtain ⟨x1, x2⟩ := and2 ex
  obtain ⟨x3, x4⟩ := and2 x2
  obtain ⟨x5, x6⟩ := and2 x1
  have hp : 0 < x.et.exc.length := of_decide_eq_true o3
  have fas := fun f m => List.all_eq_true.mp x4 f m
  have gD : ∀ D ∈ x.Ds, mg D.name = some (.ref (He.ga K D.name)) := fun D m => He.glo_ok X G (fas _ (by unfold Txt.fas; simp only [List.mem_append, List.mem_map]; exact .inl (.inl (.inl ⟨D, m, rfl⟩))))
  have gB : ∀ y ∈ bltN, mg y = none := fun y m => He.free_ok X G (fas _ (by unfold Txt.fas; simp only [List.mem_append, List.mem_map]; exact .inl (.inl (.inr ⟨y, m, rfl⟩))))
  have gE : ∀ q ∈ x.et.exc, mg q.1 = some (.ref (He.ga K q.1)) := fun q m => He.glo_ok X G (fas _ (by unfold Txt.fas; simp only [List.mem_append, List.mem_map]; exact .inl (.inr ⟨q, m, rfl⟩)))
  have gI : ∀ i ∈ x.is, mg i.base = some (.ref (He.ga K i.base)) := fun i m => He.glo_ok X G (fas _ (by unfold Txt.fas; simp only [List.mem_append, List.mem_map]; exact .inr ⟨i, m, rfl⟩))
  have F := excF_of hp x5
  have nmE : ∀ (c : Nat) y o, x.et.exc[c]? = some (y, o) → x.et.nm c = y := fun c y o e => by
    have hlt := (List.getElem?_eq_some_iff.mp e).1
    have : x.et.clip c = c := by unfold ETab.clip; omega
    unfold ETab.nm
    rw [this, List.getD_eq_getElem?_getD, e]
    rfl
  refine ⟨fun i D hD => ?_, fun i y n kws e => ?_, rfl, fun C eK em i y v e => ?_, gB, fun c y o e => ?_, fun c y n e => ?_, F, fun _ => rfl, hp⟩
  · have m := List.mem_of_getElem? hD
    refine ⟨?_, List.all_eq_true.mp o1 D m, by show (x.Ds.map _)[i]? = _; rw [List.getElem?_map, hD]; rfl⟩
    obtain ⟨fd, Fd⟩ := He.SaysD.defs sd (d := D.d) (by unfold Txt.fn; exact List.mem_append_left _ (List.mem_map.mpr ⟨D, m, rfl⟩))
    have b := bd.ds D m
    refine ⟨_, fd, Fd, gD D m, FunD.bindsN Fd fun kV doc pm an cdv ct us hl => b.pos kV doc pm an cdv ct us hl, fun q mq s us ws _ l1 l2 _ => ?_⟩
    obtain ⟨oc, od, dV, kV, doc, pm, an, cdv, ct, osl, rfl, lk, hcd, hD', hK⟩ := Fd.ex
    rcases hD' with ⟨_, rfl⟩ | ⟨e, _⟩
    · exact .of_eq (b.kw q mq kV doc pm an cdv ct us ws l1 l2)
    · exact absurd rfl e
  · have e : (x.Ds.map fun D => (D.name, D.m.ps, D.m.kws))[i]? = some (y, n, kws) := e
    rw [List.getElem?_map] at e
    obtain ⟨D, hD, q⟩ := Option.map_eq_some_iff.mp e
    cases q
    exact ⟨D, hD, rfl, rfl, rfl⟩
  · refine ⟨glb_ok X G (List.all_eq_true.mp x3 (y, v) (List.mem_of_getElem? e)) eK em, ?_⟩
    show (x.glb.map (·.2))[i]? = _
    have e : x.glb[i]? = some (y, v) := e
    rw [List.getElem?_map, e]; rfl
  · show mg y = some (.ref (He.ga K (x.et.nm c)))
    rw [nmE c y o e]
    exact gE (y, o) (List.mem_of_getElem? e)
  · have hlt := (List.getElem?_eq_some_iff.mp e).1
    have := List.all_eq_true.mp o4 c (List.mem_range.mpr hlt)
    rw [e] at this
    obtain ⟨i, mi, q⟩ := List.any_eq_true.mp this
    obtain ⟨q1, q2⟩ := of_decide_eq_true q
    subst q1
    rw [← q2]
    obtain ⟨fd, Fd⟩ := He.SaysD.defs sd (d := i.d) (by unfold Txt.fn; exact List.mem_append_right _ (List.mem_map.mpr ⟨i, mi, rfl⟩))
    exact rs_of Fd (bd.is i mi) (List.all_eq_true.mp o2 i mi) (List.all_eq_true.mp x6 i mi) (gI i mi) F
/-- the law's def keeps the law's promise -/
theorem law_facts {k i : Nat} {D : DI} {fa : Addr} (X : K.In h) (G : h.Ns mainGlobals mg) (sd : He.SaysD [] x.fn K) (ex : x.ex K = true) (nl : NoList K) (ok : x.ok = true) (bd : x.Bd) (hD : x.Ds[i]? = some D) (hn : D.name = ("law" : Str)) (hps : D.ps = ([("script" : Str)] : List Str)) (hp1 : D.m.ps = 1) (hfa : mg ("law" : Str) = some (.ref fa))
    (hev : ∀ ns : List Int, ns.length ≤ 63 → ∃ h, callM x.prog k [] i [.ref 0] [.scr ns] = .ok (.bl true) h) :
    ∃ (fd : FuncData) (sp : Sp), (∀ (s : Shared) (v : Value), BindsTo s fd ⟨[v], []⟩ [(("script" : Str), v)]) ∧ (∀ (H : Hp) (a : Addr) (ns : List Int), ns.length ≤ 63 → Only H → SqL K H a (ns.map V.int) → sp [.ref a] H (fun v _ => v = .bl true) fun _ _ _ => False) ∧
      ∀ base : Heap, K.In base → base.Ns mainGlobals mg → FnOk P w K mg base (cxA P) (k + 2) fa fd [("script" : Str)] sp := by
  have m := List.mem_of_getElem? hD
  obtain ⟨fd, Fd⟩ := He.SaysD.defs sd (d := D.d) (by unfold Txt.fn; exact List.mem_append_left _ (List.mem_map.mpr ⟨D, m, rfl⟩))
  have pr := fun base => prg_of (P := P) (w := w) X G sd ex ok bd base
  obtain ⟨f2, fd2, F2, g2, _⟩ := ((pr (base := h)).ok i D hD).1.ex
  have ef : fa = He.ga K D.name := by
    have F3 := X
    obtain ⟨o1, _⟩ := and2 ok
    have x4 := (and2 (and2 ex).2).2
    have g := He.glo_ok X G (List.all_eq_true.mp x4 (.glo D.name) (by unfold Txt.fas; simp only [List.mem_append, List.mem_map]; exact .inl (.inl (.inl ⟨D, m, rfl⟩))))
    rw [hn, hfa] at g
    rw [hn]
    have := Option.some.inj g
    injection this
  subst ef
  refine ⟨fd, spB 1 (spM K (xtOf K x.et) (fun L => callM x.prog k L i) 1), fun s v => ?_, fun H a ns hl ho hs => law_sp nl hev H a ns hl ho hs, fun base _ _ => ?_⟩
  · have b := FunD.bindsA (ps := D.ps) Fd (fun kV doc pm an cdv ct us hl => (bd.ds D m).pos kV doc pm an cdv ct us hl) s [v] (by rw [hps]; rfl)
    rw [hps] at b
    exact b
  · have q := prog_ok (pr base) k i D hD _ fd Fd
    rw [hp1] at q
    have q := fn_bnd (n := 1) q (by rw [hps]; rfl)
    rw [hps] at q
    exact fn_cx q
end
end MP

namespace MP
open PySem PyProof.Rows L2
def m_is_integer : List MSt := [.ret (.and (.isi (.var 0) [.int] true) (.not (.isi (.var 0) [.bool] true)))]
def m_is_within : List MSt := [.ret (.and (.call 0 [(.var 0)]) (.chain .LtE .LtE (.var 1) (.var 0) (.var 2)))]
def m_is_index : List MSt := [.ret (.call 1 [(.var 0), (.lit (.int 0)), (.bin .Sub (.var 1) (.lit (.int 1)))])]
def m_is_tuple : List MSt := [.ret (.and (.isi (.var 0) [.tuple] true) (.cmp .Eq (.fn .len [(.var 0)]) (.var 1)))]
def m_ascends : List MSt := [.ret (.fn .all [(.lc (.cmp .Lt (.idx (.var 0) (.bin .Sub (.var 1) (.lit (.int 1)))) (.idx (.var 0) (.var 1))) (.nm 1) (.rng [(.lit (.int 1)), (.fn .len [(.var 0)])]) [] [("at", 1)])])]
def m_integer_in : List MSt := [.asg (.nm 1) (.ite (.mth .startswith (.var 0) [(.lit (.str "-"))]) (.slc (.var 0) (some (.lit (.int 1))) none) (.var 0)),
 .ifs (.or (.cmp .Eq (.var 1) (.lit (.str ""))) (.or (.cmp .Gt (.fn .len [(.var 1)]) (.lit (.int 2000))) (.not (.fn .all [(.lc (.cmp .In (.var 2) (.glb 0)) (.nm 2) (.e (.var 1)) [] [("sign", 2)])])))) [.ret (.lit .non)] [],
 .ifs (.and (.cmp .Eq (.idx (.var 1) (.lit (.int 0))) (.lit (.str "0"))) (.cmp .NotEq (.var 0) (.lit (.str "0")))) [.ret (.lit .non)] [],
 .ret (.fn .int [(.var 0)])]
def m_is_thread : List MSt := [.ret (.and (.isi (.var 0) [.tuple] true) (.and (.cmp .LtE (.fn .len [(.var 0)]) (.glb 2)) (.fn .all [(.lc (.call 2 [(.var 1), (.glb 1)]) (.nm 1) (.e (.var 0)) [] [("k", 1)])])))]
def m_is_inputs : List MSt := [.ifs (.or (.not (.isi (.var 0) [.tuple] true)) (.not (.fn .all [(.lc (.and (.call 3 [(.var 1), (.lit (.int 2))]) (.call 6 [(.idx (.var 1) (.lit (.int 0)))])) (.nm 1) (.e (.var 0)) [] [("item", 1)])]))) [.ret (.lit (.bl false))] [],
 .ifs (.not (.call 4 [(.lc (.idx (.var 1) (.lit (.int 0))) (.nm 1) (.e (.var 0)) [] [("item", 1)])])) [.ret (.lit (.bl false))] [],
 .ret (.fn .all [(.lc (.call 8 [(.var 3)]) (.tp [(.nm 2), (.nm 3)]) (.e (.var 0)) [] [("thread", 2), ("row", 3)])])]
def m_is_row : List MSt := [.ret (.and (.isi (.var 0) [.tuple] true) (.and (.cmp .LtE (.fn .len [(.var 0)]) (.glb 3)) (.fn .all [(.lc (.call 0 [(.var 1)]) (.nm 1) (.e (.var 0)) [] [("item", 1)])])))]
def m_check_thread : List MSt := [.ifs (.not (.call 6 [(.var 0)])) [.rse 2 [(.var 0)]] []]
def m_thread_text : List MSt := [.ret (.ite (.cmp .NotEq (.var 0) (.tup [])) (.mth .join (.lit (.str ".")) [(.lc (.fn .str [(.var 1)]) (.nm 1) (.e (.var 0)) [] [("k", 1)])]) (.lit (.str "main")))]
def m_write_thread : List MSt := [.exp (.call 9 [(.var 0)]),
 .ret (.call 10 [(.var 0)])]
def m_thread_in : List MSt := [.ifs (.cmp .Eq (.var 0) (.lit (.str "main"))) [.ret (.tup [])] [],
 .asg (.nm 1) (.fn .tuple [(.lc (.call 5 [(.var 2)]) (.nm 2) (.e (.mth .split (.var 0) [(.lit (.str "."))])) [] [("part", 2)])]),
 .ret (.ite (.and (.cmp .NotIn (.lit .non) (.var 1)) (.call 6 [(.var 1)])) (.var 1) (.lit .non))]
def m_read_thread : List MSt := [.asg (.nm 1) (.ite (.isi (.var 0) [.str] true) (.call 12 [(.var 0)]) (.lit .non)),
 .ifs (.cmp .Is (.var 1) (.lit .non)) [.rse 1 [(.var 0)]] [],
 .ret (.var 1)]
def m__law_cell : List MSt := [.ret (.ite (.cmp .Lt (.var 1) (.fn .len [(.var 0)])) (.idx (.var 0) (.var 1)) (.bin .Add (.bin .Mult (.lit (.int 6211)) (.var 1)) (.bin .Mod (.fn .int [(.fn .sum [(.slc (.var 0) none (some (.lit (.int 1))))])]) (.lit (.int 1000033)))))]
def m__law_box : List MSt := [.ret (.lst [(.fn .abs [(.var 0)]), (.cmp .GtE (.fn .abs [(.var 0)]) (.bin .Pow (.lit (.int 10)) (.lit (.int 18)))), (.bin .Mod (.fn .int [(.fn .abs [(.var 0)])]) (.lit (.int 2147483629))), (.lit (.int 0))])]
def m__law_take : List MSt := [.ifs (.and (.idx (.var 0) (.lit (.int 1))) (.cmp .Gt (.idx (.var 0) (.lit (.int 0))) (.lit (.int 0)))) [.asg (.nm 3) (.bin .Mod (.fn .int [(.idx (.var 0) (.lit (.int 0)))]) (.var 1)),
 .sub (.var 0) (.lit (.int 0)) (.bin .FloorDiv (.idx (.var 0) (.lit (.int 0))) (.var 1)),
 .ret (.var 3)] [],
 .sub (.var 0) (.lit (.int 3)) (.bin .Add (.idx (.var 0) (.lit (.int 3))) (.lit (.int 1))),
 .asg (.nm 2) (.bin .Mod (.fn .int [(.bin .Pow (.bin .Add (.bin .Add (.idx (.var 0) (.lit (.int 2))) (.bin .Mult (.lit (.int 15486209)) (.idx (.var 0) (.lit (.int 3))))) (.lit (.int 179425033))) (.lit (.int 5)))]) (.lit (.int 2147483647))),
 .ret (.bin .Mod (.fn .int [(.bin .FloorDiv (.bin .Mod (.fn .int [(.bin .Pow (.bin .Add (.bin .Mult (.var 2) (.lit (.int 48271))) (.bin .Mult (.lit (.int 104803)) (.idx (.var 0) (.lit (.int 3))))) (.lit (.int 3)))]) (.lit (.int 2147483587))) (.lit (.int 64)))]) (.var 1))]
def m__law_pick : List MSt := [.ret (.idx (.var 1) (.call 16 [(.var 0), (.fn .len [(.var 1)])]))]
def m__law_same : List MSt := [.ifs (.or (.cmp .Is (.var 1) (.lit .non)) (.isi (.var 1) [.bool] true)) [.ret (.ite (.cmp .Is (.var 1) (.lit .non)) (.cmp .Is (.var 0) (.lit .non)) (.and (.isi (.var 0) [.bool] true) (.cmp .Eq (.cmp .Is (.var 0) (.lit (.bl true))) (.cmp .Is (.var 1) (.lit (.bl true))))))] [],
 .ifs (.isi (.var 1) [.int] true) [.ret (.and (.isi (.var 0) [.int] true) (.and (.not (.isi (.var 0) [.bool] true)) (.cmp .Eq (.bin .Sub (.fn .int [(.var 0)]) (.var 1)) (.lit (.int 0)))))] [],
 .ifs (.isi (.var 1) [.str] true) [.ret (.and (.isi (.var 0) [.str] true) (.cmp .Eq (.var 0) (.var 1)))] [],
 .ifs (.isi (.var 1) [.dict] true) [.ifs (.or (.not (.isi (.var 0) [.dict] true)) (.cmp .NotEq (.fn .len [(.var 0)]) (.fn .len [(.var 1)]))) [.ret (.lit (.bl false))] [],
 .ret (.cmp .Eq (.lc (.var 3) (.nm 3) (.e (.var 1)) [(.or (.cmp .NotIn (.var 3) (.var 0)) (.not (.call 18 [(.idx (.var 0) (.var 3)), (.idx (.var 1) (.var 3))])))] [("key", 3)]) (.lst []))] [],
 .ifs (.or (.not (.isi (.var 1) [.list, .tuple] false)) (.not (.isi (.var 0) [.list, .tuple] false))) [.ret (.lit (.bl false))] [],
 .ifs (.or (.cmp .NotEq (.isi (.var 0) [.list] true) (.isi (.var 1) [.list] true)) (.cmp .NotEq (.fn .len [(.var 0)]) (.fn .len [(.var 1)]))) [.ret (.lit (.bl false))] [],
 .ret (.cmp .Eq (.lc (.var 2) (.nm 2) (.rng [(.fn .len [(.var 1)])]) [(.not (.call 18 [(.idx (.var 0) (.var 2)), (.idx (.var 1) (.var 2))]))] [("k", 2)]) (.lst []))]
def m__law_grown : List MSt := [.ifs (.isi (.var 0) [.list] true) [.exp (.mth .append (.var 0) [(.lit (.str "more"))])] [],
 .ifs (.isi (.var 0) [.dict] true) [.sub (.var 0) (.lit (.str "more")) (.lit (.int 1))] []]
def m__law_is_whole : List MSt := [.ret (.and (.isi (.var 0) [.int] true) (.and (.not (.isi (.var 0) [.bool] true)) (.or (.cmp .Is (.var 1) (.lit .non)) (.chain .LtE .LtE (.var 1) (.var 0) (.var 2)))))]
def m__law_is_thread : List MSt := [.ret (.and (.isi (.var 0) [.tuple] true) (.and (.cmp .LtE (.fn .len [(.var 0)]) (.lit (.int 3))) (.cmp .Eq (.lc (.var 1) (.nm 1) (.e (.var 0)) [(.not (.call 20 [(.var 1), (.lit (.int 0)), (.lit (.int 2))]))] [("k", 1)]) (.lst []))))]
def m__law_are_inputs : List MSt := [.ifs (.not (.isi (.var 0) [.tuple] true)) [.ret (.lit (.bl false))] [],
 .fors (.nm 1) (.e (.var 0)) [.ifs (.or (.not (.isi (.var 1) [.tuple] true)) (.or (.cmp .NotEq (.fn .len [(.var 1)]) (.lit (.int 2))) (.or (.not (.call 21 [(.idx (.var 1) (.lit (.int 0)))])) (.or (.not (.isi (.idx (.var 1) (.lit (.int 1))) [.tuple] true)) (.cmp .Gt (.fn .len [(.idx (.var 1) (.lit (.int 1)))]) (.lit (.int 20))))))) [.ret (.lit (.bl false))] [],
 .ifs (.cmp .NotEq (.lc (.var 3) (.nm 3) (.e (.idx (.var 1) (.lit (.int 1)))) [(.not (.call 20 [(.var 3), (.lit .non), (.lit .non)]))] [("item", 3)]) (.lst [])) [.ret (.lit (.bl false))] []],
 .ret (.cmp .Eq (.lc (.var 2) (.nm 2) (.rng [(.lit (.int 1)), (.fn .len [(.var 0)])]) [(.not (.cmp .Lt (.idx (.idx (.var 0) (.bin .Sub (.var 2) (.lit (.int 1)))) (.lit (.int 0))) (.idx (.idx (.var 0) (.var 2)) (.lit (.int 0)))))] [("k", 2)]) (.lst []))]
def m__law_thread : List MSt := [.ret (.fn .tuple [(.lc (.call 16 [(.var 0), (.lit (.int 3))]) (.nm 1) (.rng [(.call 16 [(.var 0), (.lit (.int 4))])]) [] [("turn", 1)])])]
def m__law_inputs : List MSt := [.asg (.nm 1) (.dct true),
 .fors (.nm 2) (.rng [(.call 16 [(.var 0), (.lit (.int 7))])]) [.asg (.nm 3) (.ite (.cmp .Eq (.call 16 [(.var 0), (.lit (.int 6))]) (.lit (.int 0))) (.lit (.int 20)) (.call 16 [(.var 0), (.lit (.int 5))])),
 .sub (.var 1) (.call 23 [(.var 0)]) (.fn .tuple [(.lc (.call 17 [(.var 0), (.lst [(.lit (.int 0)), (.lit (.int 1)), (.bin .Sub (.lit (.int 0)) (.call 16 [(.var 0), (.lit (.int 99))])), (.bin .Add (.bin .Pow (.lit (.int 10)) (.lit (.int 20))) (.call 16 [(.var 0), (.lit (.int 9))]))])]) (.nm 5) (.rng [(.var 3)]) [] [("item", 5)])])],
 .ret (.fn .tuple [(.lc (.tup [(.var 4), (.idx (.var 1) (.var 4))]) (.nm 4) (.e (.fn .sorted [(.fn .list [(.var 1)])])) [] [("thread", 4)])])]
def m__law_near_threads : List MSt := [.asg (.tp [(.nm 2), (.nm 3)]) (.tup [(.call 16 [(.var 0), (.bin .Add (.fn .len [(.var 1)]) (.lit (.int 1)))]), (.call 17 [(.var 0), (.lst [(.lit (.int 3)), (.neg (.lit (.int 1))), (.lit (.bl true)), (.lit (.bl false)), (.lit .non), (.lit (.str "0")), (.tup [(.lit (.int 0))]), (.lst [(.lit (.int 0))]), (.lit (.int 99))])])]),
 .ret (.lst [(.var 1), (.fn .list [(.var 1)]), (.bin .Add (.var 1) (.tup [(.lit (.int 0))])), (.bin .Add (.bin .Add (.slc (.var 1) none (some (.var 2))) (.tup [(.var 3)])) (.slc (.var 1) (some (.bin .Add (.var 2) (.lit (.int 1)))) none)), (.bin .Add (.bin .Add (.slc (.var 1) none (some (.var 2))) (.tup [(.var 3)])) (.slc (.var 1) (some (.var 2)) none)), (.lit .non), (.lit (.int 0)), (.lit (.str "main")), (.lit (.str "0")), (.dct false), (.tup [(.var 1)]), (.tup [(.lit (.int 0)), (.lit (.int 1)), (.lit (.int 2)), (.lit (.int 0))]), (.lst []), (.rev (.var 1))])]
def m__law_near_inputs : List MSt := [.asg (.nm 2) (.lst [(.var 1), (.fn .list [(.var 1)]), (.rev (.var 1)), (.bin .Add (.var 1) (.slc (.var 1) none (some (.lit (.int 1))))), (.bin .Add (.var 1) (.tup [(.tup [(.tup [(.lit (.int 2)), (.lit (.int 2)), (.lit (.int 2))]), (.tup [(.lit (.int 1))])]), (.tup [(.tup [(.lit (.int 2)), (.lit (.int 2)), (.lit (.int 2))]), (.tup [(.lit (.int 2))])])])), (.lit .non), (.lit (.int 5)), (.lit (.str "x")), (.dct false), (.tup [(.tup [])]), (.tup [(.lit .non)]), (.tup [(.lit (.int 1)), (.lit (.int 2))]), (.tup [(.tup [(.tup []), (.tup [(.lit (.int 1))]), (.lit (.int 2))])])]),
 .asg (.nm 2) (.bin .Add (.var 2) (.lst [(.tup [(.tup [(.tup [])])])])),
 .ifs (.cmp .NotEq (.var 1) (.tup [])) [.asg (.nm 3) (.call 16 [(.var 0), (.fn .len [(.var 1)])]),
 .asg (.tp [(.nm 8), (.nm 9)]) (.idx (.var 1) (.var 3)),
 .asg (.nm 4) (.call 17 [(.var 0), (.lst [(.lit (.bl true)), (.lit .non), (.lit (.str "1")), (.tup [(.lit (.int 1))]), (.lst [(.lit (.int 1))]), (.lit (.bl false))])]),
 .asg (.nm 5) (.call 16 [(.var 0), (.bin .Add (.fn .len [(.var 9)]) (.lit (.int 1)))]),
 .asg (.nm 6) (.lst [(.tup [(.var 8), (.bin .Add (.var 9) (.tup [(.var 4)]))]), (.tup [(.var 8), (.bin .Add (.bin .Add (.slc (.var 9) none (some (.var 5))) (.tup [(.var 4)])) (.slc (.var 9) (some (.bin .Add (.var 5) (.lit (.int 1)))) none))]), (.tup [(.var 8), (.bin .Mult (.tup [(.lit (.int 7))]) (.lit (.int 20)))]), (.tup [(.var 8), (.bin .Mult (.tup [(.lit (.int 7))]) (.lit (.int 21)))]), (.tup [(.bin .Add (.var 8) (.tup [(.lit (.int 3))])), (.var 9)]), (.tup [(.var 8), (.lit .non)])]),
 .fors (.nm 7) (.e (.bin .Add (.var 6) (.lst [(.lst [(.var 8), (.var 9)]), (.tup [(.var 8), (.fn .list [(.var 9)])]), (.tup [(.fn .list [(.var 8)]), (.var 9)])]))) [.exp (.mth .append (.var 2) [(.bin .Add (.bin .Add (.slc (.var 1) none (some (.var 3))) (.tup [(.var 7)])) (.slc (.var 1) (some (.bin .Add (.var 3) (.lit (.int 1)))) none))])]] [],
 .ret (.var 2)]
def m__law_dots : List MSt := [.ret (.ite (.cmp .NotEq (.var 0) (.tup [])) (.mth .join (.lit (.str ".")) [(.lc (.fn .str [(.var 1)]) (.nm 1) (.e (.var 0)) [] [("k", 1)])]) (.lit (.str "main")))]
def m__law_texts : List MSt := [.asg (.nm 2) (.call 27 [(.var 1)]),
 .asg (.nm 3) (.call 16 [(.var 0), (.bin .Add (.fn .len [(.var 2)]) (.lit (.int 1)))]),
 .asg (.nm 4) (.call 17 [(.var 0), (.lst [(.lit (.str ".")), (.lit (.str "0")), (.lit (.str " ")), (.lit (.str "3")), (.lit (.str "m")), (.lit (.str "-1")), (.lit (.str "00")), (.lit (.str "\n")), (.lit (.str ".."))])]),
 .asg (.nm 5) (.lst [(.var 2), (.bin .Add (.bin .Add (.slc (.var 2) none (some (.var 3))) (.var 4)) (.slc (.var 2) (some (.var 3)) none)), (.bin .Add (.slc (.var 2) none (some (.var 3))) (.slc (.var 2) (some (.bin .Add (.var 3) (.lit (.int 1)))) none)), (.bin .Add (.lit (.str ".")) (.var 2)), (.bin .Add (.var 2) (.lit (.str "."))), (.lit (.str "")), (.lit (.str "Main")), (.lit (.str "main.0")), (.lit (.str "0.0.0.0")), (.lit (.str "01")), (.lit (.str "1.02")), (.lit (.str "+1")), (.lit (.str "- 1")), (.lit (.str " main")), (.lit (.str "3")), (.lit (.str "2.1.0"))]),
 .ret (.bin .Add (.var 5) (.lst [(.lit .non), (.lit (.int 5)), (.tup []), (.lst [(.var 2)]), (.dct false), (.lit (.bl true)), (.var 1)]))]
def m__law_read : List MSt := [.ifs (.not (.isi (.var 0) [.str] true)) [.ret (.lit .non)] [],
 .asg (.nm 1) (.bin .Add (.lst [(.tup [])]) (.lc (.tup [(.var 6)]) (.nm 6) (.rng [(.lit (.int 3))]) [] [("a", 6)])),
 .fors (.nm 2) (.rng [(.lit (.int 2))]) [.asg (.nm 4) (.lst []),
 .fors (.nm 5) (.e (.slc (.var 1) (some (.lit (.int 1))) none)) [.exp (.mth .extend (.var 4) [(.lc (.bin .Add (.var 5) (.tup [(.var 6)])) (.nm 6) (.rng [(.lit (.int 3))]) [(.cmp .Eq (.fn .len [(.var 5)]) (.bin .Add (.var 2) (.lit (.int 1))))] [("a", 6)])])],
 .asg (.nm 1) (.bin .Add (.var 1) (.var 4))],
 .asg (.nm 3) (.lc (.var 5) (.nm 5) (.e (.var 1)) [(.cmp .Eq (.call 27 [(.var 5)]) (.var 0))] [("thread", 5)]),
 .ret (.ite (.cmp .NotEq (.var 3) (.lst [])) (.idx (.var 3) (.lit (.int 0))) (.lit .non))]
def m__law_asked : List MSt := [.tr [.ifs (.cmp .Eq (.var 0) (.lit (.int 0))) [.ret (.lst [(.lit (.str "told")), (.ite (.var 2) (.callk 11 [] [0] [(.var 1)]) (.call 11 [(.var 1)]))])] [],
 .ret (.lst [(.lit (.str "told")), (.ite (.var 2) (.callk 13 [] [0] [(.var 1)]) (.call 13 [(.var 1)]))])] [.as 2 3 [.lit (.str "thread"), .fld 0], .as 1 3 [.lit (.str "text"), .fld 0], .hd 0 [.ret (.lst [(.lit (.str "other")), (.lit .non)])]]]
def m__law_refusal : List MSt := [.ifs (.or (.cmp .NotEq (.idx (.var 0) (.lit (.int 0))) (.var 1)) (.not (.call 18 [(.idx (.var 0) (.lit (.int 1))), (.var 2)]))) [.ret (.lit (.bl false))] [],
 .exp (.call 19 [(.var 2)]),
 .ret (.call 18 [(.idx (.var 0) (.lit (.int 1))), (.var 2)])]
def m__law_right : List MSt := [.asg (.tp [(.nm 3), (.nm 4)]) (.tup [(.call 23 [(.var 0)]), (.call 24 [(.var 0)])]),
 .ifs (.or (.not (.call 22 [(.var 4)])) (.not (.call 21 [(.var 3)]))) [.ret (.lit (.bl false))] [],
 .fors (.nm 2) (.e (.call 25 [(.var 0), (.var 3)])) [.asg (.nm 5) (.call 21 [(.var 2)]),
 .asg (.nm 6) (.call 30 [(.lit (.int 0)), (.var 2), (.var 1)]),
 .ifs (.not (.call 18 [(.lst [(.call 6 [(.var 2)]), (.callk 6 [] [0] [(.var 2)])]), (.lst [(.var 5), (.var 5)])])) [.ret (.lit (.bl false))] [],
 .ifs (.not (.ite (.var 5) (.call 18 [(.var 6), (.lst [(.lit (.str "told")), (.call 27 [(.var 2)])])]) (.call 31 [(.var 6), (.lit (.str "thread")), (.var 2)]))) [.ret (.lit (.bl false))] [],
 .asg (.nm 1) (.not (.var 1))],
 .fors (.nm 2) (.e (.call 26 [(.var 0), (.var 4)])) [.asg (.nm 5) (.call 22 [(.var 2)]),
 .ifs (.not (.call 18 [(.lst [(.call 7 [(.var 2)]), (.callk 7 [] [0] [(.var 2)])]), (.lst [(.var 5), (.var 5)])])) [.ret (.lit (.bl false))] []],
 .fors (.nm 2) (.e (.call 28 [(.var 0), (.var 3)])) [.asg (.nm 5) (.call 29 [(.var 2)]),
 .asg (.nm 6) (.call 30 [(.lit (.int 1)), (.var 2), (.var 1)]),
 .ifs (.not (.ite (.cmp .IsNot (.var 5) (.lit .non)) (.call 18 [(.var 6), (.lst [(.lit (.str "told")), (.var 5)])]) (.call 31 [(.var 6), (.lit (.str "text")), (.var 2)]))) [.ret (.lit (.bl false))] [],
 .asg (.nm 1) (.not (.var 1))],
 .ret (.lit (.bl true))]
def m_law : List MSt := [.fors (.nm 1) (.rng [(.fn .max [(.lit (.int 2)), (.fn .min [(.lit (.int 5)), (.fn .len [(.var 0)])])])]) [.asg (.nm 2) (.call 15 [(.call 14 [(.var 0), (.var 1)])]),
 .fors (.nm 3) (.rng [(.lit (.int 3))]) [.ifs (.not (.call 32 [(.var 2), (.cmp .Eq (.call 16 [(.var 2), (.lit (.int 2))]) (.lit (.int 0)))])) [.ret (.lit (.bl false))] []]],
 .ret (.lit (.bl true))]
end MP

set_option maxRecDepth 100000
set_option maxHeartbeats 0
namespace MP.Q
open PySem PyProof.Rows L2
def D_is_integer : MDef := ⟨"is_integer", 1, ["value"], m_is_integer, []⟩
def D_is_within : MDef := ⟨"is_within", 3, ["value", "low", "high"], m_is_within, []⟩
def D_is_index : MDef := ⟨"is_index", 2, ["value", "many"], m_is_index, []⟩
def D_is_tuple : MDef := ⟨"is_tuple", 2, ["value", "many"], m_is_tuple, []⟩
def D_ascends : MDef := ⟨"ascends", 1, ["items", "at"], m_ascends, []⟩
def D_integer_in : MDef := ⟨"integer_in", 1, ["text", "digits", "sign"], m_integer_in, []⟩
def D_is_thread : MDef := ⟨"is_thread", 1, ["value", "k"], m_is_thread, [(0, ["value"], [0])]⟩
def D_is_inputs : MDef := ⟨"is_inputs", 1, ["value", "item", "thread", "row"], m_is_inputs, [(0, ["value"], [0])]⟩
def D_is_row : MDef := ⟨"is_row", 1, ["value", "item"], m_is_row, []⟩
def D_check_thread : MDef := ⟨"check_thread", 1, ["thread"], m_check_thread, []⟩
def D_thread_text : MDef := ⟨"thread_text", 1, ["thread", "k"], m_thread_text, []⟩
def D_write_thread : MDef := ⟨"write_thread", 1, ["thread"], m_write_thread, [(0, ["thread"], [0])]⟩
def D_thread_in : MDef := ⟨"thread_in", 1, ["text", "found", "part"], m_thread_in, []⟩
def D_read_thread : MDef := ⟨"read_thread", 1, ["text", "found"], m_read_thread, [(0, ["text"], [0])]⟩
def D__law_cell : MDef := ⟨"_law_cell", 2, ["script", "k"], m__law_cell, []⟩
def D__law_box : MDef := ⟨"_law_box", 1, ["great"], m__law_box, []⟩
def D__law_take : MDef := ⟨"_law_take", 2, ["box", "many", "mixed", "digit"], m__law_take, []⟩
def D__law_pick : MDef := ⟨"_law_pick", 2, ["box", "items"], m__law_pick, []⟩
def D__law_same : MDef := ⟨"_law_same", 2, ["given", "due", "k", "key"], m__law_same, []⟩
def D__law_grown : MDef := ⟨"_law_grown", 1, ["value"], m__law_grown, []⟩
def D__law_is_whole : MDef := ⟨"_law_is_whole", 3, ["value", "low", "high"], m__law_is_whole, []⟩
def D__law_is_thread : MDef := ⟨"_law_is_thread", 1, ["value", "k"], m__law_is_thread, []⟩
def D__law_are_inputs : MDef := ⟨"_law_are_inputs", 1, ["value", "one", "k", "item"], m__law_are_inputs, []⟩
def D__law_thread : MDef := ⟨"_law_thread", 1, ["box", "turn"], m__law_thread, []⟩
def D__law_inputs : MDef := ⟨"_law_inputs", 1, ["box", "found", "turn", "many", "thread", "item"], m__law_inputs, []⟩
def D__law_near_threads : MDef := ⟨"_law_near_threads", 2, ["box", "thread", "at", "odd"], m__law_near_threads, []⟩
def D__law_near_inputs : MDef := ⟨"_law_near_inputs", 2, ["box", "inputs", "found", "at", "odd", "place", "changed", "one", "thread", "row"], m__law_near_inputs, []⟩
def D__law_dots : MDef := ⟨"_law_dots", 1, ["thread", "k"], m__law_dots, []⟩
def D__law_texts : MDef := ⟨"_law_texts", 2, ["box", "thread", "text", "at", "more", "found"], m__law_texts, []⟩
def D__law_read : MDef := ⟨"_law_read", 1, ["text", "found", "turn", "same", "longer", "thread", "a"], m__law_read, []⟩
def D__law_asked : MDef := ⟨"_law_asked", 3, ["which", "value", "named", "e"], m__law_asked, []⟩
def D__law_refusal : MDef := ⟨"_law_refusal", 3, ["told", "word", "value"], m__law_refusal, []⟩
def D__law_right : MDef := ⟨"_law_right", 2, ["box", "named", "value", "thread", "inputs", "due", "told"], m__law_right, []⟩
def D_law : MDef := ⟨"law", 1, ["script", "k", "box", "turn"], m_law, []⟩
def glbP : List MV := [(.str "0123456789"), (.int 3), (.int 3), (.int 20)]
def subP : SubT := fun a b => ((([[true, false, false], [true, true, false], [true, false, true]] : List (List Bool)).getD (min a 2) []).getD (min b 2) false)
def PP : MProg := ⟨[D_is_integer, D_is_within, D_is_index, D_is_tuple, D_ascends, D_integer_in, D_is_thread, D_is_inputs, D_is_row, D_check_thread, D_thread_text, D_write_thread, D_thread_in, D_read_thread, D__law_cell, D__law_box, D__law_take, D__law_pick, D__law_same, D__law_grown, D__law_is_whole, D__law_is_thread, D__law_are_inputs, D__law_thread, D__law_inputs, D__law_near_threads, D__law_near_inputs, D__law_dots, D__law_texts, D__law_read, D__law_asked, D__law_refusal, D__law_right, D_law], glbP, subP⟩
theorem c_is_integer (k : Nat) (L : List Nat) (a0 : MV) (h : MH) : callM PP (k + 1) L 0 [a0] h = (evSs subP ⟨callM PP k, glbP, L⟩ m_is_integer [some a0] h).out := rfl
theorem c_is_within (k : Nat) (L : List Nat) (a0 a1 a2 : MV) (h : MH) : callM PP (k + 1) L 1 [a0, a1, a2] h = (evSs subP ⟨callM PP k, glbP, L⟩ m_is_within [some a0, some a1, some a2] h).out := rfl
theorem c_is_index (k : Nat) (L : List Nat) (a0 a1 : MV) (h : MH) : callM PP (k + 1) L 2 [a0, a1] h = (evSs subP ⟨callM PP k, glbP, L⟩ m_is_index [some a0, some a1] h).out := rfl
theorem c_is_tuple (k : Nat) (L : List Nat) (a0 a1 : MV) (h : MH) : callM PP (k + 1) L 3 [a0, a1] h = (evSs subP ⟨callM PP k, glbP, L⟩ m_is_tuple [some a0, some a1] h).out := rfl
theorem c_ascends (k : Nat) (L : List Nat) (a0 : MV) (h : MH) : callM PP (k + 1) L 4 [a0] h = (evSs subP ⟨callM PP k, glbP, L⟩ m_ascends [some a0, none] h).out := rfl
theorem c_integer_in (k : Nat) (L : List Nat) (a0 : MV) (h : MH) : callM PP (k + 1) L 5 [a0] h = (evSs subP ⟨callM PP k, glbP, L⟩ m_integer_in [some a0, none, none] h).out := rfl
theorem c_is_thread (k : Nat) (L : List Nat) (a0 : MV) (h : MH) : callM PP (k + 1) L 6 [a0] h = (evSs subP ⟨callM PP k, glbP, L⟩ m_is_thread [some a0, none] h).out := rfl
theorem c_is_inputs (k : Nat) (L : List Nat) (a0 : MV) (h : MH) : callM PP (k + 1) L 7 [a0] h = (evSs subP ⟨callM PP k, glbP, L⟩ m_is_inputs [some a0, none, none, none] h).out := rfl
theorem c_is_row (k : Nat) (L : List Nat) (a0 : MV) (h : MH) : callM PP (k + 1) L 8 [a0] h = (evSs subP ⟨callM PP k, glbP, L⟩ m_is_row [some a0, none] h).out := rfl
theorem c_check_thread (k : Nat) (L : List Nat) (a0 : MV) (h : MH) : callM PP (k + 1) L 9 [a0] h = (evSs subP ⟨callM PP k, glbP, L⟩ m_check_thread [some a0] h).out := rfl
theorem c_thread_text (k : Nat) (L : List Nat) (a0 : MV) (h : MH) : callM PP (k + 1) L 10 [a0] h = (evSs subP ⟨callM PP k, glbP, L⟩ m_thread_text [some a0, none] h).out := rfl
theorem c_write_thread (k : Nat) (L : List Nat) (a0 : MV) (h : MH) : callM PP (k + 1) L 11 [a0] h = (evSs subP ⟨callM PP k, glbP, L⟩ m_write_thread [some a0] h).out := rfl
theorem c_thread_in (k : Nat) (L : List Nat) (a0 : MV) (h : MH) : callM PP (k + 1) L 12 [a0] h = (evSs subP ⟨callM PP k, glbP, L⟩ m_thread_in [some a0, none, none] h).out := rfl
theorem c_read_thread (k : Nat) (L : List Nat) (a0 : MV) (h : MH) : callM PP (k + 1) L 13 [a0] h = (evSs subP ⟨callM PP k, glbP, L⟩ m_read_thread [some a0, none] h).out := rfl
theorem c__law_cell (k : Nat) (L : List Nat) (a0 a1 : MV) (h : MH) : callM PP (k + 1) L 14 [a0, a1] h = (evSs subP ⟨callM PP k, glbP, L⟩ m__law_cell [some a0, some a1] h).out := rfl
theorem c__law_box (k : Nat) (L : List Nat) (a0 : MV) (h : MH) : callM PP (k + 1) L 15 [a0] h = (evSs subP ⟨callM PP k, glbP, L⟩ m__law_box [some a0] h).out := rfl
theorem c__law_take (k : Nat) (L : List Nat) (a0 a1 : MV) (h : MH) : callM PP (k + 1) L 16 [a0, a1] h = (evSs subP ⟨callM PP k, glbP, L⟩ m__law_take [some a0, some a1, none, none] h).out := rfl
theorem c__law_pick (k : Nat) (L : List Nat) (a0 a1 : MV) (h : MH) : callM PP (k + 1) L 17 [a0, a1] h = (evSs subP ⟨callM PP k, glbP, L⟩ m__law_pick [some a0, some a1] h).out := rfl
theorem c__law_same (k : Nat) (L : List Nat) (a0 a1 : MV) (h : MH) : callM PP (k + 1) L 18 [a0, a1] h = (evSs subP ⟨callM PP k, glbP, L⟩ m__law_same [some a0, some a1, none, none] h).out := rfl
theorem c__law_grown (k : Nat) (L : List Nat) (a0 : MV) (h : MH) : callM PP (k + 1) L 19 [a0] h = (evSs subP ⟨callM PP k, glbP, L⟩ m__law_grown [some a0] h).out := rfl
theorem c__law_is_whole (k : Nat) (L : List Nat) (a0 a1 a2 : MV) (h : MH) : callM PP (k + 1) L 20 [a0, a1, a2] h = (evSs subP ⟨callM PP k, glbP, L⟩ m__law_is_whole [some a0, some a1, some a2] h).out := rfl
theorem c__law_is_thread (k : Nat) (L : List Nat) (a0 : MV) (h : MH) : callM PP (k + 1) L 21 [a0] h = (evSs subP ⟨callM PP k, glbP, L⟩ m__law_is_thread [some a0, none] h).out := rfl
theorem c__law_are_inputs (k : Nat) (L : List Nat) (a0 : MV) (h : MH) : callM PP (k + 1) L 22 [a0] h = (evSs subP ⟨callM PP k, glbP, L⟩ m__law_are_inputs [some a0, none, none, none] h).out := rfl
theorem c__law_thread (k : Nat) (L : List Nat) (a0 : MV) (h : MH) : callM PP (k + 1) L 23 [a0] h = (evSs subP ⟨callM PP k, glbP, L⟩ m__law_thread [some a0, none] h).out := rfl
theorem c__law_inputs (k : Nat) (L : List Nat) (a0 : MV) (h : MH) : callM PP (k + 1) L 24 [a0] h = (evSs subP ⟨callM PP k, glbP, L⟩ m__law_inputs [some a0, none, none, none, none, none] h).out := rfl
theorem c__law_near_threads (k : Nat) (L : List Nat) (a0 a1 : MV) (h : MH) : callM PP (k + 1) L 25 [a0, a1] h = (evSs subP ⟨callM PP k, glbP, L⟩ m__law_near_threads [some a0, some a1, none, none] h).out := rfl
theorem c__law_near_inputs (k : Nat) (L : List Nat) (a0 a1 : MV) (h : MH) : callM PP (k + 1) L 26 [a0, a1] h = (evSs subP ⟨callM PP k, glbP, L⟩ m__law_near_inputs [some a0, some a1, none, none, none, none, none, none, none, none] h).out := rfl
theorem c__law_dots (k : Nat) (L : List Nat) (a0 : MV) (h : MH) : callM PP (k + 1) L 27 [a0] h = (evSs subP ⟨callM PP k, glbP, L⟩ m__law_dots [some a0, none] h).out := rfl
theorem c__law_texts (k : Nat) (L : List Nat) (a0 a1 : MV) (h : MH) : callM PP (k + 1) L 28 [a0, a1] h = (evSs subP ⟨callM PP k, glbP, L⟩ m__law_texts [some a0, some a1, none, none, none, none] h).out := rfl
theorem c__law_read (k : Nat) (L : List Nat) (a0 : MV) (h : MH) : callM PP (k + 1) L 29 [a0] h = (evSs subP ⟨callM PP k, glbP, L⟩ m__law_read [some a0, none, none, none, none, none, none] h).out := rfl
theorem c__law_asked (k : Nat) (L : List Nat) (a0 a1 a2 : MV) (h : MH) : callM PP (k + 1) L 30 [a0, a1, a2] h = (evSs subP ⟨callM PP k, glbP, L⟩ m__law_asked [some a0, some a1, some a2, none] h).out := rfl
theorem c__law_refusal (k : Nat) (L : List Nat) (a0 a1 a2 : MV) (h : MH) : callM PP (k + 1) L 31 [a0, a1, a2] h = (evSs subP ⟨callM PP k, glbP, L⟩ m__law_refusal [some a0, some a1, some a2] h).out := rfl
theorem c__law_right (k : Nat) (L : List Nat) (a0 a1 : MV) (h : MH) : callM PP (k + 1) L 32 [a0, a1] h = (evSs subP ⟨callM PP k, glbP, L⟩ m__law_right [some a0, some a1, none, none, none, none, none] h).out := rfl
theorem c_law (k : Nat) (L : List Nat) (a0 : MV) (h : MH) : callM PP (k + 1) L 33 [a0] h = (evSs subP ⟨callM PP k, glbP, L⟩ m_law [some a0, none, none, none] h).out := rfl

end MP.Q

set_option linter.all false
set_option autoImplicit false
set_option maxRecDepth 100000
namespace MP.Q
open PySem PyProof.Rows L2
/-! ### evaluation laws -/
section
variable {E : Ev} {σ : MS} {h : MH}
variable {S : SubT}
theorem x_lit {v : MV} : evT E (.lit v) σ h = (.ok (.v v) h) := by first | (rw [evT]; done) | (rw [evT]; rfl)
theorem x_var {i : Nat} : evT E (.var i) σ h = ((match σ[i]? with
    | some (some v) => .ok (.v v) h
    | _ => .bad)) := by first | (rw [evT]; done) | (rw [evT]; rfl)
theorem x_glb {i : Nat} : evT E (.glb i) σ h = ((match E.glb[i]? with
    | some (.tup xs) => .ok (.c xs) h
    | some v => .ok (.v v) h
    | none => .bad)) := by first | (rw [evT]; done) | (rw [evT]; rfl)
theorem x_tup {es : List ME} : evT E (.tup es) σ h = ((evs E es σ h).bind fun vs h => if vs.length ≤ sizeLine then .ok (.v (.tup vs)) h else .bad) := by first | (rw [evT]; done) | (rw [evT]; rfl)
theorem x_lst {es : List ME} : evT E (.lst es) σ h = ((evs E es σ h).bind fun vs h => if vs.length ≤ sizeLine then .ok (.t vs) h else .bad) := by first | (rw [evT]; done) | (rw [evT]; rfl)
theorem x_dct {keyed : Bool} : evT E (.dct keyed) σ h = (if h.length ∈ E.L then .bad else .ok (.v (.ref h.length)) (h ++ [if keyed then .dt [] else .dk []])) := by first | (rw [evT]; done) | (rw [evT]; rfl)
theorem x_bin {op : Operator} {a b : ME} : evT E (.bin op a b) σ h = ((evT E a σ h).bind fun x h => (evT E b σ h).bind fun y h => Res.of h (binT h op x y)) := by first | (rw [evT]; done) | (rw [evT]; rfl)
theorem x_neg {a : ME} : evT E (.neg a) σ h = ((evT E a σ h).bind fun x h => (match x with
    | .v (.int i) => .ok (.v (.int (-i))) h
    | _ => .bad)) := by first | (rw [evT]; done) | (rw [evT]; rfl)
theorem x_not {a : ME} : evT E (.not a) σ h = ((evT E a σ h).bind fun x h => (Res.of h (tru h x)).bind fun k h => .ok (.v (.bl (!k))) h) := by first | (rw [evT]; done) | (rw [evT]; rfl)
theorem x_and {a b : ME} : evT E (.and a b) σ h = ((evT E a σ h).bind fun x h => (Res.of h (tru h x)).bind fun k h => if k then evT E b σ h else .ok x h) := by first | (rw [evT]; done) | (rw [evT]; rfl)
theorem x_or {a b : ME} : evT E (.or a b) σ h = ((evT E a σ h).bind fun x h => (Res.of h (tru h x)).bind fun k h => if k then .ok x h else evT E b σ h) := by first | (rw [evT]; done) | (rw [evT]; rfl)
theorem x_ite {t a b : ME} : evT E (.ite t a b) σ h = ((evT E t σ h).bind fun x h => (Res.of h (tru h x)).bind fun k h => if k then evT E a σ h else evT E b σ h) := by first | (rw [evT]; done) | (rw [evT]; rfl)
theorem x_cmp {op : CmpOp} {a b : ME} : evT E (.cmp op a b) σ h = ((evT E a σ h).bind fun x h => (evT E b σ h).bind fun y h => (Res.of h (cmpT h op x y)).bind fun k h => .ok (.v (.bl k)) h) := by first | (rw [evT]; done) | (rw [evT]; rfl)
theorem x_chain {op op' : CmpOp} {a b c : ME} : evT E (.chain op op' a b c) σ h = ((evT E a σ h).bind fun x h => (evT E b σ h).bind fun y h => (Res.of h (cmpT h op x y)).bind fun k h =>
    if k then (evT E c σ h).bind fun z h => (Res.of h (cmpT h op' y z)).bind fun k h => .ok (.v (.bl k)) h else .ok (.v (.bl false)) h) := by first | (rw [evT]; done) | (rw [evT]; rfl)
theorem x_idx {a i : ME} : evT E (.idx a i) σ h = ((evT E a σ h).bind fun x h => (evT E i σ h).bind fun y h => (Res.of h ((vOf y).bind fun j => idxT h x j)).bind fun v h => .ok (.v v) h) := by first | (rw [evT]; done) | (rw [evT]; rfl)
theorem x_slc {a : ME} {lo hi : Option ME} : evT E (.slc a lo hi) σ h = ((evT E a σ h).bind fun x h => (evO E lo σ h).bind fun l h => (evO E hi σ h).bind fun u h => Res.of h (slcT h x l u)) := by first | (rw [evT]; done) | (rw [evT]; rfl)
theorem x_rev {a : ME} : evT E (.rev a) σ h = ((evT E a σ h).bind fun x h => (match x with
    | .v (.tup xs) => .ok (.v (.tup xs.reverse)) h
    | x => (Res.of h (listOf h x)).bind fun xs h => .ok (.t xs.reverse) h)) := by first | (rw [evT]; done) | (rw [evT]; rfl)
theorem x_isi {a : ME} {ts : List TY} {one : Bool} : evT E (.isi a ts one) σ h = ((evT E a σ h).bind fun x h => if isiOk h x then .ok (.v (.bl (ts.any (isiV h x)))) h else .bad) := by first | (rw [evT]; done) | (rw [evT]; rfl)
theorem x_fn {b : BI} {es : List ME} : evT E (.fn b es) σ h = ((evTs E es σ h).bind fun as h => Res.of h (fnT h b as)) := by first | (rw [evT]; done) | (rw [evT]; rfl)
theorem x_mth {m : MM} {o : ME} {es : List ME} : evT E (.mth m o es) σ h = ((evT E o σ h).bind fun x h => (Res.of h (vOf x)).bind fun ov h => if mOk h m ov then
    ((match m with
      | .append => (evs E es σ h).bind fun as h => .ok (as.map TV.v) h
      | .insert => (evs E es σ h).bind fun as h => .ok (as.map TV.v) h
      | _ => evTs E es σ h : Res (List TV))).bind fun as h => (match mthT h m ov as with
    | some (v, h') => .ok v h'
    | none => .bad) else .bad) := by first | (rw [evT]; done) | (rw [evT]; rfl)
theorem x_call {d : Nat} {es : List ME} : evT E (.call d es) σ h = ((evs E es σ h).bind fun as h => (E.C E.L d as h).bind fun v h => .ok (.v v) h) := by first | (rw [evT]; done) | (rw [evT]; rfl)
theorem x_callk {d : Nat} {es ws : List ME} {ks : List Nat} : evT E (.callk d es ks ws) σ h = ((evs E es σ h).bind fun as h => (evs E ws σ h).bind fun bs h => (E.C E.L d (arr ks as bs) h).bind fun v h => .ok (.v v) h) := by first | (rw [evT]; done) | (rw [evT]; rfl)
theorem x_src {a : ME} : evI E (.e a) σ h = ((evT E a σ h).bind fun x h => Res.of h (itE a.isVar E.L h x)) := by first | (rw [evI]; done) | (rw [evI]; rfl)
theorem x_rng {es : List ME} : evI E (.rng es) σ h = ((evs E es σ h).bind fun vs h => Res.of h (rngOf vs)) := by first | (rw [evI]; done) | (rw [evI]; rfl)
theorem y_asg {tg : MT} {e : ME} : evS S E (.asg tg e) σ h = ((evE E e σ h).st σ fun v h => (match bindT tg v σ with
    | some σ' => .next σ' h
    | none => .bad)) := by first | (rw [evS]; done) | (rw [evS]; rfl)
theorem y_sub {o i e : ME} : evS S E (.sub o i e) σ h = ((evE E e σ h).st σ fun v h => (evE E o σ h).st σ fun x h => (evE E i σ h).st σ fun j h => (match setItT E.L h x j v with
    | some h' => .next σ h'
    | none => .bad)) := by first | (rw [evS]; done) | (rw [evS]; rfl)
theorem y_aug {i : Nat} {op : Operator} {e : ME} : evS S E (.aug i op e) σ h = ((match σ[i]? with
    | some (some x) => (evE E e σ h).st σ fun v h => (match augT op x v with
      | some y => .next (σ.set i (some y)) h
      | none => .bad)
    | _ => .bad)) := by first | (rw [evS]; done) | (rw [evS]; rfl)
theorem y_exp {e : ME} : evS S E (.exp e) σ h = ((evT E e σ h).st σ fun _ h => .next σ h) := by first | (rw [evS]; done) | (rw [evS]; rfl)
theorem y_ifs {t : ME} {a b : List MSt} : evS S E (.ifs t a b) σ h = ((evT E t σ h).st σ fun x h => (match tru h x with
    | some true => evSs S E a σ h
    | some false => evSs S E b σ h
    | none => .bad)) := by first | (rw [evS]; done) | (rw [evS]; rfl)
theorem y_fors {tg : MT} {src : MI} {body : List MSt} : evS S E (.fors tg src body) σ h = ((evI E src σ h).st σ fun it h => if E.unlocked it then loopS it (fun x σ h => (match bindT tg x σ with
    | some σ' => evSs S E body σ' h
    | none => .bad)) it.items σ h else .bad) := by first | (rw [evS]; done) | (rw [evS]; rfl)
theorem y_ret {e : ME} : evS S E (.ret e) σ h = ((evE E e σ h).st σ fun v h => .ret v h) := by first | (rw [evS]; done) | (rw [evS]; rfl)
theorem y_retN  : evS S E (.retN) σ h = (.ret .non h) := by first | (rw [evS]; done) | (rw [evS]; rfl)
theorem y_pass  : evS S E (.pass) σ h = (.next σ h) := by first | (rw [evS]; done) | (rw [evS]; rfl)
theorem y_brk  : evS S E (.brk) σ h = (.brk σ h) := by first | (rw [evS]; done) | (rw [evS]; rfl)
theorem y_cnt  : evS S E (.cnt) σ h = (.cnt σ h) := by first | (rw [evS]; done) | (rw [evS]; rfl)
theorem y_rse {c : Nat} {es : List ME} : evS S E (.rse c es) σ h = ((evs E es σ h).st σ fun vs h => .exc c vs σ h) := by first | (rw [evS]; done) | (rw [evS]; rfl)
theorem y_tr {body : List MSt} {hs : List MHd} : evS S E (.tr body hs) σ h = ((match evSs S E body σ h with
    | .exc c vs σ' h' => evH S E hs c vs σ' h'
    | r => r)) := by first | (rw [evS]; done) | (rw [evS]; rfl)

theorem filt_cons {α β : Type} (g : α → Option β) (x : α) (xs : List α) : (x :: xs).filterMap g = (g x).toList ++ xs.filterMap g := by
  cases e : g x <;> simp [List.filterMap_cons, e]
theorem loopC_pure {t : MIt} {f : MV → MH → Res (Option MV)} {g : MV → Option MV} (hs : t.still h = true) : ∀ (xs : List MV), (∀ x ∈ xs, f x h = .ok (g x) h) → loopC t f xs h = .ok (xs.filterMap g) h
  | [], _ => by simp [loopC, hs]
  | x :: xs, hf => by
    rw [loopC, if_pos hs, hf x (by simp), Res.bind_ok, loopC_pure hs xs fun y hy => hf y (by simp [hy]), Res.bind_ok, filt_cons]
theorem ev_lc {elt : ME} {tg : MT} {src : MI} {ifs : List ME} {own : List (Str × Nat)} {it : MIt} {g : MV → Option MV} (h1 : evI E src σ h = .ok it h) (hs : it.still h = true)
    (hf : ∀ x ∈ it.items, ((Res.of h (bindT tg x (wipeM σ (own.map (·.2))))).bind fun σ2 h => (evIfs (E.locked it) ifs σ2 h).bind fun k h => if k then ((evT (E.locked it) elt σ2 h).bind settle).bind fun y h => .ok (some y) h else .ok none h) = .ok (g x) h) :
    evT E (.lc elt tg src ifs own) σ h = .ok (.t (it.items.filterMap g)) h := by
  rw [evT, h1, Res.bind_ok, loopC_pure hs _ hf, Res.noX_ok, Res.bind_ok]
theorem loopS_inv {t : MIt} {f : MV → MS → MH → SR} (I : List MV → MS → MH → Prop) (hst : ∀ xs σ h, I xs σ h → t.still h = true)
    (hf : ∀ x xs σ h, I (x :: xs) σ h → ∃ σ' h', f x σ h = .next σ' h' ∧ I xs σ' h') : ∀ xs σ h, I xs σ h → ∃ σ' h', loopS t f xs σ h = .next σ' h' ∧ I [] σ' h'
  | [], σ, h, i => ⟨σ, h, by rw [loopS, if_pos (hst _ _ _ i)], i⟩
  | x :: xs, σ, h, i => by
    obtain ⟨σ', h', e, i'⟩ := hf x xs σ h i
    obtain ⟨σ2, h2, e2, i2⟩ := loopS_inv I hst hf xs σ' h' i'
    exact ⟨σ2, h2, by rw [loopS, if_pos (hst _ _ _ i), e, SR.turn_next, e2], i2⟩
theorem loopC_inv {t : MIt} {f : MV → MH → Res (Option MV)} (I : List MV → MH → Prop) (P : MV → Prop) (hst : ∀ xs h, I xs h → t.still h = true)
    (hf : ∀ x xs h, I (x :: xs) h → ∃ y h', f x h = .ok (some y) h' ∧ P y ∧ I xs h') : ∀ xs h, I xs h → ∃ ys h', loopC t f xs h = .ok ys h' ∧ (∀ y ∈ ys, P y) ∧ ys.length = xs.length ∧ I [] h'
  | [], h, i => ⟨[], h, by rw [loopC, if_pos (hst _ _ i)], by simp, rfl, i⟩
  | x :: xs, h, i => by
    obtain ⟨y, h', e, p, i'⟩ := hf x xs h i
    obtain ⟨ys, h2, e2, q, n, i2⟩ := loopC_inv I P hst hf xs h' i'
    refine ⟨y :: ys, h2, by rw [loopC, if_pos (hst _ _ i), e, Res.bind_ok, e2]; rfl, ?_, by simp [n], i2⟩
    intro z hz
    rcases List.mem_cons.mp hz with rfl | hz
    · exact p
    · exact q z hz
theorem sz0 : (0 ≤ sizeLine) = True := eq_true (by decide)
theorem sz1 : (1 ≤ sizeLine) = True := eq_true (by decide)
theorem sz2 : (2 ≤ sizeLine) = True := eq_true (by decide)
theorem sz3 : (3 ≤ sizeLine) = True := eq_true (by decide)
theorem sz4 : (4 ≤ sizeLine) = True := eq_true (by decide)
theorem sz5 : (5 ≤ sizeLine) = True := eq_true (by decide)
theorem sz6 : (6 ≤ sizeLine) = True := eq_true (by decide)
theorem sz7 : (7 ≤ sizeLine) = True := eq_true (by decide)
theorem sz8 : (8 ≤ sizeLine) = True := eq_true (by decide)
theorem sz9 : (9 ≤ sizeLine) = True := eq_true (by decide)
theorem sz10 : (10 ≤ sizeLine) = True := eq_true (by decide)
theorem sz11 : (11 ≤ sizeLine) = True := eq_true (by decide)
theorem sz12 : (12 ≤ sizeLine) = True := eq_true (by decide)
theorem sz13 : (13 ≤ sizeLine) = True := eq_true (by decide)
theorem sz14 : (14 ≤ sizeLine) = True := eq_true (by decide)
theorem sz15 : (15 ≤ sizeLine) = True := eq_true (by decide)
theorem sz16 : (16 ≤ sizeLine) = True := eq_true (by decide)
theorem sz17 : (17 ≤ sizeLine) = True := eq_true (by decide)
theorem sz18 : (18 ≤ sizeLine) = True := eq_true (by decide)
theorem sz19 : (19 ≤ sizeLine) = True := eq_true (by decide)
theorem sz20 : (20 ≤ sizeLine) = True := eq_true (by decide)
theorem sz21 : (21 ≤ sizeLine) = True := eq_true (by decide)
theorem sz22 : (22 ≤ sizeLine) = True := eq_true (by decide)
theorem sz23 : (23 ≤ sizeLine) = True := eq_true (by decide)
theorem seq_next {s : MSt} {ss : List MSt} {σ' : MS} {h' : MH} (e : evS S E s σ h = .next σ' h') : evSs S E (s :: ss) σ h = evSs S E ss σ' h' := by
  rw [evSs, e, SR.then_next]
theorem seq_ret {s : MSt} {ss : List MSt} {v : MV} {h' : MH} (e : evS S E s σ h = .ret v h') : evSs S E (s :: ss) σ h = .ret v h' := by
  rw [evSs, e, SR.then_ret]
theorem seq_exc {s : MSt} {ss : List MSt} {c : Nat} {vs : List MV} {σ' : MS} {h' : MH} (e : evS S E s σ h = .exc c vs σ' h') : evSs S E (s :: ss) σ h = .exc c vs σ' h' := by
  rw [evSs, e, SR.then_exc]
theorem seq_nil : evSs S E [] σ h = .next σ h := by rw [evSs]
theorem out_ret {v : MV} {h' : MH} : (SR.ret v h').out = .ok v h' := rfl
theorem out_next {σ' : MS} {h' : MH} : (SR.next σ' h').out = .ok .non h' := rfl
theorem out_exc {c : Nat} {vs : List MV} {σ' : MS} {h' : MH} : (SR.exc c vs σ' h').out = .exc c vs h' := rfl
theorem ev_rng {es : List ME} {vs : List MV} {it : MIt} {h' : MH} (h1 : evs E es σ h = .ok vs h') (h2 : rngOf vs = some it) : evI E (.rng es) σ h = .ok it h' := by
  rw [x_rng, h1, Res.bind_ok, h2, Res.of_some]
theorem eqT_int (i j : Int) : eqT h (.v (.int i)) (.v (.int j)) = some (decide (i = j)) := by
  by_cases e : i = j <;> simp [eqT, eqNil, listOf, eqD, TV.toD, MV.toD, PyData.depth, PyData.eqv, e]
theorem eqT_str (i j : Str) : eqT h (.v (.str i)) (.v (.str j)) = some (decide (i = j)) := by
  by_cases e : i = j <;> simp [eqT, eqNil, listOf, eqD, TV.toD, MV.toD, PyData.depth, PyData.eqv, e]
theorem eqT_bl (i j : Bool) : eqT h (.v (.bl i)) (.v (.bl j)) = some (decide (i = j)) := by
  cases i <;> cases j <;> simp [eqT, eqNil, listOf, eqD, TV.toD, MV.toD, PyData.depth, PyData.eqv]
theorem eqT_nil (xs : List MV) : eqT h (.t xs) (.t []) = some xs.isEmpty := by
  simp [eqT, eqNil, listOf]
theorem lt_t (xs : List MV) : listOf h (.t xs) = some xs := rfl
theorem lt_i (xs : List MV) : listOf h (.v (.tup xs)) = none := rfl
theorem b_len_tup (xs : List MV) : fnT h .len [.v (.tup xs)] = some (.v (.int xs.length)) := rfl
theorem b_len_t (xs : List MV) : fnT h .len [.t xs] = some (.v (.int xs.length)) := rfl
theorem g0 : glbP[0]? = some (.str "0123456789") := rfl
theorem g1 : glbP[1]? = some (.int 3) := rfl
theorem g2 : glbP[2]? = some (.int 3) := rfl
theorem g3 : glbP[3]? = some (.int 20) := rfl
theorem atI_nat {α : Type} (xs : List α) (j : Nat) : L2.atI xs (j : Int) = xs[j]? := by
  unfold L2.atI L2.ixN
  by_cases q : (j : Int) < xs.length
  · have : (0 : Int) ≤ j := by omega
    simp [q]
  · have : (0 : Int) ≤ j := by omega
    have : xs.length ≤ j := by omega
    simp [q, this]
theorem blsOf_map {α : Type} (f : α → Bool) : ∀ xs : List α, blsOf (xs.map fun x => .bl (f x)) = some (xs.map f)
  | [] => rfl
  | x :: xs => by rw [List.map_cons, blsOf, blsOf_map f xs]; rfl
theorem b_all {α : Type} (f : α → Bool) (xs : List α) : fnT h .all [.t (xs.map fun x => .bl (f x))] = some (.v (.bl (xs.all f))) := by
  simp only [fnT, f1, listOf, Option.bind_some, blsOf_map, Option.map_some, List.all_map]
  rfl
theorem filt_some {α β : Type} (g : α → β) : ∀ xs : List α, xs.filterMap (fun x => some (g x)) = xs.map g
  | [] => rfl
  | x :: xs => by rw [List.filterMap_cons]; simp [filt_some g xs]
end
/-! ### the program's defs -/
def isInt : MV → Bool
  | .int _ => true
  | _ => false
def within (lo hi : Int) : MV → Bool
  | .int i => decide (lo ≤ i) && decide (i ≤ hi)
  | _ => false
def isTup (n : Nat) : MV → Bool
  | .tup xs => decide (xs.length = n)
  | _ => false
def isThr : MV → Bool
  | .tup xs => decide (xs.length ≤ 3) && xs.all (within 0 2)
  | _ => false
def isRow : MV → Bool
  | .tup xs => decide (xs.length ≤ 20) && xs.all isInt
  | _ => false
def okv (h : MH) (v : MV) : Bool := isiOk h (.v v)
/-- a value all of whose items isinstance may be asked of -/
def okd (h : MH) : MV → Bool
  | .tup xs => xs.all (okv h)
  | v => okv h v
theorem okd_v {h : MH} {v : MV} (e : okd h v = true) : okv h v = true := by
  cases v <;> first | exact e | rfl
section
variable {k : Nat} {L : List Nat} {h : MH}
theorem s_is_integer (hk : 1 ≤ k) {v : MV} (hv : okv h v = true) : callM PP k L 0 [v] h = .ok (.bl (isInt v)) h := by
  obtain ⟨k, rfl⟩ : ∃ j, k = j + 1 := ⟨k - 1, by omega⟩
  rw [c_is_integer]
  unfold okv at hv
  simp only [m_is_integer, x_lit, x_var, x_glb, x_tup, x_lst, x_dct, x_bin, x_neg, x_not, x_and, x_or, x_ite, x_cmp, x_chain, x_idx, x_slc, x_rev, x_isi, x_fn, x_mth, x_call, x_callk, x_src, evs, evTs, evO, evIfs, evE, y_asg, y_sub, y_aug, y_exp, y_ifs, y_ret, y_retN, y_pass, y_brk, y_cnt, y_rse, evSs, Res.bind_ok, Res.bind_exc, Res.bind_bad, Res.of_some, Res.of_none, settle_v, settle_t, Res.noX_ok, Res.st_ok, Res.st_exc, Res.st_bad, SR.then_next, SR.then_ret, SR.then_brk, SR.then_cnt, SR.then_exc, SR.then_bad, SR.out, List.getElem?_cons_zero, List.getElem?_cons_succ, List.set_cons_zero, List.set_cons_succ, bindT, bindTs, Option.bind_some, Option.bind_none, Option.map_some, Option.map_none, vOf, if_true, if_false, Bool.false_eq_true, Bool.not_true, Bool.not_false, List.map_cons, List.map_nil, wipeM, Ev.locked, reduceCtorEq, f1, tru, List.length_cons, List.length_nil, Nat.reduceAdd, Nat.zero_add, sz0, sz1, sz2, sz3, sz4, sz5, sz6, sz7, sz8, sz9, sz10, sz11, sz12, sz13, sz14, sz15, sz16, sz17, sz18, sz19, sz20, sz21, sz22, sz23, hv]
  cases v with
  | ref p =>
    simp only [isiOk] at hv
    split at hv <;> simp_all [isiV, isInt]
  | _ => simp [isiV, isInt]
theorem s_is_within (hk : 2 ≤ k) {v : MV} {lo hi : Int} (hv : okv h v = true) : callM PP k L 1 [v, .int lo, .int hi] h = .ok (.bl (within lo hi v)) h := by
  obtain ⟨k, rfl⟩ : ∃ j, k = j + 1 := ⟨k - 1, by omega⟩
  rw [c_is_within]
  simp only [m_is_within, x_lit, x_var, x_glb, x_tup, x_lst, x_dct, x_bin, x_neg, x_not, x_and, x_or, x_ite, x_cmp, x_chain, x_idx, x_slc, x_rev, x_isi, x_fn, x_mth, x_call, x_callk, x_src, evs, evTs, evO, evIfs, evE, y_asg, y_sub, y_aug, y_exp, y_ifs, y_ret, y_retN, y_pass, y_brk, y_cnt, y_rse, evSs, Res.bind_ok, Res.bind_exc, Res.bind_bad, Res.of_some, Res.of_none, settle_v, settle_t, Res.noX_ok, Res.st_ok, Res.st_exc, Res.st_bad, SR.then_next, SR.then_ret, SR.then_brk, SR.then_cnt, SR.then_exc, SR.then_bad, SR.out, List.getElem?_cons_zero, List.getElem?_cons_succ, List.set_cons_zero, List.set_cons_succ, bindT, bindTs, Option.bind_some, Option.bind_none, Option.map_some, Option.map_none, vOf, if_true, if_false, Bool.false_eq_true, Bool.not_true, Bool.not_false, List.map_cons, List.map_nil, wipeM, Ev.locked, reduceCtorEq, f1, tru, List.length_cons, List.length_nil, Nat.reduceAdd, Nat.zero_add, sz0, sz1, sz2, sz3, sz4, sz5, sz6, sz7, sz8, sz9, sz10, sz11, sz12, sz13, sz14, sz15, sz16, sz17, sz18, sz19, sz20, sz21, sz22, sz23, s_is_integer (show 1 ≤ k by omega) hv]
  cases v with
  | int i =>
    by_cases q : lo ≤ i <;> simp [isInt, within, cmpT, icmp, x_lit, x_var, x_glb, x_tup, x_lst, x_dct, x_bin, x_neg, x_not, x_and, x_or, x_ite, x_cmp, x_chain, x_idx, x_slc, x_rev, x_isi, x_fn, x_mth, x_call, x_callk, x_src, evs, evTs, evO, evIfs, evE, y_asg, y_sub, y_aug, y_exp, y_ifs, y_ret, y_retN, y_pass, y_brk, y_cnt, y_rse, evSs, Res.bind_ok, Res.bind_exc, Res.bind_bad, Res.of_some, Res.of_none, settle_v, settle_t, Res.noX_ok, Res.st_ok, Res.st_exc, Res.st_bad, SR.then_next, SR.then_ret, SR.then_brk, SR.then_cnt, SR.then_exc, SR.then_bad, SR.out, List.getElem?_cons_zero, List.getElem?_cons_succ, List.set_cons_zero, List.set_cons_succ, bindT, bindTs, Option.bind_some, Option.bind_none, Option.map_some, Option.map_none, vOf, if_true, if_false, Bool.false_eq_true, Bool.not_true, Bool.not_false, List.map_cons, List.map_nil, wipeM, Ev.locked, reduceCtorEq, f1, tru, List.length_cons, List.length_nil, Nat.reduceAdd, Nat.zero_add, sz0, sz1, sz2, sz3, sz4, sz5, sz6, sz7, sz8, sz9, sz10, sz11, sz12, sz13, sz14, sz15, sz16, sz17, sz18, sz19, sz20, sz21, sz22, sz23, q]
  | _ => simp [isInt, within]
theorem s_is_index (hk : 3 ≤ k) {v : MV} {m : Int} (hv : okv h v = true) : callM PP k L 2 [v, .int m] h = .ok (.bl (within 0 (m - 1) v)) h := by
  obtain ⟨k, rfl⟩ : ∃ j, k = j + 1 := ⟨k - 1, by omega⟩
  rw [c_is_index]
  simp only [m_is_index, x_lit, x_var, x_glb, x_tup, x_lst, x_dct, x_bin, x_neg, x_not, x_and, x_or, x_ite, x_cmp, x_chain, x_idx, x_slc, x_rev, x_isi, x_fn, x_mth, x_call, x_callk, x_src, evs, evTs, evO, evIfs, evE, y_asg, y_sub, y_aug, y_exp, y_ifs, y_ret, y_retN, y_pass, y_brk, y_cnt, y_rse, evSs, Res.bind_ok, Res.bind_exc, Res.bind_bad, Res.of_some, Res.of_none, settle_v, settle_t, Res.noX_ok, Res.st_ok, Res.st_exc, Res.st_bad, SR.then_next, SR.then_ret, SR.then_brk, SR.then_cnt, SR.then_exc, SR.then_bad, SR.out, List.getElem?_cons_zero, List.getElem?_cons_succ, List.set_cons_zero, List.set_cons_succ, bindT, bindTs, Option.bind_some, Option.bind_none, Option.map_some, Option.map_none, vOf, if_true, if_false, Bool.false_eq_true, Bool.not_true, Bool.not_false, List.map_cons, List.map_nil, wipeM, Ev.locked, reduceCtorEq, f1, tru, List.length_cons, List.length_nil, Nat.reduceAdd, Nat.zero_add, sz0, sz1, sz2, sz3, sz4, sz5, sz6, sz7, sz8, sz9, sz10, sz11, sz12, sz13, sz14, sz15, sz16, sz17, sz18, sz19, sz20, sz21, sz22, sz23, binT, s_is_within (show 2 ≤ k by omega) hv]
theorem s_is_tuple (hk : 1 ≤ k) {v : MV} {m : Nat} (hv : okv h v = true) : callM PP k L 3 [v, .int m] h = .ok (.bl (isTup m v)) h := by
  obtain ⟨k, rfl⟩ : ∃ j, k = j + 1 := ⟨k - 1, by omega⟩
  rw [c_is_tuple]
  unfold okv at hv
  simp only [m_is_tuple, x_lit, x_var, x_glb, x_tup, x_lst, x_dct, x_bin, x_neg, x_not, x_and, x_or, x_ite, x_cmp, x_chain, x_idx, x_slc, x_rev, x_isi, x_fn, x_mth, x_call, x_callk, x_src, evs, evTs, evO, evIfs, evE, y_asg, y_sub, y_aug, y_exp, y_ifs, y_ret, y_retN, y_pass, y_brk, y_cnt, y_rse, evSs, Res.bind_ok, Res.bind_exc, Res.bind_bad, Res.of_some, Res.of_none, settle_v, settle_t, Res.noX_ok, Res.st_ok, Res.st_exc, Res.st_bad, SR.then_next, SR.then_ret, SR.then_brk, SR.then_cnt, SR.then_exc, SR.then_bad, SR.out, List.getElem?_cons_zero, List.getElem?_cons_succ, List.set_cons_zero, List.set_cons_succ, bindT, bindTs, Option.bind_some, Option.bind_none, Option.map_some, Option.map_none, vOf, if_true, if_false, Bool.false_eq_true, Bool.not_true, Bool.not_false, List.map_cons, List.map_nil, wipeM, Ev.locked, reduceCtorEq, f1, tru, List.length_cons, List.length_nil, Nat.reduceAdd, Nat.zero_add, sz0, sz1, sz2, sz3, sz4, sz5, sz6, sz7, sz8, sz9, sz10, sz11, sz12, sz13, sz14, sz15, sz16, sz17, sz18, sz19, sz20, sz21, sz22, sz23, hv]
  cases v with
  | tup xs => simp [isiV, isTup, fnT, lenT, seqOf, listOf, cmpT, eqT_int, x_lit, x_var, x_glb, x_tup, x_lst, x_dct, x_bin, x_neg, x_not, x_and, x_or, x_ite, x_cmp, x_chain, x_idx, x_slc, x_rev, x_isi, x_fn, x_mth, x_call, x_callk, x_src, evs, evTs, evO, evIfs, evE, y_asg, y_sub, y_aug, y_exp, y_ifs, y_ret, y_retN, y_pass, y_brk, y_cnt, y_rse, evSs, Res.bind_ok, Res.bind_exc, Res.bind_bad, Res.of_some, Res.of_none, settle_v, settle_t, Res.noX_ok, Res.st_ok, Res.st_exc, Res.st_bad, SR.then_next, SR.then_ret, SR.then_brk, SR.then_cnt, SR.then_exc, SR.then_bad, SR.out, List.getElem?_cons_zero, List.getElem?_cons_succ, List.set_cons_zero, List.set_cons_succ, bindT, bindTs, Option.bind_some, Option.bind_none, Option.map_some, Option.map_none, vOf, if_true, if_false, Bool.false_eq_true, Bool.not_true, Bool.not_false, List.map_cons, List.map_nil, wipeM, Ev.locked, reduceCtorEq, f1, tru, List.length_cons, List.length_nil, Nat.reduceAdd, Nat.zero_add, sz0, sz1, sz2, sz3, sz4, sz5, sz6, sz7, sz8, sz9, sz10, sz11, sz12, sz13, sz14, sz15, sz16, sz17, sz18, sz19, sz20, sz21, sz22, sz23, Int.ofNat_inj]
  | ref p =>
    simp only [isiOk] at hv
    split at hv <;> simp_all [isiV, isTup]
  | _ => simp [isiV, isTup]
theorem s_is_thread (hk : 4 ≤ k) {v : MV} (hv : okd h v = true) : callM PP k L 6 [v] h = .ok (.bl (isThr v)) h := by
  obtain ⟨k, rfl⟩ : ∃ j, k = j + 1 := ⟨k - 1, by omega⟩
  rw [c_is_thread]
  have hv' := okd_v hv
  unfold okv at hv'
  cases v with
  | tup xs =>
    have e1 : evT ⟨callM PP k, glbP, L⟩ (.lc (.call 2 [.var 1, .glb 1]) (.nm 1) (.e (.var 0)) [] [("k", 1)]) [some (.tup xs), none] h = .ok (.t (xs.map fun x => .bl (within 0 2 x))) h := by
      rw [ev_lc (it := ⟨none, none, xs⟩) (g := fun x => some (.bl (within 0 2 x))), filt_some]
      · simp only [x_lit, x_var, x_glb, x_tup, x_lst, x_dct, x_bin, x_neg, x_not, x_and, x_or, x_ite, x_cmp, x_chain, x_idx, x_slc, x_rev, x_isi, x_fn, x_mth, x_call, x_callk, x_src, evs, evTs, evO, evIfs, evE, y_asg, y_sub, y_aug, y_exp, y_ifs, y_ret, y_retN, y_pass, y_brk, y_cnt, y_rse, evSs, Res.bind_ok, Res.bind_exc, Res.bind_bad, Res.of_some, Res.of_none, settle_v, settle_t, Res.noX_ok, Res.st_ok, Res.st_exc, Res.st_bad, SR.then_next, SR.then_ret, SR.then_brk, SR.then_cnt, SR.then_exc, SR.then_bad, SR.out, List.getElem?_cons_zero, List.getElem?_cons_succ, List.set_cons_zero, List.set_cons_succ, bindT, bindTs, Option.bind_some, Option.bind_none, Option.map_some, Option.map_none, vOf, if_true, if_false, Bool.false_eq_true, Bool.not_true, Bool.not_false, List.map_cons, List.map_nil, wipeM, Ev.locked, reduceCtorEq, f1, tru, List.length_cons, List.length_nil, Nat.reduceAdd, Nat.zero_add, sz0, sz1, sz2, sz3, sz4, sz5, sz6, sz7, sz8, sz9, sz10, sz11, sz12, sz13, sz14, sz15, sz16, sz17, sz18, sz19, sz20, sz21, sz22, sz23, itE, itOf]
      · rfl
      · intro x hx
        have hx' : okv h x = true := by
          simp only [okd, List.all_eq_true] at hv
          exact hv x hx
        simp only [x_lit, x_var, x_glb, x_tup, x_lst, x_dct, x_bin, x_neg, x_not, x_and, x_or, x_ite, x_cmp, x_chain, x_idx, x_slc, x_rev, x_isi, x_fn, x_mth, x_call, x_callk, x_src, evs, evTs, evO, evIfs, evE, y_asg, y_sub, y_aug, y_exp, y_ifs, y_ret, y_retN, y_pass, y_brk, y_cnt, y_rse, evSs, Res.bind_ok, Res.bind_exc, Res.bind_bad, Res.of_some, Res.of_none, settle_v, settle_t, Res.noX_ok, Res.st_ok, Res.st_exc, Res.st_bad, SR.then_next, SR.then_ret, SR.then_brk, SR.then_cnt, SR.then_exc, SR.then_bad, SR.out, List.getElem?_cons_zero, List.getElem?_cons_succ, List.set_cons_zero, List.set_cons_succ, bindT, bindTs, Option.bind_some, Option.bind_none, Option.map_some, Option.map_none, vOf, if_true, if_false, Bool.false_eq_true, Bool.not_true, Bool.not_false, List.map_cons, List.map_nil, wipeM, Ev.locked, reduceCtorEq, f1, tru, List.length_cons, List.length_nil, Nat.reduceAdd, Nat.zero_add, sz0, sz1, sz2, sz3, sz4, sz5, sz6, sz7, sz8, sz9, sz10, sz11, sz12, sz13, sz14, sz15, sz16, sz17, sz18, sz19, sz20, sz21, sz22, sz23, g1, s_is_index (show 3 ≤ k by omega) hx']
        rfl
    simp only [m_is_thread, x_lit, x_var, x_glb, x_tup, x_lst, x_dct, x_bin, x_neg, x_not, x_and, x_or, x_ite, x_cmp, x_chain, x_idx, x_slc, x_rev, x_isi, x_fn, x_mth, x_call, x_callk, x_src, evs, evTs, evO, evIfs, evE, y_asg, y_sub, y_aug, y_exp, y_ifs, y_ret, y_retN, y_pass, y_brk, y_cnt, y_rse, evSs, Res.bind_ok, Res.bind_exc, Res.bind_bad, Res.of_some, Res.of_none, settle_v, settle_t, Res.noX_ok, Res.st_ok, Res.st_exc, Res.st_bad, SR.then_next, SR.then_ret, SR.then_brk, SR.then_cnt, SR.then_exc, SR.then_bad, SR.out, List.getElem?_cons_zero, List.getElem?_cons_succ, List.set_cons_zero, List.set_cons_succ, bindT, bindTs, Option.bind_some, Option.bind_none, Option.map_some, Option.map_none, vOf, if_true, if_false, Bool.false_eq_true, Bool.not_true, Bool.not_false, List.map_cons, List.map_nil, wipeM, Ev.locked, reduceCtorEq, f1, tru, List.length_cons, List.length_nil, Nat.reduceAdd, Nat.zero_add, sz0, sz1, sz2, sz3, sz4, sz5, sz6, sz7, sz8, sz9, sz10, sz11, sz12, sz13, sz14, sz15, sz16, sz17, sz18, sz19, sz20, sz21, sz22, sz23, hv', e1, g2, b_all, b_len_tup, isiV, cmpT, icmp, List.any_cons, List.any_nil, decide_true, beq_self_eq_true, Bool.or_false, isThr]
    by_cases q : xs.length ≤ 3
    · have : ((xs.length : Int) ≤ 3) := by omega
      simp only [x_lit, x_var, x_glb, x_tup, x_lst, x_dct, x_bin, x_neg, x_not, x_and, x_or, x_ite, x_cmp, x_chain, x_idx, x_slc, x_rev, x_isi, x_fn, x_mth, x_call, x_callk, x_src, evs, evTs, evO, evIfs, evE, y_asg, y_sub, y_aug, y_exp, y_ifs, y_ret, y_retN, y_pass, y_brk, y_cnt, y_rse, evSs, Res.bind_ok, Res.bind_exc, Res.bind_bad, Res.of_some, Res.of_none, settle_v, settle_t, Res.noX_ok, Res.st_ok, Res.st_exc, Res.st_bad, SR.then_next, SR.then_ret, SR.then_brk, SR.then_cnt, SR.then_exc, SR.then_bad, SR.out, List.getElem?_cons_zero, List.getElem?_cons_succ, List.set_cons_zero, List.set_cons_succ, bindT, bindTs, Option.bind_some, Option.bind_none, Option.map_some, Option.map_none, vOf, if_true, if_false, Bool.false_eq_true, Bool.not_true, Bool.not_false, List.map_cons, List.map_nil, wipeM, Ev.locked, reduceCtorEq, f1, tru, List.length_cons, List.length_nil, Nat.reduceAdd, Nat.zero_add, sz0, sz1, sz2, sz3, sz4, sz5, sz6, sz7, sz8, sz9, sz10, sz11, sz12, sz13, sz14, sz15, sz16, sz17, sz18, sz19, sz20, sz21, sz22, sz23, q, this, decide_true, Bool.true_and, e1, b_all]
    · have : ¬ ((xs.length : Int) ≤ 3) := by omega
      simp only [x_lit, x_var, x_glb, x_tup, x_lst, x_dct, x_bin, x_neg, x_not, x_and, x_or, x_ite, x_cmp, x_chain, x_idx, x_slc, x_rev, x_isi, x_fn, x_mth, x_call, x_callk, x_src, evs, evTs, evO, evIfs, evE, y_asg, y_sub, y_aug, y_exp, y_ifs, y_ret, y_retN, y_pass, y_brk, y_cnt, y_rse, evSs, Res.bind_ok, Res.bind_exc, Res.bind_bad, Res.of_some, Res.of_none, settle_v, settle_t, Res.noX_ok, Res.st_ok, Res.st_exc, Res.st_bad, SR.then_next, SR.then_ret, SR.then_brk, SR.then_cnt, SR.then_exc, SR.then_bad, SR.out, List.getElem?_cons_zero, List.getElem?_cons_succ, List.set_cons_zero, List.set_cons_succ, bindT, bindTs, Option.bind_some, Option.bind_none, Option.map_some, Option.map_none, vOf, if_true, if_false, Bool.false_eq_true, Bool.not_true, Bool.not_false, List.map_cons, List.map_nil, wipeM, Ev.locked, reduceCtorEq, f1, tru, List.length_cons, List.length_nil, Nat.reduceAdd, Nat.zero_add, sz0, sz1, sz2, sz3, sz4, sz5, sz6, sz7, sz8, sz9, sz10, sz11, sz12, sz13, sz14, sz15, sz16, sz17, sz18, sz19, sz20, sz21, sz22, sz23, q, this, decide_false, Bool.false_and]
  | ref p =>
    simp only [m_is_thread, x_lit, x_var, x_glb, x_tup, x_lst, x_dct, x_bin, x_neg, x_not, x_and, x_or, x_ite, x_cmp, x_chain, x_idx, x_slc, x_rev, x_isi, x_fn, x_mth, x_call, x_callk, x_src, evs, evTs, evO, evIfs, evE, y_asg, y_sub, y_aug, y_exp, y_ifs, y_ret, y_retN, y_pass, y_brk, y_cnt, y_rse, evSs, Res.bind_ok, Res.bind_exc, Res.bind_bad, Res.of_some, Res.of_none, settle_v, settle_t, Res.noX_ok, Res.st_ok, Res.st_exc, Res.st_bad, SR.then_next, SR.then_ret, SR.then_brk, SR.then_cnt, SR.then_exc, SR.then_bad, SR.out, List.getElem?_cons_zero, List.getElem?_cons_succ, List.set_cons_zero, List.set_cons_succ, bindT, bindTs, Option.bind_some, Option.bind_none, Option.map_some, Option.map_none, vOf, if_true, if_false, Bool.false_eq_true, Bool.not_true, Bool.not_false, List.map_cons, List.map_nil, wipeM, Ev.locked, reduceCtorEq, f1, tru, List.length_cons, List.length_nil, Nat.reduceAdd, Nat.zero_add, sz0, sz1, sz2, sz3, sz4, sz5, sz6, sz7, sz8, sz9, sz10, sz11, sz12, sz13, sz14, sz15, sz16, sz17, sz18, sz19, sz20, sz21, sz22, sz23, hv']
    simp only [isiOk] at hv'
    split at hv' <;> simp_all [isiV, isThr]
  | _ => simp [m_is_thread, x_lit, x_var, x_glb, x_tup, x_lst, x_dct, x_bin, x_neg, x_not, x_and, x_or, x_ite, x_cmp, x_chain, x_idx, x_slc, x_rev, x_isi, x_fn, x_mth, x_call, x_callk, x_src, evs, evTs, evO, evIfs, evE, y_asg, y_sub, y_aug, y_exp, y_ifs, y_ret, y_retN, y_pass, y_brk, y_cnt, y_rse, evSs, Res.bind_ok, Res.bind_exc, Res.bind_bad, Res.of_some, Res.of_none, settle_v, settle_t, Res.noX_ok, Res.st_ok, Res.st_exc, Res.st_bad, SR.then_next, SR.then_ret, SR.then_brk, SR.then_cnt, SR.then_exc, SR.then_bad, SR.out, List.getElem?_cons_zero, List.getElem?_cons_succ, List.set_cons_zero, List.set_cons_succ, bindT, bindTs, Option.bind_some, Option.bind_none, Option.map_some, Option.map_none, vOf, if_true, if_false, Bool.false_eq_true, Bool.not_true, Bool.not_false, List.map_cons, List.map_nil, wipeM, Ev.locked, reduceCtorEq, f1, tru, List.length_cons, List.length_nil, Nat.reduceAdd, Nat.zero_add, sz0, sz1, sz2, sz3, sz4, sz5, sz6, sz7, sz8, sz9, sz10, sz11, sz12, sz13, sz14, sz15, sz16, sz17, sz18, sz19, sz20, sz21, sz22, sz23, isiV, isThr, isiOk]
end
end MP.Q

set_option linter.all false
set_option autoImplicit false
set_option maxRecDepth 100000
namespace MP.Q
open PySem PyProof.Rows L2
/-- values, n levels down, of which isinstance may be asked, none too long -/
def okn (h : MH) : Nat → MV → Bool
  | 0, v => okv h v
  | n + 1, .tup xs => decide (xs.length ≤ 1000) && xs.all (okn h n)
  | _ + 1, v => okv h v
def fstV : MV → MV
  | .tup (x :: _) => x
  | _ => .non
def sndV : MV → MV
  | .tup (_ :: y :: _) => y
  | _ => .non
def ltV (x y : MV) : Bool := (ltT [] (.v x) (.v y)).getD false
def ascF (xs : List MV) : MV → Bool
  | .int i => ltV (xs.getD (i - 1).toNat .non) (xs.getD i.toNat .non)
  | _ => false
def ascB (xs : List MV) : Bool := (rngI 1 xs.length).all (ascF xs)
def isInp : MV → Bool
  | .tup xs => xs.all (fun x => isTup 2 x && isThr (fstV x)) && (ascB (xs.map fstV) && xs.all (fun x => isRow (sndV x)))
  | _ => false
theorem thr_ints {v : MV} (e : isThr v = true) : ∃ ns : List Int, v = .tup (ns.map .int) ∧ ns.length ≤ 3 ∧ ∀ n ∈ ns, 0 ≤ n ∧ n ≤ 2 := by
  cases v with
  | tup xs =>
    simp only [isThr, Bool.and_eq_true, decide_eq_true_eq, List.all_eq_true] at e
    obtain ⟨e1, e2⟩ := e
    have q : ∃ ns : List Int, xs = ns.map .int ∧ ∀ n ∈ ns, 0 ≤ n ∧ n ≤ 2 := by
      clear e1
      induction xs with
      | nil => exact ⟨[], rfl, by simp⟩
      | cons x xs ih =>
        obtain ⟨ns, i1, i2⟩ := ih fun y hy => e2 y (by simp [hy])
        have q := e2 x (by simp)
        cases x <;> simp [within] at q
        rename_i i
        exact ⟨i :: ns, by simp [i1], by simpa using ⟨q, i2⟩⟩
    obtain ⟨ns, rfl, q2⟩ := q
    exact ⟨ns, rfl, by simpa using e1, q2⟩
  | _ => simp [isThr] at e
theorem toDs_ints : ∀ ns : List Int, MV.toDs (ns.map .int) = some (ns.map .int)
  | [] => rfl
  | n :: ns => by simp [MV.toDs, MV.toD, toDs_ints ns]
theorem ltT_thr {h : MH} {x y : MV} (ex : isThr x = true) (ey : isThr y = true) : ltT h (.v x) (.v y) = some (ltV x y) := by
  obtain ⟨ns, rfl, -, -⟩ := thr_ints ex
  obtain ⟨ms, rfl, -, -⟩ := thr_ints ey
  have e1 : ∀ h : MH, ltT h (.v (.tup (ns.map .int))) (.v (.tup (ms.map .int))) = some (W.dataLt (.tuple (ns.map .int)) (.tuple (ms.map .int))) := by
    intro h
    have z1 := W.alike_ints ns ms
    have z2 := W.depth_ints ns
    have z3 := W.depth_ints ms
    simp [ltT, TV.toD, MV.toD, toDs_ints, W.alike, z1, ltT.MV.noneD, PyData.depth, z2, z3]
  rw [e1, ltV, e1]; rfl
theorem mem_rng {a b : Int} {x : MV} (m : x ∈ rngI a b) : ∃ j : Nat, j < (b - a).toNat ∧ x = .int (a + j) := by
  simp only [rngI, List.mem_map, List.mem_range] at m
  obtain ⟨j, h1, rfl⟩ := m
  exact ⟨j, h1, rfl⟩
theorem rngOf2 {a b : Int} (h : -1000000 ≤ a ∧ a ≤ 1000000 ∧ -1000000 ≤ b ∧ b ≤ 1000000) : rngOf [.int a, .int b] = some ⟨none, none, rngI a b⟩ := by
  have : rngOk a b = true := by
    have z : sizeLine = 16777216 := by decide
    exact decide_eq_true ⟨by omega, by omega, by omega, by omega, by omega⟩
  simp [rngOf, this]
theorem rngOf1 {b : Int} (h : -1000000 ≤ b ∧ b ≤ 1000000) : rngOf [.int b] = some ⟨none, none, rngI 0 b⟩ := by
  have : rngOk 0 b = true := by
    have z : sizeLine = 16777216 := by decide
    exact decide_eq_true ⟨by omega, by omega, by omega, by omega, by omega⟩
  simp [rngOf, this]
theorem empty_all {α : Type} (f : α → Bool) : ∀ xs : List α, (xs.filterMap fun x => if f x then none else some x).isEmpty = xs.all f
  | [] => rfl
  | x :: xs => by cases e : f x <;> simp [List.filterMap_cons, e, empty_all f xs]
theorem idx_lst {h : MH} {p : Nat} {xs : List MV} (hp : h[p]? = some (.lst xs)) {i : Int} : idxT h (.v (.ref p)) (.int i) = L2.atI xs i := by
  simp [idxT, hp, listOf]
theorem len_lst {h : MH} {p : Nat} {xs : List MV} (hp : h[p]? = some (.lst xs)) : fnT h .len [.v (.ref p)] = some (.v (.int xs.length)) := by
  simp [fnT, f1, lenT, hp, listOf]
theorem atI_at {xs : List MV} {i : Int} {v : MV} (h0 : 0 ≤ i) (h1 : xs[i.toNat]? = some v) : L2.atI xs i = some v := by
  have := atI_nat xs i.toNat
  rw [Int.toNat_of_nonneg h0] at this
  rw [this, h1]
theorem okv_app {h : MH} (t : MH) {v : MV} (e : okv h v = true) : okv (h ++ t) v = true := by
  cases v with
  | ref p =>
    simp only [okv, isiOk] at e ⊢
    cases q : h[p]? with
    | none => rw [q] at e; cases e
    | some o =>
      have lt := (List.getElem?_eq_some_iff.mp q).1
      rw [List.getElem?_append_left lt, q]; rw [q] at e; exact e
  | _ => rfl
theorem okn_app {h : MH} (t : MH) : ∀ {n : Nat} {v : MV}, okn h n v = true → okn (h ++ t) n v = true
  | 0, v, e => okv_app t e
  | n + 1, v, e => by
    cases v with
    | tup xs =>
      simp only [okn, Bool.and_eq_true, List.all_eq_true] at e ⊢
      exact ⟨e.1, fun x hx => okn_app t (e.2 x hx)⟩
    | _ => exact okv_app t e
section
variable {k : Nat} {L : List Nat} {h : MH}
theorem s_ascends (hk : 1 ≤ k) {p : Nat} {xs : List MV} (hp : h[p]? = some (.lst xs)) (hl : xs.length ≤ 1000) (ht : ∀ x ∈ xs, isThr x = true) : callM PP k L 4 [.ref p] h = .ok (.bl (ascB xs)) h := by
  obtain ⟨k, rfl⟩ : ∃ j, k = j + 1 := ⟨k - 1, by omega⟩
  rw [c_ascends]
  have e1 : evT ⟨callM PP k, glbP, L⟩ (.lc (.cmp .Lt (.idx (.var 0) (.bin .Sub (.var 1) (.lit (.int 1)))) (.idx (.var 0) (.var 1))) (.nm 1) (.rng [(.lit (.int 1)), (.fn .len [(.var 0)])]) [] [("at", 1)]) [some (.ref p), none] h = .ok (.t ((rngI 1 xs.length).map fun x => .bl (ascF xs x))) h := by
    rw [ev_lc (it := ⟨none, none, rngI 1 xs.length⟩) (g := fun x => some (.bl (ascF xs x))), filt_some]
    · exact ev_rng (by simp only [x_lit, x_var, x_glb, x_tup, x_lst, x_dct, x_bin, x_neg, x_not, x_and, x_or, x_ite, x_cmp, x_chain, x_idx, x_slc, x_rev, x_isi, x_fn, x_mth, x_call, x_callk, x_src, evs, evTs, evO, evIfs, evE, y_asg, y_sub, y_aug, y_exp, y_ifs, y_ret, y_retN, y_pass, y_brk, y_cnt, y_rse, evSs, Res.bind_ok, Res.bind_exc, Res.bind_bad, Res.of_some, Res.of_none, settle_v, settle_t, Res.noX_ok, Res.st_ok, Res.st_exc, Res.st_bad, SR.then_next, SR.then_ret, SR.then_brk, SR.then_cnt, SR.then_exc, SR.then_bad, SR.out, List.getElem?_cons_zero, List.getElem?_cons_succ, List.set_cons_zero, List.set_cons_succ, bindT, bindTs, Option.bind_some, Option.bind_none, Option.map_some, Option.map_none, vOf, if_true, if_false, Bool.false_eq_true, Bool.not_true, Bool.not_false, List.map_cons, List.map_nil, wipeM, Ev.locked, reduceCtorEq, f1, tru, List.length_cons, List.length_nil, Nat.reduceAdd, Nat.zero_add, sz0, sz1, sz2, sz3, sz4, sz5, sz6, sz7, sz8, sz9, sz10, sz11, sz12, sz13, sz14, sz15, sz16, sz17, sz18, sz19, sz20, sz21, sz22, sz23, len_lst hp]) (rngOf2 (a := 1) (b := xs.length) (by omega))
    · rfl
    · intro x hx
      obtain ⟨j, hj, rfl⟩ := mem_rng hx
      have j1 : j < xs.length := by omega
      have j2 : j + 1 < xs.length := by omega
      have a1 : L2.atI xs (1 + (j : Int) - 1) = some xs[j] := atI_at (by omega) (by rw [show (1 + (j : Int) - 1).toNat = j by omega]; simp [j1])
      have a2 : L2.atI xs (1 + (j : Int)) = some xs[j + 1] := atI_at (by omega) (by rw [show (1 + (j : Int)).toNat = j + 1 by omega]; simp [j2])
      simp only [x_lit, x_var, x_glb, x_tup, x_lst, x_dct, x_bin, x_neg, x_not, x_and, x_or, x_ite, x_cmp, x_chain, x_idx, x_slc, x_rev, x_isi, x_fn, x_mth, x_call, x_callk, x_src, evs, evTs, evO, evIfs, evE, y_asg, y_sub, y_aug, y_exp, y_ifs, y_ret, y_retN, y_pass, y_brk, y_cnt, y_rse, evSs, Res.bind_ok, Res.bind_exc, Res.bind_bad, Res.of_some, Res.of_none, settle_v, settle_t, Res.noX_ok, Res.st_ok, Res.st_exc, Res.st_bad, SR.then_next, SR.then_ret, SR.then_brk, SR.then_cnt, SR.then_exc, SR.then_bad, SR.out, List.getElem?_cons_zero, List.getElem?_cons_succ, List.set_cons_zero, List.set_cons_succ, bindT, bindTs, Option.bind_some, Option.bind_none, Option.map_some, Option.map_none, vOf, if_true, if_false, Bool.false_eq_true, Bool.not_true, Bool.not_false, List.map_cons, List.map_nil, wipeM, Ev.locked, reduceCtorEq, f1, tru, List.length_cons, List.length_nil, Nat.reduceAdd, Nat.zero_add, sz0, sz1, sz2, sz3, sz4, sz5, sz6, sz7, sz8, sz9, sz10, sz11, sz12, sz13, sz14, sz15, sz16, sz17, sz18, sz19, sz20, sz21, sz22, sz23, binT, idx_lst hp, a1, a2, cmpT, ltT_thr (ht _ (List.getElem_mem j1)) (ht _ (List.getElem_mem j2)), ascF]
      rw [show (1 + (j : Int) - 1).toNat = j by omega, show (1 + (j : Int)).toNat = j + 1 by omega]
      simp [List.getD_eq_getElem?_getD, j1, j2]
  simp only [m_ascends, x_lit, x_var, x_glb, x_tup, x_lst, x_dct, x_bin, x_neg, x_not, x_and, x_or, x_ite, x_cmp, x_chain, x_idx, x_slc, x_rev, x_isi, x_fn, x_mth, x_call, x_callk, x_src, evs, evTs, evO, evIfs, evE, y_asg, y_sub, y_aug, y_exp, y_ifs, y_ret, y_retN, y_pass, y_brk, y_cnt, y_rse, evSs, Res.bind_ok, Res.bind_exc, Res.bind_bad, Res.of_some, Res.of_none, settle_v, settle_t, Res.noX_ok, Res.st_ok, Res.st_exc, Res.st_bad, SR.then_next, SR.then_ret, SR.then_brk, SR.then_cnt, SR.then_exc, SR.then_bad, SR.out, List.getElem?_cons_zero, List.getElem?_cons_succ, List.set_cons_zero, List.set_cons_succ, bindT, bindTs, Option.bind_some, Option.bind_none, Option.map_some, Option.map_none, vOf, if_true, if_false, Bool.false_eq_true, Bool.not_true, Bool.not_false, List.map_cons, List.map_nil, wipeM, Ev.locked, reduceCtorEq, f1, tru, List.length_cons, List.length_nil, Nat.reduceAdd, Nat.zero_add, sz0, sz1, sz2, sz3, sz4, sz5, sz6, sz7, sz8, sz9, sz10, sz11, sz12, sz13, sz14, sz15, sz16, sz17, sz18, sz19, sz20, sz21, sz22, sz23, e1, b_all, ascB]
theorem okn_v {n : Nat} {v : MV} (e : okn h n v = true) : okv h v = true := by
  cases n with
  | zero => exact e
  | succ n => cases v <;> first | exact e | rfl
theorem okn_d {n : Nat} {v : MV} (e : okn h (n + 1) v = true) : okd h v = true := by
  cases v with
  | tup xs =>
    simp only [okn, okd, Bool.and_eq_true, List.all_eq_true] at e ⊢
    exact fun x hx => okn_v (e.2 x hx)
  | _ => exact e
theorem isiV_other {v : MV} (hv : okv h v = true) (ht : ∀ xs, v ≠ .tup xs) : isiV h (.v v) .tuple = false := by
  cases v with
  | tup xs => exact absurd rfl (ht xs)
  | ref p =>
    simp only [okv, isiOk] at hv
    split at hv <;> simp_all [isiV]
  | _ => simp [isiV]
theorem s_is_row (hk : 2 ≤ k) {v : MV} (hv : okd h v = true) : callM PP k L 8 [v] h = .ok (.bl (isRow v)) h := by
  obtain ⟨k, rfl⟩ : ∃ j, k = j + 1 := ⟨k - 1, by omega⟩
  rw [c_is_row]
  have hv' := okd_v hv
  cases v with
  | tup xs =>
    have e1 : evT ⟨callM PP k, glbP, L⟩ (.lc (.call 0 [.var 1]) (.nm 1) (.e (.var 0)) [] [("item", 1)]) [some (.tup xs), none] h = .ok (.t (xs.map fun x => .bl (isInt x))) h := by
      rw [ev_lc (it := ⟨none, none, xs⟩) (g := fun x => some (.bl (isInt x))), filt_some]
      · simp only [x_lit, x_var, x_glb, x_tup, x_lst, x_dct, x_bin, x_neg, x_not, x_and, x_or, x_ite, x_cmp, x_chain, x_idx, x_slc, x_rev, x_isi, x_fn, x_mth, x_call, x_callk, x_src, evs, evTs, evO, evIfs, evE, y_asg, y_sub, y_aug, y_exp, y_ifs, y_ret, y_retN, y_pass, y_brk, y_cnt, y_rse, evSs, Res.bind_ok, Res.bind_exc, Res.bind_bad, Res.of_some, Res.of_none, settle_v, settle_t, Res.noX_ok, Res.st_ok, Res.st_exc, Res.st_bad, SR.then_next, SR.then_ret, SR.then_brk, SR.then_cnt, SR.then_exc, SR.then_bad, SR.out, List.getElem?_cons_zero, List.getElem?_cons_succ, List.set_cons_zero, List.set_cons_succ, bindT, bindTs, Option.bind_some, Option.bind_none, Option.map_some, Option.map_none, vOf, if_true, if_false, Bool.false_eq_true, Bool.not_true, Bool.not_false, List.map_cons, List.map_nil, wipeM, Ev.locked, reduceCtorEq, f1, tru, List.length_cons, List.length_nil, Nat.reduceAdd, Nat.zero_add, sz0, sz1, sz2, sz3, sz4, sz5, sz6, sz7, sz8, sz9, sz10, sz11, sz12, sz13, sz14, sz15, sz16, sz17, sz18, sz19, sz20, sz21, sz22, sz23, itE, itOf]
      · rfl
      · intro x hx
        have hx' : okv h x = true := by
          simp only [okd, List.all_eq_true] at hv
          exact hv x hx
        simp only [x_lit, x_var, x_glb, x_tup, x_lst, x_dct, x_bin, x_neg, x_not, x_and, x_or, x_ite, x_cmp, x_chain, x_idx, x_slc, x_rev, x_isi, x_fn, x_mth, x_call, x_callk, x_src, evs, evTs, evO, evIfs, evE, y_asg, y_sub, y_aug, y_exp, y_ifs, y_ret, y_retN, y_pass, y_brk, y_cnt, y_rse, evSs, Res.bind_ok, Res.bind_exc, Res.bind_bad, Res.of_some, Res.of_none, settle_v, settle_t, Res.noX_ok, Res.st_ok, Res.st_exc, Res.st_bad, SR.then_next, SR.then_ret, SR.then_brk, SR.then_cnt, SR.then_exc, SR.then_bad, SR.out, List.getElem?_cons_zero, List.getElem?_cons_succ, List.set_cons_zero, List.set_cons_succ, bindT, bindTs, Option.bind_some, Option.bind_none, Option.map_some, Option.map_none, vOf, if_true, if_false, Bool.false_eq_true, Bool.not_true, Bool.not_false, List.map_cons, List.map_nil, wipeM, Ev.locked, reduceCtorEq, f1, tru, List.length_cons, List.length_nil, Nat.reduceAdd, Nat.zero_add, sz0, sz1, sz2, sz3, sz4, sz5, sz6, sz7, sz8, sz9, sz10, sz11, sz12, sz13, sz14, sz15, sz16, sz17, sz18, sz19, sz20, sz21, sz22, sz23, s_is_integer (show 1 ≤ k by omega) hx']
    simp only [m_is_row, x_lit, x_var, x_glb, x_tup, x_lst, x_dct, x_bin, x_neg, x_not, x_and, x_or, x_ite, x_cmp, x_chain, x_idx, x_slc, x_rev, x_isi, x_fn, x_mth, x_call, x_callk, x_src, evs, evTs, evO, evIfs, evE, y_asg, y_sub, y_aug, y_exp, y_ifs, y_ret, y_retN, y_pass, y_brk, y_cnt, y_rse, evSs, Res.bind_ok, Res.bind_exc, Res.bind_bad, Res.of_some, Res.of_none, settle_v, settle_t, Res.noX_ok, Res.st_ok, Res.st_exc, Res.st_bad, SR.then_next, SR.then_ret, SR.then_brk, SR.then_cnt, SR.then_exc, SR.then_bad, SR.out, List.getElem?_cons_zero, List.getElem?_cons_succ, List.set_cons_zero, List.set_cons_succ, bindT, bindTs, Option.bind_some, Option.bind_none, Option.map_some, Option.map_none, vOf, if_true, if_false, Bool.false_eq_true, Bool.not_true, Bool.not_false, List.map_cons, List.map_nil, wipeM, Ev.locked, reduceCtorEq, f1, tru, List.length_cons, List.length_nil, Nat.reduceAdd, Nat.zero_add, sz0, sz1, sz2, sz3, sz4, sz5, sz6, sz7, sz8, sz9, sz10, sz11, sz12, sz13, sz14, sz15, sz16, sz17, sz18, sz19, sz20, sz21, sz22, sz23, isiOk, e1, g3, b_all, b_len_tup, isiV, cmpT, icmp, List.any_cons, List.any_nil, decide_true, beq_self_eq_true, Bool.or_false, isRow]
    by_cases q : xs.length ≤ 20
    · have : ((xs.length : Int) ≤ 20) := by omega
      simp only [x_lit, x_var, x_glb, x_tup, x_lst, x_dct, x_bin, x_neg, x_not, x_and, x_or, x_ite, x_cmp, x_chain, x_idx, x_slc, x_rev, x_isi, x_fn, x_mth, x_call, x_callk, x_src, evs, evTs, evO, evIfs, evE, y_asg, y_sub, y_aug, y_exp, y_ifs, y_ret, y_retN, y_pass, y_brk, y_cnt, y_rse, evSs, Res.bind_ok, Res.bind_exc, Res.bind_bad, Res.of_some, Res.of_none, settle_v, settle_t, Res.noX_ok, Res.st_ok, Res.st_exc, Res.st_bad, SR.then_next, SR.then_ret, SR.then_brk, SR.then_cnt, SR.then_exc, SR.then_bad, SR.out, List.getElem?_cons_zero, List.getElem?_cons_succ, List.set_cons_zero, List.set_cons_succ, bindT, bindTs, Option.bind_some, Option.bind_none, Option.map_some, Option.map_none, vOf, if_true, if_false, Bool.false_eq_true, Bool.not_true, Bool.not_false, List.map_cons, List.map_nil, wipeM, Ev.locked, reduceCtorEq, f1, tru, List.length_cons, List.length_nil, Nat.reduceAdd, Nat.zero_add, sz0, sz1, sz2, sz3, sz4, sz5, sz6, sz7, sz8, sz9, sz10, sz11, sz12, sz13, sz14, sz15, sz16, sz17, sz18, sz19, sz20, sz21, sz22, sz23, q, this, decide_true, Bool.true_and, e1, b_all]
    · have : ¬ ((xs.length : Int) ≤ 20) := by omega
      simp only [x_lit, x_var, x_glb, x_tup, x_lst, x_dct, x_bin, x_neg, x_not, x_and, x_or, x_ite, x_cmp, x_chain, x_idx, x_slc, x_rev, x_isi, x_fn, x_mth, x_call, x_callk, x_src, evs, evTs, evO, evIfs, evE, y_asg, y_sub, y_aug, y_exp, y_ifs, y_ret, y_retN, y_pass, y_brk, y_cnt, y_rse, evSs, Res.bind_ok, Res.bind_exc, Res.bind_bad, Res.of_some, Res.of_none, settle_v, settle_t, Res.noX_ok, Res.st_ok, Res.st_exc, Res.st_bad, SR.then_next, SR.then_ret, SR.then_brk, SR.then_cnt, SR.then_exc, SR.then_bad, SR.out, List.getElem?_cons_zero, List.getElem?_cons_succ, List.set_cons_zero, List.set_cons_succ, bindT, bindTs, Option.bind_some, Option.bind_none, Option.map_some, Option.map_none, vOf, if_true, if_false, Bool.false_eq_true, Bool.not_true, Bool.not_false, List.map_cons, List.map_nil, wipeM, Ev.locked, reduceCtorEq, f1, tru, List.length_cons, List.length_nil, Nat.reduceAdd, Nat.zero_add, sz0, sz1, sz2, sz3, sz4, sz5, sz6, sz7, sz8, sz9, sz10, sz11, sz12, sz13, sz14, sz15, sz16, sz17, sz18, sz19, sz20, sz21, sz22, sz23, q, this, decide_false, Bool.false_and]
  | ref p =>
    have hz := isiV_other hv' (fun xs e => nomatch e)
    unfold okv at hv'
    simp [m_is_row, x_lit, x_var, x_glb, x_tup, x_lst, x_dct, x_bin, x_neg, x_not, x_and, x_or, x_ite, x_cmp, x_chain, x_idx, x_slc, x_rev, x_isi, x_fn, x_mth, x_call, x_callk, x_src, evs, evTs, evO, evIfs, evE, y_asg, y_sub, y_aug, y_exp, y_ifs, y_ret, y_retN, y_pass, y_brk, y_cnt, y_rse, evSs, Res.bind_ok, Res.bind_exc, Res.bind_bad, Res.of_some, Res.of_none, settle_v, settle_t, Res.noX_ok, Res.st_ok, Res.st_exc, Res.st_bad, SR.then_next, SR.then_ret, SR.then_brk, SR.then_cnt, SR.then_exc, SR.then_bad, SR.out, List.getElem?_cons_zero, List.getElem?_cons_succ, List.set_cons_zero, List.set_cons_succ, bindT, bindTs, Option.bind_some, Option.bind_none, Option.map_some, Option.map_none, vOf, if_true, if_false, Bool.false_eq_true, Bool.not_true, Bool.not_false, List.map_cons, List.map_nil, wipeM, Ev.locked, reduceCtorEq, f1, tru, List.length_cons, List.length_nil, Nat.reduceAdd, Nat.zero_add, sz0, sz1, sz2, sz3, sz4, sz5, sz6, sz7, sz8, sz9, sz10, sz11, sz12, sz13, sz14, sz15, sz16, sz17, sz18, sz19, sz20, sz21, sz22, sz23, hv', hz, isRow]
  | _ =>
    have hz := isiV_other hv' (fun xs e => nomatch e)
    unfold okv at hv'
    simp [m_is_row, x_lit, x_var, x_glb, x_tup, x_lst, x_dct, x_bin, x_neg, x_not, x_and, x_or, x_ite, x_cmp, x_chain, x_idx, x_slc, x_rev, x_isi, x_fn, x_mth, x_call, x_callk, x_src, evs, evTs, evO, evIfs, evE, y_asg, y_sub, y_aug, y_exp, y_ifs, y_ret, y_retN, y_pass, y_brk, y_cnt, y_rse, evSs, Res.bind_ok, Res.bind_exc, Res.bind_bad, Res.of_some, Res.of_none, settle_v, settle_t, Res.noX_ok, Res.st_ok, Res.st_exc, Res.st_bad, SR.then_next, SR.then_ret, SR.then_brk, SR.then_cnt, SR.then_exc, SR.then_bad, SR.out, List.getElem?_cons_zero, List.getElem?_cons_succ, List.set_cons_zero, List.set_cons_succ, bindT, bindTs, Option.bind_some, Option.bind_none, Option.map_some, Option.map_none, vOf, if_true, if_false, Bool.false_eq_true, Bool.not_true, Bool.not_false, List.map_cons, List.map_nil, wipeM, Ev.locked, reduceCtorEq, f1, tru, List.length_cons, List.length_nil, Nat.reduceAdd, Nat.zero_add, sz0, sz1, sz2, sz3, sz4, sz5, sz6, sz7, sz8, sz9, sz10, sz11, sz12, sz13, sz14, sz15, sz16, sz17, sz18, sz19, sz20, sz21, sz22, sz23, hv', hz, isRow]
theorem s_is_inputs (hk : 5 ≤ k) {v : MV} (hv : okn h 3 v = true) : ∃ t, callM PP k L 7 [v] h = .ok (.bl (isInp v)) (h ++ t) := by
  obtain ⟨k, rfl⟩ : ∃ j, k = j + 1 := ⟨k - 1, by omega⟩
  rw [c_is_inputs]
  have hv' := okn_v hv
  cases v with
  | tup xs =>
    simp only [okn, Bool.and_eq_true, decide_eq_true_eq, List.all_eq_true] at hv
    obtain ⟨hl, hx⟩ := hv
    have e1 : evT ⟨callM PP k, glbP, L⟩ (.lc (.and (.call 3 [(.var 1), (.lit (.int 2))]) (.call 6 [(.idx (.var 1) (.lit (.int 0)))])) (.nm 1) (.e (.var 0)) [] [("item", 1)]) [some (.tup xs), none, none, none] h = .ok (.t (xs.map fun x => .bl (isTup 2 x && isThr (fstV x)))) h := by
      rw [ev_lc (it := ⟨none, none, xs⟩) (g := fun x => some (.bl (isTup 2 x && isThr (fstV x)))), filt_some]
      · simp only [x_lit, x_var, x_glb, x_tup, x_lst, x_dct, x_bin, x_neg, x_not, x_and, x_or, x_ite, x_cmp, x_chain, x_idx, x_slc, x_rev, x_isi, x_fn, x_mth, x_call, x_callk, x_src, evs, evTs, evO, evIfs, evE, y_asg, y_sub, y_aug, y_exp, y_ifs, y_ret, y_retN, y_pass, y_brk, y_cnt, y_rse, evSs, Res.bind_ok, Res.bind_exc, Res.bind_bad, Res.of_some, Res.of_none, settle_v, settle_t, Res.noX_ok, Res.st_ok, Res.st_exc, Res.st_bad, SR.then_next, SR.then_ret, SR.then_brk, SR.then_cnt, SR.then_exc, SR.then_bad, SR.out, List.getElem?_cons_zero, List.getElem?_cons_succ, List.set_cons_zero, List.set_cons_succ, bindT, bindTs, Option.bind_some, Option.bind_none, Option.map_some, Option.map_none, vOf, if_true, if_false, Bool.false_eq_true, Bool.not_true, Bool.not_false, List.map_cons, List.map_nil, wipeM, Ev.locked, reduceCtorEq, f1, tru, List.length_cons, List.length_nil, Nat.reduceAdd, Nat.zero_add, sz0, sz1, sz2, sz3, sz4, sz5, sz6, sz7, sz8, sz9, sz10, sz11, sz12, sz13, sz14, sz15, sz16, sz17, sz18, sz19, sz20, sz21, sz22, sz23, itE, itOf]
      · rfl
      · intro x m
        have ox := hx x m
        have o1 := s_is_tuple (L := L) (show 1 ≤ k by omega) (m := 2) (okn_v ox)
        have o1' : callM PP k L 3 [x, .int 2] h = .ok (.bl (isTup 2 x)) h := o1
        cases q : isTup 2 x with
        | false => simp only [x_lit, x_var, x_glb, x_tup, x_lst, x_dct, x_bin, x_neg, x_not, x_and, x_or, x_ite, x_cmp, x_chain, x_idx, x_slc, x_rev, x_isi, x_fn, x_mth, x_call, x_callk, x_src, evs, evTs, evO, evIfs, evE, y_asg, y_sub, y_aug, y_exp, y_ifs, y_ret, y_retN, y_pass, y_brk, y_cnt, y_rse, evSs, Res.bind_ok, Res.bind_exc, Res.bind_bad, Res.of_some, Res.of_none, settle_v, settle_t, Res.noX_ok, Res.st_ok, Res.st_exc, Res.st_bad, SR.then_next, SR.then_ret, SR.then_brk, SR.then_cnt, SR.then_exc, SR.then_bad, SR.out, List.getElem?_cons_zero, List.getElem?_cons_succ, List.set_cons_zero, List.set_cons_succ, bindT, bindTs, Option.bind_some, Option.bind_none, Option.map_some, Option.map_none, vOf, if_true, if_false, Bool.false_eq_true, Bool.not_true, Bool.not_false, List.map_cons, List.map_nil, wipeM, Ev.locked, reduceCtorEq, f1, tru, List.length_cons, List.length_nil, Nat.reduceAdd, Nat.zero_add, sz0, sz1, sz2, sz3, sz4, sz5, sz6, sz7, sz8, sz9, sz10, sz11, sz12, sz13, sz14, sz15, sz16, sz17, sz18, sz19, sz20, sz21, sz22, sz23, o1', q, Bool.false_and]
        | true =>
          cases x with
          | tup ys =>
            simp only [isTup, decide_eq_true_eq] at q
            match ys, q with
            | [a, b], _ =>
              simp only [okn, Bool.and_eq_true, List.all_eq_true] at ox
              have o2 := s_is_thread (L := L) (show 4 ≤ k by omega) (okn_d (n := 0) (ox.2 a (by simp)))
              have a0 : idxT h (.v (.tup [a, b])) (.int 0) = some a := rfl
              rw [show isTup 2 (.tup [a, b]) = true from rfl] at o1'
              simp only [x_lit, x_var, x_glb, x_tup, x_lst, x_dct, x_bin, x_neg, x_not, x_and, x_or, x_ite, x_cmp, x_chain, x_idx, x_slc, x_rev, x_isi, x_fn, x_mth, x_call, x_callk, x_src, evs, evTs, evO, evIfs, evE, y_asg, y_sub, y_aug, y_exp, y_ifs, y_ret, y_retN, y_pass, y_brk, y_cnt, y_rse, evSs, Res.bind_ok, Res.bind_exc, Res.bind_bad, Res.of_some, Res.of_none, settle_v, settle_t, Res.noX_ok, Res.st_ok, Res.st_exc, Res.st_bad, SR.then_next, SR.then_ret, SR.then_brk, SR.then_cnt, SR.then_exc, SR.then_bad, SR.out, List.getElem?_cons_zero, List.getElem?_cons_succ, List.set_cons_zero, List.set_cons_succ, bindT, bindTs, Option.bind_some, Option.bind_none, Option.map_some, Option.map_none, vOf, if_true, if_false, Bool.false_eq_true, Bool.not_true, Bool.not_false, List.map_cons, List.map_nil, wipeM, Ev.locked, reduceCtorEq, f1, tru, List.length_cons, List.length_nil, Nat.reduceAdd, Nat.zero_add, sz0, sz1, sz2, sz3, sz4, sz5, sz6, sz7, sz8, sz9, sz10, sz11, sz12, sz13, sz14, sz15, sz16, sz17, sz18, sz19, sz20, sz21, sz22, sz23, o1', a0, o2, fstV, Bool.true_and]
          | _ => simp [isTup] at q
    by_cases c1 : xs.all (fun x => isTup 2 x && isThr (fstV x)) = true
    · have e2 : evT ⟨callM PP k, glbP, L⟩ (.lc (.idx (.var 1) (.lit (.int 0))) (.nm 1) (.e (.var 0)) [] [("item", 1)]) [some (.tup xs), none, none, none] h = .ok (.t (xs.map fstV)) h := by
        rw [ev_lc (it := ⟨none, none, xs⟩) (g := fun x => some (fstV x)), filt_some]
        · simp only [x_lit, x_var, x_glb, x_tup, x_lst, x_dct, x_bin, x_neg, x_not, x_and, x_or, x_ite, x_cmp, x_chain, x_idx, x_slc, x_rev, x_isi, x_fn, x_mth, x_call, x_callk, x_src, evs, evTs, evO, evIfs, evE, y_asg, y_sub, y_aug, y_exp, y_ifs, y_ret, y_retN, y_pass, y_brk, y_cnt, y_rse, evSs, Res.bind_ok, Res.bind_exc, Res.bind_bad, Res.of_some, Res.of_none, settle_v, settle_t, Res.noX_ok, Res.st_ok, Res.st_exc, Res.st_bad, SR.then_next, SR.then_ret, SR.then_brk, SR.then_cnt, SR.then_exc, SR.then_bad, SR.out, List.getElem?_cons_zero, List.getElem?_cons_succ, List.set_cons_zero, List.set_cons_succ, bindT, bindTs, Option.bind_some, Option.bind_none, Option.map_some, Option.map_none, vOf, if_true, if_false, Bool.false_eq_true, Bool.not_true, Bool.not_false, List.map_cons, List.map_nil, wipeM, Ev.locked, reduceCtorEq, f1, tru, List.length_cons, List.length_nil, Nat.reduceAdd, Nat.zero_add, sz0, sz1, sz2, sz3, sz4, sz5, sz6, sz7, sz8, sz9, sz10, sz11, sz12, sz13, sz14, sz15, sz16, sz17, sz18, sz19, sz20, sz21, sz22, sz23, itE, itOf]
        · rfl
        · intro x m
          have c := (List.all_eq_true.mp c1) x m
          simp only [Bool.and_eq_true] at c
          cases x with
          | tup ys =>
            have q := c.1
            simp only [isTup, decide_eq_true_eq] at q
            match ys, q with
            | [a, b], _ =>
              have a0 : idxT h (.v (.tup [a, b])) (.int 0) = some a := rfl
              simp only [x_lit, x_var, x_glb, x_tup, x_lst, x_dct, x_bin, x_neg, x_not, x_and, x_or, x_ite, x_cmp, x_chain, x_idx, x_slc, x_rev, x_isi, x_fn, x_mth, x_call, x_callk, x_src, evs, evTs, evO, evIfs, evE, y_asg, y_sub, y_aug, y_exp, y_ifs, y_ret, y_retN, y_pass, y_brk, y_cnt, y_rse, evSs, Res.bind_ok, Res.bind_exc, Res.bind_bad, Res.of_some, Res.of_none, settle_v, settle_t, Res.noX_ok, Res.st_ok, Res.st_exc, Res.st_bad, SR.then_next, SR.then_ret, SR.then_brk, SR.then_cnt, SR.then_exc, SR.then_bad, SR.out, List.getElem?_cons_zero, List.getElem?_cons_succ, List.set_cons_zero, List.set_cons_succ, bindT, bindTs, Option.bind_some, Option.bind_none, Option.map_some, Option.map_none, vOf, if_true, if_false, Bool.false_eq_true, Bool.not_true, Bool.not_false, List.map_cons, List.map_nil, wipeM, Ev.locked, reduceCtorEq, f1, tru, List.length_cons, List.length_nil, Nat.reduceAdd, Nat.zero_add, sz0, sz1, sz2, sz3, sz4, sz5, sz6, sz7, sz8, sz9, sz10, sz11, sz12, sz13, sz14, sz15, sz16, sz17, sz18, sz19, sz20, sz21, sz22, sz23, a0, fstV]
          | _ => simp [isTup] at c
      have hp : (h ++ [MO.lst (xs.map fstV)])[h.length]? = some (.lst (xs.map fstV)) := by simp
      have o3 := s_ascends (k := k) (L := L) (by omega) hp (by simpa using hl) (by
        intro y hy
        obtain ⟨x, m, rfl⟩ := List.mem_map.mp hy
        have c := (List.all_eq_true.mp c1) x m
        simp only [Bool.and_eq_true] at c
        exact c.2)
      by_cases c2 : ascB (xs.map fstV) = true
      · have e3 : evT ⟨callM PP k, glbP, L⟩ (.lc (.call 8 [(.var 3)]) (.tp [(.nm 2), (.nm 3)]) (.e (.var 0)) [] [("thread", 2), ("row", 3)]) [some (.tup xs), none, none, none] (h ++ [MO.lst (xs.map fstV)]) = .ok (.t (xs.map fun x => .bl (isRow (sndV x)))) (h ++ [MO.lst (xs.map fstV)]) := by
          rw [ev_lc (it := ⟨none, none, xs⟩) (g := fun x => some (.bl (isRow (sndV x)))), filt_some]
          · simp only [x_lit, x_var, x_glb, x_tup, x_lst, x_dct, x_bin, x_neg, x_not, x_and, x_or, x_ite, x_cmp, x_chain, x_idx, x_slc, x_rev, x_isi, x_fn, x_mth, x_call, x_callk, x_src, evs, evTs, evO, evIfs, evE, y_asg, y_sub, y_aug, y_exp, y_ifs, y_ret, y_retN, y_pass, y_brk, y_cnt, y_rse, evSs, Res.bind_ok, Res.bind_exc, Res.bind_bad, Res.of_some, Res.of_none, settle_v, settle_t, Res.noX_ok, Res.st_ok, Res.st_exc, Res.st_bad, SR.then_next, SR.then_ret, SR.then_brk, SR.then_cnt, SR.then_exc, SR.then_bad, SR.out, List.getElem?_cons_zero, List.getElem?_cons_succ, List.set_cons_zero, List.set_cons_succ, bindT, bindTs, Option.bind_some, Option.bind_none, Option.map_some, Option.map_none, vOf, if_true, if_false, Bool.false_eq_true, Bool.not_true, Bool.not_false, List.map_cons, List.map_nil, wipeM, Ev.locked, reduceCtorEq, f1, tru, List.length_cons, List.length_nil, Nat.reduceAdd, Nat.zero_add, sz0, sz1, sz2, sz3, sz4, sz5, sz6, sz7, sz8, sz9, sz10, sz11, sz12, sz13, sz14, sz15, sz16, sz17, sz18, sz19, sz20, sz21, sz22, sz23, itE, itOf]
          · rfl
          · intro x m
            have c := (List.all_eq_true.mp c1) x m
            have ox := hx x m
            simp only [Bool.and_eq_true] at c
            cases x with
            | tup ys =>
              have q := c.1
              simp only [isTup, decide_eq_true_eq] at q
              match ys, q with
              | [a, b], _ =>
                simp only [okn, Bool.and_eq_true, List.all_eq_true] at ox
                have ob' : okd (h ++ [MO.lst (xs.map fstV)]) b = true := okn_d (n := 0) (okn_app _ (ox.2 b (by simp)))
                have o4 := s_is_row (L := L) (show 2 ≤ k by omega) ob'
                simp only [x_lit, x_var, x_glb, x_tup, x_lst, x_dct, x_bin, x_neg, x_not, x_and, x_or, x_ite, x_cmp, x_chain, x_idx, x_slc, x_rev, x_isi, x_fn, x_mth, x_call, x_callk, x_src, evs, evTs, evO, evIfs, evE, y_asg, y_sub, y_aug, y_exp, y_ifs, y_ret, y_retN, y_pass, y_brk, y_cnt, y_rse, evSs, Res.bind_ok, Res.bind_exc, Res.bind_bad, Res.of_some, Res.of_none, settle_v, settle_t, Res.noX_ok, Res.st_ok, Res.st_exc, Res.st_bad, SR.then_next, SR.then_ret, SR.then_brk, SR.then_cnt, SR.then_exc, SR.then_bad, SR.out, List.getElem?_cons_zero, List.getElem?_cons_succ, List.set_cons_zero, List.set_cons_succ, bindT, bindTs, Option.bind_some, Option.bind_none, Option.map_some, Option.map_none, vOf, if_true, if_false, Bool.false_eq_true, Bool.not_true, Bool.not_false, List.map_cons, List.map_nil, wipeM, Ev.locked, reduceCtorEq, f1, tru, List.length_cons, List.length_nil, Nat.reduceAdd, Nat.zero_add, sz0, sz1, sz2, sz3, sz4, sz5, sz6, sz7, sz8, sz9, sz10, sz11, sz12, sz13, sz14, sz15, sz16, sz17, sz18, sz19, sz20, sz21, sz22, sz23, o4, sndV]
            | _ => simp [isTup] at c
        refine ⟨[MO.lst (xs.map fstV)], ?_⟩
        simp only [m_is_inputs, x_lit, x_var, x_glb, x_tup, x_lst, x_dct, x_bin, x_neg, x_not, x_and, x_or, x_ite, x_cmp, x_chain, x_idx, x_slc, x_rev, x_isi, x_fn, x_mth, x_call, x_callk, x_src, evs, evTs, evO, evIfs, evE, y_asg, y_sub, y_aug, y_exp, y_ifs, y_ret, y_retN, y_pass, y_brk, y_cnt, y_rse, evSs, Res.bind_ok, Res.bind_exc, Res.bind_bad, Res.of_some, Res.of_none, settle_v, settle_t, Res.noX_ok, Res.st_ok, Res.st_exc, Res.st_bad, SR.then_next, SR.then_ret, SR.then_brk, SR.then_cnt, SR.then_exc, SR.then_bad, SR.out, List.getElem?_cons_zero, List.getElem?_cons_succ, List.set_cons_zero, List.set_cons_succ, bindT, bindTs, Option.bind_some, Option.bind_none, Option.map_some, Option.map_none, vOf, if_true, if_false, Bool.false_eq_true, Bool.not_true, Bool.not_false, List.map_cons, List.map_nil, wipeM, Ev.locked, reduceCtorEq, f1, tru, List.length_cons, List.length_nil, Nat.reduceAdd, Nat.zero_add, sz0, sz1, sz2, sz3, sz4, sz5, sz6, sz7, sz8, sz9, sz10, sz11, sz12, sz13, sz14, sz15, sz16, sz17, sz18, sz19, sz20, sz21, sz22, sz23, isiOk, isiV, List.any_cons, List.any_nil, decide_true, beq_self_eq_true, Bool.or_false, e1, b_all, c1, e2, o3, c2, e3, isInp, Bool.true_and, Bool.and_true]
      · refine ⟨[MO.lst (xs.map fstV)], ?_⟩
        have c2' : ascB (xs.map fstV) = false := by simpa using c2
        simp only [m_is_inputs, x_lit, x_var, x_glb, x_tup, x_lst, x_dct, x_bin, x_neg, x_not, x_and, x_or, x_ite, x_cmp, x_chain, x_idx, x_slc, x_rev, x_isi, x_fn, x_mth, x_call, x_callk, x_src, evs, evTs, evO, evIfs, evE, y_asg, y_sub, y_aug, y_exp, y_ifs, y_ret, y_retN, y_pass, y_brk, y_cnt, y_rse, evSs, Res.bind_ok, Res.bind_exc, Res.bind_bad, Res.of_some, Res.of_none, settle_v, settle_t, Res.noX_ok, Res.st_ok, Res.st_exc, Res.st_bad, SR.then_next, SR.then_ret, SR.then_brk, SR.then_cnt, SR.then_exc, SR.then_bad, SR.out, List.getElem?_cons_zero, List.getElem?_cons_succ, List.set_cons_zero, List.set_cons_succ, bindT, bindTs, Option.bind_some, Option.bind_none, Option.map_some, Option.map_none, vOf, if_true, if_false, Bool.false_eq_true, Bool.not_true, Bool.not_false, List.map_cons, List.map_nil, wipeM, Ev.locked, reduceCtorEq, f1, tru, List.length_cons, List.length_nil, Nat.reduceAdd, Nat.zero_add, sz0, sz1, sz2, sz3, sz4, sz5, sz6, sz7, sz8, sz9, sz10, sz11, sz12, sz13, sz14, sz15, sz16, sz17, sz18, sz19, sz20, sz21, sz22, sz23, isiOk, isiV, List.any_cons, List.any_nil, decide_true, beq_self_eq_true, Bool.or_false, e1, b_all, c1, e2, o3, c2', isInp, Bool.true_and, Bool.and_true, Bool.false_and]
    · refine ⟨[], ?_⟩
      have c1' : xs.all (fun x => isTup 2 x && isThr (fstV x)) = false := by simpa using c1
      simp only [m_is_inputs, x_lit, x_var, x_glb, x_tup, x_lst, x_dct, x_bin, x_neg, x_not, x_and, x_or, x_ite, x_cmp, x_chain, x_idx, x_slc, x_rev, x_isi, x_fn, x_mth, x_call, x_callk, x_src, evs, evTs, evO, evIfs, evE, y_asg, y_sub, y_aug, y_exp, y_ifs, y_ret, y_retN, y_pass, y_brk, y_cnt, y_rse, evSs, Res.bind_ok, Res.bind_exc, Res.bind_bad, Res.of_some, Res.of_none, settle_v, settle_t, Res.noX_ok, Res.st_ok, Res.st_exc, Res.st_bad, SR.then_next, SR.then_ret, SR.then_brk, SR.then_cnt, SR.then_exc, SR.then_bad, SR.out, List.getElem?_cons_zero, List.getElem?_cons_succ, List.set_cons_zero, List.set_cons_succ, bindT, bindTs, Option.bind_some, Option.bind_none, Option.map_some, Option.map_none, vOf, if_true, if_false, Bool.false_eq_true, Bool.not_true, Bool.not_false, List.map_cons, List.map_nil, wipeM, Ev.locked, reduceCtorEq, f1, tru, List.length_cons, List.length_nil, Nat.reduceAdd, Nat.zero_add, sz0, sz1, sz2, sz3, sz4, sz5, sz6, sz7, sz8, sz9, sz10, sz11, sz12, sz13, sz14, sz15, sz16, sz17, sz18, sz19, sz20, sz21, sz22, sz23, isiOk, isiV, List.any_cons, List.any_nil, decide_true, beq_self_eq_true, Bool.or_false, e1, b_all, c1', isInp, Bool.false_and, List.append_nil]
  | ref p =>
    have hz := isiV_other hv' (fun xs e => nomatch e)
    unfold okv at hv'
    exact ⟨[], by simp [m_is_inputs, x_lit, x_var, x_glb, x_tup, x_lst, x_dct, x_bin, x_neg, x_not, x_and, x_or, x_ite, x_cmp, x_chain, x_idx, x_slc, x_rev, x_isi, x_fn, x_mth, x_call, x_callk, x_src, evs, evTs, evO, evIfs, evE, y_asg, y_sub, y_aug, y_exp, y_ifs, y_ret, y_retN, y_pass, y_brk, y_cnt, y_rse, evSs, Res.bind_ok, Res.bind_exc, Res.bind_bad, Res.of_some, Res.of_none, settle_v, settle_t, Res.noX_ok, Res.st_ok, Res.st_exc, Res.st_bad, SR.then_next, SR.then_ret, SR.then_brk, SR.then_cnt, SR.then_exc, SR.then_bad, SR.out, List.getElem?_cons_zero, List.getElem?_cons_succ, List.set_cons_zero, List.set_cons_succ, bindT, bindTs, Option.bind_some, Option.bind_none, Option.map_some, Option.map_none, vOf, if_true, if_false, Bool.false_eq_true, Bool.not_true, Bool.not_false, List.map_cons, List.map_nil, wipeM, Ev.locked, reduceCtorEq, f1, tru, List.length_cons, List.length_nil, Nat.reduceAdd, Nat.zero_add, sz0, sz1, sz2, sz3, sz4, sz5, sz6, sz7, sz8, sz9, sz10, sz11, sz12, sz13, sz14, sz15, sz16, sz17, sz18, sz19, sz20, sz21, sz22, sz23, hv', hz, isInp]⟩
  | _ =>
    have hz := isiV_other hv' (fun xs e => nomatch e)
    unfold okv at hv'
    exact ⟨[], by simp [m_is_inputs, x_lit, x_var, x_glb, x_tup, x_lst, x_dct, x_bin, x_neg, x_not, x_and, x_or, x_ite, x_cmp, x_chain, x_idx, x_slc, x_rev, x_isi, x_fn, x_mth, x_call, x_callk, x_src, evs, evTs, evO, evIfs, evE, y_asg, y_sub, y_aug, y_exp, y_ifs, y_ret, y_retN, y_pass, y_brk, y_cnt, y_rse, evSs, Res.bind_ok, Res.bind_exc, Res.bind_bad, Res.of_some, Res.of_none, settle_v, settle_t, Res.noX_ok, Res.st_ok, Res.st_exc, Res.st_bad, SR.then_next, SR.then_ret, SR.then_brk, SR.then_cnt, SR.then_exc, SR.then_bad, SR.out, List.getElem?_cons_zero, List.getElem?_cons_succ, List.set_cons_zero, List.set_cons_succ, bindT, bindTs, Option.bind_some, Option.bind_none, Option.map_some, Option.map_none, vOf, if_true, if_false, Bool.false_eq_true, Bool.not_true, Bool.not_false, List.map_cons, List.map_nil, wipeM, Ev.locked, reduceCtorEq, f1, tru, List.length_cons, List.length_nil, Nat.reduceAdd, Nat.zero_add, sz0, sz1, sz2, sz3, sz4, sz5, sz6, sz7, sz8, sz9, sz10, sz11, sz12, sz13, sz14, sz15, sz16, sz17, sz18, sz19, sz20, sz21, sz22, sz23, hv', hz, isInp]⟩
end
end MP.Q

set_option linter.all false
set_option autoImplicit false
set_option maxRecDepth 100000
namespace MP.Q
open PySem PyProof.Rows L2
/-! ### the forty threads -/
def tI (ns : List Int) : MV := .tup (ns.map .int)
def ns3 : List Int := [0, 1, 2]
def thr40 : List MV := tI [] :: (ns3.map (fun a => tI [a]) ++ (ns3.flatMap (fun a => ns3.map fun b => tI [a, b]) ++ ns3.flatMap fun a => ns3.flatMap fun b => ns3.map fun c => tI [a, b, c]))
theorem in3 {n : Int} (h : 0 ≤ n ∧ n ≤ 2) : n ∈ ns3 := by
  have : n = 0 ∨ n = 1 ∨ n = 2 := by omega
  rcases this with rfl | rfl | rfl <;> simp [ns3]
theorem thr_mem {v : MV} (e : isThr v = true) : v ∈ thr40 := by
  obtain ⟨ns, rfl, hl, hn⟩ := thr_ints e
  match ns, hl with
  | [], _ => simp [thr40, tI]
  | [a], _ =>
    refine List.mem_cons_of_mem _ (List.mem_append_left _ (List.mem_map.mpr ⟨a, in3 (hn a (by simp)), rfl⟩))
  | [a, b], _ =>
    refine List.mem_cons_of_mem _ (List.mem_append_right _ (List.mem_append_left _ (List.mem_flatMap.mpr ⟨a, in3 (hn a (by simp)), List.mem_map.mpr ⟨b, in3 (hn b (by simp)), rfl⟩⟩)))
  | [a, b, c], _ =>
    refine List.mem_cons_of_mem _ (List.mem_append_right _ (List.mem_append_right _ (List.mem_flatMap.mpr ⟨a, in3 (hn a (by simp)), List.mem_flatMap.mpr ⟨b, in3 (hn b (by simp)), List.mem_map.mpr ⟨c, in3 (hn c (by simp)), rfl⟩⟩⟩)))
  | _ :: _ :: _ :: _ :: _, hl => simp at hl
theorem thr_is {v : MV} (m : v ∈ thr40) : isThr v = true := by
  have : thr40.all isThr = true := by decide +kernel
  exact List.all_eq_true.mp this v m
def digS : MV → Str
  | .int n => if n = 0 then "0" else if n = 1 then "1" else if n = 2 then "2" else "x"
  | _ => "x"
def dotsV : MV → Str
  | .tup [] => "main"
  | .tup xs => Txt.join "." (xs.map digS)
  | _ => ""
section
variable {k : Nat} {L : List Nat} {h : MH}
theorem digS_str {x : MV} (e : within 0 2 x = true) : fnT h .str [.v x] = some (.v (.str (digS x))) := by
  cases x with
  | int n =>
    simp only [within, Bool.and_eq_true, decide_eq_true_eq] at e
    have : n = 0 ∨ n = 1 ∨ n = 2 := by omega
    have q : ∀ i : Int, (i = 0 ∨ i = 1 ∨ i = 2) → i.natAbs.log2 < 1920 ∧ (Str.ofString (toString i) : Str) = digS (.int i) := by
      rintro i (rfl | rfl | rfl) <;> decide +kernel
    have e1 : fnT h .str [.v (.int n)] = if n.natAbs.log2 < 1920 then some (.v (.str (Str.ofString (toString n)))) else none := rfl
    rw [e1, if_pos (q n this).1, (q n this).2]
  | _ => simp [within] at e
theorem eqT_tnil {xs : List MV} {ds : List PyData} (e : MV.toDs xs = some ds) : eqT h (.v (.tup xs)) (.v (.tup [])) = some xs.isEmpty := by
  have e1 : eqNil h (.v (.tup xs)) (.v (.tup [])) = none := rfl
  have e3 : min (PyData.tuple ds).depth (PyData.tuple []).depth ≤ 60 := by
    have : (PyData.tuple []).depth = 1 := rfl
    omega
  have e4 : PyData.eqv (.tuple ds) (.tuple []) = xs.isEmpty := by
    cases xs with
    | nil => cases e; rfl
    | cons x xs =>
      simp only [MV.toDs, Option.bind_eq_some_iff, Option.map_eq_some_iff] at e
      obtain ⟨d, _, ds', _, rfl⟩ := e
      rfl
  simp only [eqT, e1, eqD, TV.toD, MV.toD, e, Option.map_some, MV.toDs, Option.bind_some, if_pos e3, e4]
theorem strsOf_map {α : Type} (f : α → Str) : ∀ xs : List α, strsOf (xs.map fun x => .str (f x)) = some (xs.map f)
  | [] => rfl
  | x :: xs => by rw [List.map_cons, strsOf, strsOf_map f xs]; rfl
theorem digS_len (x : MV) : (digS x).length ≤ 1 := by
  cases x with
  | int n =>
    simp only [digS]
    repeat' split
    all_goals decide
  | _ => show ("x" : Str).length ≤ 1; decide
theorem join_dig {xs : List MV} (hl : xs.length ≤ 3) : mthT h .join (.str ".") [.t (xs.map fun x => .str (digS x))] = some (.v (.str (Txt.join "." (xs.map digS))), h) := by
  have z : ((xs.map digS).map (·.length)).sum + (xs.map digS).length * ("." : Str).length ≤ 16777216 := by
    have z1 : ∀ ys : List MV, ((ys.map digS).map (·.length)).sum ≤ ys.length := by
      intro ys
      induction ys with
      | nil => simp
      | cons y ys ih =>
        have := digS_len y
        simp only [List.map_cons, List.sum_cons, List.length_cons]
        omega
    have z2 := z1 xs
    have z3 : ("." : Str).length = 1 := rfl
    rw [z3, List.length_map]
    omega
  have e1 : mthT h .join (.str ".") [.t (xs.map fun x => .str (digS x))] = joinT h (.str ".") [.t (xs.map fun x => .str (digS x))] := rfl
  rw [e1, joinT, show arg1 [TV.t (xs.map fun x => .str (digS x))] = some (.t (xs.map fun x => .str (digS x))) from rfl, Option.bind_some, show strM (.str ".") = (some (Str.ofString ".") : Option Str) from rfl, Option.bind_some, show seqOf h (.t (xs.map fun x => .str (digS x))) = some (xs.map fun x => .str (digS x)) from rfl, Option.bind_some, strsOf_map, Option.bind_some, if_pos z]
theorem dots_lc {E : Ev} {xs : List MV} (hx : ∀ x ∈ xs, within 0 2 x = true) : evT E (.lc (.fn .str [(.var 1)]) (.nm 1) (.e (.var 0)) [] [("k", 1)]) [some (.tup xs), none] h = .ok (.t (xs.map fun x => .str (digS x))) h := by
  rw [ev_lc (it := ⟨none, none, xs⟩) (g := fun x => some (.str (digS x))), filt_some]
  · simp only [x_lit, x_var, x_glb, x_tup, x_lst, x_dct, x_bin, x_neg, x_not, x_and, x_or, x_ite, x_cmp, x_chain, x_idx, x_slc, x_rev, x_isi, x_fn, x_mth, x_call, x_callk, x_src, evs, evTs, evO, evIfs, evE, y_asg, y_sub, y_aug, y_exp, y_ifs, y_ret, y_retN, y_pass, y_brk, y_cnt, y_rse, evSs, Res.bind_ok, Res.bind_exc, Res.bind_bad, Res.of_some, Res.of_none, settle_v, settle_t, Res.noX_ok, Res.st_ok, Res.st_exc, Res.st_bad, SR.then_next, SR.then_ret, SR.then_brk, SR.then_cnt, SR.then_exc, SR.then_bad, SR.out, List.getElem?_cons_zero, List.getElem?_cons_succ, List.set_cons_zero, List.set_cons_succ, bindT, bindTs, Option.bind_some, Option.bind_none, Option.map_some, Option.map_none, vOf, if_true, if_false, Bool.false_eq_true, Bool.not_true, Bool.not_false, List.map_cons, List.map_nil, wipeM, Ev.locked, reduceCtorEq, f1, tru, List.length_cons, List.length_nil, Nat.reduceAdd, Nat.zero_add, sz0, sz1, sz2, sz3, sz4, sz5, sz6, sz7, sz8, sz9, sz10, sz11, sz12, sz13, sz14, sz15, sz16, sz17, sz18, sz19, sz20, sz21, sz22, sz23, itE, itOf]
  · rfl
  · intro x m
    simp only [x_lit, x_var, x_glb, x_tup, x_lst, x_dct, x_bin, x_neg, x_not, x_and, x_or, x_ite, x_cmp, x_chain, x_idx, x_slc, x_rev, x_isi, x_fn, x_mth, x_call, x_callk, x_src, evs, evTs, evO, evIfs, evE, y_asg, y_sub, y_aug, y_exp, y_ifs, y_ret, y_retN, y_pass, y_brk, y_cnt, y_rse, evSs, Res.bind_ok, Res.bind_exc, Res.bind_bad, Res.of_some, Res.of_none, settle_v, settle_t, Res.noX_ok, Res.st_ok, Res.st_exc, Res.st_bad, SR.then_next, SR.then_ret, SR.then_brk, SR.then_cnt, SR.then_exc, SR.then_bad, SR.out, List.getElem?_cons_zero, List.getElem?_cons_succ, List.set_cons_zero, List.set_cons_succ, bindT, bindTs, Option.bind_some, Option.bind_none, Option.map_some, Option.map_none, vOf, if_true, if_false, Bool.false_eq_true, Bool.not_true, Bool.not_false, List.map_cons, List.map_nil, wipeM, Ev.locked, reduceCtorEq, f1, tru, List.length_cons, List.length_nil, Nat.reduceAdd, Nat.zero_add, sz0, sz1, sz2, sz3, sz4, sz5, sz6, sz7, sz8, sz9, sz10, sz11, sz12, sz13, sz14, sz15, sz16, sz17, sz18, sz19, sz20, sz21, sz22, sz23, digS_str (hx x m)]
theorem thr_un {v : MV} (e : isThr v = true) : ∃ xs, v = .tup xs ∧ xs.length ≤ 3 ∧ (∀ x ∈ xs, within 0 2 x = true) ∧ ∃ ds, MV.toDs xs = some ds := by
  obtain ⟨ns, rfl, -, -⟩ := thr_ints e
  simp only [isThr, Bool.and_eq_true, decide_eq_true_eq, List.all_eq_true] at e
  exact ⟨_, rfl, e.1, e.2, _, toDs_ints ns⟩
theorem dots_ev {E : Ev} {S : SubT} {v : MV} (e : isThr v = true) : (evSs S E m__law_dots [some v, none] h).out = .ok (.str (dotsV v)) h := by
  obtain ⟨xs, rfl, hl, hx, ds, hd⟩ := thr_un e
  have hm : mOk h .join (.str ".") = true := rfl
  cases xs with
  | nil => simp only [m__law_dots, x_lit, x_var, x_glb, x_tup, x_lst, x_dct, x_bin, x_neg, x_not, x_and, x_or, x_ite, x_cmp, x_chain, x_idx, x_slc, x_rev, x_isi, x_fn, x_mth, x_call, x_callk, x_src, evs, evTs, evO, evIfs, evE, y_asg, y_sub, y_aug, y_exp, y_ifs, y_ret, y_retN, y_pass, y_brk, y_cnt, y_rse, evSs, Res.bind_ok, Res.bind_exc, Res.bind_bad, Res.of_some, Res.of_none, settle_v, settle_t, Res.noX_ok, Res.st_ok, Res.st_exc, Res.st_bad, SR.then_next, SR.then_ret, SR.then_brk, SR.then_cnt, SR.then_exc, SR.then_bad, SR.out, List.getElem?_cons_zero, List.getElem?_cons_succ, List.set_cons_zero, List.set_cons_succ, bindT, bindTs, Option.bind_some, Option.bind_none, Option.map_some, Option.map_none, vOf, if_true, if_false, Bool.false_eq_true, Bool.not_true, Bool.not_false, List.map_cons, List.map_nil, wipeM, Ev.locked, reduceCtorEq, f1, tru, List.length_cons, List.length_nil, Nat.reduceAdd, Nat.zero_add, sz0, sz1, sz2, sz3, sz4, sz5, sz6, sz7, sz8, sz9, sz10, sz11, sz12, sz13, sz14, sz15, sz16, sz17, sz18, sz19, sz20, sz21, sz22, sz23, cmpT, eqT_tnil hd, List.isEmpty_nil, dotsV]
  | cons x xs =>
    have j := join_dig (h := h) hl
    simp only [List.map_cons] at j
    simp only [m__law_dots, x_lit, x_var, x_glb, x_tup, x_lst, x_dct, x_bin, x_neg, x_not, x_and, x_or, x_ite, x_cmp, x_chain, x_idx, x_slc, x_rev, x_isi, x_fn, x_mth, x_call, x_callk, x_src, evs, evTs, evO, evIfs, evE, y_asg, y_sub, y_aug, y_exp, y_ifs, y_ret, y_retN, y_pass, y_brk, y_cnt, y_rse, evSs, Res.bind_ok, Res.bind_exc, Res.bind_bad, Res.of_some, Res.of_none, settle_v, settle_t, Res.noX_ok, Res.st_ok, Res.st_exc, Res.st_bad, SR.then_next, SR.then_ret, SR.then_brk, SR.then_cnt, SR.then_exc, SR.then_bad, SR.out, List.getElem?_cons_zero, List.getElem?_cons_succ, List.set_cons_zero, List.set_cons_succ, bindT, bindTs, Option.bind_some, Option.bind_none, Option.map_some, Option.map_none, vOf, if_true, if_false, Bool.false_eq_true, Bool.not_true, Bool.not_false, List.map_cons, List.map_nil, wipeM, Ev.locked, reduceCtorEq, f1, tru, List.length_cons, List.length_nil, Nat.reduceAdd, Nat.zero_add, sz0, sz1, sz2, sz3, sz4, sz5, sz6, sz7, sz8, sz9, sz10, sz11, sz12, sz13, sz14, sz15, sz16, sz17, sz18, sz19, sz20, sz21, sz22, sz23, cmpT, eqT_tnil hd, List.isEmpty_cons, hm, dots_lc hx, j, dotsV]
theorem s_dots (hk : 1 ≤ k) {v : MV} (e : isThr v = true) : callM PP k L 27 [v] h = .ok (.str (dotsV v)) h := by
  obtain ⟨k, rfl⟩ : ∃ j, k = j + 1 := ⟨k - 1, by omega⟩
  rw [c__law_dots]; exact dots_ev e
theorem s_thread_text (hk : 1 ≤ k) {v : MV} (e : isThr v = true) : callM PP k L 10 [v] h = .ok (.str (dotsV v)) h := by
  obtain ⟨k, rfl⟩ : ∃ j, k = j + 1 := ⟨k - 1, by omega⟩
  rw [c_thread_text]; exact dots_ev e
theorem s_check_thread (hk : 5 ≤ k) {v : MV} (hv : okd h v = true) : callM PP k L 9 [v] h = if isThr v then .ok .non h else .exc 2 [v] h := by
  obtain ⟨k, rfl⟩ : ∃ j, k = j + 1 := ⟨k - 1, by omega⟩
  rw [c_check_thread]
  cases e : isThr v <;> simp only [m_check_thread, x_lit, x_var, x_glb, x_tup, x_lst, x_dct, x_bin, x_neg, x_not, x_and, x_or, x_ite, x_cmp, x_chain, x_idx, x_slc, x_rev, x_isi, x_fn, x_mth, x_call, x_callk, x_src, evs, evTs, evO, evIfs, evE, y_asg, y_sub, y_aug, y_exp, y_ifs, y_ret, y_retN, y_pass, y_brk, y_cnt, y_rse, evSs, Res.bind_ok, Res.bind_exc, Res.bind_bad, Res.of_some, Res.of_none, settle_v, settle_t, Res.noX_ok, Res.st_ok, Res.st_exc, Res.st_bad, SR.then_next, SR.then_ret, SR.then_brk, SR.then_cnt, SR.then_exc, SR.then_bad, SR.out, List.getElem?_cons_zero, List.getElem?_cons_succ, List.set_cons_zero, List.set_cons_succ, bindT, bindTs, Option.bind_some, Option.bind_none, Option.map_some, Option.map_none, vOf, if_true, if_false, Bool.false_eq_true, Bool.not_true, Bool.not_false, List.map_cons, List.map_nil, wipeM, Ev.locked, reduceCtorEq, f1, tru, List.length_cons, List.length_nil, Nat.reduceAdd, Nat.zero_add, sz0, sz1, sz2, sz3, sz4, sz5, sz6, sz7, sz8, sz9, sz10, sz11, sz12, sz13, sz14, sz15, sz16, sz17, sz18, sz19, sz20, sz21, sz22, sz23, s_is_thread (show 4 ≤ k by omega) hv, e]
theorem s_write_thread (hk : 6 ≤ k) {v : MV} (hv : okd h v = true) : callM PP k L 11 [v] h = if isThr v then .ok (.str (dotsV v)) h else .exc 2 [v] h := by
  obtain ⟨k, rfl⟩ : ∃ j, k = j + 1 := ⟨k - 1, by omega⟩
  rw [c_write_thread]
  cases e : isThr v with
  | true => simp only [m_write_thread, x_lit, x_var, x_glb, x_tup, x_lst, x_dct, x_bin, x_neg, x_not, x_and, x_or, x_ite, x_cmp, x_chain, x_idx, x_slc, x_rev, x_isi, x_fn, x_mth, x_call, x_callk, x_src, evs, evTs, evO, evIfs, evE, y_asg, y_sub, y_aug, y_exp, y_ifs, y_ret, y_retN, y_pass, y_brk, y_cnt, y_rse, evSs, Res.bind_ok, Res.bind_exc, Res.bind_bad, Res.of_some, Res.of_none, settle_v, settle_t, Res.noX_ok, Res.st_ok, Res.st_exc, Res.st_bad, SR.then_next, SR.then_ret, SR.then_brk, SR.then_cnt, SR.then_exc, SR.then_bad, SR.out, List.getElem?_cons_zero, List.getElem?_cons_succ, List.set_cons_zero, List.set_cons_succ, bindT, bindTs, Option.bind_some, Option.bind_none, Option.map_some, Option.map_none, vOf, if_true, if_false, Bool.false_eq_true, Bool.not_true, Bool.not_false, List.map_cons, List.map_nil, wipeM, Ev.locked, reduceCtorEq, f1, tru, List.length_cons, List.length_nil, Nat.reduceAdd, Nat.zero_add, sz0, sz1, sz2, sz3, sz4, sz5, sz6, sz7, sz8, sz9, sz10, sz11, sz12, sz13, sz14, sz15, sz16, sz17, sz18, sz19, sz20, sz21, sz22, sz23, s_check_thread (show 5 ≤ k by omega) hv, e, s_thread_text (show 1 ≤ k by omega) e]
  | false => simp only [m_write_thread, x_lit, x_var, x_glb, x_tup, x_lst, x_dct, x_bin, x_neg, x_not, x_and, x_or, x_ite, x_cmp, x_chain, x_idx, x_slc, x_rev, x_isi, x_fn, x_mth, x_call, x_callk, x_src, evs, evTs, evO, evIfs, evE, y_asg, y_sub, y_aug, y_exp, y_ifs, y_ret, y_retN, y_pass, y_brk, y_cnt, y_rse, evSs, Res.bind_ok, Res.bind_exc, Res.bind_bad, Res.of_some, Res.of_none, settle_v, settle_t, Res.noX_ok, Res.st_ok, Res.st_exc, Res.st_bad, SR.then_next, SR.then_ret, SR.then_brk, SR.then_cnt, SR.then_exc, SR.then_bad, SR.out, List.getElem?_cons_zero, List.getElem?_cons_succ, List.set_cons_zero, List.set_cons_succ, bindT, bindTs, Option.bind_some, Option.bind_none, Option.map_some, Option.map_none, vOf, if_true, if_false, Bool.false_eq_true, Bool.not_true, Bool.not_false, List.map_cons, List.map_nil, wipeM, Ev.locked, reduceCtorEq, f1, tru, List.length_cons, List.length_nil, Nat.reduceAdd, Nat.zero_add, sz0, sz1, sz2, sz3, sz4, sz5, sz6, sz7, sz8, sz9, sz10, sz11, sz12, sz13, sz14, sz15, sz16, sz17, sz18, sz19, sz20, sz21, sz22, sz23, s_check_thread (show 5 ≤ k by omega) hv, e]
/-! the law's own judges -/
theorem s_whole3 (hk : 1 ≤ k) {v : MV} {lo hi : Int} (hv : okv h v = true) : callM PP k L 20 [v, .int lo, .int hi] h = .ok (.bl (within lo hi v)) h := by
  obtain ⟨k, rfl⟩ : ∃ j, k = j + 1 := ⟨k - 1, by omega⟩
  rw [c__law_is_whole]
  unfold okv at hv
  cases v with
  | int i => by_cases q : lo ≤ i <;> simp [m__law_is_whole, x_lit, x_var, x_glb, x_tup, x_lst, x_dct, x_bin, x_neg, x_not, x_and, x_or, x_ite, x_cmp, x_chain, x_idx, x_slc, x_rev, x_isi, x_fn, x_mth, x_call, x_callk, x_src, evs, evTs, evO, evIfs, evE, y_asg, y_sub, y_aug, y_exp, y_ifs, y_ret, y_retN, y_pass, y_brk, y_cnt, y_rse, evSs, Res.bind_ok, Res.bind_exc, Res.bind_bad, Res.of_some, Res.of_none, settle_v, settle_t, Res.noX_ok, Res.st_ok, Res.st_exc, Res.st_bad, SR.then_next, SR.then_ret, SR.then_brk, SR.then_cnt, SR.then_exc, SR.then_bad, SR.out, List.getElem?_cons_zero, List.getElem?_cons_succ, List.set_cons_zero, List.set_cons_succ, bindT, bindTs, Option.bind_some, Option.bind_none, Option.map_some, Option.map_none, vOf, if_true, if_false, Bool.false_eq_true, Bool.not_true, Bool.not_false, List.map_cons, List.map_nil, wipeM, Ev.locked, reduceCtorEq, f1, tru, List.length_cons, List.length_nil, Nat.reduceAdd, Nat.zero_add, sz0, sz1, sz2, sz3, sz4, sz5, sz6, sz7, sz8, sz9, sz10, sz11, sz12, sz13, sz14, sz15, sz16, sz17, sz18, sz19, sz20, sz21, sz22, sz23, hv, isiV, within, cmpT, isT, icmp, q]
  | ref p =>
    simp only [m__law_is_whole, x_lit, x_var, x_glb, x_tup, x_lst, x_dct, x_bin, x_neg, x_not, x_and, x_or, x_ite, x_cmp, x_chain, x_idx, x_slc, x_rev, x_isi, x_fn, x_mth, x_call, x_callk, x_src, evs, evTs, evO, evIfs, evE, y_asg, y_sub, y_aug, y_exp, y_ifs, y_ret, y_retN, y_pass, y_brk, y_cnt, y_rse, evSs, Res.bind_ok, Res.bind_exc, Res.bind_bad, Res.of_some, Res.of_none, settle_v, settle_t, Res.noX_ok, Res.st_ok, Res.st_exc, Res.st_bad, SR.then_next, SR.then_ret, SR.then_brk, SR.then_cnt, SR.then_exc, SR.then_bad, SR.out, List.getElem?_cons_zero, List.getElem?_cons_succ, List.set_cons_zero, List.set_cons_succ, bindT, bindTs, Option.bind_some, Option.bind_none, Option.map_some, Option.map_none, vOf, if_true, if_false, Bool.false_eq_true, Bool.not_true, Bool.not_false, List.map_cons, List.map_nil, wipeM, Ev.locked, reduceCtorEq, f1, tru, List.length_cons, List.length_nil, Nat.reduceAdd, Nat.zero_add, sz0, sz1, sz2, sz3, sz4, sz5, sz6, sz7, sz8, sz9, sz10, sz11, sz12, sz13, sz14, sz15, sz16, sz17, sz18, sz19, sz20, sz21, sz22, sz23, hv]
    simp only [isiOk] at hv
    split at hv <;> simp_all [isiV, within]
  | _ => simp [m__law_is_whole, x_lit, x_var, x_glb, x_tup, x_lst, x_dct, x_bin, x_neg, x_not, x_and, x_or, x_ite, x_cmp, x_chain, x_idx, x_slc, x_rev, x_isi, x_fn, x_mth, x_call, x_callk, x_src, evs, evTs, evO, evIfs, evE, y_asg, y_sub, y_aug, y_exp, y_ifs, y_ret, y_retN, y_pass, y_brk, y_cnt, y_rse, evSs, Res.bind_ok, Res.bind_exc, Res.bind_bad, Res.of_some, Res.of_none, settle_v, settle_t, Res.noX_ok, Res.st_ok, Res.st_exc, Res.st_bad, SR.then_next, SR.then_ret, SR.then_brk, SR.then_cnt, SR.then_exc, SR.then_bad, SR.out, List.getElem?_cons_zero, List.getElem?_cons_succ, List.set_cons_zero, List.set_cons_succ, bindT, bindTs, Option.bind_some, Option.bind_none, Option.map_some, Option.map_none, vOf, if_true, if_false, Bool.false_eq_true, Bool.not_true, Bool.not_false, List.map_cons, List.map_nil, wipeM, Ev.locked, reduceCtorEq, f1, tru, List.length_cons, List.length_nil, Nat.reduceAdd, Nat.zero_add, sz0, sz1, sz2, sz3, sz4, sz5, sz6, sz7, sz8, sz9, sz10, sz11, sz12, sz13, sz14, sz15, sz16, sz17, sz18, sz19, sz20, sz21, sz22, sz23, hv, isiV, within]
theorem s_wholeN (hk : 1 ≤ k) {v : MV} (hv : okv h v = true) : callM PP k L 20 [v, .non, .non] h = .ok (.bl (isInt v)) h := by
  obtain ⟨k, rfl⟩ : ∃ j, k = j + 1 := ⟨k - 1, by omega⟩
  rw [c__law_is_whole]
  unfold okv at hv
  cases v with
  | int i => simp [m__law_is_whole, x_lit, x_var, x_glb, x_tup, x_lst, x_dct, x_bin, x_neg, x_not, x_and, x_or, x_ite, x_cmp, x_chain, x_idx, x_slc, x_rev, x_isi, x_fn, x_mth, x_call, x_callk, x_src, evs, evTs, evO, evIfs, evE, y_asg, y_sub, y_aug, y_exp, y_ifs, y_ret, y_retN, y_pass, y_brk, y_cnt, y_rse, evSs, Res.bind_ok, Res.bind_exc, Res.bind_bad, Res.of_some, Res.of_none, settle_v, settle_t, Res.noX_ok, Res.st_ok, Res.st_exc, Res.st_bad, SR.then_next, SR.then_ret, SR.then_brk, SR.then_cnt, SR.then_exc, SR.then_bad, SR.out, List.getElem?_cons_zero, List.getElem?_cons_succ, List.set_cons_zero, List.set_cons_succ, bindT, bindTs, Option.bind_some, Option.bind_none, Option.map_some, Option.map_none, vOf, if_true, if_false, Bool.false_eq_true, Bool.not_true, Bool.not_false, List.map_cons, List.map_nil, wipeM, Ev.locked, reduceCtorEq, f1, tru, List.length_cons, List.length_nil, Nat.reduceAdd, Nat.zero_add, sz0, sz1, sz2, sz3, sz4, sz5, sz6, sz7, sz8, sz9, sz10, sz11, sz12, sz13, sz14, sz15, sz16, sz17, sz18, sz19, sz20, sz21, sz22, sz23, hv, isiV, isInt, cmpT, isT, icmp]
  | ref p =>
    simp only [m__law_is_whole, x_lit, x_var, x_glb, x_tup, x_lst, x_dct, x_bin, x_neg, x_not, x_and, x_or, x_ite, x_cmp, x_chain, x_idx, x_slc, x_rev, x_isi, x_fn, x_mth, x_call, x_callk, x_src, evs, evTs, evO, evIfs, evE, y_asg, y_sub, y_aug, y_exp, y_ifs, y_ret, y_retN, y_pass, y_brk, y_cnt, y_rse, evSs, Res.bind_ok, Res.bind_exc, Res.bind_bad, Res.of_some, Res.of_none, settle_v, settle_t, Res.noX_ok, Res.st_ok, Res.st_exc, Res.st_bad, SR.then_next, SR.then_ret, SR.then_brk, SR.then_cnt, SR.then_exc, SR.then_bad, SR.out, List.getElem?_cons_zero, List.getElem?_cons_succ, List.set_cons_zero, List.set_cons_succ, bindT, bindTs, Option.bind_some, Option.bind_none, Option.map_some, Option.map_none, vOf, if_true, if_false, Bool.false_eq_true, Bool.not_true, Bool.not_false, List.map_cons, List.map_nil, wipeM, Ev.locked, reduceCtorEq, f1, tru, List.length_cons, List.length_nil, Nat.reduceAdd, Nat.zero_add, sz0, sz1, sz2, sz3, sz4, sz5, sz6, sz7, sz8, sz9, sz10, sz11, sz12, sz13, sz14, sz15, sz16, sz17, sz18, sz19, sz20, sz21, sz22, sz23, hv]
    simp only [isiOk] at hv
    split at hv <;> simp_all [isiV, isInt]
  | _ => simp [m__law_is_whole, x_lit, x_var, x_glb, x_tup, x_lst, x_dct, x_bin, x_neg, x_not, x_and, x_or, x_ite, x_cmp, x_chain, x_idx, x_slc, x_rev, x_isi, x_fn, x_mth, x_call, x_callk, x_src, evs, evTs, evO, evIfs, evE, y_asg, y_sub, y_aug, y_exp, y_ifs, y_ret, y_retN, y_pass, y_brk, y_cnt, y_rse, evSs, Res.bind_ok, Res.bind_exc, Res.bind_bad, Res.of_some, Res.of_none, settle_v, settle_t, Res.noX_ok, Res.st_ok, Res.st_exc, Res.st_bad, SR.then_next, SR.then_ret, SR.then_brk, SR.then_cnt, SR.then_exc, SR.then_bad, SR.out, List.getElem?_cons_zero, List.getElem?_cons_succ, List.set_cons_zero, List.set_cons_succ, bindT, bindTs, Option.bind_some, Option.bind_none, Option.map_some, Option.map_none, vOf, if_true, if_false, Bool.false_eq_true, Bool.not_true, Bool.not_false, List.map_cons, List.map_nil, wipeM, Ev.locked, reduceCtorEq, f1, tru, List.length_cons, List.length_nil, Nat.reduceAdd, Nat.zero_add, sz0, sz1, sz2, sz3, sz4, sz5, sz6, sz7, sz8, sz9, sz10, sz11, sz12, sz13, sz14, sz15, sz16, sz17, sz18, sz19, sz20, sz21, sz22, sz23, hv, isiV, isInt]
theorem s_law_is_thread (hk : 2 ≤ k) {v : MV} (hv : okd h v = true) : callM PP k L 21 [v] h = .ok (.bl (isThr v)) h := by
  obtain ⟨k, rfl⟩ : ∃ j, k = j + 1 := ⟨k - 1, by omega⟩
  rw [c__law_is_thread]
  have hv' := okd_v hv
  cases v with
  | tup xs =>
    have e1 : evT ⟨callM PP k, glbP, L⟩ (.lc (.var 1) (.nm 1) (.e (.var 0)) [(.not (.call 20 [(.var 1), (.lit (.int 0)), (.lit (.int 2))]))] [("k", 1)]) [some (.tup xs), none] h = .ok (.t (xs.filterMap fun x => if within 0 2 x then none else some x)) h := by
      rw [ev_lc (it := ⟨none, none, xs⟩) (g := fun x => if within 0 2 x then none else some x)]
      · simp only [x_lit, x_var, x_glb, x_tup, x_lst, x_dct, x_bin, x_neg, x_not, x_and, x_or, x_ite, x_cmp, x_chain, x_idx, x_slc, x_rev, x_isi, x_fn, x_mth, x_call, x_callk, x_src, evs, evTs, evO, evIfs, evE, y_asg, y_sub, y_aug, y_exp, y_ifs, y_ret, y_retN, y_pass, y_brk, y_cnt, y_rse, evSs, Res.bind_ok, Res.bind_exc, Res.bind_bad, Res.of_some, Res.of_none, settle_v, settle_t, Res.noX_ok, Res.st_ok, Res.st_exc, Res.st_bad, SR.then_next, SR.then_ret, SR.then_brk, SR.then_cnt, SR.then_exc, SR.then_bad, SR.out, List.getElem?_cons_zero, List.getElem?_cons_succ, List.set_cons_zero, List.set_cons_succ, bindT, bindTs, Option.bind_some, Option.bind_none, Option.map_some, Option.map_none, vOf, if_true, if_false, Bool.false_eq_true, Bool.not_true, Bool.not_false, List.map_cons, List.map_nil, wipeM, Ev.locked, reduceCtorEq, f1, tru, List.length_cons, List.length_nil, Nat.reduceAdd, Nat.zero_add, sz0, sz1, sz2, sz3, sz4, sz5, sz6, sz7, sz8, sz9, sz10, sz11, sz12, sz13, sz14, sz15, sz16, sz17, sz18, sz19, sz20, sz21, sz22, sz23, itE, itOf]
      · rfl
      · intro x hx
        have hx' : okv h x = true := by
          simp only [okd, List.all_eq_true] at hv
          exact hv x hx
        cases e : within 0 2 x <;> simp only [x_lit, x_var, x_glb, x_tup, x_lst, x_dct, x_bin, x_neg, x_not, x_and, x_or, x_ite, x_cmp, x_chain, x_idx, x_slc, x_rev, x_isi, x_fn, x_mth, x_call, x_callk, x_src, evs, evTs, evO, evIfs, evE, y_asg, y_sub, y_aug, y_exp, y_ifs, y_ret, y_retN, y_pass, y_brk, y_cnt, y_rse, evSs, Res.bind_ok, Res.bind_exc, Res.bind_bad, Res.of_some, Res.of_none, settle_v, settle_t, Res.noX_ok, Res.st_ok, Res.st_exc, Res.st_bad, SR.then_next, SR.then_ret, SR.then_brk, SR.then_cnt, SR.then_exc, SR.then_bad, SR.out, List.getElem?_cons_zero, List.getElem?_cons_succ, List.set_cons_zero, List.set_cons_succ, bindT, bindTs, Option.bind_some, Option.bind_none, Option.map_some, Option.map_none, vOf, if_true, if_false, Bool.false_eq_true, Bool.not_true, Bool.not_false, List.map_cons, List.map_nil, wipeM, Ev.locked, reduceCtorEq, f1, tru, List.length_cons, List.length_nil, Nat.reduceAdd, Nat.zero_add, sz0, sz1, sz2, sz3, sz4, sz5, sz6, sz7, sz8, sz9, sz10, sz11, sz12, sz13, sz14, sz15, sz16, sz17, sz18, sz19, sz20, sz21, sz22, sz23, s_whole3 (show 1 ≤ k by omega) hx', e]
    simp only [m__law_is_thread, x_lit, x_var, x_glb, x_tup, x_lst, x_dct, x_bin, x_neg, x_not, x_and, x_or, x_ite, x_cmp, x_chain, x_idx, x_slc, x_rev, x_isi, x_fn, x_mth, x_call, x_callk, x_src, evs, evTs, evO, evIfs, evE, y_asg, y_sub, y_aug, y_exp, y_ifs, y_ret, y_retN, y_pass, y_brk, y_cnt, y_rse, evSs, Res.bind_ok, Res.bind_exc, Res.bind_bad, Res.of_some, Res.of_none, settle_v, settle_t, Res.noX_ok, Res.st_ok, Res.st_exc, Res.st_bad, SR.then_next, SR.then_ret, SR.then_brk, SR.then_cnt, SR.then_exc, SR.then_bad, SR.out, List.getElem?_cons_zero, List.getElem?_cons_succ, List.set_cons_zero, List.set_cons_succ, bindT, bindTs, Option.bind_some, Option.bind_none, Option.map_some, Option.map_none, vOf, if_true, if_false, Bool.false_eq_true, Bool.not_true, Bool.not_false, List.map_cons, List.map_nil, wipeM, Ev.locked, reduceCtorEq, f1, tru, List.length_cons, List.length_nil, Nat.reduceAdd, Nat.zero_add, sz0, sz1, sz2, sz3, sz4, sz5, sz6, sz7, sz8, sz9, sz10, sz11, sz12, sz13, sz14, sz15, sz16, sz17, sz18, sz19, sz20, sz21, sz22, sz23, isiOk, isiV, e1, b_len_tup, cmpT, icmp, List.any_cons, List.any_nil, decide_true, beq_self_eq_true, Bool.or_false, isThr]
    by_cases q : xs.length ≤ 3
    · have : ((xs.length : Int) ≤ 3) := by omega
      simp only [x_lit, x_var, x_glb, x_tup, x_lst, x_dct, x_bin, x_neg, x_not, x_and, x_or, x_ite, x_cmp, x_chain, x_idx, x_slc, x_rev, x_isi, x_fn, x_mth, x_call, x_callk, x_src, evs, evTs, evO, evIfs, evE, y_asg, y_sub, y_aug, y_exp, y_ifs, y_ret, y_retN, y_pass, y_brk, y_cnt, y_rse, evSs, Res.bind_ok, Res.bind_exc, Res.bind_bad, Res.of_some, Res.of_none, settle_v, settle_t, Res.noX_ok, Res.st_ok, Res.st_exc, Res.st_bad, SR.then_next, SR.then_ret, SR.then_brk, SR.then_cnt, SR.then_exc, SR.then_bad, SR.out, List.getElem?_cons_zero, List.getElem?_cons_succ, List.set_cons_zero, List.set_cons_succ, bindT, bindTs, Option.bind_some, Option.bind_none, Option.map_some, Option.map_none, vOf, if_true, if_false, Bool.false_eq_true, Bool.not_true, Bool.not_false, List.map_cons, List.map_nil, wipeM, Ev.locked, reduceCtorEq, f1, tru, List.length_cons, List.length_nil, Nat.reduceAdd, Nat.zero_add, sz0, sz1, sz2, sz3, sz4, sz5, sz6, sz7, sz8, sz9, sz10, sz11, sz12, sz13, sz14, sz15, sz16, sz17, sz18, sz19, sz20, sz21, sz22, sz23, q, this, decide_true, Bool.true_and, e1, eqT_nil, empty_all]
    · have : ¬ ((xs.length : Int) ≤ 3) := by omega
      simp only [x_lit, x_var, x_glb, x_tup, x_lst, x_dct, x_bin, x_neg, x_not, x_and, x_or, x_ite, x_cmp, x_chain, x_idx, x_slc, x_rev, x_isi, x_fn, x_mth, x_call, x_callk, x_src, evs, evTs, evO, evIfs, evE, y_asg, y_sub, y_aug, y_exp, y_ifs, y_ret, y_retN, y_pass, y_brk, y_cnt, y_rse, evSs, Res.bind_ok, Res.bind_exc, Res.bind_bad, Res.of_some, Res.of_none, settle_v, settle_t, Res.noX_ok, Res.st_ok, Res.st_exc, Res.st_bad, SR.then_next, SR.then_ret, SR.then_brk, SR.then_cnt, SR.then_exc, SR.then_bad, SR.out, List.getElem?_cons_zero, List.getElem?_cons_succ, List.set_cons_zero, List.set_cons_succ, bindT, bindTs, Option.bind_some, Option.bind_none, Option.map_some, Option.map_none, vOf, if_true, if_false, Bool.false_eq_true, Bool.not_true, Bool.not_false, List.map_cons, List.map_nil, wipeM, Ev.locked, reduceCtorEq, f1, tru, List.length_cons, List.length_nil, Nat.reduceAdd, Nat.zero_add, sz0, sz1, sz2, sz3, sz4, sz5, sz6, sz7, sz8, sz9, sz10, sz11, sz12, sz13, sz14, sz15, sz16, sz17, sz18, sz19, sz20, sz21, sz22, sz23, q, this, decide_false, Bool.false_and]
  | ref p =>
    have hz := isiV_other hv' (fun xs e => nomatch e)
    unfold okv at hv'
    simp [m__law_is_thread, x_lit, x_var, x_glb, x_tup, x_lst, x_dct, x_bin, x_neg, x_not, x_and, x_or, x_ite, x_cmp, x_chain, x_idx, x_slc, x_rev, x_isi, x_fn, x_mth, x_call, x_callk, x_src, evs, evTs, evO, evIfs, evE, y_asg, y_sub, y_aug, y_exp, y_ifs, y_ret, y_retN, y_pass, y_brk, y_cnt, y_rse, evSs, Res.bind_ok, Res.bind_exc, Res.bind_bad, Res.of_some, Res.of_none, settle_v, settle_t, Res.noX_ok, Res.st_ok, Res.st_exc, Res.st_bad, SR.then_next, SR.then_ret, SR.then_brk, SR.then_cnt, SR.then_exc, SR.then_bad, SR.out, List.getElem?_cons_zero, List.getElem?_cons_succ, List.set_cons_zero, List.set_cons_succ, bindT, bindTs, Option.bind_some, Option.bind_none, Option.map_some, Option.map_none, vOf, if_true, if_false, Bool.false_eq_true, Bool.not_true, Bool.not_false, List.map_cons, List.map_nil, wipeM, Ev.locked, reduceCtorEq, f1, tru, List.length_cons, List.length_nil, Nat.reduceAdd, Nat.zero_add, sz0, sz1, sz2, sz3, sz4, sz5, sz6, sz7, sz8, sz9, sz10, sz11, sz12, sz13, sz14, sz15, sz16, sz17, sz18, sz19, sz20, sz21, sz22, sz23, hv', hz, isThr]
  | _ =>
    have hz := isiV_other hv' (fun xs e => nomatch e)
    unfold okv at hv'
    simp [m__law_is_thread, x_lit, x_var, x_glb, x_tup, x_lst, x_dct, x_bin, x_neg, x_not, x_and, x_or, x_ite, x_cmp, x_chain, x_idx, x_slc, x_rev, x_isi, x_fn, x_mth, x_call, x_callk, x_src, evs, evTs, evO, evIfs, evE, y_asg, y_sub, y_aug, y_exp, y_ifs, y_ret, y_retN, y_pass, y_brk, y_cnt, y_rse, evSs, Res.bind_ok, Res.bind_exc, Res.bind_bad, Res.of_some, Res.of_none, settle_v, settle_t, Res.noX_ok, Res.st_ok, Res.st_exc, Res.st_bad, SR.then_next, SR.then_ret, SR.then_brk, SR.then_cnt, SR.then_exc, SR.then_bad, SR.out, List.getElem?_cons_zero, List.getElem?_cons_succ, List.set_cons_zero, List.set_cons_succ, bindT, bindTs, Option.bind_some, Option.bind_none, Option.map_some, Option.map_none, vOf, if_true, if_false, Bool.false_eq_true, Bool.not_true, Bool.not_false, List.map_cons, List.map_nil, wipeM, Ev.locked, reduceCtorEq, f1, tru, List.length_cons, List.length_nil, Nat.reduceAdd, Nat.zero_add, sz0, sz1, sz2, sz3, sz4, sz5, sz6, sz7, sz8, sz9, sz10, sz11, sz12, sz13, sz14, sz15, sz16, sz17, sz18, sz19, sz20, sz21, sz22, sz23, hv', hz, isThr]
end
end MP.Q

set_option linter.all false
set_option autoImplicit false
set_option maxRecDepth 100000
namespace MP.Q
open PySem PyProof.Rows L2
def goodI (x : MV) : Bool := (isTup 2 x && isThr (fstV x)) && isRow (sndV x)
def bodyI : List MSt := [.ifs (.or (.not (.isi (.var 1) [.tuple] true)) (.or (.cmp .NotEq (.fn .len [(.var 1)]) (.lit (.int 2))) (.or (.not (.call 21 [(.idx (.var 1) (.lit (.int 0)))])) (.or (.not (.isi (.idx (.var 1) (.lit (.int 1))) [.tuple] true)) (.cmp .Gt (.fn .len [(.idx (.var 1) (.lit (.int 1)))]) (.lit (.int 20))))))) [.ret (.lit (.bl false))] [],
 .ifs (.cmp .NotEq (.lc (.var 3) (.nm 3) (.e (.idx (.var 1) (.lit (.int 1)))) [(.not (.call 20 [(.var 3), (.lit .non), (.lit .non)]))] [("item", 3)]) (.lst [])) [.ret (.lit (.bl false))] []]
def lcI : ME := (.lc (.var 2) (.nm 2) (.rng [(.lit (.int 1)), (.fn .len [(.var 0)])]) [(.not (.cmp .Lt (.idx (.idx (.var 0) (.bin .Sub (.var 2) (.lit (.int 1)))) (.lit (.int 0))) (.idx (.idx (.var 0) (.var 2)) (.lit (.int 0)))))] [("k", 2)])
section
variable {k : Nat} {L : List Nat} {h : MH} {S : SubT}
theorem len_tup_ne {xs : List MV} (h' : MH) : eqT h' (.v (.int xs.length)) (.v (.int 2)) = some (decide (xs.length = 2)) := by
  rw [eqT_int]
  by_cases q : xs.length = 2
  · simp [q]
  · have : ¬ ((xs.length : Int) = 2) := by omega
    simp [q, this]
theorem eq22 (h' : MH) : eqT h' (.v (.int ((2 : Nat) : Int))) (.v (.int 2)) = some true := by
  rw [eqT_int]; rfl
theorem body_I (hk : 2 ≤ k) {v x : MV} (hx : okn h 2 x = true) : evSs S ⟨callM PP k, glbP, L⟩ bodyI [some v, some x, none, none] h = if goodI x then .next [some v, some x, none, none] h else .ret (.bl false) h := by
  have hv' := okn_v hx
  cases x with
  | tup xs =>
    by_cases q : xs.length = 2
    · match xs, q with
      | [a, b], _ =>
        simp only [okn, Bool.and_eq_true, List.all_eq_true] at hx
        have o1 := s_law_is_thread (L := L) (show 2 ≤ k by omega) (okn_d (n := 0) (hx.2 a (by simp)))
        have ob := okn_d (n := 0) (hx.2 b (by simp))
        have a0 : idxT h (.v (.tup [a, b])) (.int 0) = some a := rfl
        have a1 : idxT h (.v (.tup [a, b])) (.int 1) = some b := rfl
        have z := len_tup_ne (xs := [a, b]) h
        have g0 : goodI (.tup [a, b]) = (isThr a && isRow b) := rfl
        rw [g0]
        cases ea : isThr a with
        | false => simp only [bodyI, x_lit, x_var, x_glb, x_tup, x_lst, x_dct, x_bin, x_neg, x_not, x_and, x_or, x_ite, x_cmp, x_chain, x_idx, x_slc, x_rev, x_isi, x_fn, x_mth, x_call, x_callk, x_src, evs, evTs, evO, evIfs, evE, y_asg, y_sub, y_aug, y_exp, y_ifs, y_ret, y_retN, y_pass, y_brk, y_cnt, y_rse, evSs, Res.bind_ok, Res.bind_exc, Res.bind_bad, Res.of_some, Res.of_none, settle_v, settle_t, Res.noX_ok, Res.st_ok, Res.st_exc, Res.st_bad, SR.then_next, SR.then_ret, SR.then_brk, SR.then_cnt, SR.then_exc, SR.then_bad, SR.out, List.getElem?_cons_zero, List.getElem?_cons_succ, List.set_cons_zero, List.set_cons_succ, bindT, bindTs, Option.bind_some, Option.bind_none, Option.map_some, Option.map_none, vOf, if_true, if_false, Bool.false_eq_true, Bool.not_true, Bool.not_false, List.map_cons, List.map_nil, wipeM, Ev.locked, reduceCtorEq, f1, tru, List.length_cons, List.length_nil, Nat.reduceAdd, Nat.zero_add, sz0, sz1, sz2, sz3, sz4, sz5, sz6, sz7, sz8, sz9, sz10, sz11, sz12, sz13, sz14, sz15, sz16, sz17, sz18, sz19, sz20, sz21, sz22, sz23, isiOk, isiV, List.any_cons, List.any_nil, decide_true, beq_self_eq_true, Bool.or_false, b_len_tup, cmpT, eq22, a0, o1, ea, Bool.false_and]
        | true =>
          cases b with
          | tup ys =>
            have e1 : ∀ v0 : Option MV, evT ⟨callM PP k, glbP, L⟩ (.lc (.var 3) (.nm 3) (.e (.idx (.var 1) (.lit (.int 1)))) [(.not (.call 20 [(.var 3), (.lit .non), (.lit .non)]))] [("item", 3)]) [v0, some (.tup [a, .tup ys]), none, none] h = .ok (.t (ys.filterMap fun x => if isInt x then none else some x)) h := by
              intro v0
              rw [ev_lc (it := ⟨none, none, ys⟩) (g := fun x => if isInt x then none else some x)]
              · simp only [x_lit, x_var, x_glb, x_tup, x_lst, x_dct, x_bin, x_neg, x_not, x_and, x_or, x_ite, x_cmp, x_chain, x_idx, x_slc, x_rev, x_isi, x_fn, x_mth, x_call, x_callk, x_src, evs, evTs, evO, evIfs, evE, y_asg, y_sub, y_aug, y_exp, y_ifs, y_ret, y_retN, y_pass, y_brk, y_cnt, y_rse, evSs, Res.bind_ok, Res.bind_exc, Res.bind_bad, Res.of_some, Res.of_none, settle_v, settle_t, Res.noX_ok, Res.st_ok, Res.st_exc, Res.st_bad, SR.then_next, SR.then_ret, SR.then_brk, SR.then_cnt, SR.then_exc, SR.then_bad, SR.out, List.getElem?_cons_zero, List.getElem?_cons_succ, List.set_cons_zero, List.set_cons_succ, bindT, bindTs, Option.bind_some, Option.bind_none, Option.map_some, Option.map_none, vOf, if_true, if_false, Bool.false_eq_true, Bool.not_true, Bool.not_false, List.map_cons, List.map_nil, wipeM, Ev.locked, reduceCtorEq, f1, tru, List.length_cons, List.length_nil, Nat.reduceAdd, Nat.zero_add, sz0, sz1, sz2, sz3, sz4, sz5, sz6, sz7, sz8, sz9, sz10, sz11, sz12, sz13, sz14, sz15, sz16, sz17, sz18, sz19, sz20, sz21, sz22, sz23, itE, itOf, a1]
              · rfl
              · intro x m
                have hx' : okv h x = true := by
                  simp only [okd, List.all_eq_true] at ob
                  exact ob x m
                cases e : isInt x <;> simp only [x_lit, x_var, x_glb, x_tup, x_lst, x_dct, x_bin, x_neg, x_not, x_and, x_or, x_ite, x_cmp, x_chain, x_idx, x_slc, x_rev, x_isi, x_fn, x_mth, x_call, x_callk, x_src, evs, evTs, evO, evIfs, evE, y_asg, y_sub, y_aug, y_exp, y_ifs, y_ret, y_retN, y_pass, y_brk, y_cnt, y_rse, evSs, Res.bind_ok, Res.bind_exc, Res.bind_bad, Res.of_some, Res.of_none, settle_v, settle_t, Res.noX_ok, Res.st_ok, Res.st_exc, Res.st_bad, SR.then_next, SR.then_ret, SR.then_brk, SR.then_cnt, SR.then_exc, SR.then_bad, SR.out, List.getElem?_cons_zero, List.getElem?_cons_succ, List.set_cons_zero, List.set_cons_succ, bindT, bindTs, Option.bind_some, Option.bind_none, Option.map_some, Option.map_none, vOf, if_true, if_false, Bool.false_eq_true, Bool.not_true, Bool.not_false, List.map_cons, List.map_nil, wipeM, Ev.locked, reduceCtorEq, f1, tru, List.length_cons, List.length_nil, Nat.reduceAdd, Nat.zero_add, sz0, sz1, sz2, sz3, sz4, sz5, sz6, sz7, sz8, sz9, sz10, sz11, sz12, sz13, sz14, sz15, sz16, sz17, sz18, sz19, sz20, sz21, sz22, sz23, s_wholeN (show 1 ≤ k by omega) hx', e]
            have rr : isRow (.tup ys) = (decide (ys.length ≤ 20) && ys.all isInt) := rfl
            by_cases q : ys.length ≤ 20
            · have q' : ¬ ((20 : Int) < ys.length) := by omega
              cases e : ys.all isInt <;> simp only [bodyI, x_lit, x_var, x_glb, x_tup, x_lst, x_dct, x_bin, x_neg, x_not, x_and, x_or, x_ite, x_cmp, x_chain, x_idx, x_slc, x_rev, x_isi, x_fn, x_mth, x_call, x_callk, x_src, evs, evTs, evO, evIfs, evE, y_asg, y_sub, y_aug, y_exp, y_ifs, y_ret, y_retN, y_pass, y_brk, y_cnt, y_rse, evSs, Res.bind_ok, Res.bind_exc, Res.bind_bad, Res.of_some, Res.of_none, settle_v, settle_t, Res.noX_ok, Res.st_ok, Res.st_exc, Res.st_bad, SR.then_next, SR.then_ret, SR.then_brk, SR.then_cnt, SR.then_exc, SR.then_bad, SR.out, List.getElem?_cons_zero, List.getElem?_cons_succ, List.set_cons_zero, List.set_cons_succ, bindT, bindTs, Option.bind_some, Option.bind_none, Option.map_some, Option.map_none, vOf, if_true, if_false, Bool.false_eq_true, Bool.not_true, Bool.not_false, List.map_cons, List.map_nil, wipeM, Ev.locked, reduceCtorEq, f1, tru, List.length_cons, List.length_nil, Nat.reduceAdd, Nat.zero_add, sz0, sz1, sz2, sz3, sz4, sz5, sz6, sz7, sz8, sz9, sz10, sz11, sz12, sz13, sz14, sz15, sz16, sz17, sz18, sz19, sz20, sz21, sz22, sz23, isiOk, isiV, List.any_cons, List.any_nil, decide_true, decide_false, beq_self_eq_true, Bool.or_false, b_len_tup, cmpT, icmp, eq22, a0, a1, o1, ea, Bool.true_and, Bool.false_and, q, q', e1, eqT_nil, empty_all, e, rr]
            · have q' : ((20 : Int) < ys.length) := by omega
              simp only [bodyI, x_lit, x_var, x_glb, x_tup, x_lst, x_dct, x_bin, x_neg, x_not, x_and, x_or, x_ite, x_cmp, x_chain, x_idx, x_slc, x_rev, x_isi, x_fn, x_mth, x_call, x_callk, x_src, evs, evTs, evO, evIfs, evE, y_asg, y_sub, y_aug, y_exp, y_ifs, y_ret, y_retN, y_pass, y_brk, y_cnt, y_rse, evSs, Res.bind_ok, Res.bind_exc, Res.bind_bad, Res.of_some, Res.of_none, settle_v, settle_t, Res.noX_ok, Res.st_ok, Res.st_exc, Res.st_bad, SR.then_next, SR.then_ret, SR.then_brk, SR.then_cnt, SR.then_exc, SR.then_bad, SR.out, List.getElem?_cons_zero, List.getElem?_cons_succ, List.set_cons_zero, List.set_cons_succ, bindT, bindTs, Option.bind_some, Option.bind_none, Option.map_some, Option.map_none, vOf, if_true, if_false, Bool.false_eq_true, Bool.not_true, Bool.not_false, List.map_cons, List.map_nil, wipeM, Ev.locked, reduceCtorEq, f1, tru, List.length_cons, List.length_nil, Nat.reduceAdd, Nat.zero_add, sz0, sz1, sz2, sz3, sz4, sz5, sz6, sz7, sz8, sz9, sz10, sz11, sz12, sz13, sz14, sz15, sz16, sz17, sz18, sz19, sz20, sz21, sz22, sz23, isiOk, isiV, List.any_cons, List.any_nil, decide_true, decide_false, beq_self_eq_true, Bool.or_false, b_len_tup, cmpT, icmp, eq22, a0, a1, o1, ea, Bool.true_and, Bool.false_and, q, q', rr]
          | _ =>
            have hz := isiV_other (okd_v ob) (fun xs e => nomatch e)
            have ok := okd_v ob
            unfold okv at ok
            simp only [bodyI, x_lit, x_var, x_glb, x_tup, x_lst, x_dct, x_bin, x_neg, x_not, x_and, x_or, x_ite, x_cmp, x_chain, x_idx, x_slc, x_rev, x_isi, x_fn, x_mth, x_call, x_callk, x_src, evs, evTs, evO, evIfs, evE, y_asg, y_sub, y_aug, y_exp, y_ifs, y_ret, y_retN, y_pass, y_brk, y_cnt, y_rse, evSs, Res.bind_ok, Res.bind_exc, Res.bind_bad, Res.of_some, Res.of_none, settle_v, settle_t, Res.noX_ok, Res.st_ok, Res.st_exc, Res.st_bad, SR.then_next, SR.then_ret, SR.then_brk, SR.then_cnt, SR.then_exc, SR.then_bad, SR.out, List.getElem?_cons_zero, List.getElem?_cons_succ, List.set_cons_zero, List.set_cons_succ, bindT, bindTs, Option.bind_some, Option.bind_none, Option.map_some, Option.map_none, vOf, if_true, if_false, Bool.false_eq_true, Bool.not_true, Bool.not_false, List.map_cons, List.map_nil, wipeM, Ev.locked, reduceCtorEq, f1, tru, List.length_cons, List.length_nil, Nat.reduceAdd, Nat.zero_add, sz0, sz1, sz2, sz3, sz4, sz5, sz6, sz7, sz8, sz9, sz10, sz11, sz12, sz13, sz14, sz15, sz16, sz17, sz18, sz19, sz20, sz21, sz22, sz23, isiOk, isiV, List.any_cons, List.any_nil, decide_true, decide_false, beq_self_eq_true, Bool.or_false, b_len_tup, cmpT, icmp, eq22, a0, a1, o1, ea, Bool.true_and, Bool.false_and]
            first
              | (simp only [isiV] at hz; simp only [x_lit, x_var, x_glb, x_tup, x_lst, x_dct, x_bin, x_neg, x_not, x_and, x_or, x_ite, x_cmp, x_chain, x_idx, x_slc, x_rev, x_isi, x_fn, x_mth, x_call, x_callk, x_src, evs, evTs, evO, evIfs, evE, y_asg, y_sub, y_aug, y_exp, y_ifs, y_ret, y_retN, y_pass, y_brk, y_cnt, y_rse, evSs, Res.bind_ok, Res.bind_exc, Res.bind_bad, Res.of_some, Res.of_none, settle_v, settle_t, Res.noX_ok, Res.st_ok, Res.st_exc, Res.st_bad, SR.then_next, SR.then_ret, SR.then_brk, SR.then_cnt, SR.then_exc, SR.then_bad, SR.out, List.getElem?_cons_zero, List.getElem?_cons_succ, List.set_cons_zero, List.set_cons_succ, bindT, bindTs, Option.bind_some, Option.bind_none, Option.map_some, Option.map_none, vOf, if_true, if_false, Bool.false_eq_true, Bool.not_true, Bool.not_false, List.map_cons, List.map_nil, wipeM, Ev.locked, reduceCtorEq, f1, tru, List.length_cons, List.length_nil, Nat.reduceAdd, Nat.zero_add, sz0, sz1, sz2, sz3, sz4, sz5, sz6, sz7, sz8, sz9, sz10, sz11, sz12, sz13, sz14, sz15, sz16, sz17, sz18, sz19, sz20, sz21, sz22, sz23, ok, hz, isRow]; done)
              | (simp only [isiOk] at ok; simp only [x_lit, x_var, x_glb, x_tup, x_lst, x_dct, x_bin, x_neg, x_not, x_and, x_or, x_ite, x_cmp, x_chain, x_idx, x_slc, x_rev, x_isi, x_fn, x_mth, x_call, x_callk, x_src, evs, evTs, evO, evIfs, evE, y_asg, y_sub, y_aug, y_exp, y_ifs, y_ret, y_retN, y_pass, y_brk, y_cnt, y_rse, evSs, Res.bind_ok, Res.bind_exc, Res.bind_bad, Res.of_some, Res.of_none, settle_v, settle_t, Res.noX_ok, Res.st_ok, Res.st_exc, Res.st_bad, SR.then_next, SR.then_ret, SR.then_brk, SR.then_cnt, SR.then_exc, SR.then_bad, SR.out, List.getElem?_cons_zero, List.getElem?_cons_succ, List.set_cons_zero, List.set_cons_succ, bindT, bindTs, Option.bind_some, Option.bind_none, Option.map_some, Option.map_none, vOf, if_true, if_false, Bool.false_eq_true, Bool.not_true, Bool.not_false, List.map_cons, List.map_nil, wipeM, Ev.locked, reduceCtorEq, f1, tru, List.length_cons, List.length_nil, Nat.reduceAdd, Nat.zero_add, sz0, sz1, sz2, sz3, sz4, sz5, sz6, sz7, sz8, sz9, sz10, sz11, sz12, sz13, sz14, sz15, sz16, sz17, sz18, sz19, sz20, sz21, sz22, sz23, ok, hz, isRow]; done)
              | (simp only [isiOk, isiV] at ok hz; simp only [x_lit, x_var, x_glb, x_tup, x_lst, x_dct, x_bin, x_neg, x_not, x_and, x_or, x_ite, x_cmp, x_chain, x_idx, x_slc, x_rev, x_isi, x_fn, x_mth, x_call, x_callk, x_src, evs, evTs, evO, evIfs, evE, y_asg, y_sub, y_aug, y_exp, y_ifs, y_ret, y_retN, y_pass, y_brk, y_cnt, y_rse, evSs, Res.bind_ok, Res.bind_exc, Res.bind_bad, Res.of_some, Res.of_none, settle_v, settle_t, Res.noX_ok, Res.st_ok, Res.st_exc, Res.st_bad, SR.then_next, SR.then_ret, SR.then_brk, SR.then_cnt, SR.then_exc, SR.then_bad, SR.out, List.getElem?_cons_zero, List.getElem?_cons_succ, List.set_cons_zero, List.set_cons_succ, bindT, bindTs, Option.bind_some, Option.bind_none, Option.map_some, Option.map_none, vOf, if_true, if_false, Bool.false_eq_true, Bool.not_true, Bool.not_false, List.map_cons, List.map_nil, wipeM, Ev.locked, reduceCtorEq, f1, tru, List.length_cons, List.length_nil, Nat.reduceAdd, Nat.zero_add, sz0, sz1, sz2, sz3, sz4, sz5, sz6, sz7, sz8, sz9, sz10, sz11, sz12, sz13, sz14, sz15, sz16, sz17, sz18, sz19, sz20, sz21, sz22, sz23, ok, hz, isRow]; done)
    · have g0 : goodI (.tup xs) = false := by simp [goodI, isTup, q]
      rw [g0]
      simp only [bodyI, x_lit, x_var, x_glb, x_tup, x_lst, x_dct, x_bin, x_neg, x_not, x_and, x_or, x_ite, x_cmp, x_chain, x_idx, x_slc, x_rev, x_isi, x_fn, x_mth, x_call, x_callk, x_src, evs, evTs, evO, evIfs, evE, y_asg, y_sub, y_aug, y_exp, y_ifs, y_ret, y_retN, y_pass, y_brk, y_cnt, y_rse, evSs, Res.bind_ok, Res.bind_exc, Res.bind_bad, Res.of_some, Res.of_none, settle_v, settle_t, Res.noX_ok, Res.st_ok, Res.st_exc, Res.st_bad, SR.then_next, SR.then_ret, SR.then_brk, SR.then_cnt, SR.then_exc, SR.then_bad, SR.out, List.getElem?_cons_zero, List.getElem?_cons_succ, List.set_cons_zero, List.set_cons_succ, bindT, bindTs, Option.bind_some, Option.bind_none, Option.map_some, Option.map_none, vOf, if_true, if_false, Bool.false_eq_true, Bool.not_true, Bool.not_false, List.map_cons, List.map_nil, wipeM, Ev.locked, reduceCtorEq, f1, tru, List.length_cons, List.length_nil, Nat.reduceAdd, Nat.zero_add, sz0, sz1, sz2, sz3, sz4, sz5, sz6, sz7, sz8, sz9, sz10, sz11, sz12, sz13, sz14, sz15, sz16, sz17, sz18, sz19, sz20, sz21, sz22, sz23, isiOk, isiV, List.any_cons, List.any_nil, decide_true, decide_false, beq_self_eq_true, Bool.or_false, b_len_tup, cmpT, len_tup_ne, q]
  | _ =>
    have hz := isiV_other hv' (fun xs e => nomatch e)
    unfold okv at hv'
    simp [bodyI, x_lit, x_var, x_glb, x_tup, x_lst, x_dct, x_bin, x_neg, x_not, x_and, x_or, x_ite, x_cmp, x_chain, x_idx, x_slc, x_rev, x_isi, x_fn, x_mth, x_call, x_callk, x_src, evs, evTs, evO, evIfs, evE, y_asg, y_sub, y_aug, y_exp, y_ifs, y_ret, y_retN, y_pass, y_brk, y_cnt, y_rse, evSs, Res.bind_ok, Res.bind_exc, Res.bind_bad, Res.of_some, Res.of_none, settle_v, settle_t, Res.noX_ok, Res.st_ok, Res.st_exc, Res.st_bad, SR.then_next, SR.then_ret, SR.then_brk, SR.then_cnt, SR.then_exc, SR.then_bad, SR.out, List.getElem?_cons_zero, List.getElem?_cons_succ, List.set_cons_zero, List.set_cons_succ, bindT, bindTs, Option.bind_some, Option.bind_none, Option.map_some, Option.map_none, vOf, if_true, if_false, Bool.false_eq_true, Bool.not_true, Bool.not_false, List.map_cons, List.map_nil, wipeM, Ev.locked, reduceCtorEq, f1, tru, List.length_cons, List.length_nil, Nat.reduceAdd, Nat.zero_add, sz0, sz1, sz2, sz3, sz4, sz5, sz6, sz7, sz8, sz9, sz10, sz11, sz12, sz13, sz14, sz15, sz16, sz17, sz18, sz19, sz20, sz21, sz22, sz23, hv', hz, goodI, isTup]
theorem loop_I (hk : 2 ≤ k) {v : MV} {ys : List MV} : ∀ (xs : List MV) (c : Option MV), (∀ x ∈ xs, okn h 2 x = true) → ∃ c', loopS ⟨none, none, ys⟩ (fun x σ h => (match bindT (.nm 1) x σ with
    | some σ' => evSs S ⟨callM PP k, glbP, L⟩ bodyI σ' h
    | none => .bad)) xs [some v, c, none, none] h = if xs.all goodI then .next [some v, c', none, none] h else .ret (.bl false) h
  | [], c, _ => ⟨c, by simp [loopS, MIt.still]⟩
  | x :: xs, c, hx => by
    obtain ⟨c', e⟩ := loop_I hk (v := v) (ys := ys) xs (some x) fun y hy => hx y (by simp [hy])
    refine ⟨c', ?_⟩
    have b := body_I (S := S) (L := L) hk (v := v) (hx x (by simp))
    rw [loopS, if_pos (show MIt.still ⟨none, none, ys⟩ h = true from rfl)]
    simp only [bindT, List.set_cons_zero, List.set_cons_succ, b]
    cases g : goodI x with
    | true =>
      simp only [if_true, SR.turn_next, List.all_cons, g, Bool.true_and]
      exact e
    | false => simp only [Bool.false_eq_true, if_false, SR.turn_ret, List.all_cons, g, Bool.false_and]
theorem tail_I {v : MV} {c' : Option MV} {m : ME} {ys : List MV} (e2 : evT ⟨callM PP k, glbP, L⟩ m [some v, c', none, none] h = .ok (.t ys) h) :
  (evSs subP ⟨callM PP k, glbP, L⟩ [.ret (.cmp .Eq m (.lst []))] [some v, c', none, none] h).out = .ok (.bl ys.isEmpty) h := by
  simp only [x_lit, x_var, x_glb, x_tup, x_lst, x_dct, x_bin, x_neg, x_not, x_and, x_or, x_ite, x_cmp, x_chain, x_idx, x_slc, x_rev, x_isi, x_fn, x_mth, x_call, x_callk, x_src, evs, evTs, evO, evIfs, evE, y_asg, y_sub, y_aug, y_exp, y_ifs, y_ret, y_retN, y_pass, y_brk, y_cnt, y_rse, evSs, Res.bind_ok, Res.bind_exc, Res.bind_bad, Res.of_some, Res.of_none, settle_v, settle_t, Res.noX_ok, Res.st_ok, Res.st_exc, Res.st_bad, SR.then_next, SR.then_ret, SR.then_brk, SR.then_cnt, SR.then_exc, SR.then_bad, SR.out, List.getElem?_cons_zero, List.getElem?_cons_succ, List.set_cons_zero, List.set_cons_succ, bindT, bindTs, Option.bind_some, Option.bind_none, Option.map_some, Option.map_none, vOf, if_true, if_false, Bool.false_eq_true, Bool.not_true, Bool.not_false, List.map_cons, List.map_nil, wipeM, Ev.locked, reduceCtorEq, f1, tru, List.length_cons, List.length_nil, Nat.reduceAdd, Nat.zero_add, sz0, sz1, sz2, sz3, sz4, sz5, sz6, sz7, sz8, sz9, sz10, sz11, sz12, sz13, sz14, sz15, sz16, sz17, sz18, sz19, sz20, sz21, sz22, sz23, e2, cmpT, eqT_nil]
theorem s_are_inputs (hk : 3 ≤ k) {v : MV} (hv : okn h 3 v = true) : callM PP k L 22 [v] h = .ok (.bl (isInp v)) h := by
  obtain ⟨k, rfl⟩ : ∃ j, k = j + 1 := ⟨k - 1, by omega⟩
  rw [c__law_are_inputs]
  have hv' := okn_v hv
  cases v with
  | tup xs =>
    simp only [okn, Bool.and_eq_true, decide_eq_true_eq, List.all_eq_true] at hv
    obtain ⟨hl, hx⟩ := hv
    obtain ⟨c', e1⟩ := loop_I (S := subP) (L := L) (h := h) (k := k) (by omega) (v := .tup xs) (ys := xs) xs none hx
    have hu : Ev.unlocked ⟨callM PP k, glbP, L⟩ ⟨none, none, xs⟩ = true := rfl
    have all2 : ∀ ys : List MV, ys.all goodI = (ys.all (fun x => isTup 2 x && isThr (fstV x)) && ys.all fun x => isRow (sndV x)) := by
      intro ys
      induction ys with
      | nil => rfl
      | cons y ys ih =>
        simp only [List.all_cons, ih, goodI]
        cases (isTup 2 y && isThr (fstV y)) <;> cases isRow (sndV y) <;> cases ys.all (fun x => isTup 2 x && isThr (fstV x)) <;> cases (ys.all fun x => isRow (sndV x)) <;> rfl
    have ei : isInp (.tup xs) = (xs.all (fun x => isTup 2 x && isThr (fstV x)) && (ascB (xs.map fstV) && xs.all (fun x => isRow (sndV x)))) := rfl
    have hf : evS subP ⟨callM PP k, glbP, L⟩ (.fors (.nm 1) (.e (.var 0)) bodyI) [some (.tup xs), none, none, none] h = if xs.all goodI then .next [some (.tup xs), c', none, none] h else .ret (.bl false) h := by
      rw [← e1, y_fors]
      simp only [x_lit, x_var, x_glb, x_tup, x_lst, x_dct, x_bin, x_neg, x_not, x_and, x_or, x_ite, x_cmp, x_chain, x_idx, x_slc, x_rev, x_isi, x_fn, x_mth, x_call, x_callk, x_src, evs, evTs, evO, evIfs, evE, y_asg, y_sub, y_aug, y_exp, y_ifs, y_ret, y_retN, y_pass, y_brk, y_cnt, y_rse, evSs, Res.bind_ok, Res.bind_exc, Res.bind_bad, Res.of_some, Res.of_none, settle_v, settle_t, Res.noX_ok, Res.st_ok, Res.st_exc, Res.st_bad, SR.then_next, SR.then_ret, SR.then_brk, SR.then_cnt, SR.then_exc, SR.then_bad, SR.out, List.getElem?_cons_zero, List.getElem?_cons_succ, List.set_cons_zero, List.set_cons_succ, bindT, bindTs, Option.bind_some, Option.bind_none, Option.map_some, Option.map_none, vOf, if_true, if_false, Bool.false_eq_true, Bool.not_true, Bool.not_false, List.map_cons, List.map_nil, wipeM, Ev.locked, reduceCtorEq, f1, tru, List.length_cons, List.length_nil, Nat.reduceAdd, Nat.zero_add, sz0, sz1, sz2, sz3, sz4, sz5, sz6, sz7, sz8, sz9, sz10, sz11, sz12, sz13, sz14, sz15, sz16, sz17, sz18, sz19, sz20, sz21, sz22, sz23, itE, itOf, hu]
    have hb : m__law_are_inputs = [.ifs (.not (.isi (.var 0) [.tuple] true)) [.ret (.lit (.bl false))] [], .fors (.nm 1) (.e (.var 0)) bodyI, .ret (.cmp .Eq lcI (.lst []))] := rfl
    rw [hb]
    cases g : xs.all goodI with
    | false =>
      rw [g] at hf
      have g' := g
      rw [all2] at g'
      have ei' : isInp (.tup xs) = false := by
        rw [ei]
        revert g'
        cases xs.all (fun x => isTup 2 x && isThr (fstV x)) <;> cases (xs.all fun x => isRow (sndV x)) <;> cases ascB (xs.map fstV) <;> simp
      simp only [x_lit, x_var, x_glb, x_tup, x_lst, x_dct, x_bin, x_neg, x_not, x_and, x_or, x_ite, x_cmp, x_chain, x_idx, x_slc, x_rev, x_isi, x_fn, x_mth, x_call, x_callk, x_src, evs, evTs, evO, evIfs, evE, y_asg, y_sub, y_aug, y_exp, y_ifs, y_ret, y_retN, y_pass, y_brk, y_cnt, y_rse, evSs, Res.bind_ok, Res.bind_exc, Res.bind_bad, Res.of_some, Res.of_none, settle_v, settle_t, Res.noX_ok, Res.st_ok, Res.st_exc, Res.st_bad, SR.then_next, SR.then_ret, SR.then_brk, SR.then_cnt, SR.then_exc, SR.then_bad, SR.out, List.getElem?_cons_zero, List.getElem?_cons_succ, List.set_cons_zero, List.set_cons_succ, bindT, bindTs, Option.bind_some, Option.bind_none, Option.map_some, Option.map_none, vOf, if_true, if_false, Bool.false_eq_true, Bool.not_true, Bool.not_false, List.map_cons, List.map_nil, wipeM, Ev.locked, reduceCtorEq, f1, tru, List.length_cons, List.length_nil, Nat.reduceAdd, Nat.zero_add, sz0, sz1, sz2, sz3, sz4, sz5, sz6, sz7, sz8, sz9, sz10, sz11, sz12, sz13, sz14, sz15, sz16, sz17, sz18, sz19, sz20, sz21, sz22, sz23, isiOk, isiV, List.any_cons, List.any_nil, decide_true, beq_self_eq_true, Bool.or_false, hf, ei']
    | true =>
      rw [g] at hf
      have g' := g
      rw [all2, Bool.and_eq_true] at g'
      have ei' : isInp (.tup xs) = ascB (xs.map fstV) := by rw [ei, g'.1, g'.2]; simp
      have e2 : evT ⟨callM PP k, glbP, L⟩ lcI [some (.tup xs), c', none, none] h = .ok (.t ((rngI 1 xs.length).filterMap fun x => if ascF (xs.map fstV) x then none else some x)) h := by
        unfold lcI
        rw [ev_lc (it := ⟨none, none, rngI 1 xs.length⟩) (g := fun x => if ascF (xs.map fstV) x then none else some x)]
        · exact ev_rng (by simp only [x_lit, x_var, x_glb, x_tup, x_lst, x_dct, x_bin, x_neg, x_not, x_and, x_or, x_ite, x_cmp, x_chain, x_idx, x_slc, x_rev, x_isi, x_fn, x_mth, x_call, x_callk, x_src, evs, evTs, evO, evIfs, evE, y_asg, y_sub, y_aug, y_exp, y_ifs, y_ret, y_retN, y_pass, y_brk, y_cnt, y_rse, evSs, Res.bind_ok, Res.bind_exc, Res.bind_bad, Res.of_some, Res.of_none, settle_v, settle_t, Res.noX_ok, Res.st_ok, Res.st_exc, Res.st_bad, SR.then_next, SR.then_ret, SR.then_brk, SR.then_cnt, SR.then_exc, SR.then_bad, SR.out, List.getElem?_cons_zero, List.getElem?_cons_succ, List.set_cons_zero, List.set_cons_succ, bindT, bindTs, Option.bind_some, Option.bind_none, Option.map_some, Option.map_none, vOf, if_true, if_false, Bool.false_eq_true, Bool.not_true, Bool.not_false, List.map_cons, List.map_nil, wipeM, Ev.locked, reduceCtorEq, f1, tru, List.length_cons, List.length_nil, Nat.reduceAdd, Nat.zero_add, sz0, sz1, sz2, sz3, sz4, sz5, sz6, sz7, sz8, sz9, sz10, sz11, sz12, sz13, sz14, sz15, sz16, sz17, sz18, sz19, sz20, sz21, sz22, sz23, b_len_tup]) (rngOf2 (a := 1) (b := xs.length) (by omega))
        · rfl
        · intro x hx'
          obtain ⟨j, hj, rfl⟩ := mem_rng hx'
          have j1 : j < xs.length := by omega
          have j2 : j + 1 < xs.length := by omega
          have pr : ∀ i (hi : i < xs.length), ∃ a b, xs[i] = .tup [a, b] ∧ isThr a = true := by
            intro i hi
            have c := (List.all_eq_true.mp g'.1) xs[i] (List.getElem_mem hi)
            generalize xs[i] = y at c ⊢
            cases y with
            | tup ys =>
              simp only [isTup, Bool.and_eq_true, decide_eq_true_eq] at c
              match ys, c with
              | [a, b], c => exact ⟨a, b, rfl, c.2⟩
            | _ => simp [isTup] at c
          obtain ⟨a1, b1, p1, t1⟩ := pr j j1
          obtain ⟨a2, b2, p2, t2⟩ := pr (j + 1) j2
          have i1 : idxT h (.v (.tup xs)) (.int (1 + (j : Int) - 1)) = some (.tup [a1, b1]) := atI_at (by omega) (by rw [show (1 + (j : Int) - 1).toNat = j by omega]; simp [j1, p1])
          have i2 : idxT h (.v (.tup xs)) (.int (1 + (j : Int))) = some (.tup [a2, b2]) := atI_at (by omega) (by rw [show (1 + (j : Int)).toNat = j + 1 by omega]; simp [j2, p2])
          have a0 : ∀ a b, idxT h (.v (.tup [a, b])) (.int 0) = some a := fun _ _ => rfl
          have ef : ascF (xs.map fstV) (.int (1 + (j : Int))) = ltV a1 a2 := by
            simp only [ascF]
            rw [show (1 + (j : Int) - 1).toNat = j by omega, show (1 + (j : Int)).toNat = j + 1 by omega]
            simp [List.getD_eq_getElem?_getD, j1, j2, p1, p2, fstV]
          cases e : ltV a1 a2 <;> simp only [x_lit, x_var, x_glb, x_tup, x_lst, x_dct, x_bin, x_neg, x_not, x_and, x_or, x_ite, x_cmp, x_chain, x_idx, x_slc, x_rev, x_isi, x_fn, x_mth, x_call, x_callk, x_src, evs, evTs, evO, evIfs, evE, y_asg, y_sub, y_aug, y_exp, y_ifs, y_ret, y_retN, y_pass, y_brk, y_cnt, y_rse, evSs, Res.bind_ok, Res.bind_exc, Res.bind_bad, Res.of_some, Res.of_none, settle_v, settle_t, Res.noX_ok, Res.st_ok, Res.st_exc, Res.st_bad, SR.then_next, SR.then_ret, SR.then_brk, SR.then_cnt, SR.then_exc, SR.then_bad, SR.out, List.getElem?_cons_zero, List.getElem?_cons_succ, List.set_cons_zero, List.set_cons_succ, bindT, bindTs, Option.bind_some, Option.bind_none, Option.map_some, Option.map_none, vOf, if_true, if_false, Bool.false_eq_true, Bool.not_true, Bool.not_false, List.map_cons, List.map_nil, wipeM, Ev.locked, reduceCtorEq, f1, tru, List.length_cons, List.length_nil, Nat.reduceAdd, Nat.zero_add, sz0, sz1, sz2, sz3, sz4, sz5, sz6, sz7, sz8, sz9, sz10, sz11, sz12, sz13, sz14, sz15, sz16, sz17, sz18, sz19, sz20, sz21, sz22, sz23, binT, i1, i2, a0, cmpT, ltT_thr t1 t2, ef, e]
      have ey : ((rngI 1 xs.length).filterMap fun x => if ascF (xs.map fstV) x then none else some x).isEmpty = isInp (.tup xs) := by
        rw [ei', empty_all, ascB, List.length_map]
      rw [← ey]
      clear ey ei' ei all2 e1 g g' hx
      generalize ((rngI 1 xs.length).filterMap fun x => if ascF (xs.map fstV) x then none else some x) = ys at e2 ⊢
      generalize lcI = m at e2 ⊢
      rw [seq_next (σ' := [some (.tup xs), none, none, none]) (h' := h), seq_next (hf.trans (if_pos rfl))]
      · exact tail_I e2
      · simp only [x_lit, x_var, x_glb, x_tup, x_lst, x_dct, x_bin, x_neg, x_not, x_and, x_or, x_ite, x_cmp, x_chain, x_idx, x_slc, x_rev, x_isi, x_fn, x_mth, x_call, x_callk, x_src, evs, evTs, evO, evIfs, evE, y_asg, y_sub, y_aug, y_exp, y_ifs, y_ret, y_retN, y_pass, y_brk, y_cnt, y_rse, evSs, Res.bind_ok, Res.bind_exc, Res.bind_bad, Res.of_some, Res.of_none, settle_v, settle_t, Res.noX_ok, Res.st_ok, Res.st_exc, Res.st_bad, SR.then_next, SR.then_ret, SR.then_brk, SR.then_cnt, SR.then_exc, SR.then_bad, SR.out, List.getElem?_cons_zero, List.getElem?_cons_succ, List.set_cons_zero, List.set_cons_succ, bindT, bindTs, Option.bind_some, Option.bind_none, Option.map_some, Option.map_none, vOf, if_true, if_false, Bool.false_eq_true, Bool.not_true, Bool.not_false, List.map_cons, List.map_nil, wipeM, Ev.locked, reduceCtorEq, f1, tru, List.length_cons, List.length_nil, Nat.reduceAdd, Nat.zero_add, sz0, sz1, sz2, sz3, sz4, sz5, sz6, sz7, sz8, sz9, sz10, sz11, sz12, sz13, sz14, sz15, sz16, sz17, sz18, sz19, sz20, sz21, sz22, sz23, isiOk, isiV, List.any_cons, List.any_nil, decide_true, beq_self_eq_true, Bool.or_false]
  | _ =>
    have hz := isiV_other hv' (fun xs e => nomatch e)
    unfold okv at hv'
    simp [m__law_are_inputs, x_lit, x_var, x_glb, x_tup, x_lst, x_dct, x_bin, x_neg, x_not, x_and, x_or, x_ite, x_cmp, x_chain, x_idx, x_slc, x_rev, x_isi, x_fn, x_mth, x_call, x_callk, x_src, evs, evTs, evO, evIfs, evE, y_asg, y_sub, y_aug, y_exp, y_ifs, y_ret, y_retN, y_pass, y_brk, y_cnt, y_rse, evSs, Res.bind_ok, Res.bind_exc, Res.bind_bad, Res.of_some, Res.of_none, settle_v, settle_t, Res.noX_ok, Res.st_ok, Res.st_exc, Res.st_bad, SR.then_next, SR.then_ret, SR.then_brk, SR.then_cnt, SR.then_exc, SR.then_bad, SR.out, List.getElem?_cons_zero, List.getElem?_cons_succ, List.set_cons_zero, List.set_cons_succ, bindT, bindTs, Option.bind_some, Option.bind_none, Option.map_some, Option.map_none, vOf, if_true, if_false, Bool.false_eq_true, Bool.not_true, Bool.not_false, List.map_cons, List.map_nil, wipeM, Ev.locked, reduceCtorEq, f1, tru, List.length_cons, List.length_nil, Nat.reduceAdd, Nat.zero_add, sz0, sz1, sz2, sz3, sz4, sz5, sz6, sz7, sz8, sz9, sz10, sz11, sz12, sz13, sz14, sz15, sz16, sz17, sz18, sz19, sz20, sz21, sz22, sz23, hv', hz, isInp]
end
end MP.Q

set_option linter.all false
set_option autoImplicit false
set_option maxRecDepth 100000
namespace MP.Q
open PySem PyProof.Rows L2
/-! ### texts of threads, read -/
def digZ (z : Str) : Str := if Txt.startswith z "-" = true then L2.cutS z (some 1) none else z
def inDig (c : MV) : Bool := match c with
  | .str x => !(Builtin.Str.occurrences "0123456789" x 0 ("0123456789" : Str).length 1).isEmpty
  | _ => false
def headZ (z : Str) : Str := match z.cps.toList with
  | c :: _ => ⟨#[c]⟩
  | [] => ""
def badZ (z : Str) : Bool := decide (digZ z = "") || !((chars (digZ z)).all inDig)
def ledZ (z : Str) : Bool := decide (headZ (digZ z) = "0") && !decide (z = "0")
def intV (z : Str) : MV := if badZ z then .non else if ledZ z then .non else match PySem.intText? z with
  | some n => .int n
  | none => .non
def intOk (z : Str) : Bool := decide (z.length ≤ 100) && (decide ((digZ z).length ≤ 100) && (badZ z || (!(digZ z).cps.toList.isEmpty && (ledZ z || (PySem.intText? z).isSome))))
section
variable {k : Nat} {L : List Nat} {h : MH} {S : SubT} {E : Ev}
theorem le_line {n : Nat} (e : n ≤ 1000) : n ≤ sizeLine := Nat.le_trans e (by decide)
theorem slc_str {z : Str} (hz : z.length ≤ 100) {lo hi : Option Int} : slcT h (.v (.str z)) lo hi = some (.v (.str (L2.cutS z lo hi))) := by
  rw [slcT, if_pos (le_line (by omega))]
theorem len_str {z : Str} (hz : z.length ≤ 100) : fnT h .len [.v (.str z)] = some (.v (.int z.length)) := by
  have : lenT h (.v (.str z)) = some z.length := by rw [lenT, if_pos (le_line (by omega))]
  rw [show fnT h .len [.v (.str z)] = (lenT h (.v (.str z))).map fun (n : Nat) => .v (.int n) from rfl, this]; rfl
theorem it_str {z : Str} (hz : z.length ≤ 100) : itOf h (.v (.str z)) = some ⟨none, none, chars z⟩ := by
  rw [itOf, if_pos (le_line (by omega))]
theorem m_starts {a b : Str} : mthT h .startswith (.str a) [.v (.str b)] = some (.v (.bl (Txt.startswith a b)), h) := rfl
theorem ev_src {m : ME} {σ : MS} {h' : MH} {x : TV} {it : MIt} (e1 : evT E m σ h = .ok x h') (e2 : itOf h' x = some it) (e3 : it.lock = none) : evI E (.e m) σ h = .ok it h' := by
  rw [x_src, e1, Res.bind_ok, itE, e2, Option.bind_some, e3, Res.of_some]
theorem dig_lc {z : Str} (hz : z.length ≤ 100) {a : Option MV} : evT ⟨callM PP k, glbP, L⟩ (.lc (.cmp .In (.var 2) (.glb 0)) (.nm 2) (.e (.var 1)) [] [("sign", 2)]) [a, some (.str z), none] h = .ok (.t ((chars z).map fun x => .bl (inDig x))) h := by
  rw [ev_lc (it := ⟨none, none, chars z⟩) (g := fun x => some (.bl (inDig x))), filt_some]
  · exact ev_src (by simp only [x_lit, x_var, x_glb, x_tup, x_lst, x_dct, x_bin, x_neg, x_not, x_and, x_or, x_ite, x_cmp, x_chain, x_idx, x_slc, x_rev, x_isi, x_fn, x_mth, x_call, x_callk, x_src, evs, evTs, evO, evIfs, evE, y_asg, y_sub, y_aug, y_exp, y_ifs, y_ret, y_retN, y_pass, y_brk, y_cnt, y_rse, evSs, Res.bind_ok, Res.bind_exc, Res.bind_bad, Res.of_some, Res.of_none, settle_v, settle_t, Res.noX_ok, Res.st_ok, Res.st_exc, Res.st_bad, SR.then_next, SR.then_ret, SR.then_brk, SR.then_cnt, SR.then_exc, SR.then_bad, SR.out, List.getElem?_cons_zero, List.getElem?_cons_succ, List.set_cons_zero, List.set_cons_succ, bindT, bindTs, Option.bind_some, Option.bind_none, Option.map_some, Option.map_none, vOf, if_true, if_false, Bool.false_eq_true, Bool.not_true, Bool.not_false, List.map_cons, List.map_nil, wipeM, Ev.locked, reduceCtorEq, f1, tru, List.length_cons, List.length_nil, Nat.reduceAdd, Nat.zero_add, sz0, sz1, sz2, sz3, sz4, sz5, sz6, sz7, sz8, sz9, sz10, sz11, sz12, sz13, sz14, sz15, sz16, sz17, sz18, sz19, sz20, sz21, sz22, sz23]) (it_str hz) rfl
  · rfl
  · intro x hx
    simp only [chars, List.mem_map] at hx
    obtain ⟨c, -, rfl⟩ := hx
    simp only [x_lit, x_var, x_glb, x_tup, x_lst, x_dct, x_bin, x_neg, x_not, x_and, x_or, x_ite, x_cmp, x_chain, x_idx, x_slc, x_rev, x_isi, x_fn, x_mth, x_call, x_callk, x_src, evs, evTs, evO, evIfs, evE, y_asg, y_sub, y_aug, y_exp, y_ifs, y_ret, y_retN, y_pass, y_brk, y_cnt, y_rse, evSs, Res.bind_ok, Res.bind_exc, Res.bind_bad, Res.of_some, Res.of_none, settle_v, settle_t, Res.noX_ok, Res.st_ok, Res.st_exc, Res.st_bad, SR.then_next, SR.then_ret, SR.then_brk, SR.then_cnt, SR.then_exc, SR.then_bad, SR.out, List.getElem?_cons_zero, List.getElem?_cons_succ, List.set_cons_zero, List.set_cons_succ, bindT, bindTs, Option.bind_some, Option.bind_none, Option.map_some, Option.map_none, vOf, if_true, if_false, Bool.false_eq_true, Bool.not_true, Bool.not_false, List.map_cons, List.map_nil, wipeM, Ev.locked, reduceCtorEq, f1, tru, List.length_cons, List.length_nil, Nat.reduceAdd, Nat.zero_add, sz0, sz1, sz2, sz3, sz4, sz5, sz6, sz7, sz8, sz9, sz10, sz11, sz12, sz13, sz14, sz15, sz16, sz17, sz18, sz19, sz20, sz21, sz22, sz23, g0, cmpT, inTV, inT, inDig]
theorem idx0_str {z : Str} (hz : z.length ≤ 100) (hn : z.cps.toList.isEmpty = false) : idxT h (.v (.str z)) (.int 0) = some (.str (headZ z)) := by
  rw [idxT, if_pos (le_line (by omega)), headZ]
  cases e : z.cps.toList with
  | nil => rw [e] at hn; cases hn
  | cons c r =>
    have : L2.atI (c :: r) 0 = some c := atI_nat (c :: r) 0
    rw [this]; rfl
theorem int_str {z : Str} {n : Int} (hz : z.length ≤ 100) (e : PySem.intText? z = some n) : fnT h .int [.v (.str z)] = some (.v (.int n)) := by
  rw [show fnT h .int [.v (.str z)] = intT (.v (.str z)) from rfl, intT, if_pos (by omega), e]; rfl
theorem s_integer_in (hk : 1 ≤ k) {z : Str} (ok : intOk z = true) : callM PP k L 5 [.str z] h = .ok (intV z) h := by
  obtain ⟨k, rfl⟩ : ∃ j, k = j + 1 := ⟨k - 1, by omega⟩
  rw [c_integer_in]
  simp only [intOk, Bool.and_eq_true, decide_eq_true_eq] at ok
  obtain ⟨hz, hd, ok⟩ := ok
  have hm : mOk h .startswith (.str z) = true := rfl
  have s1 : evS subP ⟨callM PP k, glbP, L⟩ (.asg (.nm 1) (.ite (.mth .startswith (.var 0) [(.lit (.str "-"))]) (.slc (.var 0) (some (.lit (.int 1))) none) (.var 0))) [some (.str z), none, none] h = .next [some (.str z), some (.str (digZ z)), none] h := by
    unfold digZ
    cases e : Txt.startswith z "-" <;> simp only [x_lit, x_var, x_glb, x_tup, x_lst, x_dct, x_bin, x_neg, x_not, x_and, x_or, x_ite, x_cmp, x_chain, x_idx, x_slc, x_rev, x_isi, x_fn, x_mth, x_call, x_callk, x_src, evs, evTs, evO, evIfs, evE, y_asg, y_sub, y_aug, y_exp, y_ifs, y_ret, y_retN, y_pass, y_brk, y_cnt, y_rse, evSs, Res.bind_ok, Res.bind_exc, Res.bind_bad, Res.of_some, Res.of_none, settle_v, settle_t, Res.noX_ok, Res.st_ok, Res.st_exc, Res.st_bad, SR.then_next, SR.then_ret, SR.then_brk, SR.then_cnt, SR.then_exc, SR.then_bad, SR.out, List.getElem?_cons_zero, List.getElem?_cons_succ, List.set_cons_zero, List.set_cons_succ, bindT, bindTs, Option.bind_some, Option.bind_none, Option.map_some, Option.map_none, vOf, if_true, if_false, Bool.false_eq_true, Bool.not_true, Bool.not_false, List.map_cons, List.map_nil, wipeM, Ev.locked, reduceCtorEq, f1, tru, List.length_cons, List.length_nil, Nat.reduceAdd, Nat.zero_add, sz0, sz1, sz2, sz3, sz4, sz5, sz6, sz7, sz8, sz9, sz10, sz11, sz12, sz13, sz14, sz15, sz16, sz17, sz18, sz19, sz20, sz21, sz22, sz23, hm, m_starts, e, slc_str hz]
  have z20 : ∀ d : Str, d.length ≤ 100 → decide ((2000 : Int) < d.length) = false := fun d hd => decide_eq_false (by omega)
  have lc := dig_lc (k := k) (L := L) (h := h) hd (a := some (.str z))
  have s2 : evS subP ⟨callM PP k, glbP, L⟩ (.ifs (.or (.cmp .Eq (.var 1) (.lit (.str ""))) (.or (.cmp .Gt (.fn .len [(.var 1)]) (.lit (.int 2000))) (.not (.fn .all [(.lc (.cmp .In (.var 2) (.glb 0)) (.nm 2) (.e (.var 1)) [] [("sign", 2)])])))) [.ret (.lit .non)] []) [some (.str z), some (.str (digZ z)), none] h = if badZ z then .ret .non h else .next [some (.str z), some (.str (digZ z)), none] h := by
    unfold badZ
    generalize digZ z = d at *
    have zz := z20 d hd
    generalize (ME.lc (.cmp .In (.var 2) (.glb 0)) (.nm 2) (.e (.var 1)) [] [("sign", 2)]) = m at lc ⊢
    by_cases e : d = ""
    · simp only [x_lit, x_var, x_glb, x_tup, x_lst, x_dct, x_bin, x_neg, x_not, x_and, x_or, x_ite, x_cmp, x_chain, x_idx, x_slc, x_rev, x_isi, x_fn, x_mth, x_call, x_callk, x_src, evs, evTs, evO, evIfs, evE, y_asg, y_sub, y_aug, y_exp, y_ifs, y_ret, y_retN, y_pass, y_brk, y_cnt, y_rse, evSs, Res.bind_ok, Res.bind_exc, Res.bind_bad, Res.of_some, Res.of_none, settle_v, settle_t, Res.noX_ok, Res.st_ok, Res.st_exc, Res.st_bad, SR.then_next, SR.then_ret, SR.then_brk, SR.then_cnt, SR.then_exc, SR.then_bad, SR.out, List.getElem?_cons_zero, List.getElem?_cons_succ, List.set_cons_zero, List.set_cons_succ, bindT, bindTs, Option.bind_some, Option.bind_none, Option.map_some, Option.map_none, vOf, if_true, if_false, Bool.false_eq_true, Bool.not_true, Bool.not_false, List.map_cons, List.map_nil, wipeM, Ev.locked, reduceCtorEq, f1, tru, List.length_cons, List.length_nil, Nat.reduceAdd, Nat.zero_add, sz0, sz1, sz2, sz3, sz4, sz5, sz6, sz7, sz8, sz9, sz10, sz11, sz12, sz13, sz14, sz15, sz16, sz17, sz18, sz19, sz20, sz21, sz22, sz23, cmpT, eqT_str, e, decide_true, Bool.true_or]
    · cases e2 : (chars d).all inDig <;> simp only [x_lit, x_var, x_glb, x_tup, x_lst, x_dct, x_bin, x_neg, x_not, x_and, x_or, x_ite, x_cmp, x_chain, x_idx, x_slc, x_rev, x_isi, x_fn, x_mth, x_call, x_callk, x_src, evs, evTs, evO, evIfs, evE, y_asg, y_sub, y_aug, y_exp, y_ifs, y_ret, y_retN, y_pass, y_brk, y_cnt, y_rse, evSs, Res.bind_ok, Res.bind_exc, Res.bind_bad, Res.of_some, Res.of_none, settle_v, settle_t, Res.noX_ok, Res.st_ok, Res.st_exc, Res.st_bad, SR.then_next, SR.then_ret, SR.then_brk, SR.then_cnt, SR.then_exc, SR.then_bad, SR.out, List.getElem?_cons_zero, List.getElem?_cons_succ, List.set_cons_zero, List.set_cons_succ, bindT, bindTs, Option.bind_some, Option.bind_none, Option.map_some, Option.map_none, vOf, if_true, if_false, Bool.false_eq_true, Bool.not_true, Bool.not_false, List.map_cons, List.map_nil, wipeM, Ev.locked, reduceCtorEq, f1, tru, List.length_cons, List.length_nil, Nat.reduceAdd, Nat.zero_add, sz0, sz1, sz2, sz3, sz4, sz5, sz6, sz7, sz8, sz9, sz10, sz11, sz12, sz13, sz14, sz15, sz16, sz17, sz18, sz19, sz20, sz21, sz22, sz23, cmpT, eqT_str, e, decide_false, Bool.false_or, len_str hd, icmp, zz, lc, b_all, e2]
  rw [show m_integer_in = [_, _, _, _] from rfl, seq_next s1]
  unfold intV
  cases b : badZ z with
  | true => rw [b, if_pos rfl] at s2; rw [seq_ret s2]; rfl
  | false =>
    rw [b, if_neg (by simp)] at s2
    rw [seq_next s2, if_neg (by simp)]
    rw [b, Bool.false_or, Bool.and_eq_true, Bool.not_eq_true', Bool.or_eq_true] at ok
    have i0 := idx0_str (h := h) hd ok.1
    have s3 : evS subP ⟨callM PP k, glbP, L⟩ (.ifs (.and (.cmp .Eq (.idx (.var 1) (.lit (.int 0))) (.lit (.str "0"))) (.cmp .NotEq (.var 0) (.lit (.str "0")))) [.ret (.lit .non)] []) [some (.str z), some (.str (digZ z)), none] h = if ledZ z then .ret .non h else .next [some (.str z), some (.str (digZ z)), none] h := by
      unfold ledZ
      generalize digZ z = d at *
      by_cases e : headZ d = "0"
      · by_cases e' : z = "0"
        · subst e'; simp only [x_lit, x_var, x_glb, x_tup, x_lst, x_dct, x_bin, x_neg, x_not, x_and, x_or, x_ite, x_cmp, x_chain, x_idx, x_slc, x_rev, x_isi, x_fn, x_mth, x_call, x_callk, x_src, evs, evTs, evO, evIfs, evE, y_asg, y_sub, y_aug, y_exp, y_ifs, y_ret, y_retN, y_pass, y_brk, y_cnt, y_rse, evSs, Res.bind_ok, Res.bind_exc, Res.bind_bad, Res.of_some, Res.of_none, settle_v, settle_t, Res.noX_ok, Res.st_ok, Res.st_exc, Res.st_bad, SR.then_next, SR.then_ret, SR.then_brk, SR.then_cnt, SR.then_exc, SR.then_bad, SR.out, List.getElem?_cons_zero, List.getElem?_cons_succ, List.set_cons_zero, List.set_cons_succ, bindT, bindTs, Option.bind_some, Option.bind_none, Option.map_some, Option.map_none, vOf, if_true, if_false, Bool.false_eq_true, Bool.not_true, Bool.not_false, List.map_cons, List.map_nil, wipeM, Ev.locked, reduceCtorEq, f1, tru, List.length_cons, List.length_nil, Nat.reduceAdd, Nat.zero_add, sz0, sz1, sz2, sz3, sz4, sz5, sz6, sz7, sz8, sz9, sz10, sz11, sz12, sz13, sz14, sz15, sz16, sz17, sz18, sz19, sz20, sz21, sz22, sz23, i0, cmpT, eqT_str, e, decide_true, Bool.true_and]
        · simp only [x_lit, x_var, x_glb, x_tup, x_lst, x_dct, x_bin, x_neg, x_not, x_and, x_or, x_ite, x_cmp, x_chain, x_idx, x_slc, x_rev, x_isi, x_fn, x_mth, x_call, x_callk, x_src, evs, evTs, evO, evIfs, evE, y_asg, y_sub, y_aug, y_exp, y_ifs, y_ret, y_retN, y_pass, y_brk, y_cnt, y_rse, evSs, Res.bind_ok, Res.bind_exc, Res.bind_bad, Res.of_some, Res.of_none, settle_v, settle_t, Res.noX_ok, Res.st_ok, Res.st_exc, Res.st_bad, SR.then_next, SR.then_ret, SR.then_brk, SR.then_cnt, SR.then_exc, SR.then_bad, SR.out, List.getElem?_cons_zero, List.getElem?_cons_succ, List.set_cons_zero, List.set_cons_succ, bindT, bindTs, Option.bind_some, Option.bind_none, Option.map_some, Option.map_none, vOf, if_true, if_false, Bool.false_eq_true, Bool.not_true, Bool.not_false, List.map_cons, List.map_nil, wipeM, Ev.locked, reduceCtorEq, f1, tru, List.length_cons, List.length_nil, Nat.reduceAdd, Nat.zero_add, sz0, sz1, sz2, sz3, sz4, sz5, sz6, sz7, sz8, sz9, sz10, sz11, sz12, sz13, sz14, sz15, sz16, sz17, sz18, sz19, sz20, sz21, sz22, sz23, i0, cmpT, eqT_str, e, e', decide_true, decide_false, Bool.true_and]
      · simp only [x_lit, x_var, x_glb, x_tup, x_lst, x_dct, x_bin, x_neg, x_not, x_and, x_or, x_ite, x_cmp, x_chain, x_idx, x_slc, x_rev, x_isi, x_fn, x_mth, x_call, x_callk, x_src, evs, evTs, evO, evIfs, evE, y_asg, y_sub, y_aug, y_exp, y_ifs, y_ret, y_retN, y_pass, y_brk, y_cnt, y_rse, evSs, Res.bind_ok, Res.bind_exc, Res.bind_bad, Res.of_some, Res.of_none, settle_v, settle_t, Res.noX_ok, Res.st_ok, Res.st_exc, Res.st_bad, SR.then_next, SR.then_ret, SR.then_brk, SR.then_cnt, SR.then_exc, SR.then_bad, SR.out, List.getElem?_cons_zero, List.getElem?_cons_succ, List.set_cons_zero, List.set_cons_succ, bindT, bindTs, Option.bind_some, Option.bind_none, Option.map_some, Option.map_none, vOf, if_true, if_false, Bool.false_eq_true, Bool.not_true, Bool.not_false, List.map_cons, List.map_nil, wipeM, Ev.locked, reduceCtorEq, f1, tru, List.length_cons, List.length_nil, Nat.reduceAdd, Nat.zero_add, sz0, sz1, sz2, sz3, sz4, sz5, sz6, sz7, sz8, sz9, sz10, sz11, sz12, sz13, sz14, sz15, sz16, sz17, sz18, sz19, sz20, sz21, sz22, sz23, i0, cmpT, eqT_str, e, decide_false, Bool.false_and]
    cases b3 : ledZ z with
    | true => rw [b3, if_pos rfl] at s3; rw [seq_ret s3]; rfl
    | false =>
      rw [b3, if_neg (by simp)] at s3
      rw [seq_next s3, if_neg (by simp)]
      rw [b3] at ok
      obtain ⟨n, en⟩ := Option.isSome_iff_exists.mp (ok.2.resolve_left (by simp))
      simp only [x_lit, x_var, x_glb, x_tup, x_lst, x_dct, x_bin, x_neg, x_not, x_and, x_or, x_ite, x_cmp, x_chain, x_idx, x_slc, x_rev, x_isi, x_fn, x_mth, x_call, x_callk, x_src, evs, evTs, evO, evIfs, evE, y_asg, y_sub, y_aug, y_exp, y_ifs, y_ret, y_retN, y_pass, y_brk, y_cnt, y_rse, evSs, Res.bind_ok, Res.bind_exc, Res.bind_bad, Res.of_some, Res.of_none, settle_v, settle_t, Res.noX_ok, Res.st_ok, Res.st_exc, Res.st_bad, SR.then_next, SR.then_ret, SR.then_brk, SR.then_cnt, SR.then_exc, SR.then_bad, SR.out, List.getElem?_cons_zero, List.getElem?_cons_succ, List.set_cons_zero, List.set_cons_succ, bindT, bindTs, Option.bind_some, Option.bind_none, Option.map_some, Option.map_none, vOf, if_true, if_false, Bool.false_eq_true, Bool.not_true, Bool.not_false, List.map_cons, List.map_nil, wipeM, Ev.locked, reduceCtorEq, f1, tru, List.length_cons, List.length_nil, Nat.reduceAdd, Nat.zero_add, sz0, sz1, sz2, sz3, sz4, sz5, sz6, sz7, sz8, sz9, sz10, sz11, sz12, sz13, sz14, sz15, sz16, sz17, sz18, sz19, sz20, sz21, sz22, sz23, int_str hz en, en]
end
end MP.Q

set_option linter.all false
set_option autoImplicit false
set_option maxRecDepth 100000
namespace MP.Q
open PySem PyProof.Rows L2
def partsZ (z : Str) : List MV := (Txt.split z ".").map intV
def hasNon (xs : List MV) : Bool := xs.any fun x => decide (x = .non)
def thrV (z : Str) : MV := if z = "main" then .tup [] else if hasNon (partsZ z) then .non else if isThr (.tup (partsZ z)) then .tup (partsZ z) else .non
def tOk (z : Str) : Bool := decide (z.length ≤ 100) && (decide (z = "main") || ((Txt.split z ".").all intOk && (decide (inL .non (partsZ z) = some (hasNon (partsZ z))) && (partsZ z).all (fun x => isInt x || decide (x = .non)))))
section
variable {k : Nat} {L : List Nat} {h : MH} {S : SubT} {E : Ev}
theorem m_split {a b : Str} (h1 : (b.length == 0) = false) (h2 : a.length ≤ 100) : mthT h .split (.str a) [.v (.str b)] = some (.t ((Txt.split a b).map .str), h) := by
  have e : mthT h .split (.str a) [.v (.str b)] = splitT h (.str a) [.v (.str b)] := rfl
  rw [e, splitT, show argV [TV.v (.str b)] = some (.str b) from rfl, Option.bind_some, show strM (.str a) = some a from rfl, Option.bind_some, show strM (.str b) = some b from rfl, Option.bind_some, if_pos ⟨h1, le_line (by omega)⟩]
theorem s_thread_in (hk : 5 ≤ k) {z : Str} (ok : tOk z = true) : callM PP k L 12 [.str z] h = .ok (thrV z) h := by
  obtain ⟨k, rfl⟩ : ∃ j, k = j + 1 := ⟨k - 1, by omega⟩
  rw [c_thread_in, show m_thread_in = [_, _, _] from rfl]
  simp only [tOk, Bool.and_eq_true, Bool.or_eq_true, decide_eq_true_eq] at ok
  obtain ⟨hz, ok⟩ := ok
  unfold thrV
  by_cases e : z = "main"
  · rw [seq_ret (v := .tup []) (h' := h), if_pos e]
    · rfl
    · simp only [x_lit, x_var, x_glb, x_tup, x_lst, x_dct, x_bin, x_neg, x_not, x_and, x_or, x_ite, x_cmp, x_chain, x_idx, x_slc, x_rev, x_isi, x_fn, x_mth, x_call, x_callk, x_src, evs, evTs, evO, evIfs, evE, y_asg, y_sub, y_aug, y_exp, y_ifs, y_ret, y_retN, y_pass, y_brk, y_cnt, y_rse, evSs, Res.bind_ok, Res.bind_exc, Res.bind_bad, Res.of_some, Res.of_none, settle_v, settle_t, Res.noX_ok, Res.st_ok, Res.st_exc, Res.st_bad, SR.then_next, SR.then_ret, SR.then_brk, SR.then_cnt, SR.then_exc, SR.then_bad, SR.out, List.getElem?_cons_zero, List.getElem?_cons_succ, List.set_cons_zero, List.set_cons_succ, bindT, bindTs, Option.bind_some, Option.bind_none, Option.map_some, Option.map_none, vOf, if_true, if_false, Bool.false_eq_true, Bool.not_true, Bool.not_false, List.map_cons, List.map_nil, wipeM, Ev.locked, reduceCtorEq, f1, tru, List.length_cons, List.length_nil, Nat.reduceAdd, Nat.zero_add, sz0, sz1, sz2, sz3, sz4, sz5, sz6, sz7, sz8, sz9, sz10, sz11, sz12, sz13, sz14, sz15, sz16, sz17, sz18, sz19, sz20, sz21, sz22, sz23, cmpT, eqT_str, e, decide_true]
  · rw [if_neg e]
    obtain ⟨o1, o2, o3⟩ := ok.resolve_left e
    have lc : evT ⟨callM PP k, glbP, L⟩ (.lc (.call 5 [(.var 2)]) (.nm 2) (.e (.mth .split (.var 0) [(.lit (.str "."))])) [] [("part", 2)]) [some (.str z), none, none] h = .ok (.t (partsZ z)) h := by
      rw [ev_lc (it := ⟨none, none, (Txt.split z ".").map .str⟩) (g := fun x => match x with | .str y => some (intV y) | _ => none)]
      · rw [List.filterMap_map, partsZ, ← filt_some]; rfl
      · exact ev_src (x := .t ((Txt.split z ".").map .str)) (by
          have hm : mOk h .split (.str z) = true := rfl
          have := m_split (h := h) (a := z) (b := ".") (by decide) hz
          simp only [x_lit, x_var, x_glb, x_tup, x_lst, x_dct, x_bin, x_neg, x_not, x_and, x_or, x_ite, x_cmp, x_chain, x_idx, x_slc, x_rev, x_isi, x_fn, x_mth, x_call, x_callk, x_src, evs, evTs, evO, evIfs, evE, y_asg, y_sub, y_aug, y_exp, y_ifs, y_ret, y_retN, y_pass, y_brk, y_cnt, y_rse, evSs, Res.bind_ok, Res.bind_exc, Res.bind_bad, Res.of_some, Res.of_none, settle_v, settle_t, Res.noX_ok, Res.st_ok, Res.st_exc, Res.st_bad, SR.then_next, SR.then_ret, SR.then_brk, SR.then_cnt, SR.then_exc, SR.then_bad, SR.out, List.getElem?_cons_zero, List.getElem?_cons_succ, List.set_cons_zero, List.set_cons_succ, bindT, bindTs, Option.bind_some, Option.bind_none, Option.map_some, Option.map_none, vOf, if_true, if_false, Bool.false_eq_true, Bool.not_true, Bool.not_false, List.map_cons, List.map_nil, wipeM, Ev.locked, reduceCtorEq, f1, tru, List.length_cons, List.length_nil, Nat.reduceAdd, Nat.zero_add, sz0, sz1, sz2, sz3, sz4, sz5, sz6, sz7, sz8, sz9, sz10, sz11, sz12, sz13, sz14, sz15, sz16, sz17, sz18, sz19, sz20, sz21, sz22, sz23, hm, this]) rfl rfl
      · rfl
      · intro x hx
        obtain ⟨y, m, rfl⟩ := List.mem_map.mp hx
        have := s_integer_in (k := k) (L := L) (h := h) (by omega) ((List.all_eq_true.mp o1) y m)
        simp only [x_lit, x_var, x_glb, x_tup, x_lst, x_dct, x_bin, x_neg, x_not, x_and, x_or, x_ite, x_cmp, x_chain, x_idx, x_slc, x_rev, x_isi, x_fn, x_mth, x_call, x_callk, x_src, evs, evTs, evO, evIfs, evE, y_asg, y_sub, y_aug, y_exp, y_ifs, y_ret, y_retN, y_pass, y_brk, y_cnt, y_rse, evSs, Res.bind_ok, Res.bind_exc, Res.bind_bad, Res.of_some, Res.of_none, settle_v, settle_t, Res.noX_ok, Res.st_ok, Res.st_exc, Res.st_bad, SR.then_next, SR.then_ret, SR.then_brk, SR.then_cnt, SR.then_exc, SR.then_bad, SR.out, List.getElem?_cons_zero, List.getElem?_cons_succ, List.set_cons_zero, List.set_cons_succ, bindT, bindTs, Option.bind_some, Option.bind_none, Option.map_some, Option.map_none, vOf, if_true, if_false, Bool.false_eq_true, Bool.not_true, Bool.not_false, List.map_cons, List.map_nil, wipeM, Ev.locked, reduceCtorEq, f1, tru, List.length_cons, List.length_nil, Nat.reduceAdd, Nat.zero_add, sz0, sz1, sz2, sz3, sz4, sz5, sz6, sz7, sz8, sz9, sz10, sz11, sz12, sz13, sz14, sz15, sz16, sz17, sz18, sz19, sz20, sz21, sz22, sz23, this]
    have s2 : evS subP ⟨callM PP k, glbP, L⟩ (.asg (.nm 1) (.fn .tuple [(.lc (.call 5 [(.var 2)]) (.nm 2) (.e (.mth .split (.var 0) [(.lit (.str "."))])) [] [("part", 2)])])) [some (.str z), none, none] h = .next [some (.str z), some (.tup (partsZ z)), none] h := by
      generalize (ME.lc (.call 5 [(.var 2)]) (.nm 2) (.e (.mth .split (.var 0) [(.lit (.str "."))])) [] [("part", 2)]) = m at lc ⊢
      have tt : ∀ xs : List MV, fnT h .tuple [.t xs] = some (.v (.tup xs)) := fun _ => rfl
      simp only [x_lit, x_var, x_glb, x_tup, x_lst, x_dct, x_bin, x_neg, x_not, x_and, x_or, x_ite, x_cmp, x_chain, x_idx, x_slc, x_rev, x_isi, x_fn, x_mth, x_call, x_callk, x_src, evs, evTs, evO, evIfs, evE, y_asg, y_sub, y_aug, y_exp, y_ifs, y_ret, y_retN, y_pass, y_brk, y_cnt, y_rse, evSs, Res.bind_ok, Res.bind_exc, Res.bind_bad, Res.of_some, Res.of_none, settle_v, settle_t, Res.noX_ok, Res.st_ok, Res.st_exc, Res.st_bad, SR.then_next, SR.then_ret, SR.then_brk, SR.then_cnt, SR.then_exc, SR.then_bad, SR.out, List.getElem?_cons_zero, List.getElem?_cons_succ, List.set_cons_zero, List.set_cons_succ, bindT, bindTs, Option.bind_some, Option.bind_none, Option.map_some, Option.map_none, vOf, if_true, if_false, Bool.false_eq_true, Bool.not_true, Bool.not_false, List.map_cons, List.map_nil, wipeM, Ev.locked, reduceCtorEq, f1, tru, List.length_cons, List.length_nil, Nat.reduceAdd, Nat.zero_add, sz0, sz1, sz2, sz3, sz4, sz5, sz6, sz7, sz8, sz9, sz10, sz11, sz12, sz13, sz14, sz15, sz16, sz17, sz18, sz19, sz20, sz21, sz22, sz23, lc, tt]
    rw [seq_next (σ' := [some (.str z), none, none]) (h' := h), seq_next s2]
    · have od : okd h (.tup (partsZ z)) = true := by
        simp only [okd, List.all_eq_true]
        intro x hx
        have := (List.all_eq_true.mp o3) x hx
        cases x <;> first | rfl | (simp [isInt] at this)
      have st := s_is_thread (k := k) (L := L) (h := h) (by omega) od
      generalize partsZ z = xs at *
      have o2' : inTV h (.v .non) (.v (.tup xs)) = some (hasNon xs) := o2
      cases a : hasNon xs <;> cases b : isThr (.tup xs) <;> simp only [x_lit, x_var, x_glb, x_tup, x_lst, x_dct, x_bin, x_neg, x_not, x_and, x_or, x_ite, x_cmp, x_chain, x_idx, x_slc, x_rev, x_isi, x_fn, x_mth, x_call, x_callk, x_src, evs, evTs, evO, evIfs, evE, y_asg, y_sub, y_aug, y_exp, y_ifs, y_ret, y_retN, y_pass, y_brk, y_cnt, y_rse, evSs, Res.bind_ok, Res.bind_exc, Res.bind_bad, Res.of_some, Res.of_none, settle_v, settle_t, Res.noX_ok, Res.st_ok, Res.st_exc, Res.st_bad, SR.then_next, SR.then_ret, SR.then_brk, SR.then_cnt, SR.then_exc, SR.then_bad, SR.out, List.getElem?_cons_zero, List.getElem?_cons_succ, List.set_cons_zero, List.set_cons_succ, bindT, bindTs, Option.bind_some, Option.bind_none, Option.map_some, Option.map_none, vOf, if_true, if_false, Bool.false_eq_true, Bool.not_true, Bool.not_false, List.map_cons, List.map_nil, wipeM, Ev.locked, reduceCtorEq, f1, tru, List.length_cons, List.length_nil, Nat.reduceAdd, Nat.zero_add, sz0, sz1, sz2, sz3, sz4, sz5, sz6, sz7, sz8, sz9, sz10, sz11, sz12, sz13, sz14, sz15, sz16, sz17, sz18, sz19, sz20, sz21, sz22, sz23, cmpT, o2', a, st, b]
    · simp only [x_lit, x_var, x_glb, x_tup, x_lst, x_dct, x_bin, x_neg, x_not, x_and, x_or, x_ite, x_cmp, x_chain, x_idx, x_slc, x_rev, x_isi, x_fn, x_mth, x_call, x_callk, x_src, evs, evTs, evO, evIfs, evE, y_asg, y_sub, y_aug, y_exp, y_ifs, y_ret, y_retN, y_pass, y_brk, y_cnt, y_rse, evSs, Res.bind_ok, Res.bind_exc, Res.bind_bad, Res.of_some, Res.of_none, settle_v, settle_t, Res.noX_ok, Res.st_ok, Res.st_exc, Res.st_bad, SR.then_next, SR.then_ret, SR.then_brk, SR.then_cnt, SR.then_exc, SR.then_bad, SR.out, List.getElem?_cons_zero, List.getElem?_cons_succ, List.set_cons_zero, List.set_cons_succ, bindT, bindTs, Option.bind_some, Option.bind_none, Option.map_some, Option.map_none, vOf, if_true, if_false, Bool.false_eq_true, Bool.not_true, Bool.not_false, List.map_cons, List.map_nil, wipeM, Ev.locked, reduceCtorEq, f1, tru, List.length_cons, List.length_nil, Nat.reduceAdd, Nat.zero_add, sz0, sz1, sz2, sz3, sz4, sz5, sz6, sz7, sz8, sz9, sz10, sz11, sz12, sz13, sz14, sz15, sz16, sz17, sz18, sz19, sz20, sz21, sz22, sz23, cmpT, eqT_str, e, decide_false]
/-- what read_thread reads, None where it reads nothing -/
def rdP : MV → MV
  | .str z => thrV z
  | _ => .non
theorem thrV_cases (z : Str) : thrV z = .non ∨ ∃ xs, thrV z = .tup xs ∧ isThr (.tup xs) = true := by
  unfold thrV
  split
  · exact .inr ⟨_, rfl, rfl⟩
  · split
    · exact .inl rfl
    · split
      · rename_i q; exact .inr ⟨_, rfl, q⟩
      · exact .inl rfl
theorem isStr_other {v : MV} (hv : okv h v = true) (ht : ∀ xs, v ≠ .str xs) : isiV h (.v v) .str = false := by
  cases v with
  | str xs => exact absurd rfl (ht xs)
  | ref p =>
    simp only [okv, isiOk] at hv
    split at hv <;> simp_all [isiV]
  | _ => simp [isiV]
theorem s_read_thread (hk : 6 ≤ k) {v : MV} (hv : okv h v = true) (ok : ∀ z, v = .str z → tOk z = true) : callM PP k L 13 [v] h = if rdP v = .non then .exc 1 [v] h else .ok (rdP v) h := by
  obtain ⟨k, rfl⟩ : ∃ j, k = j + 1 := ⟨k - 1, by omega⟩
  rw [c_read_thread, show m_read_thread = [_, _, _] from rfl]
  have s1 : evS subP ⟨callM PP k, glbP, L⟩ (.asg (.nm 1) (.ite (.isi (.var 0) [.str] true) (.call 12 [(.var 0)]) (.lit .non))) [some v, none] h = .next [some v, some (rdP v)] h := by
    cases v with
    | str z =>
      have st := s_thread_in (k := k) (L := L) (h := h) (by omega) (ok z rfl)
      simp only [x_lit, x_var, x_glb, x_tup, x_lst, x_dct, x_bin, x_neg, x_not, x_and, x_or, x_ite, x_cmp, x_chain, x_idx, x_slc, x_rev, x_isi, x_fn, x_mth, x_call, x_callk, x_src, evs, evTs, evO, evIfs, evE, y_asg, y_sub, y_aug, y_exp, y_ifs, y_ret, y_retN, y_pass, y_brk, y_cnt, y_rse, evSs, Res.bind_ok, Res.bind_exc, Res.bind_bad, Res.of_some, Res.of_none, settle_v, settle_t, Res.noX_ok, Res.st_ok, Res.st_exc, Res.st_bad, SR.then_next, SR.then_ret, SR.then_brk, SR.then_cnt, SR.then_exc, SR.then_bad, SR.out, List.getElem?_cons_zero, List.getElem?_cons_succ, List.set_cons_zero, List.set_cons_succ, bindT, bindTs, Option.bind_some, Option.bind_none, Option.map_some, Option.map_none, vOf, if_true, if_false, Bool.false_eq_true, Bool.not_true, Bool.not_false, List.map_cons, List.map_nil, wipeM, Ev.locked, reduceCtorEq, f1, tru, List.length_cons, List.length_nil, Nat.reduceAdd, Nat.zero_add, sz0, sz1, sz2, sz3, sz4, sz5, sz6, sz7, sz8, sz9, sz10, sz11, sz12, sz13, sz14, sz15, sz16, sz17, sz18, sz19, sz20, sz21, sz22, sz23, isiOk, isiV, List.any_cons, List.any_nil, beq_self_eq_true, Bool.or_false, st, rdP]
    | _ =>
      have hz := isStr_other hv (fun xs e => nomatch e)
      unfold okv at hv
      simp only [x_lit, x_var, x_glb, x_tup, x_lst, x_dct, x_bin, x_neg, x_not, x_and, x_or, x_ite, x_cmp, x_chain, x_idx, x_slc, x_rev, x_isi, x_fn, x_mth, x_call, x_callk, x_src, evs, evTs, evO, evIfs, evE, y_asg, y_sub, y_aug, y_exp, y_ifs, y_ret, y_retN, y_pass, y_brk, y_cnt, y_rse, evSs, Res.bind_ok, Res.bind_exc, Res.bind_bad, Res.of_some, Res.of_none, settle_v, settle_t, Res.noX_ok, Res.st_ok, Res.st_exc, Res.st_bad, SR.then_next, SR.then_ret, SR.then_brk, SR.then_cnt, SR.then_exc, SR.then_bad, SR.out, List.getElem?_cons_zero, List.getElem?_cons_succ, List.set_cons_zero, List.set_cons_succ, bindT, bindTs, Option.bind_some, Option.bind_none, Option.map_some, Option.map_none, vOf, if_true, if_false, Bool.false_eq_true, Bool.not_true, Bool.not_false, List.map_cons, List.map_nil, wipeM, Ev.locked, reduceCtorEq, f1, tru, List.length_cons, List.length_nil, Nat.reduceAdd, Nat.zero_add, sz0, sz1, sz2, sz3, sz4, sz5, sz6, sz7, sz8, sz9, sz10, sz11, sz12, sz13, sz14, sz15, sz16, sz17, sz18, sz19, sz20, sz21, sz22, sz23, hv, hz, List.any_cons, List.any_nil, Bool.or_false, rdP]
  rw [seq_next s1]
  have cs : rdP v = .non ∨ ∃ xs, rdP v = .tup xs := by
    cases v with
    | str z => rcases thrV_cases z with q | ⟨xs, q, -⟩
               · exact .inl q
               · exact .inr ⟨xs, q⟩
    | _ => exact .inl rfl
  clear s1
  generalize rdP v = r at cs
  rcases cs with rfl | ⟨xs, rfl⟩
  · rw [if_pos rfl, seq_exc (c := 1) (vs := [v]) (σ' := [some v, some .non]) (h' := h)]
    · rfl
    · simp only [x_lit, x_var, x_glb, x_tup, x_lst, x_dct, x_bin, x_neg, x_not, x_and, x_or, x_ite, x_cmp, x_chain, x_idx, x_slc, x_rev, x_isi, x_fn, x_mth, x_call, x_callk, x_src, evs, evTs, evO, evIfs, evE, y_asg, y_sub, y_aug, y_exp, y_ifs, y_ret, y_retN, y_pass, y_brk, y_cnt, y_rse, evSs, Res.bind_ok, Res.bind_exc, Res.bind_bad, Res.of_some, Res.of_none, settle_v, settle_t, Res.noX_ok, Res.st_ok, Res.st_exc, Res.st_bad, SR.then_next, SR.then_ret, SR.then_brk, SR.then_cnt, SR.then_exc, SR.then_bad, SR.out, List.getElem?_cons_zero, List.getElem?_cons_succ, List.set_cons_zero, List.set_cons_succ, bindT, bindTs, Option.bind_some, Option.bind_none, Option.map_some, Option.map_none, vOf, if_true, if_false, Bool.false_eq_true, Bool.not_true, Bool.not_false, List.map_cons, List.map_nil, wipeM, Ev.locked, reduceCtorEq, f1, tru, List.length_cons, List.length_nil, Nat.reduceAdd, Nat.zero_add, sz0, sz1, sz2, sz3, sz4, sz5, sz6, sz7, sz8, sz9, sz10, sz11, sz12, sz13, sz14, sz15, sz16, sz17, sz18, sz19, sz20, sz21, sz22, sz23, cmpT, isT]
  · rw [if_neg (by simp), seq_next (σ' := [some v, some (.tup xs)]) (h' := h)]
    · simp only [x_lit, x_var, x_glb, x_tup, x_lst, x_dct, x_bin, x_neg, x_not, x_and, x_or, x_ite, x_cmp, x_chain, x_idx, x_slc, x_rev, x_isi, x_fn, x_mth, x_call, x_callk, x_src, evs, evTs, evO, evIfs, evE, y_asg, y_sub, y_aug, y_exp, y_ifs, y_ret, y_retN, y_pass, y_brk, y_cnt, y_rse, evSs, Res.bind_ok, Res.bind_exc, Res.bind_bad, Res.of_some, Res.of_none, settle_v, settle_t, Res.noX_ok, Res.st_ok, Res.st_exc, Res.st_bad, SR.then_next, SR.then_ret, SR.then_brk, SR.then_cnt, SR.then_exc, SR.then_bad, SR.out, List.getElem?_cons_zero, List.getElem?_cons_succ, List.set_cons_zero, List.set_cons_succ, bindT, bindTs, Option.bind_some, Option.bind_none, Option.map_some, Option.map_none, vOf, if_true, if_false, Bool.false_eq_true, Bool.not_true, Bool.not_false, List.map_cons, List.map_nil, wipeM, Ev.locked, reduceCtorEq, f1, tru, List.length_cons, List.length_nil, Nat.reduceAdd, Nat.zero_add, sz0, sz1, sz2, sz3, sz4, sz5, sz6, sz7, sz8, sz9, sz10, sz11, sz12, sz13, sz14, sz15, sz16, sz17, sz18, sz19, sz20, sz21, sz22, sz23]
    · simp only [x_lit, x_var, x_glb, x_tup, x_lst, x_dct, x_bin, x_neg, x_not, x_and, x_or, x_ite, x_cmp, x_chain, x_idx, x_slc, x_rev, x_isi, x_fn, x_mth, x_call, x_callk, x_src, evs, evTs, evO, evIfs, evE, y_asg, y_sub, y_aug, y_exp, y_ifs, y_ret, y_retN, y_pass, y_brk, y_cnt, y_rse, evSs, Res.bind_ok, Res.bind_exc, Res.bind_bad, Res.of_some, Res.of_none, settle_v, settle_t, Res.noX_ok, Res.st_ok, Res.st_exc, Res.st_bad, SR.then_next, SR.then_ret, SR.then_brk, SR.then_cnt, SR.then_exc, SR.then_bad, SR.out, List.getElem?_cons_zero, List.getElem?_cons_succ, List.set_cons_zero, List.set_cons_succ, bindT, bindTs, Option.bind_some, Option.bind_none, Option.map_some, Option.map_none, vOf, if_true, if_false, Bool.false_eq_true, Bool.not_true, Bool.not_false, List.map_cons, List.map_nil, wipeM, Ev.locked, reduceCtorEq, f1, tru, List.length_cons, List.length_nil, Nat.reduceAdd, Nat.zero_add, sz0, sz1, sz2, sz3, sz4, sz5, sz6, sz7, sz8, sz9, sz10, sz11, sz12, sz13, sz14, sz15, sz16, sz17, sz18, sz19, sz20, sz21, sz22, sz23, cmpT, isT]
end
end MP.Q

set_option linter.all false
set_option autoImplicit false
set_option maxRecDepth 100000
namespace MP.Q
open PySem PyProof.Rows L2
/-- h' keeps all that h holds -/
def Pre (h h' : MH) : Prop := ∀ (i : Nat) (o : MO), h[i]? = some o → h'[i]? = some o
theorem Pre.refl (h : MH) : Pre h h := fun _ _ e => e
theorem Pre.trans {a b c : MH} (x : Pre a b) (y : Pre b c) : Pre a c := fun i o e => y i o (x i o e)
theorem Pre.app (h t : MH) : Pre h (h ++ t) := fun i o e => by
  rw [List.getElem?_append_left (List.getElem?_eq_some_iff.mp e).1]; exact e
theorem Pre.len {h h' : MH} (x : Pre h h') : h.length ≤ h'.length := by
  rcases Nat.lt_or_ge h'.length h.length with q | q
  · have e : h[h'.length]? = some h[h'.length] := List.getElem?_eq_getElem q
    have := x _ _ e
    rw [List.getElem?_eq_none (Nat.le_refl _)] at this
    cases this
  · exact q
theorem okv_pre {h h' : MH} (x : Pre h h') {v : MV} (e : okv h v = true) : okv h' v = true := by
  cases v with
  | ref p =>
    simp only [okv, isiOk] at e ⊢
    cases q : h[p]? with
    | none => rw [q] at e; cases e
    | some o => rw [x _ _ q]; rw [q] at e; exact e
  | _ => rfl
theorem okn_pre {h h' : MH} (x : Pre h h') : ∀ {n : Nat} {v : MV}, okn h n v = true → okn h' n v = true
  | 0, v, e => okv_pre x e
  | n + 1, v, e => by
    cases v with
    | tup xs =>
      simp only [okn, Bool.and_eq_true, List.all_eq_true] at e ⊢
      exact ⟨e.1, fun y hy => okn_pre x (e.2 y hy)⟩
    | _ => exact okv_pre x e
/-- what the law reads -/
def rdS (z : Str) : MV := (thr40.filter fun t => decide (dotsV t = z)).headD .non
def rdL : MV → MV
  | .str z => rdS z
  | _ => .non
def extV (n : Int) : MV → List MV
  | .tup xs => if (xs.length : Int) = n + 1 then [.tup (xs ++ [.int 0]), .tup (xs ++ [.int 1]), .tup (xs ++ [.int 2])] else []
  | _ => []
def thrA : List MV := tI [] :: ns3.map (fun a => tI [a])
def thrB : List MV := thrA ++ thrA.tail.flatMap (extV 0)
theorem thrB_eq : thrB ++ thrB.tail.flatMap (extV 1) = thr40 := by decide +kernel
theorem rng3 : rngI 0 3 = [.int 0, .int 1, .int 2] := by decide +kernel
def bodyR : List MSt := [.asg (.nm 4) (.lst []),
 .fors (.nm 5) (.e (.slc (.var 1) (some (.lit (.int 1))) none)) [.exp (.mth .extend (.var 4) [(.lc (.bin .Add (.var 5) (.tup [(.var 6)])) (.nm 6) (.rng [(.lit (.int 3))]) [(.cmp .Eq (.fn .len [(.var 5)]) (.bin .Add (.var 2) (.lit (.int 1))))] [("a", 6)])])],
 .asg (.nm 1) (.bin .Add (.var 1) (.var 4))]
section
variable {k : Nat} {L : List Nat} {h : MH} {S : SubT} {E : Ev}
theorem add_tup {xs ys : List MV} (hl : xs.length + ys.length ≤ 1000) : binT h .Add (.v (.tup xs)) (.v (.tup ys)) = some (.v (.tup (xs ++ ys))) := by
  rw [show binT h .Add (.v (.tup xs)) (.v (.tup ys)) = addT h (.v (.tup xs)) (.v (.tup ys)) from rfl, addT, if_pos (le_line hl)]
theorem add_lst {a b : TV} {xs ys : List MV} (na : ∀ x, a ≠ .v (.tup x)) (ha : lstOf h a = some xs) (hb : lstOf h b = some ys) (hl : xs.length + ys.length ≤ 1000) : binT h .Add a b = some (.t (xs ++ ys)) := by
  have e : binT h .Add a b = (lstOf h a).bind fun xs => (lstOf h b).bind fun ys => if xs.length + ys.length ≤ sizeLine then some (.t (xs ++ ys)) else none := by
    cases a with
    | v a => cases a with
      | ref p => rfl
      | _ => simp [lstOf] at ha
    | _ => rfl
  rw [e, ha, hb, Option.bind_some, Option.bind_some, if_pos (le_line hl)]
theorem lst_ref {p : Nat} {xs : List MV} (hp : h[p]? = some (.lst xs)) : lstOf h (.v (.ref p)) = some xs := by simp [lstOf, hp]
theorem lsto_ref {p : Nat} {xs : List MV} (hp : h[p]? = some (.lst xs)) : listOf h (.v (.ref p)) = some xs := by simp [listOf, hp]
theorem ext_lc {z1 z2 z3 z4 z7 : Option MV} {n : Int} {x : MV} (hx : ∃ xs, x = .tup xs ∧ xs.length ≤ 3) : evT E (.lc (.bin .Add (.var 5) (.tup [(.var 6)])) (.nm 6) (.rng [(.lit (.int 3))]) [(.cmp .Eq (.fn .len [(.var 5)]) (.bin .Add (.var 2) (.lit (.int 1))))] [("a", 6)]) [z1, z2, some (.int n), z3, z4, some x, z7] h = .ok (.t (extV n x)) h := by
  obtain ⟨xs, rfl, hl⟩ := hx
  rw [ev_lc (it := ⟨none, none, rngI 0 3⟩) (g := fun a => if (xs.length : Int) = n + 1 then some (.tup (xs ++ [a])) else none)]
  · dsimp only
    rw [rng3, extV]
    by_cases q : (xs.length : Int) = n + 1
    · simp only [q, if_true, List.filterMap_cons, List.filterMap_nil]
    · simp only [q, if_false, List.filterMap_cons, List.filterMap_nil]
  · exact ev_rng (by simp only [x_lit, x_var, x_glb, x_tup, x_lst, x_dct, x_bin, x_neg, x_not, x_and, x_or, x_ite, x_cmp, x_chain, x_idx, x_slc, x_rev, x_isi, x_fn, x_mth, x_call, x_callk, x_src, evs, evTs, evO, evIfs, evE, y_asg, y_sub, y_aug, y_exp, y_ifs, y_ret, y_retN, y_pass, y_brk, y_cnt, y_rse, evSs, Res.bind_ok, Res.bind_exc, Res.bind_bad, Res.of_some, Res.of_none, settle_v, settle_t, Res.noX_ok, Res.st_ok, Res.st_exc, Res.st_bad, SR.then_next, SR.then_ret, SR.then_brk, SR.then_cnt, SR.then_exc, SR.then_bad, SR.out, List.getElem?_cons_zero, List.getElem?_cons_succ, List.set_cons_zero, List.set_cons_succ, bindT, bindTs, Option.bind_some, Option.bind_none, Option.map_some, Option.map_none, vOf, if_true, if_false, Bool.false_eq_true, Bool.not_true, Bool.not_false, List.map_cons, List.map_nil, wipeM, Ev.locked, reduceCtorEq, f1, tru, List.length_cons, List.length_nil, Nat.reduceAdd, Nat.zero_add, sz0, sz1, sz2, sz3, sz4, sz5, sz6, sz7, sz8, sz9, sz10, sz11, sz12, sz13, sz14, sz15, sz16, sz17, sz18, sz19, sz20, sz21, sz22, sz23]) (rngOf1 (b := 3) (by omega))
  · rfl
  · intro a ha
    have := add_tup (h := h) (xs := xs) (ys := [a]) (by simp; omega)
    have i1 : ∀ i j : Int, binT h .Add (.v (.int i)) (.v (.int j)) = some (.v (.int (i + j))) := fun _ _ => rfl
    by_cases q : (xs.length : Int) = n + 1
    · simp only [x_lit, x_var, x_glb, x_tup, x_lst, x_dct, x_bin, x_neg, x_not, x_and, x_or, x_ite, x_cmp, x_chain, x_idx, x_slc, x_rev, x_isi, x_fn, x_mth, x_call, x_callk, x_src, evs, evTs, evO, evIfs, evE, y_asg, y_sub, y_aug, y_exp, y_ifs, y_ret, y_retN, y_pass, y_brk, y_cnt, y_rse, evSs, Res.bind_ok, Res.bind_exc, Res.bind_bad, Res.of_some, Res.of_none, settle_v, settle_t, Res.noX_ok, Res.st_ok, Res.st_exc, Res.st_bad, SR.then_next, SR.then_ret, SR.then_brk, SR.then_cnt, SR.then_exc, SR.then_bad, SR.out, List.getElem?_cons_zero, List.getElem?_cons_succ, List.set_cons_zero, List.set_cons_succ, bindT, bindTs, Option.bind_some, Option.bind_none, Option.map_some, Option.map_none, vOf, if_true, if_false, Bool.false_eq_true, Bool.not_true, Bool.not_false, List.map_cons, List.map_nil, wipeM, Ev.locked, reduceCtorEq, f1, tru, List.length_cons, List.length_nil, Nat.reduceAdd, Nat.zero_add, sz0, sz1, sz2, sz3, sz4, sz5, sz6, sz7, sz8, sz9, sz10, sz11, sz12, sz13, sz14, sz15, sz16, sz17, sz18, sz19, sz20, sz21, sz22, sz23, b_len_tup, i1, cmpT, eqT_int, q, decide_true, this]
    · simp only [x_lit, x_var, x_glb, x_tup, x_lst, x_dct, x_bin, x_neg, x_not, x_and, x_or, x_ite, x_cmp, x_chain, x_idx, x_slc, x_rev, x_isi, x_fn, x_mth, x_call, x_callk, x_src, evs, evTs, evO, evIfs, evE, y_asg, y_sub, y_aug, y_exp, y_ifs, y_ret, y_retN, y_pass, y_brk, y_cnt, y_rse, evSs, Res.bind_ok, Res.bind_exc, Res.bind_bad, Res.of_some, Res.of_none, settle_v, settle_t, Res.noX_ok, Res.st_ok, Res.st_exc, Res.st_bad, SR.then_next, SR.then_ret, SR.then_brk, SR.then_cnt, SR.then_exc, SR.then_bad, SR.out, List.getElem?_cons_zero, List.getElem?_cons_succ, List.set_cons_zero, List.set_cons_succ, bindT, bindTs, Option.bind_some, Option.bind_none, Option.map_some, Option.map_none, vOf, if_true, if_false, Bool.false_eq_true, Bool.not_true, Bool.not_false, List.map_cons, List.map_nil, wipeM, Ev.locked, reduceCtorEq, f1, tru, List.length_cons, List.length_nil, Nat.reduceAdd, Nat.zero_add, sz0, sz1, sz2, sz3, sz4, sz5, sz6, sz7, sz8, sz9, sz10, sz11, sz12, sz13, sz14, sz15, sz16, sz17, sz18, sz19, sz20, sz21, sz22, sz23, b_len_tup, i1, cmpT, eqT_int, q, decide_false]
theorem m_extend_t {q : Nat} {acc ys : List MV} (hq : h[q]? = some (.lst acc)) (hl : acc.length + ys.length ≤ 1000) : mthT h .extend (.ref q) [.t ys] = some (.v .non, h.set q (.lst (acc ++ ys))) := by
  have e : mthT h .extend (.ref q) [.t ys] = extendT h (.ref q) [.t ys] := rfl
  rw [e, extendT, show arg1 [TV.t ys] = some (.t ys) from rfl, Option.bind_some, show lstOf h (.t ys) = some ys from rfl, Option.bind_some]
  simp only [atL, hq]
  rw [if_pos (le_line hl)]
theorem ext_len (n : Int) (x : MV) : (extV n x).length ≤ 3 := by
  cases x <;> simp only [extV]
  any_goals simp
  split <;> simp
/-- the inner loop -/
theorem loop_R {q : Nat} {n : Int} {z0 z1 z3 z6 : Option MV} {ys : List MV} : ∀ (xs : List MV) (c : Option MV) (acc : List MV) (h : MH), (∀ x ∈ xs, ∃ ts, x = .tup ts ∧ ts.length ≤ 3) → h[q]? = some (.lst acc) → acc.length + 3 * xs.length ≤ 1000 →
    ∃ c', loopS ⟨none, none, ys⟩ (fun x σ h => (match bindT (.nm 5) x σ with
      | some σ' => evSs S E [.exp (.mth .extend (.var 4) [(.lc (.bin .Add (.var 5) (.tup [(.var 6)])) (.nm 6) (.rng [(.lit (.int 3))]) [(.cmp .Eq (.fn .len [(.var 5)]) (.bin .Add (.var 2) (.lit (.int 1))))] [("a", 6)])])] σ' h
      | none => .bad)) xs [z0, z1, some (.int n), z3, some (.ref q), c, z6] h = .next [z0, z1, some (.int n), z3, some (.ref q), c', z6] (h.set q (.lst (acc ++ xs.flatMap (extV n))))
  | [], c, acc, h, _, hq, _ => ⟨c, by
    have : h.set q (.lst acc) = h := by
      apply List.ext_getElem?
      intro i
      rw [List.getElem?_set]
      split
      · rename_i e; subst e
        rw [if_pos (List.getElem?_eq_some_iff.mp hq).1, hq]
      · rfl
    rw [loopS, if_pos (show MIt.still ⟨none, none, ys⟩ h = true from rfl), List.flatMap_nil, List.append_nil, this]⟩
  | x :: xs, c, acc, h, hx, hq, hl => by
    have le := ext_len n x
    rw [List.length_cons] at hl
    have me := m_extend_t (ys := extV n x) hq (by omega)
    have hlt := (List.getElem?_eq_some_iff.mp hq).1
    obtain ⟨c', e⟩ := loop_R (q := q) (n := n) (z0 := z0) (z1 := z1) (z3 := z3) (z6 := z6) (ys := ys) xs (some x) (acc ++ extV n x) (h.set q (.lst (acc ++ extV n x))) (fun y hy => hx y (by simp [hy])) (by simp [hlt]) (by rw [List.length_append]; omega)
    refine ⟨c', ?_⟩
    rw [loopS, if_pos (show MIt.still ⟨none, none, ys⟩ h = true from rfl)]
    have lc := ext_lc (E := E) (h := h) (z1 := z0) (z2 := z1) (z3 := z3) (z4 := some (.ref q)) (z7 := z6) (n := n) (hx x (by simp))
    have hm : mOk h .extend (.ref q) = true := by simp [mOk, mOk.isL, lst_ref hq]
    have step : (match bindT (.nm 5) x [z0, z1, some (.int n), z3, some (.ref q), c, z6] with
      | some σ' => evSs S E [.exp (.mth .extend (.var 4) [(.lc (.bin .Add (.var 5) (.tup [(.var 6)])) (.nm 6) (.rng [(.lit (.int 3))]) [(.cmp .Eq (.fn .len [(.var 5)]) (.bin .Add (.var 2) (.lit (.int 1))))] [("a", 6)])])] σ' h
      | none => .bad) = .next [z0, z1, some (.int n), z3, some (.ref q), some x, z6] (h.set q (.lst (acc ++ extV n x))) := by
      generalize (ME.lc (.bin .Add (.var 5) (.tup [(.var 6)])) (.nm 6) (.rng [(.lit (.int 3))]) [(.cmp .Eq (.fn .len [(.var 5)]) (.bin .Add (.var 2) (.lit (.int 1))))] [("a", 6)]) = m at lc ⊢
      simp only [x_lit, x_var, x_glb, x_tup, x_lst, x_dct, x_bin, x_neg, x_not, x_and, x_or, x_ite, x_cmp, x_chain, x_idx, x_slc, x_rev, x_isi, x_fn, x_mth, x_call, x_callk, x_src, evs, evTs, evO, evIfs, evE, y_asg, y_sub, y_aug, y_exp, y_ifs, y_ret, y_retN, y_pass, y_brk, y_cnt, y_rse, evSs, Res.bind_ok, Res.bind_exc, Res.bind_bad, Res.of_some, Res.of_none, settle_v, settle_t, Res.noX_ok, Res.st_ok, Res.st_exc, Res.st_bad, SR.then_next, SR.then_ret, SR.then_brk, SR.then_cnt, SR.then_exc, SR.then_bad, SR.out, List.getElem?_cons_zero, List.getElem?_cons_succ, List.set_cons_zero, List.set_cons_succ, bindT, bindTs, Option.bind_some, Option.bind_none, Option.map_some, Option.map_none, vOf, if_true, if_false, Bool.false_eq_true, Bool.not_true, Bool.not_false, List.map_cons, List.map_nil, wipeM, Ev.locked, reduceCtorEq, f1, tru, List.length_cons, List.length_nil, Nat.reduceAdd, Nat.zero_add, sz0, sz1, sz2, sz3, sz4, sz5, sz6, sz7, sz8, sz9, sz10, sz11, sz12, sz13, sz14, sz15, sz16, sz17, sz18, sz19, sz20, sz21, sz22, sz23, hm, lc, me]
    rw [step, SR.turn_next, e]
    rw [List.set_set, List.flatMap_cons, List.append_assoc]
end
end MP.Q

set_option linter.all false
set_option autoImplicit false
set_option maxRecDepth 100000
namespace MP.Q
open PySem PyProof.Rows L2
section
variable {k : Nat} {L : List Nat} {h : MH} {S : SubT} {E : Ev}
theorem pre_at {h : MH} (t : MO) : (h ++ [t])[h.length]? = some t := by simp
theorem pre_set {h h' : MH} (x : Pre h h') {q : Nat} (hq : h.length ≤ q) (o : MO) : Pre h (h'.set q o) := by
  intro i o' e
  have := (List.getElem?_eq_some_iff.mp e).1
  rw [List.getElem?_set_ne (by omega)]
  exact x i o' e
theorem cut1 {xs : List MV} : cutL xs (some 1) none = xs.tail := by
  unfold cutL
  have e1 : HT.sIx xs.length 0 (some 1) = min 1 xs.length := HT.sIx_nat _ _ 1
  rw [e1, HT.sIx_none]
  cases xs with
  | nil => rfl
  | cons x xs =>
    have : min 1 (x :: xs).length = 1 := by simp
    rw [this]; simp
theorem loopS_cons {t : MIt} {f : MV → MS → MH → SR} {x : MV} {xs : List MV} {σ σ' : MS} {h' : MH} (hs : t.still h = true) (e : f x σ h = .next σ' h') : loopS t f (x :: xs) σ h = loopS t f xs σ' h' := by
  rw [loopS, if_pos hs, e, SR.turn_next]
theorem loopS_nil {t : MIt} {f : MV → MS → MH → SR} {σ : MS} (hs : t.still h = true) : loopS t f [] σ h = .next σ h := by
  rw [loopS, if_pos hs]
theorem fors_ev {tg : MT} {src : MI} {body : List MSt} {σ : MS} {h' : MH} {it : MIt} {r : SR} (e1 : evI E src σ h = .ok it h') (e2 : it.lock = none) (e3 : loopS it (fun x σ h => (match bindT tg x σ with
    | some σ' => evSs S E body σ' h
    | none => .bad)) it.items σ h' = r) : evS S E (.fors tg src body) σ h = r := by
  have hu : E.unlocked it = true := by unfold Ev.unlocked; rw [e2]
  rw [y_fors, e1, Res.st_ok, if_pos hu]; exact e3
theorem turn_R {A : List MV} {n : Int} {p : Nat} {z0 z3 z4 z5 z6 : Option MV} (hp : h[p]? = some (.lst A)) (hA : ∀ x ∈ A, ∃ ts, x = .tup ts ∧ ts.length ≤ 3) (hl : A.length ≤ 50) :
    ∃ c' h' p' q', evSs S E bodyR [z0, some (.ref p), some (.int n), z3, z4, z5, z6] h = .next [z0, some (.ref p'), some (.int n), z3, some (.ref q'), c', z6] h' ∧ Pre h h' ∧ h'[p']? = some (.lst (A ++ A.tail.flatMap (extV n))) := by
  have h1 : evS S E (.asg (.nm 4) (.lst [])) [z0, some (.ref p), some (.int n), z3, z4, z5, z6] h = .next [z0, some (.ref p), some (.int n), z3, some (.ref h.length), z5, z6] (h ++ [.lst []]) := by
    simp only [x_lit, x_var, x_glb, x_tup, x_lst, x_dct, x_bin, x_neg, x_not, x_and, x_or, x_ite, x_cmp, x_chain, x_idx, x_slc, x_rev, x_isi, x_fn, x_mth, x_call, x_callk, x_src, evs, evTs, evO, evIfs, evE, y_asg, y_sub, y_aug, y_exp, y_ifs, y_ret, y_retN, y_pass, y_brk, y_cnt, y_rse, evSs, Res.bind_ok, Res.bind_exc, Res.bind_bad, Res.of_some, Res.of_none, settle_v, settle_t, Res.noX_ok, Res.st_ok, Res.st_exc, Res.st_bad, SR.then_next, SR.then_ret, SR.then_brk, SR.then_cnt, SR.then_exc, SR.then_bad, SR.out, List.getElem?_cons_zero, List.getElem?_cons_succ, List.set_cons_zero, List.set_cons_succ, bindT, bindTs, Option.bind_some, Option.bind_none, Option.map_some, Option.map_none, vOf, if_true, if_false, Bool.false_eq_true, Bool.not_true, Bool.not_false, List.map_cons, List.map_nil, wipeM, Ev.locked, reduceCtorEq, f1, tru, List.length_cons, List.length_nil, Nat.reduceAdd, Nat.zero_add, sz0, sz1, sz2, sz3, sz4, sz5, sz6, sz7, sz8, sz9, sz10, sz11, sz12, sz13, sz14, sz15, sz16, sz17, sz18, sz19, sz20, sz21, sz22, sz23]
  have hp1 : (h ++ [MO.lst []])[p]? = some (.lst A) := Pre.app _ _ _ _ hp
  obtain ⟨c', e⟩ := loop_R (S := S) (E := E) (q := h.length) (n := n) (z0 := z0) (z1 := some (.ref p)) (z3 := z3) (z6 := z6) (ys := A.tail) A.tail z5 [] (h ++ [.lst []]) (fun x hx => hA x (List.mem_of_mem_tail hx)) (pre_at _) (by simp; omega)
  have h2 : evS S E (.fors (.nm 5) (.e (.slc (.var 1) (some (.lit (.int 1))) none)) [.exp (.mth .extend (.var 4) [(.lc (.bin .Add (.var 5) (.tup [(.var 6)])) (.nm 6) (.rng [(.lit (.int 3))]) [(.cmp .Eq (.fn .len [(.var 5)]) (.bin .Add (.var 2) (.lit (.int 1))))] [("a", 6)])])]) [z0, some (.ref p), some (.int n), z3, some (.ref h.length), z5, z6] (h ++ [.lst []]) = .next [z0, some (.ref p), some (.int n), z3, some (.ref h.length), c', z6] ((h ++ [MO.lst []]).set h.length (.lst ([] ++ A.tail.flatMap (extV n)))) := by
    refine fors_ev (it := ⟨none, none, A.tail⟩) (h' := h ++ [.lst []]) ?_ rfl e
    refine ev_src (x := .t A.tail) ?_ rfl rfl
    have : slcT (h ++ [MO.lst []]) (.v (.ref p)) (some 1) none = some (.t A.tail) := by
      rw [show slcT (h ++ [MO.lst []]) (.v (.ref p)) (some 1) none = (listOf (h ++ [MO.lst []]) (.v (.ref p))).map fun xs => .t (cutL xs (some 1) none) from rfl, lsto_ref hp1, Option.map_some, cut1]
    simp only [x_lit, x_var, x_glb, x_tup, x_lst, x_dct, x_bin, x_neg, x_not, x_and, x_or, x_ite, x_cmp, x_chain, x_idx, x_slc, x_rev, x_isi, x_fn, x_mth, x_call, x_callk, x_src, evs, evTs, evO, evIfs, evE, y_asg, y_sub, y_aug, y_exp, y_ifs, y_ret, y_retN, y_pass, y_brk, y_cnt, y_rse, evSs, Res.bind_ok, Res.bind_exc, Res.bind_bad, Res.of_some, Res.of_none, settle_v, settle_t, Res.noX_ok, Res.st_ok, Res.st_exc, Res.st_bad, SR.then_next, SR.then_ret, SR.then_brk, SR.then_cnt, SR.then_exc, SR.then_bad, SR.out, List.getElem?_cons_zero, List.getElem?_cons_succ, List.set_cons_zero, List.set_cons_succ, bindT, bindTs, Option.bind_some, Option.bind_none, Option.map_some, Option.map_none, vOf, if_true, if_false, Bool.false_eq_true, Bool.not_true, Bool.not_false, List.map_cons, List.map_nil, wipeM, Ev.locked, reduceCtorEq, f1, tru, List.length_cons, List.length_nil, Nat.reduceAdd, Nat.zero_add, sz0, sz1, sz2, sz3, sz4, sz5, sz6, sz7, sz8, sz9, sz10, sz11, sz12, sz13, sz14, sz15, sz16, sz17, sz18, sz19, sz20, sz21, sz22, sz23, this]
  generalize eh : (h ++ [MO.lst []]).set h.length (.lst ([] ++ A.tail.flatMap (extV n))) = h3 at h2
  have p3 : Pre h h3 := by rw [← eh]; exact pre_set (Pre.app _ _) (Nat.le_refl _) _
  have q3 : h3[h.length]? = some (.lst (A.tail.flatMap (extV n))) := by
    rw [← eh, List.getElem?_set_self (by simp)]; rfl
  have l4 : (A.tail.flatMap (extV n)).length ≤ 3 * A.tail.length := by
    generalize A.tail = B
    induction B with
    | nil => simp
    | cons x xs ih =>
      have := ext_len n x
      simp only [List.flatMap_cons, List.length_append, List.length_cons]; omega
  have l5 : A.tail.length ≤ 50 := by rw [List.length_tail]; omega
  have h4 : evS S E (.asg (.nm 1) (.bin .Add (.var 1) (.var 4))) [z0, some (.ref p), some (.int n), z3, some (.ref h.length), c', z6] h3 = .next [z0, some (.ref h3.length), some (.int n), z3, some (.ref h.length), c', z6] (h3 ++ [.lst (A ++ A.tail.flatMap (extV n))]) := by
    have := add_lst (h := h3) (a := .v (.ref p)) (b := .v (.ref h.length)) (fun x e => nomatch e) (lst_ref (p3 _ _ hp)) (lst_ref q3) (by omega)
    simp only [x_lit, x_var, x_glb, x_tup, x_lst, x_dct, x_bin, x_neg, x_not, x_and, x_or, x_ite, x_cmp, x_chain, x_idx, x_slc, x_rev, x_isi, x_fn, x_mth, x_call, x_callk, x_src, evs, evTs, evO, evIfs, evE, y_asg, y_sub, y_aug, y_exp, y_ifs, y_ret, y_retN, y_pass, y_brk, y_cnt, y_rse, evSs, Res.bind_ok, Res.bind_exc, Res.bind_bad, Res.of_some, Res.of_none, settle_v, settle_t, Res.noX_ok, Res.st_ok, Res.st_exc, Res.st_bad, SR.then_next, SR.then_ret, SR.then_brk, SR.then_cnt, SR.then_exc, SR.then_bad, SR.out, List.getElem?_cons_zero, List.getElem?_cons_succ, List.set_cons_zero, List.set_cons_succ, bindT, bindTs, Option.bind_some, Option.bind_none, Option.map_some, Option.map_none, vOf, if_true, if_false, Bool.false_eq_true, Bool.not_true, Bool.not_false, List.map_cons, List.map_nil, wipeM, Ev.locked, reduceCtorEq, f1, tru, List.length_cons, List.length_nil, Nat.reduceAdd, Nat.zero_add, sz0, sz1, sz2, sz3, sz4, sz5, sz6, sz7, sz8, sz9, sz10, sz11, sz12, sz13, sz14, sz15, sz16, sz17, sz18, sz19, sz20, sz21, sz22, sz23, this]
  refine ⟨c', h3 ++ [.lst (A ++ A.tail.flatMap (extV n))], h3.length, h.length, ?_, p3.trans (Pre.app _ _), pre_at _⟩
  rw [bodyR, seq_next h1, seq_next h2, seq_next h4, seq_nil]
theorem eqbs_refl (xs : List MV) : MV.eqbs xs xs = true := (MV.eqbs_iff xs xs).mpr rfl
theorem still_ref {p : Nat} {xs : List MV} (hp : h[p]? = some (.lst xs)) : MIt.still ⟨some p, none, xs⟩ h = true := by
  simp only [MIt.still, hp, eqbs_refl]
theorem it_ref {p : Nat} {xs : List MV} (hp : h[p]? = some (.lst xs)) : itOf h (.v (.ref p)) = some ⟨some p, none, xs⟩ := by
  simp only [itOf, hp]
theorem filt_filter {α : Type} (f : α → Bool) : ∀ xs : List α, (xs.filterMap fun x => if f x then some x else none) = xs.filter f
  | [] => rfl
  | x :: xs => by cases e : f x <;> simp [List.filterMap_cons, e, filt_filter f xs]
theorem s_law_read (hk : 2 ≤ k) {v : MV} (hv : okv h v = true) : ∃ h', callM PP k L 29 [v] h = .ok (rdL v) h' ∧ Pre h h' := by
  obtain ⟨k, rfl⟩ : ∃ j, k = j + 1 := ⟨k - 1, by omega⟩
  rw [c__law_read, show m__law_read = [_, _, .fors (.nm 2) (.rng [(.lit (.int 2))]) bodyR, _, _] from rfl]
  cases v with
  | str z =>
    rw [seq_next (σ' := [some (.str z), none, none, none, none, none, none]) (h' := h) (by simp only [x_lit, x_var, x_glb, x_tup, x_lst, x_dct, x_bin, x_neg, x_not, x_and, x_or, x_ite, x_cmp, x_chain, x_idx, x_slc, x_rev, x_isi, x_fn, x_mth, x_call, x_callk, x_src, evs, evTs, evO, evIfs, evE, y_asg, y_sub, y_aug, y_exp, y_ifs, y_ret, y_retN, y_pass, y_brk, y_cnt, y_rse, evSs, Res.bind_ok, Res.bind_exc, Res.bind_bad, Res.of_some, Res.of_none, settle_v, settle_t, Res.noX_ok, Res.st_ok, Res.st_exc, Res.st_bad, SR.then_next, SR.then_ret, SR.then_brk, SR.then_cnt, SR.then_exc, SR.then_bad, SR.out, List.getElem?_cons_zero, List.getElem?_cons_succ, List.set_cons_zero, List.set_cons_succ, bindT, bindTs, Option.bind_some, Option.bind_none, Option.map_some, Option.map_none, vOf, if_true, if_false, Bool.false_eq_true, Bool.not_true, Bool.not_false, List.map_cons, List.map_nil, wipeM, Ev.locked, reduceCtorEq, f1, tru, List.length_cons, List.length_nil, Nat.reduceAdd, Nat.zero_add, sz0, sz1, sz2, sz3, sz4, sz5, sz6, sz7, sz8, sz9, sz10, sz11, sz12, sz13, sz14, sz15, sz16, sz17, sz18, sz19, sz20, sz21, sz22, sz23, isiOk, isiV, List.any_cons, List.any_nil, beq_self_eq_true, Bool.or_false])]
    have lc1 : evT ⟨callM PP k, glbP, L⟩ (.lc (.tup [(.var 6)]) (.nm 6) (.rng [(.lit (.int 3))]) [] [("a", 6)]) [some (.str z), none, none, none, none, none, none] h = .ok (.t (ns3.map (fun a => tI [a]))) h := by
      rw [ev_lc (it := ⟨none, none, rngI 0 3⟩) (g := fun x => some (.tup [x])), filt_some]
      · dsimp only; rw [rng3]; rfl
      · exact ev_rng (by simp only [x_lit, x_var, x_glb, x_tup, x_lst, x_dct, x_bin, x_neg, x_not, x_and, x_or, x_ite, x_cmp, x_chain, x_idx, x_slc, x_rev, x_isi, x_fn, x_mth, x_call, x_callk, x_src, evs, evTs, evO, evIfs, evE, y_asg, y_sub, y_aug, y_exp, y_ifs, y_ret, y_retN, y_pass, y_brk, y_cnt, y_rse, evSs, Res.bind_ok, Res.bind_exc, Res.bind_bad, Res.of_some, Res.of_none, settle_v, settle_t, Res.noX_ok, Res.st_ok, Res.st_exc, Res.st_bad, SR.then_next, SR.then_ret, SR.then_brk, SR.then_cnt, SR.then_exc, SR.then_bad, SR.out, List.getElem?_cons_zero, List.getElem?_cons_succ, List.set_cons_zero, List.set_cons_succ, bindT, bindTs, Option.bind_some, Option.bind_none, Option.map_some, Option.map_none, vOf, if_true, if_false, Bool.false_eq_true, Bool.not_true, Bool.not_false, List.map_cons, List.map_nil, wipeM, Ev.locked, reduceCtorEq, f1, tru, List.length_cons, List.length_nil, Nat.reduceAdd, Nat.zero_add, sz0, sz1, sz2, sz3, sz4, sz5, sz6, sz7, sz8, sz9, sz10, sz11, sz12, sz13, sz14, sz15, sz16, sz17, sz18, sz19, sz20, sz21, sz22, sz23]) (rngOf1 (b := 3) (by omega))
      · rfl
      · intro x hx
        simp only [x_lit, x_var, x_glb, x_tup, x_lst, x_dct, x_bin, x_neg, x_not, x_and, x_or, x_ite, x_cmp, x_chain, x_idx, x_slc, x_rev, x_isi, x_fn, x_mth, x_call, x_callk, x_src, evs, evTs, evO, evIfs, evE, y_asg, y_sub, y_aug, y_exp, y_ifs, y_ret, y_retN, y_pass, y_brk, y_cnt, y_rse, evSs, Res.bind_ok, Res.bind_exc, Res.bind_bad, Res.of_some, Res.of_none, settle_v, settle_t, Res.noX_ok, Res.st_ok, Res.st_exc, Res.st_bad, SR.then_next, SR.then_ret, SR.then_brk, SR.then_cnt, SR.then_exc, SR.then_bad, SR.out, List.getElem?_cons_zero, List.getElem?_cons_succ, List.set_cons_zero, List.set_cons_succ, bindT, bindTs, Option.bind_some, Option.bind_none, Option.map_some, Option.map_none, vOf, if_true, if_false, Bool.false_eq_true, Bool.not_true, Bool.not_false, List.map_cons, List.map_nil, wipeM, Ev.locked, reduceCtorEq, f1, tru, List.length_cons, List.length_nil, Nat.reduceAdd, Nat.zero_add, sz0, sz1, sz2, sz3, sz4, sz5, sz6, sz7, sz8, sz9, sz10, sz11, sz12, sz13, sz14, sz15, sz16, sz17, sz18, sz19, sz20, sz21, sz22, sz23]
    have s2 : evS subP ⟨callM PP k, glbP, L⟩ (.asg (.nm 1) (.bin .Add (.lst [(.tup [])]) (.lc (.tup [(.var 6)]) (.nm 6) (.rng [(.lit (.int 3))]) [] [("a", 6)]))) [some (.str z), none, none, none, none, none, none] h = .next [some (.str z), some (.ref h.length), none, none, none, none, none] (h ++ [.lst thrA]) := by
      generalize (ME.lc (.tup [(.var 6)]) (.nm 6) (.rng [(.lit (.int 3))]) [] [("a", 6)]) = m at lc1 ⊢
      have := add_lst (h := h) (a := .t [.tup []]) (b := .t (ns3.map (fun a => tI [a]))) (fun x e => nomatch e) rfl rfl (by decide)
      simp only [x_lit, x_var, x_glb, x_tup, x_lst, x_dct, x_bin, x_neg, x_not, x_and, x_or, x_ite, x_cmp, x_chain, x_idx, x_slc, x_rev, x_isi, x_fn, x_mth, x_call, x_callk, x_src, evs, evTs, evO, evIfs, evE, y_asg, y_sub, y_aug, y_exp, y_ifs, y_ret, y_retN, y_pass, y_brk, y_cnt, y_rse, evSs, Res.bind_ok, Res.bind_exc, Res.bind_bad, Res.of_some, Res.of_none, settle_v, settle_t, Res.noX_ok, Res.st_ok, Res.st_exc, Res.st_bad, SR.then_next, SR.then_ret, SR.then_brk, SR.then_cnt, SR.then_exc, SR.then_bad, SR.out, List.getElem?_cons_zero, List.getElem?_cons_succ, List.set_cons_zero, List.set_cons_succ, bindT, bindTs, Option.bind_some, Option.bind_none, Option.map_some, Option.map_none, vOf, if_true, if_false, Bool.false_eq_true, Bool.not_true, Bool.not_false, List.map_cons, List.map_nil, wipeM, Ev.locked, reduceCtorEq, f1, tru, List.length_cons, List.length_nil, Nat.reduceAdd, Nat.zero_add, sz0, sz1, sz2, sz3, sz4, sz5, sz6, sz7, sz8, sz9, sz10, sz11, sz12, sz13, sz14, sz15, sz16, sz17, sz18, sz19, sz20, sz21, sz22, sz23, lc1, this]
      rfl
    rw [seq_next s2]
    have tA : ∀ x ∈ thrA, ∃ ts, x = MV.tup ts ∧ ts.length ≤ 3 := by
      intro x hx
      have : isThr x = true := List.all_eq_true.mp (by decide +kernel : thrA.all isThr = true) x hx
      obtain ⟨ts, e, hl, -⟩ := thr_un this
      exact ⟨ts, e, hl⟩
    have tB : ∀ x ∈ thrB, ∃ ts, x = MV.tup ts ∧ ts.length ≤ 3 := by
      intro x hx
      have : isThr x = true := List.all_eq_true.mp (by decide +kernel : thrB.all isThr = true) x hx
      obtain ⟨ts, e, hl, -⟩ := thr_un this
      exact ⟨ts, e, hl⟩
    obtain ⟨c1, h1, p1, q1, e1, P1, A1⟩ := turn_R (S := subP) (E := ⟨callM PP k, glbP, L⟩) (h := h ++ [.lst thrA]) (A := thrA) (n := 0) (p := h.length) (z0 := some (.str z)) (z3 := none) (z4 := none) (z5 := none) (z6 := none) (pre_at _) tA (by decide)
    obtain ⟨c2, h2, p2, q2, e2, P2, A2⟩ := turn_R (S := subP) (E := ⟨callM PP k, glbP, L⟩) (h := h1) (A := thrB) (n := 1) (p := p1) (z0 := some (.str z)) (z3 := none) (z4 := some (.ref q1)) (z5 := c1) (z6 := none) A1 tB (by decide)
    rw [thrB_eq] at A2
    have s3 : evS subP ⟨callM PP k, glbP, L⟩ (.fors (.nm 2) (.rng [(.lit (.int 2))]) bodyR) [some (.str z), some (.ref h.length), none, none, none, none, none] (h ++ [.lst thrA]) = .next [some (.str z), some (.ref p2), some (.int 1), none, some (.ref q2), c2, none] h2 := by
      refine fors_ev (it := ⟨none, none, rngI 0 2⟩) (h' := h ++ [.lst thrA]) ?_ rfl ?_
      · exact ev_rng (by simp only [x_lit, x_var, x_glb, x_tup, x_lst, x_dct, x_bin, x_neg, x_not, x_and, x_or, x_ite, x_cmp, x_chain, x_idx, x_slc, x_rev, x_isi, x_fn, x_mth, x_call, x_callk, x_src, evs, evTs, evO, evIfs, evE, y_asg, y_sub, y_aug, y_exp, y_ifs, y_ret, y_retN, y_pass, y_brk, y_cnt, y_rse, evSs, Res.bind_ok, Res.bind_exc, Res.bind_bad, Res.of_some, Res.of_none, settle_v, settle_t, Res.noX_ok, Res.st_ok, Res.st_exc, Res.st_bad, SR.then_next, SR.then_ret, SR.then_brk, SR.then_cnt, SR.then_exc, SR.then_bad, SR.out, List.getElem?_cons_zero, List.getElem?_cons_succ, List.set_cons_zero, List.set_cons_succ, bindT, bindTs, Option.bind_some, Option.bind_none, Option.map_some, Option.map_none, vOf, if_true, if_false, Bool.false_eq_true, Bool.not_true, Bool.not_false, List.map_cons, List.map_nil, wipeM, Ev.locked, reduceCtorEq, f1, tru, List.length_cons, List.length_nil, Nat.reduceAdd, Nat.zero_add, sz0, sz1, sz2, sz3, sz4, sz5, sz6, sz7, sz8, sz9, sz10, sz11, sz12, sz13, sz14, sz15, sz16, sz17, sz18, sz19, sz20, sz21, sz22, sz23]) (rngOf1 (b := 2) (by omega))
      · dsimp only
        rw [show rngI 0 2 = [.int 0, .int 1] by decide +kernel]
        rw [loopS_cons rfl (σ' := [some (.str z), some (.ref p1), some (.int 0), none, some (.ref q1), c1, none]) (h' := h1) (by simp only [bindT, List.set_cons_succ, List.set_cons_zero]; exact e1)]
        rw [loopS_cons rfl (σ' := [some (.str z), some (.ref p2), some (.int 1), none, some (.ref q2), c2, none]) (h' := h2) (by simp only [bindT, List.set_cons_succ, List.set_cons_zero]; exact e2)]
        exact loopS_nil rfl
    rw [seq_next s3]
    have lc2 : evT ⟨callM PP k, glbP, L⟩ (.lc (.var 5) (.nm 5) (.e (.var 1)) [(.cmp .Eq (.call 27 [(.var 5)]) (.var 0))] [("thread", 5)]) [some (.str z), some (.ref p2), some (.int 1), none, some (.ref q2), c2, none] h2 = .ok (.t (thr40.filter fun t => decide (dotsV t = z))) h2 := by
      rw [ev_lc (it := ⟨some p2, none, thr40⟩) (g := fun t => if decide (dotsV t = z) = true then some t else none)]
      · exact congrArg (fun w => Res.ok (TV.t w) h2) (filt_filter _ _)
      · exact ev_src (by simp only [x_lit, x_var, x_glb, x_tup, x_lst, x_dct, x_bin, x_neg, x_not, x_and, x_or, x_ite, x_cmp, x_chain, x_idx, x_slc, x_rev, x_isi, x_fn, x_mth, x_call, x_callk, x_src, evs, evTs, evO, evIfs, evE, y_asg, y_sub, y_aug, y_exp, y_ifs, y_ret, y_retN, y_pass, y_brk, y_cnt, y_rse, evSs, Res.bind_ok, Res.bind_exc, Res.bind_bad, Res.of_some, Res.of_none, settle_v, settle_t, Res.noX_ok, Res.st_ok, Res.st_exc, Res.st_bad, SR.then_next, SR.then_ret, SR.then_brk, SR.then_cnt, SR.then_exc, SR.then_bad, SR.out, List.getElem?_cons_zero, List.getElem?_cons_succ, List.set_cons_zero, List.set_cons_succ, bindT, bindTs, Option.bind_some, Option.bind_none, Option.map_some, Option.map_none, vOf, if_true, if_false, Bool.false_eq_true, Bool.not_true, Bool.not_false, List.map_cons, List.map_nil, wipeM, Ev.locked, reduceCtorEq, f1, tru, List.length_cons, List.length_nil, Nat.reduceAdd, Nat.zero_add, sz0, sz1, sz2, sz3, sz4, sz5, sz6, sz7, sz8, sz9, sz10, sz11, sz12, sz13, sz14, sz15, sz16, sz17, sz18, sz19, sz20, sz21, sz22, sz23]) (it_ref A2) rfl
      · exact still_ref A2
      · intro x hx
        have sd := s_dots (k := k) (L := L) (h := h2) (by omega) (thr_is hx)
        cases q : decide (dotsV x = z) <;> simp only [x_lit, x_var, x_glb, x_tup, x_lst, x_dct, x_bin, x_neg, x_not, x_and, x_or, x_ite, x_cmp, x_chain, x_idx, x_slc, x_rev, x_isi, x_fn, x_mth, x_call, x_callk, x_src, evs, evTs, evO, evIfs, evE, y_asg, y_sub, y_aug, y_exp, y_ifs, y_ret, y_retN, y_pass, y_brk, y_cnt, y_rse, evSs, Res.bind_ok, Res.bind_exc, Res.bind_bad, Res.of_some, Res.of_none, settle_v, settle_t, Res.noX_ok, Res.st_ok, Res.st_exc, Res.st_bad, SR.then_next, SR.then_ret, SR.then_brk, SR.then_cnt, SR.then_exc, SR.then_bad, SR.out, List.getElem?_cons_zero, List.getElem?_cons_succ, List.set_cons_zero, List.set_cons_succ, bindT, bindTs, Option.bind_some, Option.bind_none, Option.map_some, Option.map_none, vOf, if_true, if_false, Bool.false_eq_true, Bool.not_true, Bool.not_false, List.map_cons, List.map_nil, wipeM, Ev.locked, reduceCtorEq, f1, tru, List.length_cons, List.length_nil, Nat.reduceAdd, Nat.zero_add, sz0, sz1, sz2, sz3, sz4, sz5, sz6, sz7, sz8, sz9, sz10, sz11, sz12, sz13, sz14, sz15, sz16, sz17, sz18, sz19, sz20, sz21, sz22, sz23, sd, cmpT, eqT_str, q]
    rw [seq_next (σ' := [some (.str z), some (.ref p2), some (.int 1), some (.ref h2.length), some (.ref q2), c2, none]) (h' := h2 ++ [.lst (thr40.filter fun t => decide (dotsV t = z))]) (by
      generalize (ME.lc (.var 5) (.nm 5) (.e (.var 1)) [(.cmp .Eq (.call 27 [(.var 5)]) (.var 0))] [("thread", 5)]) = m at lc2 ⊢
      simp only [x_lit, x_var, x_glb, x_tup, x_lst, x_dct, x_bin, x_neg, x_not, x_and, x_or, x_ite, x_cmp, x_chain, x_idx, x_slc, x_rev, x_isi, x_fn, x_mth, x_call, x_callk, x_src, evs, evTs, evO, evIfs, evE, y_asg, y_sub, y_aug, y_exp, y_ifs, y_ret, y_retN, y_pass, y_brk, y_cnt, y_rse, evSs, Res.bind_ok, Res.bind_exc, Res.bind_bad, Res.of_some, Res.of_none, settle_v, settle_t, Res.noX_ok, Res.st_ok, Res.st_exc, Res.st_bad, SR.then_next, SR.then_ret, SR.then_brk, SR.then_cnt, SR.then_exc, SR.then_bad, SR.out, List.getElem?_cons_zero, List.getElem?_cons_succ, List.set_cons_zero, List.set_cons_succ, bindT, bindTs, Option.bind_some, Option.bind_none, Option.map_some, Option.map_none, vOf, if_true, if_false, Bool.false_eq_true, Bool.not_true, Bool.not_false, List.map_cons, List.map_nil, wipeM, Ev.locked, reduceCtorEq, f1, tru, List.length_cons, List.length_nil, Nat.reduceAdd, Nat.zero_add, sz0, sz1, sz2, sz3, sz4, sz5, sz6, sz7, sz8, sz9, sz10, sz11, sz12, sz13, sz14, sz15, sz16, sz17, sz18, sz19, sz20, sz21, sz22, sz23, lc2])]
    refine ⟨h2 ++ [.lst (thr40.filter fun t => decide (dotsV t = z))], ?_, ((Pre.app _ _).trans (P1.trans P2)).trans (Pre.app _ _)⟩
    have e0 : rdL (.str z) = (thr40.filter fun t => decide (dotsV t = z)).headD .non := rfl
    rw [e0]
    generalize (thr40.filter fun t => decide (dotsV t = z)) = ys
    have hr := pre_at (h := h2) (.lst ys)
    generalize h2 ++ [MO.lst ys] = h5 at hr ⊢
    generalize h2.length = r at hr
    have en : eqT h5 (.v (.ref r)) (.t []) = some ys.isEmpty := by
      simp [eqT, eqNil, lsto_ref hr, lt_t]
    cases ys with
    | nil => simp only [x_lit, x_var, x_glb, x_tup, x_lst, x_dct, x_bin, x_neg, x_not, x_and, x_or, x_ite, x_cmp, x_chain, x_idx, x_slc, x_rev, x_isi, x_fn, x_mth, x_call, x_callk, x_src, evs, evTs, evO, evIfs, evE, y_asg, y_sub, y_aug, y_exp, y_ifs, y_ret, y_retN, y_pass, y_brk, y_cnt, y_rse, evSs, Res.bind_ok, Res.bind_exc, Res.bind_bad, Res.of_some, Res.of_none, settle_v, settle_t, Res.noX_ok, Res.st_ok, Res.st_exc, Res.st_bad, SR.then_next, SR.then_ret, SR.then_brk, SR.then_cnt, SR.then_exc, SR.then_bad, SR.out, List.getElem?_cons_zero, List.getElem?_cons_succ, List.set_cons_zero, List.set_cons_succ, bindT, bindTs, Option.bind_some, Option.bind_none, Option.map_some, Option.map_none, vOf, if_true, if_false, Bool.false_eq_true, Bool.not_true, Bool.not_false, List.map_cons, List.map_nil, wipeM, Ev.locked, reduceCtorEq, f1, tru, List.length_cons, List.length_nil, Nat.reduceAdd, Nat.zero_add, sz0, sz1, sz2, sz3, sz4, sz5, sz6, sz7, sz8, sz9, sz10, sz11, sz12, sz13, sz14, sz15, sz16, sz17, sz18, sz19, sz20, sz21, sz22, sz23, cmpT, en, List.isEmpty_nil, List.headD]
    | cons y ys =>
      have i0 : idxT h5 (.v (.ref r)) (.int 0) = some y := by rw [idx_lst hr]; exact atI_nat (y :: ys) 0
      simp only [x_lit, x_var, x_glb, x_tup, x_lst, x_dct, x_bin, x_neg, x_not, x_and, x_or, x_ite, x_cmp, x_chain, x_idx, x_slc, x_rev, x_isi, x_fn, x_mth, x_call, x_callk, x_src, evs, evTs, evO, evIfs, evE, y_asg, y_sub, y_aug, y_exp, y_ifs, y_ret, y_retN, y_pass, y_brk, y_cnt, y_rse, evSs, Res.bind_ok, Res.bind_exc, Res.bind_bad, Res.of_some, Res.of_none, settle_v, settle_t, Res.noX_ok, Res.st_ok, Res.st_exc, Res.st_bad, SR.then_next, SR.then_ret, SR.then_brk, SR.then_cnt, SR.then_exc, SR.then_bad, SR.out, List.getElem?_cons_zero, List.getElem?_cons_succ, List.set_cons_zero, List.set_cons_succ, bindT, bindTs, Option.bind_some, Option.bind_none, Option.map_some, Option.map_none, vOf, if_true, if_false, Bool.false_eq_true, Bool.not_true, Bool.not_false, List.map_cons, List.map_nil, wipeM, Ev.locked, reduceCtorEq, f1, tru, List.length_cons, List.length_nil, Nat.reduceAdd, Nat.zero_add, sz0, sz1, sz2, sz3, sz4, sz5, sz6, sz7, sz8, sz9, sz10, sz11, sz12, sz13, sz14, sz15, sz16, sz17, sz18, sz19, sz20, sz21, sz22, sz23, cmpT, en, List.isEmpty_cons, i0, List.headD]
  | _ =>
    have hz := isStr_other hv (fun xs e => nomatch e)
    unfold okv at hv
    refine ⟨h, ?_, Pre.refl h⟩
    rw [seq_ret (v := .non) (h' := h)]
    · rfl
    · simp only [x_lit, x_var, x_glb, x_tup, x_lst, x_dct, x_bin, x_neg, x_not, x_and, x_or, x_ite, x_cmp, x_chain, x_idx, x_slc, x_rev, x_isi, x_fn, x_mth, x_call, x_callk, x_src, evs, evTs, evO, evIfs, evE, y_asg, y_sub, y_aug, y_exp, y_ifs, y_ret, y_retN, y_pass, y_brk, y_cnt, y_rse, evSs, Res.bind_ok, Res.bind_exc, Res.bind_bad, Res.of_some, Res.of_none, settle_v, settle_t, Res.noX_ok, Res.st_ok, Res.st_exc, Res.st_bad, SR.then_next, SR.then_ret, SR.then_brk, SR.then_cnt, SR.then_exc, SR.then_bad, SR.out, List.getElem?_cons_zero, List.getElem?_cons_succ, List.set_cons_zero, List.set_cons_succ, bindT, bindTs, Option.bind_some, Option.bind_none, Option.map_some, Option.map_none, vOf, if_true, if_false, Bool.false_eq_true, Bool.not_true, Bool.not_false, List.map_cons, List.map_nil, wipeM, Ev.locked, reduceCtorEq, f1, tru, List.length_cons, List.length_nil, Nat.reduceAdd, Nat.zero_add, sz0, sz1, sz2, sz3, sz4, sz5, sz6, sz7, sz8, sz9, sz10, sz11, sz12, sz13, sz14, sz15, sz16, sz17, sz18, sz19, sz20, sz21, sz22, sz23, hv, hz, List.any_cons, List.any_nil, Bool.or_false]
end
end MP.Q

set_option linter.all false
set_option autoImplicit false
set_option maxRecDepth 100000
namespace MP.Q
open PySem PyProof.Rows L2
/-- the box at b, of at most n turns -/
def Bx (h : MH) (b : Nat) (n : Int) : Prop := ∃ a f c m, h[b]? = some (MO.lst [.int a, .bl f, .int c, .int m]) ∧ 0 ≤ c ∧ c < 2147483648 ∧ 0 ≤ m ∧ m ≤ n
/-- nothing but the box changes, things are added -/
structure Bo (b : Nat) (h h' : MH) : Prop where
  len : h.length ≤ h'.length
  at' : ∀ (i : Nat) (o : MO), i ≠ b → h[i]? = some o → h'[i]? = some o
theorem Bo.refl (b : Nat) (h : MH) : Bo b h h := ⟨Nat.le_refl _, fun _ _ _ e => e⟩
theorem Bo.trans {b : Nat} {h h1 h2 : MH} (x : Bo b h h1) (y : Bo b h1 h2) : Bo b h h2 := ⟨Nat.le_trans x.len y.len, fun i o n e => y.at' i o n (x.at' i o n e)⟩
theorem Pre.bo {b : Nat} {h h' : MH} (x : Pre h h') : Bo b h h' := ⟨x.len, fun i o _ e => x i o e⟩
theorem Bx.pre {h h' : MH} {b : Nat} {n : Int} (x : Bx h b n) (y : Pre h h') : Bx h' b n := by
  obtain ⟨a, f, c, m, e, r⟩ := x
  exact ⟨a, f, c, m, y _ _ e, r⟩
theorem Bx.le {h : MH} {b : Nat} {n n' : Int} (x : Bx h b n) (y : n ≤ n') : Bx h b n' := by
  obtain ⟨a, f, c, m, e, r1, r2, r3, r4⟩ := x
  exact ⟨a, f, c, m, e, r1, r2, r3, by omega⟩
theorem Bx.lt {h : MH} {b : Nat} {n : Int} (x : Bx h b n) : b < h.length := by
  obtain ⟨a, f, c, m, e, -⟩ := x
  exact (List.getElem?_eq_some_iff.mp e).1
theorem okv_bo {b : Nat} {h h' : MH} (x : Bo b h h') {v : MV} (nb : ∀ n, Bx h b n → True) (e : okv h v = true) (hv : v ≠ .ref b) : okv h' v = true := by
  cases v with
  | ref p =>
    simp only [okv, isiOk] at e ⊢
    cases q : h[p]? with
    | none => rw [q] at e; cases e
    | some o => rw [x.at' _ _ (fun z => hv (by rw [z])) q]; rw [q] at e; exact e
  | _ => rfl
theorem log_lt {x k : Nat} (hk : 0 < k) (h : x < 2 ^ k) : x.log2 < k := by
  by_cases z : x = 0
  · subst z; rw [show Nat.log2 0 = 0 from by decide]; exact hk
  · exact (Nat.log2_lt z).mpr h
section
variable {k : Nat} {L : List Nat} {h : MH} {S : SubT} {E : Ev}
theorem at40 (a b c d : MV) : L2.atI [a, b, c, d] 0 = some a := atI_nat [a, b, c, d] 0
theorem at41 (a b c d : MV) : L2.atI [a, b, c, d] 1 = some b := atI_nat [a, b, c, d] 1
theorem at42 (a b c d : MV) : L2.atI [a, b, c, d] 2 = some c := atI_nat [a, b, c, d] 2
theorem at43 (a b c d : MV) : L2.atI [a, b, c, d] 3 = some d := atI_nat [a, b, c, d] 3
theorem bin_add {i j : Int} : binT h .Add (.v (.int i)) (.v (.int j)) = some (.v (.int (i + j))) := rfl
theorem bin_sub {i j : Int} : binT h .Sub (.v (.int i)) (.v (.int j)) = some (.v (.int (i - j))) := rfl
theorem bin_mul {i j : Int} (h1 : i.natAbs < 2 ^ 64) (h2 : j.natAbs < 2 ^ 64) : binT h .Mult (.v (.int i)) (.v (.int j)) = some (.v (.int (i * j))) := by
  have z : mulOk i j = true := by
    have a := log_lt (by decide) h1
    have b := log_lt (by decide) h2
    exact decide_eq_true (by omega)
  rw [show binT h .Mult (.v (.int i)) (.v (.int j)) = if mulOk i j then some (.v (.int (i * j))) else none from rfl, if_pos z]
theorem bin_mod {i j : Int} (h1 : 0 < j) : binT h .Mod (.v (.int i)) (.v (.int j)) = some (.v (.int (i % j))) := by
  rw [show binT h .Mod (.v (.int i)) (.v (.int j)) = if decide (0 < j) then some (.v (.int (i % j))) else none from rfl, if_pos (decide_eq_true h1)]
theorem bin_div {i j : Int} (h1 : 0 < j) (h2 : j < 1073741824) : binT h .FloorDiv (.v (.int i)) (.v (.int j)) = some (.v (.int (i / j))) := by
  rw [show binT h .FloorDiv (.v (.int i)) (.v (.int j)) = if divOk j then some (.v (.int (i / j))) else none from rfl, if_pos (show divOk j = true from decide_eq_true ⟨h1, h2⟩)]
theorem bin_pow {i : Int} {j : Int} (h0 : 0 ≤ j) (h1 : j ≤ 1000) (h2 : i.natAbs < 2 ^ 64) : binT h .Pow (.v (.int i)) (.v (.int j)) = some (.v (.int (i ^ j.toNat))) := by
  rw [show binT h .Pow (.v (.int i)) (.v (.int j)) = if powOk i j then some (.v (.int (i ^ j.toNat))) else none from rfl, if_pos (show powOk i j = true from decide_eq_true ⟨h0, by omega, h2⟩)]
theorem fn_int {i : Int} : fnT h .int [.v (.int i)] = some (.v (.int i)) := rfl
theorem set_at {b : Nat} {xs : List MV} {j : Nat} (hb : h[b]? = some (.lst xs)) (hj : j < xs.length) {v : MV} : setItT L h (.ref b) (.int (j : Int)) v = some (h.set b (.lst (xs.set j v))) := by
  have e : L2.ixN xs.length (j : Int) = some j := by
    unfold L2.ixN
    rw [if_pos (by omega), if_pos (by omega)]; simp
  simp only [setItT, hb, e, Option.map_some]
theorem bo_set {b : Nat} {o : MO} : Bo b h (h.set b o) := ⟨by simp, fun i o' n e => by rw [List.getElem?_set_ne (fun z => n z.symm)]; exact e⟩
theorem s_take (hk : 1 ≤ k) {b : Nat} {n many : Int} (hb : Bx h b n) (hn : n ≤ 1000000) (h0 : 0 < many) (h1 : many < 1073741824) :
    ∃ r h', callM PP k L 16 [.ref b, .int many] h = .ok (.int r) h' ∧ (0 ≤ r ∧ r < many) ∧ Bx h' b (n + 1) ∧ Bo b h h' := by
  obtain ⟨k, rfl⟩ : ∃ j, k = j + 1 := ⟨k - 1, by omega⟩
  obtain ⟨a, f, c, m, e, c0, c1, m0, m1⟩ := hb
  have lt := (List.getElem?_eq_some_iff.mp e).1
  rw [c__law_take, show m__law_take = [_, _, _, _] from rfl]
  by_cases q : f = true ∧ 0 < a
  · obtain ⟨rfl, q⟩ := q
    have e1 : (h.set b (.lst [.int (a / many), .bl true, .int c, .int m]))[b]? = some (.lst [.int (a / many), .bl true, .int c, .int m]) := List.getElem?_set_self lt
    refine ⟨a % many, h.set b (.lst [.int (a / many), .bl true, .int c, .int m]), ?_, ⟨Int.emod_nonneg _ (by omega), Int.emod_lt_of_pos _ h0⟩, ⟨_, _, _, _, e1, c0, c1, m0, by omega⟩, bo_set⟩
    rw [seq_ret (v := .int (a % many)) (h' := h.set b (.lst [.int (a / many), .bl true, .int c, .int m])), out_ret]
    have st := set_at (L := L) (j := 0) e (by simp) (v := .int (a / many))
    have st' : setItT L h (.ref b) (.int 0) (.int (a / many)) = some (h.set b (.lst [.int (a / many), .bl true, .int c, .int m])) := st
    have dq : decide ((0 : Int) < a) = true := decide_eq_true q
    simp only [x_lit, x_var, x_glb, x_tup, x_lst, x_dct, x_bin, x_neg, x_not, x_and, x_or, x_ite, x_cmp, x_chain, x_idx, x_slc, x_rev, x_isi, x_fn, x_mth, x_call, x_callk, x_src, evs, evTs, evO, evIfs, evE, y_asg, y_sub, y_aug, y_exp, y_ifs, y_ret, y_retN, y_pass, y_brk, y_cnt, y_rse, evSs, Res.bind_ok, Res.bind_exc, Res.bind_bad, Res.of_some, Res.of_none, settle_v, settle_t, Res.noX_ok, Res.st_ok, Res.st_exc, Res.st_bad, SR.then_next, SR.then_ret, SR.then_brk, SR.then_cnt, SR.then_exc, SR.then_bad, SR.out, List.getElem?_cons_zero, List.getElem?_cons_succ, List.set_cons_zero, List.set_cons_succ, bindT, bindTs, Option.bind_some, Option.bind_none, Option.map_some, Option.map_none, vOf, if_true, if_false, Bool.false_eq_true, Bool.not_true, Bool.not_false, List.map_cons, List.map_nil, wipeM, Ev.locked, reduceCtorEq, f1, tru, List.length_cons, List.length_nil, Nat.reduceAdd, Nat.zero_add, sz0, sz1, sz2, sz3, sz4, sz5, sz6, sz7, sz8, sz9, sz10, sz11, sz12, sz13, sz14, sz15, sz16, sz17, sz18, sz19, sz20, sz21, sz22, sz23, idx_lst e, at40, at41, cmpT, icmp, dq, fn_int, bin_mod h0, bin_div h0 h1, st']
  · have x1 : evS subP ⟨callM PP k, glbP, L⟩ (.ifs (.and (.idx (.var 0) (.lit (.int 1))) (.cmp .Gt (.idx (.var 0) (.lit (.int 0))) (.lit (.int 0)))) [.asg (.nm 3) (.bin .Mod (.fn .int [(.idx (.var 0) (.lit (.int 0)))]) (.var 1)),
 .sub (.var 0) (.lit (.int 0)) (.bin .FloorDiv (.idx (.var 0) (.lit (.int 0))) (.var 1)),
 .ret (.var 3)] []) [some (.ref b), some (.int many), none, none] h = .next [some (.ref b), some (.int many), none, none] h := by
      cases f with
      | false => simp only [x_lit, x_var, x_glb, x_tup, x_lst, x_dct, x_bin, x_neg, x_not, x_and, x_or, x_ite, x_cmp, x_chain, x_idx, x_slc, x_rev, x_isi, x_fn, x_mth, x_call, x_callk, x_src, evs, evTs, evO, evIfs, evE, y_asg, y_sub, y_aug, y_exp, y_ifs, y_ret, y_retN, y_pass, y_brk, y_cnt, y_rse, evSs, Res.bind_ok, Res.bind_exc, Res.bind_bad, Res.of_some, Res.of_none, settle_v, settle_t, Res.noX_ok, Res.st_ok, Res.st_exc, Res.st_bad, SR.then_next, SR.then_ret, SR.then_brk, SR.then_cnt, SR.then_exc, SR.then_bad, SR.out, List.getElem?_cons_zero, List.getElem?_cons_succ, List.set_cons_zero, List.set_cons_succ, bindT, bindTs, Option.bind_some, Option.bind_none, Option.map_some, Option.map_none, vOf, if_true, if_false, Bool.false_eq_true, Bool.not_true, Bool.not_false, List.map_cons, List.map_nil, wipeM, Ev.locked, reduceCtorEq, f1, tru, List.length_cons, List.length_nil, Nat.reduceAdd, Nat.zero_add, sz0, sz1, sz2, sz3, sz4, sz5, sz6, sz7, sz8, sz9, sz10, sz11, sz12, sz13, sz14, sz15, sz16, sz17, sz18, sz19, sz20, sz21, sz22, sz23, idx_lst e, at40, at41]
      | true =>
        have dq : decide ((0 : Int) < a) = false := decide_eq_false (fun z => q ⟨rfl, z⟩)
        simp only [x_lit, x_var, x_glb, x_tup, x_lst, x_dct, x_bin, x_neg, x_not, x_and, x_or, x_ite, x_cmp, x_chain, x_idx, x_slc, x_rev, x_isi, x_fn, x_mth, x_call, x_callk, x_src, evs, evTs, evO, evIfs, evE, y_asg, y_sub, y_aug, y_exp, y_ifs, y_ret, y_retN, y_pass, y_brk, y_cnt, y_rse, evSs, Res.bind_ok, Res.bind_exc, Res.bind_bad, Res.of_some, Res.of_none, settle_v, settle_t, Res.noX_ok, Res.st_ok, Res.st_exc, Res.st_bad, SR.then_next, SR.then_ret, SR.then_brk, SR.then_cnt, SR.then_exc, SR.then_bad, SR.out, List.getElem?_cons_zero, List.getElem?_cons_succ, List.set_cons_zero, List.set_cons_succ, bindT, bindTs, Option.bind_some, Option.bind_none, Option.map_some, Option.map_none, vOf, if_true, if_false, Bool.false_eq_true, Bool.not_true, Bool.not_false, List.map_cons, List.map_nil, wipeM, Ev.locked, reduceCtorEq, f1, tru, List.length_cons, List.length_nil, Nat.reduceAdd, Nat.zero_add, sz0, sz1, sz2, sz3, sz4, sz5, sz6, sz7, sz8, sz9, sz10, sz11, sz12, sz13, sz14, sz15, sz16, sz17, sz18, sz19, sz20, sz21, sz22, sz23, idx_lst e, at40, at41, cmpT, icmp, dq]
    rw [seq_next x1]
    have st := set_at (L := L) (j := 3) e (by simp) (v := .int (m + 1))
    have st' : setItT L h (.ref b) (.int 3) (.int (m + 1)) = some (h.set b (.lst [.int a, .bl f, .int c, .int (m + 1)])) := st
    generalize eh : h.set b (.lst [.int a, .bl f, .int c, .int (m + 1)]) = h2 at st'
    have e2 : h2[b]? = some (.lst [.int a, .bl f, .int c, .int (m + 1)]) := by rw [← eh]; exact List.getElem?_set_self lt
    have bo : Bo b h h2 := by rw [← eh]; exact bo_set
    rw [seq_next (σ' := [some (.ref b), some (.int many), none, none]) (h' := h2) (by simp only [x_lit, x_var, x_glb, x_tup, x_lst, x_dct, x_bin, x_neg, x_not, x_and, x_or, x_ite, x_cmp, x_chain, x_idx, x_slc, x_rev, x_isi, x_fn, x_mth, x_call, x_callk, x_src, evs, evTs, evO, evIfs, evE, y_asg, y_sub, y_aug, y_exp, y_ifs, y_ret, y_retN, y_pass, y_brk, y_cnt, y_rse, evSs, Res.bind_ok, Res.bind_exc, Res.bind_bad, Res.of_some, Res.of_none, settle_v, settle_t, Res.noX_ok, Res.st_ok, Res.st_exc, Res.st_bad, SR.then_next, SR.then_ret, SR.then_brk, SR.then_cnt, SR.then_exc, SR.then_bad, SR.out, List.getElem?_cons_zero, List.getElem?_cons_succ, List.set_cons_zero, List.set_cons_succ, bindT, bindTs, Option.bind_some, Option.bind_none, Option.map_some, Option.map_none, vOf, if_true, if_false, Bool.false_eq_true, Bool.not_true, Bool.not_false, List.map_cons, List.map_nil, wipeM, Ev.locked, reduceCtorEq, f1, tru, List.length_cons, List.length_nil, Nat.reduceAdd, Nat.zero_add, sz0, sz1, sz2, sz3, sz4, sz5, sz6, sz7, sz8, sz9, sz10, sz11, sz12, sz13, sz14, sz15, sz16, sz17, sz18, sz19, sz20, sz21, sz22, sz23, idx_lst e, at43, bin_add, st'])]
    have w1 : (c + 15486209 * (m + 1) + 179425033).natAbs < 2 ^ 64 := by omega
    rw [seq_next (σ' := [some (.ref b), some (.int many), some (.int ((c + 15486209 * (m + 1) + 179425033) ^ (5 : Int).toNat % 2147483647)), none]) (h' := h2) (by
      have y1 := bin_mul (h := h2) (i := 15486209) (j := m + 1) (by omega) (by omega)
      have y2 := bin_pow (h := h2) (i := c + 15486209 * (m + 1) + 179425033) (j := 5) (by omega) (by omega) w1
      have y3 := bin_mod (h := h2) (i := (c + 15486209 * (m + 1) + 179425033) ^ (5 : Int).toNat) (j := 2147483647) (by omega)
      simp only [x_lit, x_var, x_glb, x_tup, x_lst, x_dct, x_bin, x_neg, x_not, x_and, x_or, x_ite, x_cmp, x_chain, x_idx, x_slc, x_rev, x_isi, x_fn, x_mth, x_call, x_callk, x_src, evs, evTs, evO, evIfs, evE, y_asg, y_sub, y_aug, y_exp, y_ifs, y_ret, y_retN, y_pass, y_brk, y_cnt, y_rse, evSs, Res.bind_ok, Res.bind_exc, Res.bind_bad, Res.of_some, Res.of_none, settle_v, settle_t, Res.noX_ok, Res.st_ok, Res.st_exc, Res.st_bad, SR.then_next, SR.then_ret, SR.then_brk, SR.then_cnt, SR.then_exc, SR.then_bad, SR.out, List.getElem?_cons_zero, List.getElem?_cons_succ, List.set_cons_zero, List.set_cons_succ, bindT, bindTs, Option.bind_some, Option.bind_none, Option.map_some, Option.map_none, vOf, if_true, if_false, Bool.false_eq_true, Bool.not_true, Bool.not_false, List.map_cons, List.map_nil, wipeM, Ev.locked, reduceCtorEq, f1, tru, List.length_cons, List.length_nil, Nat.reduceAdd, Nat.zero_add, sz0, sz1, sz2, sz3, sz4, sz5, sz6, sz7, sz8, sz9, sz10, sz11, sz12, sz13, sz14, sz15, sz16, sz17, sz18, sz19, sz20, sz21, sz22, sz23, idx_lst e2, at42, at43, y1, bin_add, y2, fn_int, y3])]
    generalize ex : (c + 15486209 * (m + 1) + 179425033) ^ (5 : Int).toNat % 2147483647 = x
    have x0 : 0 ≤ x := by rw [← ex]; exact Int.emod_nonneg _ (by omega)
    have x1 : x < 2147483647 := by rw [← ex]; exact Int.emod_lt_of_pos _ (by omega)
    have w2 : (x * 48271 + 104803 * (m + 1)).natAbs < 2 ^ 64 := by omega
    refine ⟨(x * 48271 + 104803 * (m + 1)) ^ (3 : Int).toNat % 2147483587 / 64 % many, h2, ?_, ⟨Int.emod_nonneg _ (by omega), Int.emod_lt_of_pos _ h0⟩, ⟨_, _, _, _, e2, c0, c1, by omega, by omega⟩, bo⟩
    have y1 := bin_mul (h := h2) (i := x) (j := 48271) (by omega) (by omega)
    have y2 := bin_mul (h := h2) (i := 104803) (j := m + 1) (by omega) (by omega)
    have y3 := bin_pow (h := h2) (i := x * 48271 + 104803 * (m + 1)) (j := 3) (by omega) (by omega) w2
    have y4 := bin_mod (h := h2) (i := (x * 48271 + 104803 * (m + 1)) ^ (3 : Int).toNat) (j := 2147483587) (by omega)
    have y5 := bin_div (h := h2) (i := (x * 48271 + 104803 * (m + 1)) ^ (3 : Int).toNat % 2147483587) (j := 64) (by omega) (by omega)
    have y6 := bin_mod (h := h2) (i := (x * 48271 + 104803 * (m + 1)) ^ (3 : Int).toNat % 2147483587 / 64) (j := many) h0
    rw [seq_ret (v := .int ((x * 48271 + 104803 * (m + 1)) ^ (3 : Int).toNat % 2147483587 / 64 % many)) (h' := h2) (by
      simp only [x_lit, x_var, x_glb, x_tup, x_lst, x_dct, x_bin, x_neg, x_not, x_and, x_or, x_ite, x_cmp, x_chain, x_idx, x_slc, x_rev, x_isi, x_fn, x_mth, x_call, x_callk, x_src, evs, evTs, evO, evIfs, evE, y_asg, y_sub, y_aug, y_exp, y_ifs, y_ret, y_retN, y_pass, y_brk, y_cnt, y_rse, evSs, Res.bind_ok, Res.bind_exc, Res.bind_bad, Res.of_some, Res.of_none, settle_v, settle_t, Res.noX_ok, Res.st_ok, Res.st_exc, Res.st_bad, SR.then_next, SR.then_ret, SR.then_brk, SR.then_cnt, SR.then_exc, SR.then_bad, SR.out, List.getElem?_cons_zero, List.getElem?_cons_succ, List.set_cons_zero, List.set_cons_succ, bindT, bindTs, Option.bind_some, Option.bind_none, Option.map_some, Option.map_none, vOf, if_true, if_false, Bool.false_eq_true, Bool.not_true, Bool.not_false, List.map_cons, List.map_nil, wipeM, Ev.locked, reduceCtorEq, f1, tru, List.length_cons, List.length_nil, Nat.reduceAdd, Nat.zero_add, sz0, sz1, sz2, sz3, sz4, sz5, sz6, sz7, sz8, sz9, sz10, sz11, sz12, sz13, sz14, sz15, sz16, sz17, sz18, sz19, sz20, sz21, sz22, sz23, idx_lst e2, at43, y1, y2, bin_add, y3, fn_int, y4, y5, y6]), out_ret]
theorem s_pick (hk : 2 ≤ k) {b p : Nat} {n : Int} {xs : List MV} (hb : Bx h b n) (hn : n ≤ 1000000) (hp : h[p]? = some (.lst xs)) (hne : p ≠ b) (h0 : xs ≠ []) (h1 : xs.length ≤ 1000) :
    ∃ v h', callM PP k L 17 [.ref b, .ref p] h = .ok v h' ∧ v ∈ xs ∧ Bx h' b (n + 1) ∧ Bo b h h' := by
  obtain ⟨k, rfl⟩ : ∃ j, k = j + 1 := ⟨k - 1, by omega⟩
  have hl : 0 < xs.length := List.length_pos_iff.mpr h0
  obtain ⟨r, h', e, ⟨r0, r1⟩, b1, bo⟩ := s_take (k := k) (L := L) (by omega) hb hn (many := xs.length) (by omega) (by omega)
  have hp' := bo.at' _ _ hne hp
  have hr : r.toNat < xs.length := by omega
  refine ⟨xs[r.toNat], h', ?_, List.getElem_mem hr, b1, bo⟩
  have a : L2.atI xs r = some xs[r.toNat] := atI_at r0 (by simp [hr])
  rw [c__law_pick]
  simp only [m__law_pick, x_lit, x_var, x_glb, x_tup, x_lst, x_dct, x_bin, x_neg, x_not, x_and, x_or, x_ite, x_cmp, x_chain, x_idx, x_slc, x_rev, x_isi, x_fn, x_mth, x_call, x_callk, x_src, evs, evTs, evO, evIfs, evE, y_asg, y_sub, y_aug, y_exp, y_ifs, y_ret, y_retN, y_pass, y_brk, y_cnt, y_rse, evSs, Res.bind_ok, Res.bind_exc, Res.bind_bad, Res.of_some, Res.of_none, settle_v, settle_t, Res.noX_ok, Res.st_ok, Res.st_exc, Res.st_bad, SR.then_next, SR.then_ret, SR.then_brk, SR.then_cnt, SR.then_exc, SR.then_bad, SR.out, List.getElem?_cons_zero, List.getElem?_cons_succ, List.set_cons_zero, List.set_cons_succ, bindT, bindTs, Option.bind_some, Option.bind_none, Option.map_some, Option.map_none, vOf, if_true, if_false, Bool.false_eq_true, Bool.not_true, Bool.not_false, List.map_cons, List.map_nil, wipeM, Ev.locked, reduceCtorEq, f1, tru, List.length_cons, List.length_nil, Nat.reduceAdd, Nat.zero_add, sz0, sz1, sz2, sz3, sz4, sz5, sz6, sz7, sz8, sz9, sz10, sz11, sz12, sz13, sz14, sz15, sz16, sz17, sz18, sz19, sz20, sz21, sz22, sz23, len_lst hp, e, idx_lst hp', a]
end
end MP.Q

set_option linter.all false
set_option autoImplicit false
set_option maxRecDepth 100000
namespace MP.Q
open PySem PyProof.Rows L2
/-- data, less than n deep, none longer than B -/
def D (h : MH) (B : Nat) : Nat → MV → Prop
  | 0, .tup _ => False
  | 0, .ref _ => False
  | n + 1, .tup xs => xs.length ≤ B ∧ ∀ x ∈ xs, D h B n x
  | n + 1, .ref p => (∃ xs, h[p]? = some (MO.lst xs) ∧ xs.length ≤ B ∧ ∀ x ∈ xs, D h B n x) ∨ (∃ kvs, h[p]? = some (MO.dk kvs) ∧ kvs.length ≤ B ∧ ∀ kv ∈ kvs, ∃ i, kv.2 = .int i)
  | _, _ => True
theorem D.okv {h : MH} {B n : Nat} {v : MV} (d : D h B n v) : okv h v = true := by
  cases n with
  | zero =>
    cases v with
    | ref p => exact d.elim
    | _ => rfl
  | succ n =>
    cases v with
    | ref p =>
      rcases d with ⟨xs, e, -⟩ | ⟨xs, e, -⟩ <;> simp [MP.Q.okv, isiOk, e]
    | _ => rfl
section
variable {k : Nat} {L : List Nat} {h : MH} {S : SubT} {E : Ev}
theorem keyOf_keyV (a : L2.Key) : keyOf (keyV a) = some a := by cases a <;> rfl
theorem getK_mem : ∀ {kvs : List (L2.Key × MV)}, (∀ kv ∈ kvs, ∃ i, kv.2 = MV.int i) → ∀ kv ∈ kvs, ∃ i, getK kvs kv.1 = some (.int i)
  | (a, v) :: r, hi, kv, m => by
    by_cases e : a = kv.1
    · obtain ⟨i, ei⟩ := hi (a, v) (by simp)
      exact ⟨i, by rw [getK, if_pos e]; exact congrArg some ei⟩
    · rcases List.mem_cons.mp m with rfl | m
      · exact absurd rfl e
      · obtain ⟨i, ei⟩ := getK_mem (fun kv hkv => hi kv (by simp [hkv])) kv m
        exact ⟨i, by rw [getK, if_neg e]; exact ei⟩
theorem ty1 : (TY.bool == TY.int) = false := rfl
theorem ty2 : (TY.int == TY.str) = false := rfl
theorem ty3 : (TY.bool == TY.str) = false := rfl
theorem same_int (hk : 1 ≤ k) {i : Int} : callM PP k L 18 [.int i, .int i] h = .ok (.bl true) h := by
  obtain ⟨k, rfl⟩ : ∃ j, k = j + 1 := ⟨k - 1, by omega⟩
  have z : decide (i - i = 0) = true := decide_eq_true (by omega)
  have t1 : (TY.int == TY.bool) = false := rfl
  rw [c__law_same, show m__law_same = [_, _, _, _, _, _, _] from rfl]
  rw [seq_next (σ' := [some (.int i), some (.int i), none, none]) (h' := h), seq_ret (v := .bl true) (h' := h)]
  · rfl
  · simp [x_lit, x_var, x_glb, x_tup, x_lst, x_dct, x_bin, x_neg, x_not, x_and, x_or, x_ite, x_cmp, x_chain, x_idx, x_slc, x_rev, x_isi, x_fn, x_mth, x_call, x_callk, x_src, evs, evTs, evO, evIfs, evE, y_asg, y_sub, y_aug, y_exp, y_ifs, y_ret, y_retN, y_pass, y_brk, y_cnt, y_rse, evSs, Res.bind_ok, Res.bind_exc, Res.bind_bad, Res.of_some, Res.of_none, settle_v, settle_t, Res.noX_ok, Res.st_ok, Res.st_exc, Res.st_bad, SR.then_next, SR.then_ret, SR.then_brk, SR.then_cnt, SR.then_exc, SR.then_bad, SR.out, List.getElem?_cons_zero, List.getElem?_cons_succ, List.set_cons_zero, List.set_cons_succ, bindT, bindTs, Option.bind_some, Option.bind_none, Option.map_some, Option.map_none, vOf, if_true, if_false, Bool.false_eq_true, Bool.not_true, Bool.not_false, List.map_cons, List.map_nil, wipeM, Ev.locked, reduceCtorEq, f1, tru, List.length_cons, List.length_nil, Nat.reduceAdd, Nat.zero_add, sz0, sz1, sz2, sz3, sz4, sz5, sz6, sz7, sz8, sz9, sz10, sz11, sz12, sz13, sz14, sz15, sz16, sz17, sz18, sz19, sz20, sz21, sz22, sz23, ty1, ty2, ty3, isiOk, isiV, bin_sub, fn_int, cmpT, eqT_int, z]
  · simp [x_lit, x_var, x_glb, x_tup, x_lst, x_dct, x_bin, x_neg, x_not, x_and, x_or, x_ite, x_cmp, x_chain, x_idx, x_slc, x_rev, x_isi, x_fn, x_mth, x_call, x_callk, x_src, evs, evTs, evO, evIfs, evE, y_asg, y_sub, y_aug, y_exp, y_ifs, y_ret, y_retN, y_pass, y_brk, y_cnt, y_rse, evSs, Res.bind_ok, Res.bind_exc, Res.bind_bad, Res.of_some, Res.of_none, settle_v, settle_t, Res.noX_ok, Res.st_ok, Res.st_exc, Res.st_bad, SR.then_next, SR.then_ret, SR.then_brk, SR.then_cnt, SR.then_exc, SR.then_bad, SR.out, List.getElem?_cons_zero, List.getElem?_cons_succ, List.set_cons_zero, List.set_cons_succ, bindT, bindTs, Option.bind_some, Option.bind_none, Option.map_some, Option.map_none, vOf, if_true, if_false, Bool.false_eq_true, Bool.not_true, Bool.not_false, List.map_cons, List.map_nil, wipeM, Ev.locked, reduceCtorEq, f1, tru, List.length_cons, List.length_nil, Nat.reduceAdd, Nat.zero_add, sz0, sz1, sz2, sz3, sz4, sz5, sz6, sz7, sz8, sz9, sz10, sz11, sz12, sz13, sz14, sz15, sz16, sz17, sz18, sz19, sz20, sz21, sz22, sz23, ty1, ty2, ty3, isiOk, isiV, cmpT, isT]
theorem same_flat (hk : 1 ≤ k) {v : MV} (h1 : ∀ xs, v ≠ .tup xs) (h2 : ∀ p, v ≠ .ref p) : callM PP k L 18 [v, v] h = .ok (.bl true) h := by
  cases v with
  | int i => exact same_int hk
  | tup xs => exact absurd rfl (h1 xs)
  | ref p => exact absurd rfl (h2 p)
  | str z =>
    obtain ⟨k, rfl⟩ : ∃ j, k = j + 1 := ⟨k - 1, by omega⟩
    rw [c__law_same, show m__law_same = [_, _, _, _, _, _, _] from rfl]
    rw [seq_next (σ' := [some (.str z), some (.str z), none, none]) (h' := h), seq_next (σ' := [some (.str z), some (.str z), none, none]) (h' := h), seq_ret (v := .bl true) (h' := h)]
    · rfl
    · simp [x_lit, x_var, x_glb, x_tup, x_lst, x_dct, x_bin, x_neg, x_not, x_and, x_or, x_ite, x_cmp, x_chain, x_idx, x_slc, x_rev, x_isi, x_fn, x_mth, x_call, x_callk, x_src, evs, evTs, evO, evIfs, evE, y_asg, y_sub, y_aug, y_exp, y_ifs, y_ret, y_retN, y_pass, y_brk, y_cnt, y_rse, evSs, Res.bind_ok, Res.bind_exc, Res.bind_bad, Res.of_some, Res.of_none, settle_v, settle_t, Res.noX_ok, Res.st_ok, Res.st_exc, Res.st_bad, SR.then_next, SR.then_ret, SR.then_brk, SR.then_cnt, SR.then_exc, SR.then_bad, SR.out, List.getElem?_cons_zero, List.getElem?_cons_succ, List.set_cons_zero, List.set_cons_succ, bindT, bindTs, Option.bind_some, Option.bind_none, Option.map_some, Option.map_none, vOf, if_true, if_false, Bool.false_eq_true, Bool.not_true, Bool.not_false, List.map_cons, List.map_nil, wipeM, Ev.locked, reduceCtorEq, f1, tru, List.length_cons, List.length_nil, Nat.reduceAdd, Nat.zero_add, sz0, sz1, sz2, sz3, sz4, sz5, sz6, sz7, sz8, sz9, sz10, sz11, sz12, sz13, sz14, sz15, sz16, sz17, sz18, sz19, sz20, sz21, sz22, sz23, ty1, ty2, ty3, isiOk, isiV, cmpT, eqT_str]
    · simp [x_lit, x_var, x_glb, x_tup, x_lst, x_dct, x_bin, x_neg, x_not, x_and, x_or, x_ite, x_cmp, x_chain, x_idx, x_slc, x_rev, x_isi, x_fn, x_mth, x_call, x_callk, x_src, evs, evTs, evO, evIfs, evE, y_asg, y_sub, y_aug, y_exp, y_ifs, y_ret, y_retN, y_pass, y_brk, y_cnt, y_rse, evSs, Res.bind_ok, Res.bind_exc, Res.bind_bad, Res.of_some, Res.of_none, settle_v, settle_t, Res.noX_ok, Res.st_ok, Res.st_exc, Res.st_bad, SR.then_next, SR.then_ret, SR.then_brk, SR.then_cnt, SR.then_exc, SR.then_bad, SR.out, List.getElem?_cons_zero, List.getElem?_cons_succ, List.set_cons_zero, List.set_cons_succ, bindT, bindTs, Option.bind_some, Option.bind_none, Option.map_some, Option.map_none, vOf, if_true, if_false, Bool.false_eq_true, Bool.not_true, Bool.not_false, List.map_cons, List.map_nil, wipeM, Ev.locked, reduceCtorEq, f1, tru, List.length_cons, List.length_nil, Nat.reduceAdd, Nat.zero_add, sz0, sz1, sz2, sz3, sz4, sz5, sz6, sz7, sz8, sz9, sz10, sz11, sz12, sz13, sz14, sz15, sz16, sz17, sz18, sz19, sz20, sz21, sz22, sz23, ty1, ty2, ty3, isiOk, isiV]
    · simp [x_lit, x_var, x_glb, x_tup, x_lst, x_dct, x_bin, x_neg, x_not, x_and, x_or, x_ite, x_cmp, x_chain, x_idx, x_slc, x_rev, x_isi, x_fn, x_mth, x_call, x_callk, x_src, evs, evTs, evO, evIfs, evE, y_asg, y_sub, y_aug, y_exp, y_ifs, y_ret, y_retN, y_pass, y_brk, y_cnt, y_rse, evSs, Res.bind_ok, Res.bind_exc, Res.bind_bad, Res.of_some, Res.of_none, settle_v, settle_t, Res.noX_ok, Res.st_ok, Res.st_exc, Res.st_bad, SR.then_next, SR.then_ret, SR.then_brk, SR.then_cnt, SR.then_exc, SR.then_bad, SR.out, List.getElem?_cons_zero, List.getElem?_cons_succ, List.set_cons_zero, List.set_cons_succ, bindT, bindTs, Option.bind_some, Option.bind_none, Option.map_some, Option.map_none, vOf, if_true, if_false, Bool.false_eq_true, Bool.not_true, Bool.not_false, List.map_cons, List.map_nil, wipeM, Ev.locked, reduceCtorEq, f1, tru, List.length_cons, List.length_nil, Nat.reduceAdd, Nat.zero_add, sz0, sz1, sz2, sz3, sz4, sz5, sz6, sz7, sz8, sz9, sz10, sz11, sz12, sz13, sz14, sz15, sz16, sz17, sz18, sz19, sz20, sz21, sz22, sz23, ty1, ty2, ty3, isiOk, isiV, cmpT, isT]
  | non =>
    obtain ⟨k, rfl⟩ : ∃ j, k = j + 1 := ⟨k - 1, by omega⟩
    rw [c__law_same, show m__law_same = [_, _, _, _, _, _, _] from rfl]
    rw [seq_ret (v := .bl true) (h' := h)]
    · rfl
    · simp [x_lit, x_var, x_glb, x_tup, x_lst, x_dct, x_bin, x_neg, x_not, x_and, x_or, x_ite, x_cmp, x_chain, x_idx, x_slc, x_rev, x_isi, x_fn, x_mth, x_call, x_callk, x_src, evs, evTs, evO, evIfs, evE, y_asg, y_sub, y_aug, y_exp, y_ifs, y_ret, y_retN, y_pass, y_brk, y_cnt, y_rse, evSs, Res.bind_ok, Res.bind_exc, Res.bind_bad, Res.of_some, Res.of_none, settle_v, settle_t, Res.noX_ok, Res.st_ok, Res.st_exc, Res.st_bad, SR.then_next, SR.then_ret, SR.then_brk, SR.then_cnt, SR.then_exc, SR.then_bad, SR.out, List.getElem?_cons_zero, List.getElem?_cons_succ, List.set_cons_zero, List.set_cons_succ, bindT, bindTs, Option.bind_some, Option.bind_none, Option.map_some, Option.map_none, vOf, if_true, if_false, Bool.false_eq_true, Bool.not_true, Bool.not_false, List.map_cons, List.map_nil, wipeM, Ev.locked, reduceCtorEq, f1, tru, List.length_cons, List.length_nil, Nat.reduceAdd, Nat.zero_add, sz0, sz1, sz2, sz3, sz4, sz5, sz6, sz7, sz8, sz9, sz10, sz11, sz12, sz13, sz14, sz15, sz16, sz17, sz18, sz19, sz20, sz21, sz22, sz23, ty1, ty2, ty3, isiOk, isiV, cmpT, isT]
  | bl b =>
    obtain ⟨k, rfl⟩ : ∃ j, k = j + 1 := ⟨k - 1, by omega⟩
    rw [c__law_same, show m__law_same = [_, _, _, _, _, _, _] from rfl]
    rw [seq_ret (v := .bl true) (h' := h)]
    · rfl
    · cases b <;> simp [x_lit, x_var, x_glb, x_tup, x_lst, x_dct, x_bin, x_neg, x_not, x_and, x_or, x_ite, x_cmp, x_chain, x_idx, x_slc, x_rev, x_isi, x_fn, x_mth, x_call, x_callk, x_src, evs, evTs, evO, evIfs, evE, y_asg, y_sub, y_aug, y_exp, y_ifs, y_ret, y_retN, y_pass, y_brk, y_cnt, y_rse, evSs, Res.bind_ok, Res.bind_exc, Res.bind_bad, Res.of_some, Res.of_none, settle_v, settle_t, Res.noX_ok, Res.st_ok, Res.st_exc, Res.st_bad, SR.then_next, SR.then_ret, SR.then_brk, SR.then_cnt, SR.then_exc, SR.then_bad, SR.out, List.getElem?_cons_zero, List.getElem?_cons_succ, List.set_cons_zero, List.set_cons_succ, bindT, bindTs, Option.bind_some, Option.bind_none, Option.map_some, Option.map_none, vOf, if_true, if_false, Bool.false_eq_true, Bool.not_true, Bool.not_false, List.map_cons, List.map_nil, wipeM, Ev.locked, reduceCtorEq, f1, tru, List.length_cons, List.length_nil, Nat.reduceAdd, Nat.zero_add, sz0, sz1, sz2, sz3, sz4, sz5, sz6, sz7, sz8, sz9, sz10, sz11, sz12, sz13, sz14, sz15, sz16, sz17, sz18, sz19, sz20, sz21, sz22, sz23, ty1, ty2, ty3, isiOk, isiV, cmpT, isT, eqT_bl]
/-- two sequences of one kind, of the very same items -/
theorem same_seq {v w : MV} {xs : List MV} (o1 : isiOk h (.v v) = true) (o2 : isiOk h (.v w) = true) (wn : isT (.v w) (.v .non) = some false) (wb : isiV h (.v w) .bool = false) (wi : isiV h (.v w) .int = false) (ws : isiV h (.v w) .str = false) (wd : isiV h (.v w) .dict = false)
    (wl : (isiV h (.v w) .list || isiV h (.v w) .tuple) = true) (vl : (isiV h (.v v) .list || isiV h (.v v) .tuple) = true) (vw : isiV h (.v v) .list = isiV h (.v w) .list)
    (l1 : fnT h .len [.v v] = some (.v (.int xs.length))) (l2 : fnT h .len [.v w] = some (.v (.int xs.length))) (i1 : ∀ i, idxT h (.v v) (.int i) = L2.atI xs i) (i2 : ∀ i, idxT h (.v w) (.int i) = L2.atI xs i)
    (hl : xs.length ≤ 1000) (hx : ∀ x ∈ xs, callM PP k L 18 [x, x] h = .ok (.bl true) h) : callM PP (k + 1) L 18 [v, w] h = .ok (.bl true) h := by
  rw [c__law_same, show m__law_same = [_, _, _, _, _, _, _] from rfl]
  have lc : evT ⟨callM PP k, glbP, L⟩ (.lc (.var 2) (.nm 2) (.rng [(.fn .len [(.var 1)])]) [(.not (.call 18 [(.idx (.var 0) (.var 2)), (.idx (.var 1) (.var 2))]))] [("k", 2)]) [some v, some w, none, none] h = .ok (.t []) h := by
    rw [ev_lc (it := ⟨none, none, rngI 0 xs.length⟩) (g := fun _ => none)]
    · have : ∀ ys : List MV, ys.filterMap (fun _ => (none : Option MV)) = [] := fun ys => by simp
      rw [this]
    · exact ev_rng (by simp only [x_lit, x_var, x_glb, x_tup, x_lst, x_dct, x_bin, x_neg, x_not, x_and, x_or, x_ite, x_cmp, x_chain, x_idx, x_slc, x_rev, x_isi, x_fn, x_mth, x_call, x_callk, x_src, evs, evTs, evO, evIfs, evE, y_asg, y_sub, y_aug, y_exp, y_ifs, y_ret, y_retN, y_pass, y_brk, y_cnt, y_rse, evSs, Res.bind_ok, Res.bind_exc, Res.bind_bad, Res.of_some, Res.of_none, settle_v, settle_t, Res.noX_ok, Res.st_ok, Res.st_exc, Res.st_bad, SR.then_next, SR.then_ret, SR.then_brk, SR.then_cnt, SR.then_exc, SR.then_bad, SR.out, List.getElem?_cons_zero, List.getElem?_cons_succ, List.set_cons_zero, List.set_cons_succ, bindT, bindTs, Option.bind_some, Option.bind_none, Option.map_some, Option.map_none, vOf, if_true, if_false, Bool.false_eq_true, Bool.not_true, Bool.not_false, List.map_cons, List.map_nil, wipeM, Ev.locked, reduceCtorEq, f1, tru, List.length_cons, List.length_nil, Nat.reduceAdd, Nat.zero_add, sz0, sz1, sz2, sz3, sz4, sz5, sz6, sz7, sz8, sz9, sz10, sz11, sz12, sz13, sz14, sz15, sz16, sz17, sz18, sz19, sz20, sz21, sz22, sz23, l2]) (rngOf1 (b := xs.length) (by omega))
    · rfl
    · intro x hx'
      obtain ⟨j, hj, rfl⟩ := mem_rng hx'
      have j1 : j < xs.length := by omega
      have a : L2.atI xs (0 + (j : Int)) = some xs[j] := atI_at (by omega) (by rw [show (0 + (j : Int)).toNat = j by omega]; simp [j1])
      simp only [x_lit, x_var, x_glb, x_tup, x_lst, x_dct, x_bin, x_neg, x_not, x_and, x_or, x_ite, x_cmp, x_chain, x_idx, x_slc, x_rev, x_isi, x_fn, x_mth, x_call, x_callk, x_src, evs, evTs, evO, evIfs, evE, y_asg, y_sub, y_aug, y_exp, y_ifs, y_ret, y_retN, y_pass, y_brk, y_cnt, y_rse, evSs, Res.bind_ok, Res.bind_exc, Res.bind_bad, Res.of_some, Res.of_none, settle_v, settle_t, Res.noX_ok, Res.st_ok, Res.st_exc, Res.st_bad, SR.then_next, SR.then_ret, SR.then_brk, SR.then_cnt, SR.then_exc, SR.then_bad, SR.out, List.getElem?_cons_zero, List.getElem?_cons_succ, List.set_cons_zero, List.set_cons_succ, bindT, bindTs, Option.bind_some, Option.bind_none, Option.map_some, Option.map_none, vOf, if_true, if_false, Bool.false_eq_true, Bool.not_true, Bool.not_false, List.map_cons, List.map_nil, wipeM, Ev.locked, reduceCtorEq, f1, tru, List.length_cons, List.length_nil, Nat.reduceAdd, Nat.zero_add, sz0, sz1, sz2, sz3, sz4, sz5, sz6, sz7, sz8, sz9, sz10, sz11, sz12, sz13, sz14, sz15, sz16, sz17, sz18, sz19, sz20, sz21, sz22, sz23, i1, i2, a, hx _ (List.getElem_mem j1)]
  generalize (ME.lc (.var 2) (.nm 2) (.rng [(.fn .len [(.var 1)])]) [(.not (.call 18 [(.idx (.var 0) (.var 2)), (.idx (.var 1) (.var 2))]))] [("k", 2)]) = m at lc ⊢
  have sl : ∀ i j : Bool, i = j → decide (i = j) = true := fun i j e => decide_eq_true e
  rw [seq_next (σ' := [some v, some w, none, none]) (h' := h) (by simp only [x_lit, x_var, x_glb, x_tup, x_lst, x_dct, x_bin, x_neg, x_not, x_and, x_or, x_ite, x_cmp, x_chain, x_idx, x_slc, x_rev, x_isi, x_fn, x_mth, x_call, x_callk, x_src, evs, evTs, evO, evIfs, evE, y_asg, y_sub, y_aug, y_exp, y_ifs, y_ret, y_retN, y_pass, y_brk, y_cnt, y_rse, evSs, Res.bind_ok, Res.bind_exc, Res.bind_bad, Res.of_some, Res.of_none, settle_v, settle_t, Res.noX_ok, Res.st_ok, Res.st_exc, Res.st_bad, SR.then_next, SR.then_ret, SR.then_brk, SR.then_cnt, SR.then_exc, SR.then_bad, SR.out, List.getElem?_cons_zero, List.getElem?_cons_succ, List.set_cons_zero, List.set_cons_succ, bindT, bindTs, Option.bind_some, Option.bind_none, Option.map_some, Option.map_none, vOf, if_true, if_false, Bool.false_eq_true, Bool.not_true, Bool.not_false, List.map_cons, List.map_nil, wipeM, Ev.locked, reduceCtorEq, f1, tru, List.length_cons, List.length_nil, Nat.reduceAdd, Nat.zero_add, sz0, sz1, sz2, sz3, sz4, sz5, sz6, sz7, sz8, sz9, sz10, sz11, sz12, sz13, sz14, sz15, sz16, sz17, sz18, sz19, sz20, sz21, sz22, sz23, o2, cmpT, wn, wb, List.any_cons, List.any_nil, Bool.or_false]),
    seq_next (σ' := [some v, some w, none, none]) (h' := h) (by simp only [x_lit, x_var, x_glb, x_tup, x_lst, x_dct, x_bin, x_neg, x_not, x_and, x_or, x_ite, x_cmp, x_chain, x_idx, x_slc, x_rev, x_isi, x_fn, x_mth, x_call, x_callk, x_src, evs, evTs, evO, evIfs, evE, y_asg, y_sub, y_aug, y_exp, y_ifs, y_ret, y_retN, y_pass, y_brk, y_cnt, y_rse, evSs, Res.bind_ok, Res.bind_exc, Res.bind_bad, Res.of_some, Res.of_none, settle_v, settle_t, Res.noX_ok, Res.st_ok, Res.st_exc, Res.st_bad, SR.then_next, SR.then_ret, SR.then_brk, SR.then_cnt, SR.then_exc, SR.then_bad, SR.out, List.getElem?_cons_zero, List.getElem?_cons_succ, List.set_cons_zero, List.set_cons_succ, bindT, bindTs, Option.bind_some, Option.bind_none, Option.map_some, Option.map_none, vOf, if_true, if_false, Bool.false_eq_true, Bool.not_true, Bool.not_false, List.map_cons, List.map_nil, wipeM, Ev.locked, reduceCtorEq, f1, tru, List.length_cons, List.length_nil, Nat.reduceAdd, Nat.zero_add, sz0, sz1, sz2, sz3, sz4, sz5, sz6, sz7, sz8, sz9, sz10, sz11, sz12, sz13, sz14, sz15, sz16, sz17, sz18, sz19, sz20, sz21, sz22, sz23, o2, wi, List.any_cons, List.any_nil, Bool.or_false]),
    seq_next (σ' := [some v, some w, none, none]) (h' := h) (by simp only [x_lit, x_var, x_glb, x_tup, x_lst, x_dct, x_bin, x_neg, x_not, x_and, x_or, x_ite, x_cmp, x_chain, x_idx, x_slc, x_rev, x_isi, x_fn, x_mth, x_call, x_callk, x_src, evs, evTs, evO, evIfs, evE, y_asg, y_sub, y_aug, y_exp, y_ifs, y_ret, y_retN, y_pass, y_brk, y_cnt, y_rse, evSs, Res.bind_ok, Res.bind_exc, Res.bind_bad, Res.of_some, Res.of_none, settle_v, settle_t, Res.noX_ok, Res.st_ok, Res.st_exc, Res.st_bad, SR.then_next, SR.then_ret, SR.then_brk, SR.then_cnt, SR.then_exc, SR.then_bad, SR.out, List.getElem?_cons_zero, List.getElem?_cons_succ, List.set_cons_zero, List.set_cons_succ, bindT, bindTs, Option.bind_some, Option.bind_none, Option.map_some, Option.map_none, vOf, if_true, if_false, Bool.false_eq_true, Bool.not_true, Bool.not_false, List.map_cons, List.map_nil, wipeM, Ev.locked, reduceCtorEq, f1, tru, List.length_cons, List.length_nil, Nat.reduceAdd, Nat.zero_add, sz0, sz1, sz2, sz3, sz4, sz5, sz6, sz7, sz8, sz9, sz10, sz11, sz12, sz13, sz14, sz15, sz16, sz17, sz18, sz19, sz20, sz21, sz22, sz23, o2, ws, List.any_cons, List.any_nil, Bool.or_false]),
    seq_next (σ' := [some v, some w, none, none]) (h' := h) (by simp only [x_lit, x_var, x_glb, x_tup, x_lst, x_dct, x_bin, x_neg, x_not, x_and, x_or, x_ite, x_cmp, x_chain, x_idx, x_slc, x_rev, x_isi, x_fn, x_mth, x_call, x_callk, x_src, evs, evTs, evO, evIfs, evE, y_asg, y_sub, y_aug, y_exp, y_ifs, y_ret, y_retN, y_pass, y_brk, y_cnt, y_rse, evSs, Res.bind_ok, Res.bind_exc, Res.bind_bad, Res.of_some, Res.of_none, settle_v, settle_t, Res.noX_ok, Res.st_ok, Res.st_exc, Res.st_bad, SR.then_next, SR.then_ret, SR.then_brk, SR.then_cnt, SR.then_exc, SR.then_bad, SR.out, List.getElem?_cons_zero, List.getElem?_cons_succ, List.set_cons_zero, List.set_cons_succ, bindT, bindTs, Option.bind_some, Option.bind_none, Option.map_some, Option.map_none, vOf, if_true, if_false, Bool.false_eq_true, Bool.not_true, Bool.not_false, List.map_cons, List.map_nil, wipeM, Ev.locked, reduceCtorEq, f1, tru, List.length_cons, List.length_nil, Nat.reduceAdd, Nat.zero_add, sz0, sz1, sz2, sz3, sz4, sz5, sz6, sz7, sz8, sz9, sz10, sz11, sz12, sz13, sz14, sz15, sz16, sz17, sz18, sz19, sz20, sz21, sz22, sz23, o2, wd, List.any_cons, List.any_nil, Bool.or_false]),
    seq_next (σ' := [some v, some w, none, none]) (h' := h) (by simp only [x_lit, x_var, x_glb, x_tup, x_lst, x_dct, x_bin, x_neg, x_not, x_and, x_or, x_ite, x_cmp, x_chain, x_idx, x_slc, x_rev, x_isi, x_fn, x_mth, x_call, x_callk, x_src, evs, evTs, evO, evIfs, evE, y_asg, y_sub, y_aug, y_exp, y_ifs, y_ret, y_retN, y_pass, y_brk, y_cnt, y_rse, evSs, Res.bind_ok, Res.bind_exc, Res.bind_bad, Res.of_some, Res.of_none, settle_v, settle_t, Res.noX_ok, Res.st_ok, Res.st_exc, Res.st_bad, SR.then_next, SR.then_ret, SR.then_brk, SR.then_cnt, SR.then_exc, SR.then_bad, SR.out, List.getElem?_cons_zero, List.getElem?_cons_succ, List.set_cons_zero, List.set_cons_succ, bindT, bindTs, Option.bind_some, Option.bind_none, Option.map_some, Option.map_none, vOf, if_true, if_false, Bool.false_eq_true, Bool.not_true, Bool.not_false, List.map_cons, List.map_nil, wipeM, Ev.locked, reduceCtorEq, f1, tru, List.length_cons, List.length_nil, Nat.reduceAdd, Nat.zero_add, sz0, sz1, sz2, sz3, sz4, sz5, sz6, sz7, sz8, sz9, sz10, sz11, sz12, sz13, sz14, sz15, sz16, sz17, sz18, sz19, sz20, sz21, sz22, sz23, o1, o2, wl, vl, List.any_cons, List.any_nil, Bool.or_false]),
    seq_next (σ' := [some v, some w, none, none]) (h' := h) (by simp only [x_lit, x_var, x_glb, x_tup, x_lst, x_dct, x_bin, x_neg, x_not, x_and, x_or, x_ite, x_cmp, x_chain, x_idx, x_slc, x_rev, x_isi, x_fn, x_mth, x_call, x_callk, x_src, evs, evTs, evO, evIfs, evE, y_asg, y_sub, y_aug, y_exp, y_ifs, y_ret, y_retN, y_pass, y_brk, y_cnt, y_rse, evSs, Res.bind_ok, Res.bind_exc, Res.bind_bad, Res.of_some, Res.of_none, settle_v, settle_t, Res.noX_ok, Res.st_ok, Res.st_exc, Res.st_bad, SR.then_next, SR.then_ret, SR.then_brk, SR.then_cnt, SR.then_exc, SR.then_bad, SR.out, List.getElem?_cons_zero, List.getElem?_cons_succ, List.set_cons_zero, List.set_cons_succ, bindT, bindTs, Option.bind_some, Option.bind_none, Option.map_some, Option.map_none, vOf, if_true, if_false, Bool.false_eq_true, Bool.not_true, Bool.not_false, List.map_cons, List.map_nil, wipeM, Ev.locked, reduceCtorEq, f1, tru, List.length_cons, List.length_nil, Nat.reduceAdd, Nat.zero_add, sz0, sz1, sz2, sz3, sz4, sz5, sz6, sz7, sz8, sz9, sz10, sz11, sz12, sz13, sz14, sz15, sz16, sz17, sz18, sz19, sz20, sz21, sz22, sz23, o1, o2, vw, l1, l2, cmpT, eqT_bl, eqT_int, decide_true, List.any_cons, List.any_nil, Bool.or_false])]
  rw [seq_ret (v := .bl true) (h' := h) (by simp only [x_lit, x_var, x_glb, x_tup, x_lst, x_dct, x_bin, x_neg, x_not, x_and, x_or, x_ite, x_cmp, x_chain, x_idx, x_slc, x_rev, x_isi, x_fn, x_mth, x_call, x_callk, x_src, evs, evTs, evO, evIfs, evE, y_asg, y_sub, y_aug, y_exp, y_ifs, y_ret, y_retN, y_pass, y_brk, y_cnt, y_rse, evSs, Res.bind_ok, Res.bind_exc, Res.bind_bad, Res.of_some, Res.of_none, settle_v, settle_t, Res.noX_ok, Res.st_ok, Res.st_exc, Res.st_bad, SR.then_next, SR.then_ret, SR.then_brk, SR.then_cnt, SR.then_exc, SR.then_bad, SR.out, List.getElem?_cons_zero, List.getElem?_cons_succ, List.set_cons_zero, List.set_cons_succ, bindT, bindTs, Option.bind_some, Option.bind_none, Option.map_some, Option.map_none, vOf, if_true, if_false, Bool.false_eq_true, Bool.not_true, Bool.not_false, List.map_cons, List.map_nil, wipeM, Ev.locked, reduceCtorEq, f1, tru, List.length_cons, List.length_nil, Nat.reduceAdd, Nat.zero_add, sz0, sz1, sz2, sz3, sz4, sz5, sz6, sz7, sz8, sz9, sz10, sz11, sz12, sz13, sz14, sz15, sz16, sz17, sz18, sz19, sz20, sz21, sz22, sz23, lc, cmpT, eqT_nil, List.isEmpty_nil]), out_ret]
theorem same_tup {xs : List MV} (hl : xs.length ≤ 1000) (hx : ∀ x ∈ xs, callM PP k L 18 [x, x] h = .ok (.bl true) h) : callM PP (k + 1) L 18 [.tup xs, .tup xs] h = .ok (.bl true) h :=
  same_seq (v := .tup xs) (w := .tup xs) rfl rfl rfl rfl rfl rfl rfl rfl rfl rfl (b_len_tup xs) (b_len_tup xs) (fun _ => rfl) (fun _ => rfl) hl hx
theorem same_lst {p q : Nat} {xs : List MV} (hp : h[p]? = some (.lst xs)) (hq : h[q]? = some (.lst xs)) (hl : xs.length ≤ 1000) (hx : ∀ x ∈ xs, callM PP k L 18 [x, x] h = .ok (.bl true) h) : callM PP (k + 1) L 18 [.ref p, .ref q] h = .ok (.bl true) h :=
  same_seq (v := .ref p) (w := .ref q) (by simp [isiOk, hp]) (by simp [isiOk, hq]) rfl (by simp [isiV, hq] <;> rfl) (by simp [isiV, hq] <;> rfl) (by simp [isiV, hq] <;> rfl) (by simp [isiV, hq] <;> rfl) (by simp [isiV, hq]) (by simp [isiV, hp]) (by simp [isiV, hp, hq]) (len_lst hp) (len_lst hq) (fun _ => idx_lst hp) (fun _ => idx_lst hq) hl hx
theorem same_dk (hk : 1 ≤ k) {p : Nat} {kvs : List (L2.Key × MV)} (hp : h[p]? = some (.dk kvs)) (hl : kvs.length ≤ 1000) (hi : ∀ kv ∈ kvs, ∃ i, kv.2 = MV.int i) : callM PP (k + 1) [] 18 [.ref p, .ref p] h = .ok (.bl true) h := by
  rw [c__law_same, show m__law_same = [_, _, _, _, _, _, _] from rfl]
  have o : isiOk h (.v (.ref p)) = true := by simp [isiOk, hp]
  have wb : isiV h (.v (.ref p)) .bool = false := by simp [isiV, hp] <;> rfl
  have wi : isiV h (.v (.ref p)) .int = false := by simp [isiV, hp] <;> rfl
  have ws : isiV h (.v (.ref p)) .str = false := by simp [isiV, hp] <;> rfl
  have wd : isiV h (.v (.ref p)) .dict = true := by simp [isiV, hp]
  have wn : isT (.v (.ref p)) (.v .non) = some false := rfl
  have lc : evT ⟨callM PP k, glbP, []⟩ (.lc (.var 3) (.nm 3) (.e (.var 1)) [(.or (.cmp .NotIn (.var 3) (.var 0)) (.not (.call 18 [(.idx (.var 0) (.var 3)), (.idx (.var 1) (.var 3))])))] [("key", 3)]) [some (.ref p), some (.ref p), none, none] h = .ok (.t []) h := by
    rw [ev_lc (it := ⟨none, some p, kvs.map fun kv => keyV kv.1⟩) (g := fun _ => none)]
    · have : ∀ ys : List MV, ys.filterMap (fun _ => (none : Option MV)) = [] := fun ys => by simp
      rw [this]
    · have e1 : itOf h (.v (.ref p)) = some ⟨none, some p, kvs.map fun kv => keyV kv.1⟩ := by
        simp only [itOf, hp]; rw [if_pos (le_line hl)]
      have e2 : itE true [] h (.v (.ref p)) = some ⟨none, some p, kvs.map fun kv => keyV kv.1⟩ := by
        simp [itE, e1]
      simp only [x_lit, x_var, x_glb, x_tup, x_lst, x_dct, x_bin, x_neg, x_not, x_and, x_or, x_ite, x_cmp, x_chain, x_idx, x_slc, x_rev, x_isi, x_fn, x_mth, x_call, x_callk, x_src, evs, evTs, evO, evIfs, evE, y_asg, y_sub, y_aug, y_exp, y_ifs, y_ret, y_retN, y_pass, y_brk, y_cnt, y_rse, evSs, Res.bind_ok, Res.bind_exc, Res.bind_bad, Res.of_some, Res.of_none, settle_v, settle_t, Res.noX_ok, Res.st_ok, Res.st_exc, Res.st_bad, SR.then_next, SR.then_ret, SR.then_brk, SR.then_cnt, SR.then_exc, SR.then_bad, SR.out, List.getElem?_cons_zero, List.getElem?_cons_succ, List.set_cons_zero, List.set_cons_succ, bindT, bindTs, Option.bind_some, Option.bind_none, Option.map_some, Option.map_none, vOf, if_true, if_false, Bool.false_eq_true, Bool.not_true, Bool.not_false, List.map_cons, List.map_nil, wipeM, Ev.locked, reduceCtorEq, f1, tru, List.length_cons, List.length_nil, Nat.reduceAdd, Nat.zero_add, sz0, sz1, sz2, sz3, sz4, sz5, sz6, sz7, sz8, sz9, sz10, sz11, sz12, sz13, sz14, sz15, sz16, sz17, sz18, sz19, sz20, sz21, sz22, sz23, ME.isVar, e2]
    · rfl
    · intro x hx'
      obtain ⟨kv, m, rfl⟩ := List.mem_map.mp hx'
      obtain ⟨i, ei⟩ := getK_mem hi kv m
      have e1 : idxT h (.v (.ref p)) (keyV kv.1) = some (.int i) := by
        have : keyV kv.1 ≠ .non := by cases kv.1 <;> simp [keyV]
        simp only [idxT, hp, keyOf_keyV, Option.bind_some, ei]
      have e2 : inTV h (.v (keyV kv.1)) (.v (.ref p)) = some true := by
        simp only [inTV, inT, hp, keyOf_keyV, Option.map_some, ei]; rfl
      have e3 : callM PP k [p] 18 [.int i, .int i] h = .ok (.bl true) h := same_int hk
      simp only [x_lit, x_var, x_glb, x_tup, x_lst, x_dct, x_bin, x_neg, x_not, x_and, x_or, x_ite, x_cmp, x_chain, x_idx, x_slc, x_rev, x_isi, x_fn, x_mth, x_call, x_callk, x_src, evs, evTs, evO, evIfs, evE, y_asg, y_sub, y_aug, y_exp, y_ifs, y_ret, y_retN, y_pass, y_brk, y_cnt, y_rse, evSs, Res.bind_ok, Res.bind_exc, Res.bind_bad, Res.of_some, Res.of_none, settle_v, settle_t, Res.noX_ok, Res.st_ok, Res.st_exc, Res.st_bad, SR.then_next, SR.then_ret, SR.then_brk, SR.then_cnt, SR.then_exc, SR.then_bad, SR.out, List.getElem?_cons_zero, List.getElem?_cons_succ, List.set_cons_zero, List.set_cons_succ, bindT, bindTs, Option.bind_some, Option.bind_none, Option.map_some, Option.map_none, vOf, if_true, if_false, Bool.false_eq_true, Bool.not_true, Bool.not_false, List.map_cons, List.map_nil, wipeM, Ev.locked, reduceCtorEq, f1, tru, List.length_cons, List.length_nil, Nat.reduceAdd, Nat.zero_add, sz0, sz1, sz2, sz3, sz4, sz5, sz6, sz7, sz8, sz9, sz10, sz11, sz12, sz13, sz14, sz15, sz16, sz17, sz18, sz19, sz20, sz21, sz22, sz23, cmpT, e1, e2, e3]
  generalize (ME.lc (.var 3) (.nm 3) (.e (.var 1)) [(.or (.cmp .NotIn (.var 3) (.var 0)) (.not (.call 18 [(.idx (.var 0) (.var 3)), (.idx (.var 1) (.var 3))])))] [("key", 3)]) = m at lc ⊢
  have ln : fnT h .len [.v (.ref p)] = some (.v (.int kvs.length)) := by simp [fnT, f1, lenT, hp]
  rw [seq_next (σ' := [some (.ref p), some (.ref p), none, none]) (h' := h) (by simp only [x_lit, x_var, x_glb, x_tup, x_lst, x_dct, x_bin, x_neg, x_not, x_and, x_or, x_ite, x_cmp, x_chain, x_idx, x_slc, x_rev, x_isi, x_fn, x_mth, x_call, x_callk, x_src, evs, evTs, evO, evIfs, evE, y_asg, y_sub, y_aug, y_exp, y_ifs, y_ret, y_retN, y_pass, y_brk, y_cnt, y_rse, evSs, Res.bind_ok, Res.bind_exc, Res.bind_bad, Res.of_some, Res.of_none, settle_v, settle_t, Res.noX_ok, Res.st_ok, Res.st_exc, Res.st_bad, SR.then_next, SR.then_ret, SR.then_brk, SR.then_cnt, SR.then_exc, SR.then_bad, SR.out, List.getElem?_cons_zero, List.getElem?_cons_succ, List.set_cons_zero, List.set_cons_succ, bindT, bindTs, Option.bind_some, Option.bind_none, Option.map_some, Option.map_none, vOf, if_true, if_false, Bool.false_eq_true, Bool.not_true, Bool.not_false, List.map_cons, List.map_nil, wipeM, Ev.locked, reduceCtorEq, f1, tru, List.length_cons, List.length_nil, Nat.reduceAdd, Nat.zero_add, sz0, sz1, sz2, sz3, sz4, sz5, sz6, sz7, sz8, sz9, sz10, sz11, sz12, sz13, sz14, sz15, sz16, sz17, sz18, sz19, sz20, sz21, sz22, sz23, o, cmpT, wn, wb, List.any_cons, List.any_nil, Bool.or_false]),
    seq_next (σ' := [some (.ref p), some (.ref p), none, none]) (h' := h) (by simp only [x_lit, x_var, x_glb, x_tup, x_lst, x_dct, x_bin, x_neg, x_not, x_and, x_or, x_ite, x_cmp, x_chain, x_idx, x_slc, x_rev, x_isi, x_fn, x_mth, x_call, x_callk, x_src, evs, evTs, evO, evIfs, evE, y_asg, y_sub, y_aug, y_exp, y_ifs, y_ret, y_retN, y_pass, y_brk, y_cnt, y_rse, evSs, Res.bind_ok, Res.bind_exc, Res.bind_bad, Res.of_some, Res.of_none, settle_v, settle_t, Res.noX_ok, Res.st_ok, Res.st_exc, Res.st_bad, SR.then_next, SR.then_ret, SR.then_brk, SR.then_cnt, SR.then_exc, SR.then_bad, SR.out, List.getElem?_cons_zero, List.getElem?_cons_succ, List.set_cons_zero, List.set_cons_succ, bindT, bindTs, Option.bind_some, Option.bind_none, Option.map_some, Option.map_none, vOf, if_true, if_false, Bool.false_eq_true, Bool.not_true, Bool.not_false, List.map_cons, List.map_nil, wipeM, Ev.locked, reduceCtorEq, f1, tru, List.length_cons, List.length_nil, Nat.reduceAdd, Nat.zero_add, sz0, sz1, sz2, sz3, sz4, sz5, sz6, sz7, sz8, sz9, sz10, sz11, sz12, sz13, sz14, sz15, sz16, sz17, sz18, sz19, sz20, sz21, sz22, sz23, o, wi, List.any_cons, List.any_nil, Bool.or_false]),
    seq_next (σ' := [some (.ref p), some (.ref p), none, none]) (h' := h) (by simp only [x_lit, x_var, x_glb, x_tup, x_lst, x_dct, x_bin, x_neg, x_not, x_and, x_or, x_ite, x_cmp, x_chain, x_idx, x_slc, x_rev, x_isi, x_fn, x_mth, x_call, x_callk, x_src, evs, evTs, evO, evIfs, evE, y_asg, y_sub, y_aug, y_exp, y_ifs, y_ret, y_retN, y_pass, y_brk, y_cnt, y_rse, evSs, Res.bind_ok, Res.bind_exc, Res.bind_bad, Res.of_some, Res.of_none, settle_v, settle_t, Res.noX_ok, Res.st_ok, Res.st_exc, Res.st_bad, SR.then_next, SR.then_ret, SR.then_brk, SR.then_cnt, SR.then_exc, SR.then_bad, SR.out, List.getElem?_cons_zero, List.getElem?_cons_succ, List.set_cons_zero, List.set_cons_succ, bindT, bindTs, Option.bind_some, Option.bind_none, Option.map_some, Option.map_none, vOf, if_true, if_false, Bool.false_eq_true, Bool.not_true, Bool.not_false, List.map_cons, List.map_nil, wipeM, Ev.locked, reduceCtorEq, f1, tru, List.length_cons, List.length_nil, Nat.reduceAdd, Nat.zero_add, sz0, sz1, sz2, sz3, sz4, sz5, sz6, sz7, sz8, sz9, sz10, sz11, sz12, sz13, sz14, sz15, sz16, sz17, sz18, sz19, sz20, sz21, sz22, sz23, o, ws, List.any_cons, List.any_nil, Bool.or_false])]
  rw [seq_ret (v := .bl true) (h' := h) (by simp only [x_lit, x_var, x_glb, x_tup, x_lst, x_dct, x_bin, x_neg, x_not, x_and, x_or, x_ite, x_cmp, x_chain, x_idx, x_slc, x_rev, x_isi, x_fn, x_mth, x_call, x_callk, x_src, evs, evTs, evO, evIfs, evE, y_asg, y_sub, y_aug, y_exp, y_ifs, y_ret, y_retN, y_pass, y_brk, y_cnt, y_rse, evSs, Res.bind_ok, Res.bind_exc, Res.bind_bad, Res.of_some, Res.of_none, settle_v, settle_t, Res.noX_ok, Res.st_ok, Res.st_exc, Res.st_bad, SR.then_next, SR.then_ret, SR.then_brk, SR.then_cnt, SR.then_exc, SR.then_bad, SR.out, List.getElem?_cons_zero, List.getElem?_cons_succ, List.set_cons_zero, List.set_cons_succ, bindT, bindTs, Option.bind_some, Option.bind_none, Option.map_some, Option.map_none, vOf, if_true, if_false, Bool.false_eq_true, Bool.not_true, Bool.not_false, List.map_cons, List.map_nil, wipeM, Ev.locked, reduceCtorEq, f1, tru, List.length_cons, List.length_nil, Nat.reduceAdd, Nat.zero_add, sz0, sz1, sz2, sz3, sz4, sz5, sz6, sz7, sz8, sz9, sz10, sz11, sz12, sz13, sz14, sz15, sz16, sz17, sz18, sz19, sz20, sz21, sz22, sz23, o, wd, ln, lc, cmpT, eqT_int, eqT_nil, decide_true, List.isEmpty_nil, List.any_cons, List.any_nil, Bool.or_false]), out_ret]
theorem s_same : ∀ (n k : Nat) (v : MV) (B : Nat), D h B n v → B ≤ 1000 → n + 1 ≤ k → callM PP k [] 18 [v, v] h = .ok (.bl true) h
  | 0, k, v, B, d, hB, hk => by
    cases v with
    | tup xs => exact d.elim
    | ref p => exact d.elim
    | _ => exact same_flat (by omega) (fun _ e => nomatch e) (fun _ e => nomatch e)
  | n + 1, k, v, B, d, hB, hk => by
    obtain ⟨k, rfl⟩ : ∃ j, k = j + 1 := ⟨k - 1, by omega⟩
    cases v with
    | tup xs => exact same_tup (by have := d.1; omega) fun x hx => s_same n k x B (d.2 x hx) hB (by omega)
    | ref p =>
      rcases d with ⟨xs, e, l, hx⟩ | ⟨kvs, e, l, hx⟩
      · exact same_lst e e (by omega) fun x hm => s_same n k x B (hx x hm) hB (by omega)
      · exact same_dk (by omega) e (by omega) hx
    | _ => exact same_flat (by omega) (fun _ e => nomatch e) (fun _ e => nomatch e)
end
end MP.Q

set_option linter.all false
set_option autoImplicit false
set_option maxRecDepth 100000
namespace MP.Q
open PySem PyProof.Rows L2
theorem D.le {h : MH} {B B' : Nat} (hB : B ≤ B') : ∀ {n : Nat} {v : MV}, D h B n v → D h B' n v
  | 0, v, d => by
    cases v with
    | tup xs => exact d.elim
    | ref p => exact d.elim
    | _ => exact trivial
  | n + 1, v, d => by
    cases v with
    | tup xs => exact ⟨Nat.le_trans d.1 hB, fun x hx => (d.2 x hx).le hB⟩
    | ref p =>
      rcases d with ⟨xs, e, l, hx⟩ | ⟨kvs, e, l, hx⟩
      · exact .inl ⟨xs, e, Nat.le_trans l hB, fun x hm => (hx x hm).le hB⟩
      · exact .inr ⟨kvs, e, Nat.le_trans l hB, hx⟩
    | _ => exact trivial
theorem D.pre {h h' : MH} {B : Nat} (pr : Pre h h') : ∀ {n : Nat} {v : MV}, D h B n v → D h' B n v
  | 0, v, d => by
    cases v with
    | tup xs => exact d.elim
    | ref p => exact d.elim
    | _ => exact trivial
  | n + 1, v, d => by
    cases v with
    | tup xs => exact ⟨d.1, fun x hx => (d.2 x hx).pre pr⟩
    | ref p =>
      rcases d with ⟨xs, e, l, hx⟩ | ⟨kvs, e, l, hx⟩
      · exact .inl ⟨xs, pr _ _ e, l, fun x hm => (hx x hm).pre pr⟩
      · exact .inr ⟨kvs, pr _ _ e, l, hx⟩
    | _ => exact trivial
theorem D.up {h : MH} {B : Nat} : ∀ {n : Nat} {v : MV}, D h B n v → D h B (n + 1) v
  | 0, v, d => by
    cases v with
    | tup xs => exact d.elim
    | ref p => exact d.elim
    | _ => exact trivial
  | n + 1, v, d => by
    cases v with
    | tup xs => exact ⟨d.1, fun x hx => (d.2 x hx).up⟩
    | ref p =>
      rcases d with ⟨xs, e, l, hx⟩ | ⟨kvs, e, l, hx⟩
      · exact .inl ⟨xs, e, l, fun x hm => (hx x hm).up⟩
      · exact .inr ⟨kvs, e, l, hx⟩
    | _ => exact trivial
theorem D.okn {h : MH} {B : Nat} (hB : B ≤ 1000) : ∀ {m n : Nat} {v : MV}, D h B m v → okn h n v = true
  | 0, n, v, d => by
    cases v with
    | tup xs => exact d.elim
    | ref p => exact d.elim
    | _ => cases n <;> rfl
  | m + 1, 0, v, d => D.okv d
  | m + 1, n + 1, v, d => by
    cases v with
    | tup xs =>
      simp only [MP.Q.okn, Bool.and_eq_true, decide_eq_true_eq, List.all_eq_true]
      exact ⟨Nat.le_trans d.1 hB, fun x hx => (d.2 x hx).okn hB⟩
    | _ => exact D.okv d
/-- lists and dicts may have grown by one -/
structure Gr (v : MV) (h h' : MH) : Prop where
  at' : ∀ (i : Nat) (o : MO), v ≠ .ref i → h[i]? = some o → h'[i]? = some o
  lst : ∀ (i : Nat) (xs : List MV), h[i]? = some (.lst xs) → ∃ ys, h'[i]? = some (.lst (xs ++ ys)) ∧ ys.length ≤ 1 ∧ ∀ y ∈ ys, ∃ z, y = MV.str z
  dk : ∀ (i : Nat) (kvs : List (L2.Key × MV)), h[i]? = some (.dk kvs) → ∃ kvs', h'[i]? = some (.dk kvs') ∧ kvs'.length ≤ kvs.length + 1 ∧ ∀ kv ∈ kvs', kv ∈ kvs ∨ ∃ i, kv.2 = .int i
theorem Gr.refl (v : MV) (h : MH) : Gr v h h := ⟨fun _ _ _ e => e, fun i xs e => ⟨[], by simpa using e, by simp, by simp⟩, fun i kvs e => ⟨kvs, e, by omega, fun kv m => .inl m⟩⟩
theorem Gr.preL {v : MV} {h h1 h2 : MH} (x : Pre h h1) (y : Gr v h1 h2) : Gr v h h2 := ⟨fun i o n e => y.at' i o n (x _ _ e), fun i xs e => y.lst i xs (x _ _ e), fun i xs e => y.dk i xs (x _ _ e)⟩
theorem Gr.preR {v : MV} {h h1 h2 : MH} (x : Gr v h h1) (y : Pre h1 h2) : Gr v h h2 := ⟨fun i o n e => y _ _ (x.at' i o n e), fun i xs e => let ⟨ys, a, b⟩ := x.lst i xs e; ⟨ys, y _ _ a, b⟩, fun i xs e => let ⟨ys, a, b⟩ := x.dk i xs e; ⟨ys, y _ _ a, b⟩⟩
theorem Gr.ofPre {v : MV} {h h1 : MH} (x : Pre h h1) : Gr v h h1 := (Gr.refl v h).preR x
theorem D.gr {w : MV} {h h' : MH} {B : Nat} (g : Gr w h h') : ∀ {n : Nat} {v : MV}, D h B n v → D h' (B + 1) n v
  | 0, v, d => by
    cases v with
    | tup xs => exact d.elim
    | ref p => exact d.elim
    | _ => exact trivial
  | n + 1, v, d => by
    cases v with
    | tup xs => exact ⟨by have := d.1; omega, fun x hx => (d.2 x hx).gr g⟩
    | ref p =>
      rcases d with ⟨xs, e, l, hx⟩ | ⟨kvs, e, l, hx⟩
      · obtain ⟨ys, e', l', s⟩ := g.lst p xs e
        refine .inl ⟨_, e', by rw [List.length_append]; omega, fun x hm => ?_⟩
        rcases List.mem_append.mp hm with m | m
        · exact (hx x m).gr g
        · obtain ⟨z, rfl⟩ := s x m
          cases n <;> exact trivial
      · obtain ⟨kvs', e', l', s⟩ := g.dk p kvs e
        refine .inr ⟨_, e', by omega, fun kv hm => ?_⟩
        rcases s kv hm with m | m
        · exact hx kv m
        · exact m
    | _ => exact trivial
section
variable {k : Nat} {L : List Nat} {h : MH} {S : SubT} {E : Ev}
theorem m_append_v {p : Nat} {xs : List MV} {y : MV} (hp : h[p]? = some (.lst xs)) (hl : xs.length ≤ 1000) : mthT h .append (.ref p) [.v y] = some (.v .non, h.set p (.lst (xs ++ [y]))) := by
  have e : mthT h .append (.ref p) [.v y] = appendT h (.ref p) [.v y] := rfl
  have z : xs.length < sizeLine := Nat.lt_of_le_of_lt hl (by decide)
  rw [e, appendT, show argV [TV.v y] = some y from rfl, Option.bind_some]
  simp only [atL, hp]
  rw [if_pos z]
theorem putKV_len {kvs : List (L2.Key × MV)} {a : L2.Key} {v : MV} : (putKV kvs a v).length ≤ kvs.length + 1 := by
  unfold putKV
  split <;> simp
theorem putKV_mem {kvs : List (L2.Key × MV)} {a : L2.Key} {i : Int} {kv : L2.Key × MV} (m : kv ∈ putKV kvs a (.int i)) : kv ∈ kvs ∨ ∃ i, kv.2 = MV.int i := by
  unfold putKV at m
  split at m
  · obtain ⟨x, hx, rfl⟩ := List.mem_map.mp m
    split
    · exact .inr ⟨i, rfl⟩
    · exact .inl hx
  · rcases List.mem_append.mp m with m | m
    · exact .inl m
    · simp at m; subst m; exact .inr ⟨i, rfl⟩
theorem s_grown (hk : 1 ≤ k) {B n : Nat} {v : MV} (d : D h B n v) (hB : B ≤ 999) : ∃ h', callM PP k [] 19 [v] h = .ok .non h' ∧ Gr v h h' := by
  obtain ⟨k, rfl⟩ : ∃ j, k = j + 1 := ⟨k - 1, by omega⟩
  rw [c__law_grown, show m__law_grown = [_, _] from rfl]
  have flat : ∀ v : MV, okv h v = true → isiV h (.v v) .list = false → isiV h (.v v) .dict = false → (evSs subP ⟨callM PP k, glbP, []⟩ [.ifs (.isi (.var 0) [.list] true) [.exp (.mth .append (.var 0) [(.lit (.str "more"))])] [], .ifs (.isi (.var 0) [.dict] true) [.sub (.var 0) (.lit (.str "more")) (.lit (.int 1))] []] [some v] h).out = .ok .non h := by
    intro v o a b
    unfold okv at o
    rw [seq_next (σ' := [some v]) (h' := h) (by simp only [x_lit, x_var, x_glb, x_tup, x_lst, x_dct, x_bin, x_neg, x_not, x_and, x_or, x_ite, x_cmp, x_chain, x_idx, x_slc, x_rev, x_isi, x_fn, x_mth, x_call, x_callk, x_src, evs, evTs, evO, evIfs, evE, y_asg, y_sub, y_aug, y_exp, y_ifs, y_ret, y_retN, y_pass, y_brk, y_cnt, y_rse, evSs, Res.bind_ok, Res.bind_exc, Res.bind_bad, Res.of_some, Res.of_none, settle_v, settle_t, Res.noX_ok, Res.st_ok, Res.st_exc, Res.st_bad, SR.then_next, SR.then_ret, SR.then_brk, SR.then_cnt, SR.then_exc, SR.then_bad, SR.out, List.getElem?_cons_zero, List.getElem?_cons_succ, List.set_cons_zero, List.set_cons_succ, bindT, bindTs, Option.bind_some, Option.bind_none, Option.map_some, Option.map_none, vOf, if_true, if_false, Bool.false_eq_true, Bool.not_true, Bool.not_false, List.map_cons, List.map_nil, wipeM, Ev.locked, reduceCtorEq, f1, tru, List.length_cons, List.length_nil, Nat.reduceAdd, Nat.zero_add, sz0, sz1, sz2, sz3, sz4, sz5, sz6, sz7, sz8, sz9, sz10, sz11, sz12, sz13, sz14, sz15, sz16, sz17, sz18, sz19, sz20, sz21, sz22, sz23, o, a, List.any_cons, List.any_nil, Bool.or_false]), seq_next (σ' := [some v]) (h' := h) (by simp only [x_lit, x_var, x_glb, x_tup, x_lst, x_dct, x_bin, x_neg, x_not, x_and, x_or, x_ite, x_cmp, x_chain, x_idx, x_slc, x_rev, x_isi, x_fn, x_mth, x_call, x_callk, x_src, evs, evTs, evO, evIfs, evE, y_asg, y_sub, y_aug, y_exp, y_ifs, y_ret, y_retN, y_pass, y_brk, y_cnt, y_rse, evSs, Res.bind_ok, Res.bind_exc, Res.bind_bad, Res.of_some, Res.of_none, settle_v, settle_t, Res.noX_ok, Res.st_ok, Res.st_exc, Res.st_bad, SR.then_next, SR.then_ret, SR.then_brk, SR.then_cnt, SR.then_exc, SR.then_bad, SR.out, List.getElem?_cons_zero, List.getElem?_cons_succ, List.set_cons_zero, List.set_cons_succ, bindT, bindTs, Option.bind_some, Option.bind_none, Option.map_some, Option.map_none, vOf, if_true, if_false, Bool.false_eq_true, Bool.not_true, Bool.not_false, List.map_cons, List.map_nil, wipeM, Ev.locked, reduceCtorEq, f1, tru, List.length_cons, List.length_nil, Nat.reduceAdd, Nat.zero_add, sz0, sz1, sz2, sz3, sz4, sz5, sz6, sz7, sz8, sz9, sz10, sz11, sz12, sz13, sz14, sz15, sz16, sz17, sz18, sz19, sz20, sz21, sz22, sz23, o, b, List.any_cons, List.any_nil, Bool.or_false]), seq_nil, out_next]
  have okv' := d.okv
  cases v with
  | ref p =>
    cases n with
    | zero => exact d.elim
    | succ n =>
      have o : isiOk h (.v (.ref p)) = true := okv'
      rcases d with ⟨xs, e, l, hx⟩ | ⟨kvs, e, l, hx⟩
      · have lt := (List.getElem?_eq_some_iff.mp e).1
        have a1 : isiV h (.v (.ref p)) .list = true := by simp [isiV, e]
        have hm : mOk h .append (.ref p) = true := by simp [mOk, mOk.isL, lst_ref e]
        have me := m_append_v (y := .str "more") e (by omega)
        generalize eh : h.set p (.lst (xs ++ [.str "more"])) = h2 at me
        have e2 : h2[p]? = some (.lst (xs ++ [.str "more"])) := by rw [← eh]; exact List.getElem?_set_self lt
        have ne : ∀ i : Nat, p ≠ i → h2[i]? = h[i]? := fun i q => by rw [← eh]; exact List.getElem?_set_ne q
        have a2 : isiV h2 (.v (.ref p)) .dict = false := by simp [isiV, e2] <;> rfl
        have o2 : isiOk h2 (.v (.ref p)) = true := by simp [isiOk, e2]
        refine ⟨h2, ?_, ⟨fun i x n' e' => by rw [ne i (fun z => n' (by rw [z]))]; exact e', fun i ys e' => ?_, fun i ys e' => ?_⟩⟩
        · rw [seq_next (σ' := [some (.ref p)]) (h' := h2) (by simp only [x_lit, x_var, x_glb, x_tup, x_lst, x_dct, x_bin, x_neg, x_not, x_and, x_or, x_ite, x_cmp, x_chain, x_idx, x_slc, x_rev, x_isi, x_fn, x_mth, x_call, x_callk, x_src, evs, evTs, evO, evIfs, evE, y_asg, y_sub, y_aug, y_exp, y_ifs, y_ret, y_retN, y_pass, y_brk, y_cnt, y_rse, evSs, Res.bind_ok, Res.bind_exc, Res.bind_bad, Res.of_some, Res.of_none, settle_v, settle_t, Res.noX_ok, Res.st_ok, Res.st_exc, Res.st_bad, SR.then_next, SR.then_ret, SR.then_brk, SR.then_cnt, SR.then_exc, SR.then_bad, SR.out, List.getElem?_cons_zero, List.getElem?_cons_succ, List.set_cons_zero, List.set_cons_succ, bindT, bindTs, Option.bind_some, Option.bind_none, Option.map_some, Option.map_none, vOf, if_true, if_false, Bool.false_eq_true, Bool.not_true, Bool.not_false, List.map_cons, List.map_nil, wipeM, Ev.locked, reduceCtorEq, f1, tru, List.length_cons, List.length_nil, Nat.reduceAdd, Nat.zero_add, sz0, sz1, sz2, sz3, sz4, sz5, sz6, sz7, sz8, sz9, sz10, sz11, sz12, sz13, sz14, sz15, sz16, sz17, sz18, sz19, sz20, sz21, sz22, sz23, o, a1, hm, me, List.any_cons, List.any_nil, Bool.or_false]), seq_next (σ' := [some (.ref p)]) (h' := h2) (by simp only [x_lit, x_var, x_glb, x_tup, x_lst, x_dct, x_bin, x_neg, x_not, x_and, x_or, x_ite, x_cmp, x_chain, x_idx, x_slc, x_rev, x_isi, x_fn, x_mth, x_call, x_callk, x_src, evs, evTs, evO, evIfs, evE, y_asg, y_sub, y_aug, y_exp, y_ifs, y_ret, y_retN, y_pass, y_brk, y_cnt, y_rse, evSs, Res.bind_ok, Res.bind_exc, Res.bind_bad, Res.of_some, Res.of_none, settle_v, settle_t, Res.noX_ok, Res.st_ok, Res.st_exc, Res.st_bad, SR.then_next, SR.then_ret, SR.then_brk, SR.then_cnt, SR.then_exc, SR.then_bad, SR.out, List.getElem?_cons_zero, List.getElem?_cons_succ, List.set_cons_zero, List.set_cons_succ, bindT, bindTs, Option.bind_some, Option.bind_none, Option.map_some, Option.map_none, vOf, if_true, if_false, Bool.false_eq_true, Bool.not_true, Bool.not_false, List.map_cons, List.map_nil, wipeM, Ev.locked, reduceCtorEq, f1, tru, List.length_cons, List.length_nil, Nat.reduceAdd, Nat.zero_add, sz0, sz1, sz2, sz3, sz4, sz5, sz6, sz7, sz8, sz9, sz10, sz11, sz12, sz13, sz14, sz15, sz16, sz17, sz18, sz19, sz20, sz21, sz22, sz23, o2, a2, List.any_cons, List.any_nil, Bool.or_false]), seq_nil, out_next]
        · by_cases q : p = i
          · subst q
            rw [e] at e'; cases e'
            exact ⟨[.str "more"], e2, by simp, by simp⟩
          · exact ⟨[], by rw [ne i q]; simpa using e', by simp, by simp⟩
        · by_cases q : p = i
          · subst q; rw [e] at e'; cases e'
          · exact ⟨ys, by rw [ne i q]; exact e', by omega, fun kv m => .inl m⟩
      · have lt := (List.getElem?_eq_some_iff.mp e).1
        have a1 : isiV h (.v (.ref p)) .list = false := by simp [isiV, e] <;> rfl
        have a2 : isiV h (.v (.ref p)) .dict = true := by simp [isiV, e]
        have z : kvs.length < sizeLine := Nat.lt_of_le_of_lt (show kvs.length ≤ 1000 by omega) (by decide)
        have me : setItT [] h (.ref p) (.str "more") (.int 1) = some (h.set p (.dk (putKV kvs (.inr "more") (.int 1)))) := by
          simp only [setItT, e, keyOf, Option.bind_some]
          rw [if_neg (by simp [z])]
        generalize eh : h.set p (.dk (putKV kvs (.inr "more") (.int 1))) = h2 at me
        have e2 : h2[p]? = some (.dk (putKV kvs (.inr "more") (.int 1))) := by rw [← eh]; exact List.getElem?_set_self lt
        have ne : ∀ i : Nat, p ≠ i → h2[i]? = h[i]? := fun i q => by rw [← eh]; exact List.getElem?_set_ne q
        refine ⟨h2, ?_, ⟨fun i x n' e' => by rw [ne i (fun z => n' (by rw [z]))]; exact e', fun i ys e' => ?_, fun i ys e' => ?_⟩⟩
        · rw [seq_next (σ' := [some (.ref p)]) (h' := h) (by simp only [x_lit, x_var, x_glb, x_tup, x_lst, x_dct, x_bin, x_neg, x_not, x_and, x_or, x_ite, x_cmp, x_chain, x_idx, x_slc, x_rev, x_isi, x_fn, x_mth, x_call, x_callk, x_src, evs, evTs, evO, evIfs, evE, y_asg, y_sub, y_aug, y_exp, y_ifs, y_ret, y_retN, y_pass, y_brk, y_cnt, y_rse, evSs, Res.bind_ok, Res.bind_exc, Res.bind_bad, Res.of_some, Res.of_none, settle_v, settle_t, Res.noX_ok, Res.st_ok, Res.st_exc, Res.st_bad, SR.then_next, SR.then_ret, SR.then_brk, SR.then_cnt, SR.then_exc, SR.then_bad, SR.out, List.getElem?_cons_zero, List.getElem?_cons_succ, List.set_cons_zero, List.set_cons_succ, bindT, bindTs, Option.bind_some, Option.bind_none, Option.map_some, Option.map_none, vOf, if_true, if_false, Bool.false_eq_true, Bool.not_true, Bool.not_false, List.map_cons, List.map_nil, wipeM, Ev.locked, reduceCtorEq, f1, tru, List.length_cons, List.length_nil, Nat.reduceAdd, Nat.zero_add, sz0, sz1, sz2, sz3, sz4, sz5, sz6, sz7, sz8, sz9, sz10, sz11, sz12, sz13, sz14, sz15, sz16, sz17, sz18, sz19, sz20, sz21, sz22, sz23, o, a1, List.any_cons, List.any_nil, Bool.or_false]), seq_next (σ' := [some (.ref p)]) (h' := h2) (by simp only [x_lit, x_var, x_glb, x_tup, x_lst, x_dct, x_bin, x_neg, x_not, x_and, x_or, x_ite, x_cmp, x_chain, x_idx, x_slc, x_rev, x_isi, x_fn, x_mth, x_call, x_callk, x_src, evs, evTs, evO, evIfs, evE, y_asg, y_sub, y_aug, y_exp, y_ifs, y_ret, y_retN, y_pass, y_brk, y_cnt, y_rse, evSs, Res.bind_ok, Res.bind_exc, Res.bind_bad, Res.of_some, Res.of_none, settle_v, settle_t, Res.noX_ok, Res.st_ok, Res.st_exc, Res.st_bad, SR.then_next, SR.then_ret, SR.then_brk, SR.then_cnt, SR.then_exc, SR.then_bad, SR.out, List.getElem?_cons_zero, List.getElem?_cons_succ, List.set_cons_zero, List.set_cons_succ, bindT, bindTs, Option.bind_some, Option.bind_none, Option.map_some, Option.map_none, vOf, if_true, if_false, Bool.false_eq_true, Bool.not_true, Bool.not_false, List.map_cons, List.map_nil, wipeM, Ev.locked, reduceCtorEq, f1, tru, List.length_cons, List.length_nil, Nat.reduceAdd, Nat.zero_add, sz0, sz1, sz2, sz3, sz4, sz5, sz6, sz7, sz8, sz9, sz10, sz11, sz12, sz13, sz14, sz15, sz16, sz17, sz18, sz19, sz20, sz21, sz22, sz23, o, a2, me, List.any_cons, List.any_nil, Bool.or_false]), seq_nil, out_next]
        · by_cases q : p = i
          · subst q; rw [e] at e'; cases e'
          · exact ⟨[], by rw [ne i q]; simpa using e', by simp, by simp⟩
        · by_cases q : p = i
          · subst q
            rw [e] at e'; cases e'
            exact ⟨_, e2, putKV_len, fun kv m => putKV_mem m⟩
          · exact ⟨ys, by rw [ne i q]; exact e', by omega, fun kv m => .inl m⟩
  | _ => exact ⟨h, flat _ okv' rfl rfl, Gr.refl _ _⟩
theorem s_refusal (hk : 8 ≤ k) {B n q : Nat} {w : Str} {v : MV} (d : D h B n v) (hB : B ≤ 998) (hn : n ≤ 5) (hq : h[q]? = some (.lst [.str w, v])) (nq : v ≠ .ref q) : ∃ h', callM PP k [] 31 [.ref q, .str w, v] h = .ok (.bl true) h' ∧ Gr v h h' := by
  obtain ⟨k, rfl⟩ : ∃ j, k = j + 1 := ⟨k - 1, by omega⟩
  obtain ⟨h', e, g⟩ := s_grown (k := k) (by omega) d (by omega)
  have hq' := g.at' q _ nq hq
  have s1 := s_same n k v B d (by omega) (by omega)
  have s2 := s_same n k v (B + 1) (d.gr g) (by omega) (by omega)
  have a0 : L2.atI [MV.str w, v] 0 = some (.str w) := atI_nat [MV.str w, v] 0
  have a1 : L2.atI [MV.str w, v] 1 = some v := atI_nat [MV.str w, v] 1
  refine ⟨h', ?_, g⟩
  rw [c__law_refusal, show m__law_refusal = [_, _, _] from rfl]
  rw [seq_next (σ' := [some (.ref q), some (.str w), some v]) (h' := h) (by simp only [x_lit, x_var, x_glb, x_tup, x_lst, x_dct, x_bin, x_neg, x_not, x_and, x_or, x_ite, x_cmp, x_chain, x_idx, x_slc, x_rev, x_isi, x_fn, x_mth, x_call, x_callk, x_src, evs, evTs, evO, evIfs, evE, y_asg, y_sub, y_aug, y_exp, y_ifs, y_ret, y_retN, y_pass, y_brk, y_cnt, y_rse, evSs, Res.bind_ok, Res.bind_exc, Res.bind_bad, Res.of_some, Res.of_none, settle_v, settle_t, Res.noX_ok, Res.st_ok, Res.st_exc, Res.st_bad, SR.then_next, SR.then_ret, SR.then_brk, SR.then_cnt, SR.then_exc, SR.then_bad, SR.out, List.getElem?_cons_zero, List.getElem?_cons_succ, List.set_cons_zero, List.set_cons_succ, bindT, bindTs, Option.bind_some, Option.bind_none, Option.map_some, Option.map_none, vOf, if_true, if_false, Bool.false_eq_true, Bool.not_true, Bool.not_false, List.map_cons, List.map_nil, wipeM, Ev.locked, reduceCtorEq, f1, tru, List.length_cons, List.length_nil, Nat.reduceAdd, Nat.zero_add, sz0, sz1, sz2, sz3, sz4, sz5, sz6, sz7, sz8, sz9, sz10, sz11, sz12, sz13, sz14, sz15, sz16, sz17, sz18, sz19, sz20, sz21, sz22, sz23, idx_lst hq, a0, a1, cmpT, eqT_str, decide_true, s1]),
    seq_next (σ' := [some (.ref q), some (.str w), some v]) (h' := h') (by simp only [x_lit, x_var, x_glb, x_tup, x_lst, x_dct, x_bin, x_neg, x_not, x_and, x_or, x_ite, x_cmp, x_chain, x_idx, x_slc, x_rev, x_isi, x_fn, x_mth, x_call, x_callk, x_src, evs, evTs, evO, evIfs, evE, y_asg, y_sub, y_aug, y_exp, y_ifs, y_ret, y_retN, y_pass, y_brk, y_cnt, y_rse, evSs, Res.bind_ok, Res.bind_exc, Res.bind_bad, Res.of_some, Res.of_none, settle_v, settle_t, Res.noX_ok, Res.st_ok, Res.st_exc, Res.st_bad, SR.then_next, SR.then_ret, SR.then_brk, SR.then_cnt, SR.then_exc, SR.then_bad, SR.out, List.getElem?_cons_zero, List.getElem?_cons_succ, List.set_cons_zero, List.set_cons_succ, bindT, bindTs, Option.bind_some, Option.bind_none, Option.map_some, Option.map_none, vOf, if_true, if_false, Bool.false_eq_true, Bool.not_true, Bool.not_false, List.map_cons, List.map_nil, wipeM, Ev.locked, reduceCtorEq, f1, tru, List.length_cons, List.length_nil, Nat.reduceAdd, Nat.zero_add, sz0, sz1, sz2, sz3, sz4, sz5, sz6, sz7, sz8, sz9, sz10, sz11, sz12, sz13, sz14, sz15, sz16, sz17, sz18, sz19, sz20, sz21, sz22, sz23, e]),
    seq_ret (v := .bl true) (h' := h') (by simp only [x_lit, x_var, x_glb, x_tup, x_lst, x_dct, x_bin, x_neg, x_not, x_and, x_or, x_ite, x_cmp, x_chain, x_idx, x_slc, x_rev, x_isi, x_fn, x_mth, x_call, x_callk, x_src, evs, evTs, evO, evIfs, evE, y_asg, y_sub, y_aug, y_exp, y_ifs, y_ret, y_retN, y_pass, y_brk, y_cnt, y_rse, evSs, Res.bind_ok, Res.bind_exc, Res.bind_bad, Res.of_some, Res.of_none, settle_v, settle_t, Res.noX_ok, Res.st_ok, Res.st_exc, Res.st_bad, SR.then_next, SR.then_ret, SR.then_brk, SR.then_cnt, SR.then_exc, SR.then_bad, SR.out, List.getElem?_cons_zero, List.getElem?_cons_succ, List.set_cons_zero, List.set_cons_succ, bindT, bindTs, Option.bind_some, Option.bind_none, Option.map_some, Option.map_none, vOf, if_true, if_false, Bool.false_eq_true, Bool.not_true, Bool.not_false, List.map_cons, List.map_nil, wipeM, Ev.locked, reduceCtorEq, f1, tru, List.length_cons, List.length_nil, Nat.reduceAdd, Nat.zero_add, sz0, sz1, sz2, sz3, sz4, sz5, sz6, sz7, sz8, sz9, sz10, sz11, sz12, sz13, sz14, sz15, sz16, sz17, sz18, sz19, sz20, sz21, sz22, sz23, idx_lst hq', a1, s2]), out_ret]
end
end MP.Q

set_option linter.all false
set_option autoImplicit false
set_option maxRecDepth 100000
namespace MP.Q
open PySem PyProof.Rows L2
section
variable {k : Nat} {L : List Nat} {h : MH} {S : SubT} {E : Ev}
theorem arr1 (v : MV) : arr [0] [] [v] = [v] := rfl
theorem y_tr' {body : List MSt} {hs : List MHd} {σ : MS} {r : SR} (e : evSs S E body σ h = r) (hr : ∀ c vs σ' h', r ≠ .exc c vs σ' h') : evS S E (.tr body hs) σ h = r := by
  rw [y_tr, e]
  cases r with
  | exc c vs σ' h' => exact absurd rfl (hr c vs σ' h')
  | _ => rfl
theorem y_trx {body : List MSt} {hs : List MHd} {σ σ' : MS} {c : Nat} {vs : List MV} {h' : MH} (e : evSs S E body σ h = .exc c vs σ' h') : evS S E (.tr body hs) σ h = evH S E hs c vs σ' h' := by
  rw [y_tr, e]
def askB : List MSt := [.ifs (.cmp .Eq (.var 0) (.lit (.int 0))) [.ret (.lst [(.lit (.str "told")), (.ite (.var 2) (.callk 11 [] [0] [(.var 1)]) (.call 11 [(.var 1)]))])] [],
 .ret (.lst [(.lit (.str "told")), (.ite (.var 2) (.callk 13 [] [0] [(.var 1)]) (.call 13 [(.var 1)]))])]
def askH : List MHd := [.as 2 3 [.lit (.str "thread"), .fld 0], .as 1 3 [.lit (.str "text"), .fld 0], .hd 0 [.ret (.lst [(.lit (.str "other")), (.lit .non)])]]
theorem h_thread {v : MV} {σ : MS} (hl : 3 < σ.length) : evH subP E askH 2 [v] σ h = .ret (.ref h.length) (h ++ [.lst [.str "thread", v]]) := by
  have s : subP 2 2 = true := rfl
  rw [askH, evH, if_pos s, if_pos hl]
  rfl
theorem h_text {v : MV} {σ : MS} (hl : 3 < σ.length) : evH subP E askH 1 [v] σ h = .ret (.ref h.length) (h ++ [.lst [.str "text", v]]) := by
  have s : ¬ (subP 1 2 = true) := by decide
  have s' : subP 1 1 = true := rfl
  rw [askH, evH, if_neg s, evH, if_pos s', if_pos hl]
  rfl
theorem s_asked0 (hk : 7 ≤ k) {v : MV} {nm : Bool} (hv : okd h v = true) : callM PP k L 30 [.int 0, v, .bl nm] h = .ok (.ref h.length) (h ++ [.lst (if isThr v then [.str "told", .str (dotsV v)] else [.str "thread", v])]) := by
  obtain ⟨k, rfl⟩ : ∃ j, k = j + 1 := ⟨k - 1, by omega⟩
  rw [c__law_asked, show m__law_asked = [.tr askB askH] from rfl]
  have w := s_write_thread (k := k) (L := L) (by omega) hv
  cases e : isThr v with
  | true =>
    rw [e, if_pos rfl] at w
    have b : evSs subP ⟨callM PP k, glbP, L⟩ askB [some (.int 0), some v, some (.bl nm), none] h = .ret (.ref h.length) (h ++ [.lst [.str "told", .str (dotsV v)]]) := by
      rw [askB, seq_ret]
      cases nm <;> simp only [x_lit, x_var, x_glb, x_tup, x_lst, x_dct, x_bin, x_neg, x_not, x_and, x_or, x_ite, x_cmp, x_chain, x_idx, x_slc, x_rev, x_isi, x_fn, x_mth, x_call, x_callk, x_src, evs, evTs, evO, evIfs, evE, y_asg, y_sub, y_aug, y_exp, y_ifs, y_ret, y_retN, y_pass, y_brk, y_cnt, y_rse, evSs, Res.bind_ok, Res.bind_exc, Res.bind_bad, Res.of_some, Res.of_none, settle_v, settle_t, Res.noX_ok, Res.st_ok, Res.st_exc, Res.st_bad, SR.then_next, SR.then_ret, SR.then_brk, SR.then_cnt, SR.then_exc, SR.then_bad, SR.out, List.getElem?_cons_zero, List.getElem?_cons_succ, List.set_cons_zero, List.set_cons_succ, bindT, bindTs, Option.bind_some, Option.bind_none, Option.map_some, Option.map_none, vOf, if_true, if_false, Bool.false_eq_true, Bool.not_true, Bool.not_false, List.map_cons, List.map_nil, wipeM, Ev.locked, reduceCtorEq, f1, tru, List.length_cons, List.length_nil, Nat.reduceAdd, Nat.zero_add, sz0, sz1, sz2, sz3, sz4, sz5, sz6, sz7, sz8, sz9, sz10, sz11, sz12, sz13, sz14, sz15, sz16, sz17, sz18, sz19, sz20, sz21, sz22, sz23, cmpT, eqT_int, decide_true, arr1, w]
    rw [seq_ret (y_tr' b (fun _ _ _ _ e => nomatch e)), out_ret, if_pos rfl]
  | false =>
    rw [e, if_neg (by simp)] at w
    have b : evSs subP ⟨callM PP k, glbP, L⟩ askB [some (.int 0), some v, some (.bl nm), none] h = .exc 2 [v] [some (.int 0), some v, some (.bl nm), none] h := by
      rw [askB, seq_exc]
      cases nm <;> simp only [x_lit, x_var, x_glb, x_tup, x_lst, x_dct, x_bin, x_neg, x_not, x_and, x_or, x_ite, x_cmp, x_chain, x_idx, x_slc, x_rev, x_isi, x_fn, x_mth, x_call, x_callk, x_src, evs, evTs, evO, evIfs, evE, y_asg, y_sub, y_aug, y_exp, y_ifs, y_ret, y_retN, y_pass, y_brk, y_cnt, y_rse, evSs, Res.bind_ok, Res.bind_exc, Res.bind_bad, Res.of_some, Res.of_none, settle_v, settle_t, Res.noX_ok, Res.st_ok, Res.st_exc, Res.st_bad, SR.then_next, SR.then_ret, SR.then_brk, SR.then_cnt, SR.then_exc, SR.then_bad, SR.out, List.getElem?_cons_zero, List.getElem?_cons_succ, List.set_cons_zero, List.set_cons_succ, bindT, bindTs, Option.bind_some, Option.bind_none, Option.map_some, Option.map_none, vOf, if_true, if_false, Bool.false_eq_true, Bool.not_true, Bool.not_false, List.map_cons, List.map_nil, wipeM, Ev.locked, reduceCtorEq, f1, tru, List.length_cons, List.length_nil, Nat.reduceAdd, Nat.zero_add, sz0, sz1, sz2, sz3, sz4, sz5, sz6, sz7, sz8, sz9, sz10, sz11, sz12, sz13, sz14, sz15, sz16, sz17, sz18, sz19, sz20, sz21, sz22, sz23, cmpT, eqT_int, decide_true, arr1, w]
    rw [seq_ret ((y_trx b).trans (h_thread (by simp))), out_ret, if_neg (by simp)]
theorem s_asked1 (hk : 7 ≤ k) {v : MV} {nm : Bool} (hv : okv h v = true) (ok : ∀ z, v = .str z → tOk z = true) : callM PP k L 30 [.int 1, v, .bl nm] h = .ok (.ref h.length) (h ++ [.lst (if rdP v = .non then [.str "text", v] else [.str "told", rdP v])]) := by
  obtain ⟨k, rfl⟩ : ∃ j, k = j + 1 := ⟨k - 1, by omega⟩
  rw [c__law_asked, show m__law_asked = [.tr askB askH] from rfl]
  have w := s_read_thread (k := k) (L := L) (by omega) hv ok
  have n0 : decide ((1 : Int) = 0) = false := rfl
  have st0 : evS subP ⟨callM PP k, glbP, L⟩ (.ifs (.cmp .Eq (.var 0) (.lit (.int 0))) [.ret (.lst [(.lit (.str "told")), (.ite (.var 2) (.callk 11 [] [0] [(.var 1)]) (.call 11 [(.var 1)]))])] []) [some (.int 1), some v, some (.bl nm), none] h = .next [some (.int 1), some v, some (.bl nm), none] h := by
    simp only [x_lit, x_var, x_glb, x_tup, x_lst, x_dct, x_bin, x_neg, x_not, x_and, x_or, x_ite, x_cmp, x_chain, x_idx, x_slc, x_rev, x_isi, x_fn, x_mth, x_call, x_callk, x_src, evs, evTs, evO, evIfs, evE, y_asg, y_sub, y_aug, y_exp, y_ifs, y_ret, y_retN, y_pass, y_brk, y_cnt, y_rse, evSs, Res.bind_ok, Res.bind_exc, Res.bind_bad, Res.of_some, Res.of_none, settle_v, settle_t, Res.noX_ok, Res.st_ok, Res.st_exc, Res.st_bad, SR.then_next, SR.then_ret, SR.then_brk, SR.then_cnt, SR.then_exc, SR.then_bad, SR.out, List.getElem?_cons_zero, List.getElem?_cons_succ, List.set_cons_zero, List.set_cons_succ, bindT, bindTs, Option.bind_some, Option.bind_none, Option.map_some, Option.map_none, vOf, if_true, if_false, Bool.false_eq_true, Bool.not_true, Bool.not_false, List.map_cons, List.map_nil, wipeM, Ev.locked, reduceCtorEq, f1, tru, List.length_cons, List.length_nil, Nat.reduceAdd, Nat.zero_add, sz0, sz1, sz2, sz3, sz4, sz5, sz6, sz7, sz8, sz9, sz10, sz11, sz12, sz13, sz14, sz15, sz16, sz17, sz18, sz19, sz20, sz21, sz22, sz23, cmpT, eqT_int, n0]
  by_cases e : rdP v = .non
  · rw [if_pos e] at w
    have b : evSs subP ⟨callM PP k, glbP, L⟩ askB [some (.int 1), some v, some (.bl nm), none] h = .exc 1 [v] [some (.int 1), some v, some (.bl nm), none] h := by
      rw [askB, seq_next st0, seq_exc]
      cases nm <;> simp only [x_lit, x_var, x_glb, x_tup, x_lst, x_dct, x_bin, x_neg, x_not, x_and, x_or, x_ite, x_cmp, x_chain, x_idx, x_slc, x_rev, x_isi, x_fn, x_mth, x_call, x_callk, x_src, evs, evTs, evO, evIfs, evE, y_asg, y_sub, y_aug, y_exp, y_ifs, y_ret, y_retN, y_pass, y_brk, y_cnt, y_rse, evSs, Res.bind_ok, Res.bind_exc, Res.bind_bad, Res.of_some, Res.of_none, settle_v, settle_t, Res.noX_ok, Res.st_ok, Res.st_exc, Res.st_bad, SR.then_next, SR.then_ret, SR.then_brk, SR.then_cnt, SR.then_exc, SR.then_bad, SR.out, List.getElem?_cons_zero, List.getElem?_cons_succ, List.set_cons_zero, List.set_cons_succ, bindT, bindTs, Option.bind_some, Option.bind_none, Option.map_some, Option.map_none, vOf, if_true, if_false, Bool.false_eq_true, Bool.not_true, Bool.not_false, List.map_cons, List.map_nil, wipeM, Ev.locked, reduceCtorEq, f1, tru, List.length_cons, List.length_nil, Nat.reduceAdd, Nat.zero_add, sz0, sz1, sz2, sz3, sz4, sz5, sz6, sz7, sz8, sz9, sz10, sz11, sz12, sz13, sz14, sz15, sz16, sz17, sz18, sz19, sz20, sz21, sz22, sz23, arr1, w]
    rw [seq_ret ((y_trx b).trans (h_text (by simp))), out_ret, if_pos e]
  · rw [if_neg e] at w
    generalize rdP v = r at *
    have b : evSs subP ⟨callM PP k, glbP, L⟩ askB [some (.int 1), some v, some (.bl nm), none] h = .ret (.ref h.length) (h ++ [.lst [.str "told", r]]) := by
      rw [askB, seq_next st0, seq_ret]
      cases nm <;> simp only [x_lit, x_var, x_glb, x_tup, x_lst, x_dct, x_bin, x_neg, x_not, x_and, x_or, x_ite, x_cmp, x_chain, x_idx, x_slc, x_rev, x_isi, x_fn, x_mth, x_call, x_callk, x_src, evs, evTs, evO, evIfs, evE, y_asg, y_sub, y_aug, y_exp, y_ifs, y_ret, y_retN, y_pass, y_brk, y_cnt, y_rse, evSs, Res.bind_ok, Res.bind_exc, Res.bind_bad, Res.of_some, Res.of_none, settle_v, settle_t, Res.noX_ok, Res.st_ok, Res.st_exc, Res.st_bad, SR.then_next, SR.then_ret, SR.then_brk, SR.then_cnt, SR.then_exc, SR.then_bad, SR.out, List.getElem?_cons_zero, List.getElem?_cons_succ, List.set_cons_zero, List.set_cons_succ, bindT, bindTs, Option.bind_some, Option.bind_none, Option.map_some, Option.map_none, vOf, if_true, if_false, Bool.false_eq_true, Bool.not_true, Bool.not_false, List.map_cons, List.map_nil, wipeM, Ev.locked, reduceCtorEq, f1, tru, List.length_cons, List.length_nil, Nat.reduceAdd, Nat.zero_add, sz0, sz1, sz2, sz3, sz4, sz5, sz6, sz7, sz8, sz9, sz10, sz11, sz12, sz13, sz14, sz15, sz16, sz17, sz18, sz19, sz20, sz21, sz22, sz23, arr1, w]
    rw [seq_ret (y_tr' b (fun _ _ _ _ e => nomatch e)), out_ret, if_neg e]
/-- a list of flat values against one of the same -/
theorem same_flats (hk : 2 ≤ k) {p q : Nat} {xs : List MV} (hp : h[p]? = some (.lst xs)) (hq : h[q]? = some (.lst xs)) (hl : xs.length ≤ 1000) {B n : Nat} (hx : ∀ x ∈ xs, D h B n x) (hB : B ≤ 1000) (hn : n + 2 ≤ k) : callM PP k [] 18 [.ref p, .ref q] h = .ok (.bl true) h := by
  obtain ⟨k, rfl⟩ : ∃ j, k = j + 1 := ⟨k - 1, by omega⟩
  exact same_lst hp hq hl fun x m => s_same n k x B (hx x m) hB (by omega)
end
end MP.Q

set_option linter.all false
set_option autoImplicit false
set_option maxRecDepth 100000
namespace MP.Q
open PySem PyProof.Rows L2
section
variable {k : Nat} {L : List Nat} {h : MH} {S : SubT} {E : Ev}
theorem ev_lc_inv {elt : ME} {tg : MT} {src : MI} {own : List (Str × Nat)} {σ : MS} {it : MIt} {h1 : MH} (I : List MV → MH → Prop) (P : MV → Prop) (e1 : evI E src σ h = .ok it h1) (e2 : it.lock = none) (i : I it.items h1)
    (hst : ∀ xs h, I xs h → it.still h = true)
    (hf : ∀ x xs h, I (x :: xs) h → ∃ σ2 y h', bindT tg x (wipeM σ (own.map (·.2))) = some σ2 ∧ (evT E elt σ2 h).bind settle = .ok y h' ∧ P y ∧ I xs h') :
    ∃ ys h2, evT E (.lc elt tg src [] own) σ h = .ok (.t ys) h2 ∧ (∀ y ∈ ys, P y) ∧ ys.length = it.items.length ∧ I [] h2 := by
  have el : E.locked it = E := by unfold Ev.locked; rw [e2]
  obtain ⟨ys, h2, a, b, c, d⟩ := loopC_inv (t := it) (f := fun x h => (Res.of h (bindT tg x (wipeM σ (own.map (·.2))))).bind fun σ2 h =>
      (evIfs (E.locked it) [] σ2 h).bind fun k h => if k then ((evT (E.locked it) elt σ2 h).bind settle).bind fun y h => .ok (some y) h else .ok none h) I P hst (fun x xs h i => by
    obtain ⟨σ2, y, h', a, b, c, d⟩ := hf x xs h i
    refine ⟨y, h', ?_, c, d⟩
    rw [a, Res.of_some, Res.bind_ok, evIfs, Res.bind_ok, if_pos rfl, el, b, Res.bind_ok]) it.items h1 i
  refine ⟨ys, h2, ?_, b, c, d⟩
  rw [evT, e1, Res.bind_ok, a]; rfl
theorem within3 {r : Int} (h : 0 ≤ r ∧ r < 3) : within 0 2 (.int r) = true := by
  simp only [within, Bool.and_eq_true, decide_eq_true_eq]; omega
theorem s_law_thread (hk : 2 ≤ k) {b : Nat} {n : Int} (hb : Bx h b n) (hn : n ≤ 100000) : ∃ th h', callM PP k L 23 [.ref b] h = .ok th h' ∧ isThr th = true ∧ Bx h' b (n + 4) ∧ Bo b h h' := by
  obtain ⟨k, rfl⟩ : ∃ j, k = j + 1 := ⟨k - 1, by omega⟩
  obtain ⟨r, h1, e1, ⟨r0, r1⟩, b1, o1⟩ := s_take (k := k) (L := L) (by omega) hb (by omega) (many := 4) (by omega) (by omega)
  have il : (rngI 0 r).length ≤ 3 := by simp [rngI]; omega
  obtain ⟨ys, h2, e2, py, ly, i2⟩ := ev_lc_inv (E := ⟨callM PP k, glbP, L⟩) (h := h) (elt := .call 16 [(.var 0), (.lit (.int 3))]) (tg := .nm 1) (src := .rng [(.call 16 [(.var 0), (.lit (.int 4))])]) (own := [("turn", 1)]) (σ := [some (.ref b), none]) (it := ⟨none, none, rngI 0 r⟩) (h1 := h1)
    (fun xs h => xs.length ≤ 3 ∧ Bx h b (n + 4 - xs.length) ∧ Bo b h1 h) (fun y => within 0 2 y = true)
    (ev_rng (by simp only [x_lit, x_var, x_glb, x_tup, x_lst, x_dct, x_bin, x_neg, x_not, x_and, x_or, x_ite, x_cmp, x_chain, x_idx, x_slc, x_rev, x_isi, x_fn, x_mth, x_call, x_callk, x_src, evs, evTs, evO, evIfs, evE, y_asg, y_sub, y_aug, y_exp, y_ifs, y_ret, y_retN, y_pass, y_brk, y_cnt, y_rse, evSs, Res.bind_ok, Res.bind_exc, Res.bind_bad, Res.of_some, Res.of_none, settle_v, settle_t, Res.noX_ok, Res.st_ok, Res.st_exc, Res.st_bad, SR.then_next, SR.then_ret, SR.then_brk, SR.then_cnt, SR.then_exc, SR.then_bad, SR.out, List.getElem?_cons_zero, List.getElem?_cons_succ, List.set_cons_zero, List.set_cons_succ, bindT, bindTs, Option.bind_some, Option.bind_none, Option.map_some, Option.map_none, vOf, if_true, if_false, Bool.false_eq_true, Bool.not_true, Bool.not_false, List.map_cons, List.map_nil, wipeM, Ev.locked, reduceCtorEq, f1, tru, List.length_cons, List.length_nil, Nat.reduceAdd, Nat.zero_add, sz0, sz1, sz2, sz3, sz4, sz5, sz6, sz7, sz8, sz9, sz10, sz11, sz12, sz13, sz14, sz15, sz16, sz17, sz18, sz19, sz20, sz21, sz22, sz23, e1]) (rngOf1 (b := r) (by omega))) rfl ⟨il, b1.le (by show n + 1 ≤ n + 4 - ((rngI 0 r).length : Int); omega), Bo.refl _ _⟩ (fun _ _ _ => rfl)
    (fun x xs h ⟨l, bb, oo⟩ => by
      rw [List.length_cons] at l bb
      obtain ⟨q, h3, e3, q3, b3, o3⟩ := s_take (k := k) (L := L) (by omega) bb (by omega) (many := 3) (by omega) (by omega)
      refine ⟨[some (.ref b), some x], .int q, h3, ?_, ?_, within3 q3, by omega, b3.le (by omega), oo.trans o3⟩
      · simp only [x_lit, x_var, x_glb, x_tup, x_lst, x_dct, x_bin, x_neg, x_not, x_and, x_or, x_ite, x_cmp, x_chain, x_idx, x_slc, x_rev, x_isi, x_fn, x_mth, x_call, x_callk, x_src, evs, evTs, evO, evIfs, evE, y_asg, y_sub, y_aug, y_exp, y_ifs, y_ret, y_retN, y_pass, y_brk, y_cnt, y_rse, evSs, Res.bind_ok, Res.bind_exc, Res.bind_bad, Res.of_some, Res.of_none, settle_v, settle_t, Res.noX_ok, Res.st_ok, Res.st_exc, Res.st_bad, SR.then_next, SR.then_ret, SR.then_brk, SR.then_cnt, SR.then_exc, SR.then_bad, SR.out, List.getElem?_cons_zero, List.getElem?_cons_succ, List.set_cons_zero, List.set_cons_succ, bindT, bindTs, Option.bind_some, Option.bind_none, Option.map_some, Option.map_none, vOf, if_true, if_false, Bool.false_eq_true, Bool.not_true, Bool.not_false, List.map_cons, List.map_nil, wipeM, Ev.locked, reduceCtorEq, f1, tru, List.length_cons, List.length_nil, Nat.reduceAdd, Nat.zero_add, sz0, sz1, sz2, sz3, sz4, sz5, sz6, sz7, sz8, sz9, sz10, sz11, sz12, sz13, sz14, sz15, sz16, sz17, sz18, sz19, sz20, sz21, sz22, sz23]
      · simp only [x_lit, x_var, x_glb, x_tup, x_lst, x_dct, x_bin, x_neg, x_not, x_and, x_or, x_ite, x_cmp, x_chain, x_idx, x_slc, x_rev, x_isi, x_fn, x_mth, x_call, x_callk, x_src, evs, evTs, evO, evIfs, evE, y_asg, y_sub, y_aug, y_exp, y_ifs, y_ret, y_retN, y_pass, y_brk, y_cnt, y_rse, evSs, Res.bind_ok, Res.bind_exc, Res.bind_bad, Res.of_some, Res.of_none, settle_v, settle_t, Res.noX_ok, Res.st_ok, Res.st_exc, Res.st_bad, SR.then_next, SR.then_ret, SR.then_brk, SR.then_cnt, SR.then_exc, SR.then_bad, SR.out, List.getElem?_cons_zero, List.getElem?_cons_succ, List.set_cons_zero, List.set_cons_succ, bindT, bindTs, Option.bind_some, Option.bind_none, Option.map_some, Option.map_none, vOf, if_true, if_false, Bool.false_eq_true, Bool.not_true, Bool.not_false, List.map_cons, List.map_nil, wipeM, Ev.locked, reduceCtorEq, f1, tru, List.length_cons, List.length_nil, Nat.reduceAdd, Nat.zero_add, sz0, sz1, sz2, sz3, sz4, sz5, sz6, sz7, sz8, sz9, sz10, sz11, sz12, sz13, sz14, sz15, sz16, sz17, sz18, sz19, sz20, sz21, sz22, sz23, e3])
  refine ⟨.tup ys, h2, ?_, ?_, i2.2.1.le (by simp), o1.trans i2.2.2⟩
  · rw [c__law_thread, show m__law_thread = [.ret (.fn .tuple [(.lc (.call 16 [(.var 0), (.lit (.int 3))]) (.nm 1) (.rng [(.call 16 [(.var 0), (.lit (.int 4))])]) [] [("turn", 1)])])] from rfl]
    generalize (ME.lc (.call 16 [(.var 0), (.lit (.int 3))]) (.nm 1) (.rng [(.call 16 [(.var 0), (.lit (.int 4))])]) [] [("turn", 1)]) = m at e2 ⊢
    have tt : fnT h2 .tuple [.t ys] = some (.v (.tup ys)) := rfl
    simp only [x_lit, x_var, x_glb, x_tup, x_lst, x_dct, x_bin, x_neg, x_not, x_and, x_or, x_ite, x_cmp, x_chain, x_idx, x_slc, x_rev, x_isi, x_fn, x_mth, x_call, x_callk, x_src, evs, evTs, evO, evIfs, evE, y_asg, y_sub, y_aug, y_exp, y_ifs, y_ret, y_retN, y_pass, y_brk, y_cnt, y_rse, evSs, Res.bind_ok, Res.bind_exc, Res.bind_bad, Res.of_some, Res.of_none, settle_v, settle_t, Res.noX_ok, Res.st_ok, Res.st_exc, Res.st_bad, SR.then_next, SR.then_ret, SR.then_brk, SR.then_cnt, SR.then_exc, SR.then_bad, SR.out, List.getElem?_cons_zero, List.getElem?_cons_succ, List.set_cons_zero, List.set_cons_succ, bindT, bindTs, Option.bind_some, Option.bind_none, Option.map_some, Option.map_none, vOf, if_true, if_false, Bool.false_eq_true, Bool.not_true, Bool.not_false, List.map_cons, List.map_nil, wipeM, Ev.locked, reduceCtorEq, f1, tru, List.length_cons, List.length_nil, Nat.reduceAdd, Nat.zero_add, sz0, sz1, sz2, sz3, sz4, sz5, sz6, sz7, sz8, sz9, sz10, sz11, sz12, sz13, sz14, sz15, sz16, sz17, sz18, sz19, sz20, sz21, sz22, sz23, e2, tt]
  · simp only [isThr, Bool.and_eq_true, decide_eq_true_eq, List.all_eq_true]
    refine ⟨?_, py⟩
    rw [ly]; exact il
theorem cutL_len (xs : List MV) (lo hi : Option Int) : (cutL xs lo hi).length ≤ xs.length := by
  unfold cutL
  rw [List.length_take, List.length_drop]; omega
theorem cutL_mem {xs : List MV} {lo hi : Option Int} {x : MV} (m : x ∈ cutL xs lo hi) : x ∈ xs := List.mem_of_mem_drop (List.mem_of_mem_take m)
theorem slc_tup {xs : List MV} {lo hi : Option Int} : slcT h (.v (.tup xs)) lo hi = some (.v (.tup (cutL xs lo hi))) := rfl
theorem lis_tup {xs : List MV} : fnT h .list [.v (.tup xs)] = some (.t xs) := rfl
theorem ne_not {α : Type} [DecidableEq α] {a b : α} (h : a ≠ b) : a ≠ b := h
/-- fresh things, not the box nor the list -/
def Fr (b p : Nat) (x : MV) : Prop := ∀ i, x = .ref i → i ≠ b ∧ i ≠ p
theorem D.tup1 {h : MH} {B n : Nat} {xs : List MV} (l : xs.length ≤ B) (hx : ∀ x ∈ xs, D h B n x) : D h B (n + 1) (.tup xs) := ⟨l, hx⟩
theorem Dint {h : MH} {B n : Nat} {i : Int} : D h B n (.int i) := by cases n <;> exact trivial
theorem thr_D {v : MV} (e : isThr v = true) {h : MH} {B n : Nat} (hB : 3 ≤ B) : D h B (n + 1) v := by
  obtain ⟨ns, rfl, l, -⟩ := thr_ints e
  refine ⟨by rw [List.length_map]; omega, fun x hx => ?_⟩
  obtain ⟨i, -, rfl⟩ := List.mem_map.mp hx
  exact Dint
theorem D.upk {h : MH} {B n : Nat} {v : MV} (d : D h B n v) : ∀ m, D h B (n + m) v
  | 0 => d
  | m + 1 => (d.upk m).up
theorem D.up' {h : MH} {B n m : Nat} {v : MV} (d : D h B n v) (l : n ≤ m) : D h B m v := by
  have := d.upk (m - n)
  rw [show n + (m - n) = m by omega] at this
  exact this
end
end MP.Q

set_option linter.all false
set_option autoImplicit false
set_option maxRecDepth 100000
namespace MP.Q
open PySem PyProof.Rows L2
section
variable {k : Nat} {L : List Nat} {h : MH} {S : SubT} {E : Ev}
theorem get_mid {h t : MH} {o : MO} : (h ++ [o] ++ t)[h.length]? = some o := by
  rw [List.append_assoc, List.getElem?_append_right (Nat.le_refl _)]; simp
theorem ev_lst {es : List ME} {σ : MS} {vs : List MV} {h' : MH} (e : evs E es σ h = .ok vs h') (l : vs.length ≤ 1000) : evT E (.lst es) σ h = .ok (.t vs) h' := by
  rw [x_lst, e, Res.bind_ok, if_pos (le_line l)]
theorem ev_tup {es : List ME} {σ : MS} {vs : List MV} {h' : MH} (e : evs E es σ h = .ok vs h') (l : vs.length ≤ 1000) : evT E (.tup es) σ h = .ok (.v (.tup vs)) h' := by
  rw [x_tup, e, Res.bind_ok, if_pos (le_line l)]
theorem evs_cons {e : ME} {es : List ME} {σ : MS} {v : MV} {vs : List MV} {h1 h2 : MH} (e1 : (evT E e σ h).bind settle = .ok v h1) (e2 : evs E es σ h1 = .ok vs h2) : evs E (e :: es) σ h = .ok (v :: vs) h2 := by
  rw [evs, e1, Res.bind_ok, e2, Res.bind_ok]
theorem evs_nil {σ : MS} : evs E [] σ h = .ok [] h := by rw [evs]
theorem ev_call {d : Nat} {es : List ME} {σ : MS} {vs : List MV} {v : MV} {h1 h2 : MH} (e1 : evs E es σ h = .ok vs h1) (e2 : E.C E.L d vs h1 = .ok v h2) : evT E (.call d es) σ h = .ok (.v v) h2 := by
  rw [x_call, e1, Res.bind_ok, e2, Res.bind_ok]
theorem set_v {m : ME} {σ : MS} {v : MV} {h1 : MH} (e : evT E m σ h = .ok (.v v) h1) : (evT E m σ h).bind settle = .ok v h1 := by rw [e]; rfl
theorem set_t {m : ME} {σ : MS} {vs : List MV} {h1 : MH} (e : evT E m σ h = .ok (.t vs) h1) : (evT E m σ h).bind settle = .ok (.ref h1.length) (h1 ++ [.lst vs]) := by rw [e]; rfl
theorem st_asg {tg : MT} {m : ME} {σ σ' : MS} {v : MV} {h1 : MH} (e : (evT E m σ h).bind settle = .ok v h1) (e2 : bindT tg v σ = some σ') : evS S E (.asg tg m) σ h = .next σ' h1 := by
  rw [y_asg, evE, e, Res.st_ok, e2]
theorem st_ret {m : ME} {σ : MS} {v : MV} {h1 : MH} (e : (evT E m σ h).bind settle = .ok v h1) : evS S E (.ret m) σ h = .ret v h1 := by
  rw [y_ret, evE, e, Res.st_ok]
/-- what pick draws from -/
def odds (q : Nat) : List MV := [.int 3, .int (-1), .bl true, .bl false, .non, .str "0", .tup [.int 0], .ref q, .int 99]
theorem s_near_threads (hk : 3 ≤ k) {b : Nat} {n : Int} {th : MV} (hb : Bx h b n) (hn : n ≤ 100000) (ht : isThr th = true) :
    ∃ p xs h', callM PP k [] 25 [.ref b, th] h = .ok (.ref p) h' ∧ h'[p]? = some (.lst xs) ∧ xs.length ≤ 20 ∧ (∀ x ∈ xs, D h' 20 4 x ∧ Fr b p x) ∧ Bx h' b (n + 2) ∧ Bo b h h' ∧ p ≠ b := by
  obtain ⟨k, rfl⟩ : ∃ j, k = j + 1 := ⟨k - 1, by omega⟩
  obtain ⟨ts, rfl, tl, tx, -⟩ := thr_un ht
  have td : ∀ (h : MH) (B m : Nat), ∀ x ∈ ts, D h B m x := by
    intro h B m x hx
    have := tx x hx
    cases x <;> first | exact Dint | (simp [within] at this)
  have lb := hb.lt
  obtain ⟨r, h1, e1, ⟨r0, r1⟩, b1, o1⟩ := s_take (k := k) (L := []) (by omega) hb (by omega) (many := (ts.length : Int) + 1) (by omega) (by omega)
  have lb1 := b1.lt
  have b1' : Bx (h1 ++ [MO.lst [.int 0]] ++ [MO.lst (odds h1.length)]) b (n + 1) := (b1.pre (Pre.app _ _)).pre (Pre.app _ _)
  obtain ⟨odd, h2, e2, om, b2, o2⟩ := s_pick (k := k) (L := []) (by omega) b1' (by omega) (p := (h1 ++ [MO.lst [.int 0]]).length) (xs := odds h1.length) (pre_at _) (by rw [List.length_append]; simp; omega) (by simp [odds]) (by simp [odds])
  have lb2 := b2.lt
  have l12 := o2.len
  have hz : h2[h1.length]? = some (.lst [.int 0]) := o2.at' _ _ (by omega) (by exact get_mid)
  have d0 : ∀ h' : MH, Pre h2 h' → D h' 20 2 odd ∧ ∀ i, odd = .ref i → i < h2.length ∧ i ≠ b := by
    intro h' pr
    have := hz
    simp only [odds, List.mem_cons, List.not_mem_nil, or_false] at om
    rcases om with rfl | rfl | rfl | rfl | rfl | rfl | rfl | rfl | rfl
    · exact ⟨trivial, fun i e => nomatch e⟩
    · exact ⟨trivial, fun i e => nomatch e⟩
    · exact ⟨trivial, fun i e => nomatch e⟩
    · exact ⟨trivial, fun i e => nomatch e⟩
    · exact ⟨trivial, fun i e => nomatch e⟩
    · exact ⟨trivial, fun i e => nomatch e⟩
    · exact ⟨⟨by simp, fun x hx => by simp at hx; subst hx; exact Dint⟩, fun i e => nomatch e⟩
    · refine ⟨.inl ⟨_, pr _ _ hz, by simp, fun x hx => by simp at hx; subst hx; exact Dint⟩, fun i e => ?_⟩
      cases e
      exact ⟨(List.getElem?_eq_some_iff.mp hz).1, by omega⟩
    · exact ⟨trivial, fun i e => nomatch e⟩
  rw [c__law_near_threads, show m__law_near_threads = [_, _] from rfl]
  have s1 : evS subP ⟨callM PP k, glbP, []⟩ (.asg (.tp [(.nm 2), (.nm 3)]) (.tup [(.call 16 [(.var 0), (.bin .Add (.fn .len [(.var 1)]) (.lit (.int 1)))]), (.call 17 [(.var 0), (.lst [(.lit (.int 3)), (.neg (.lit (.int 1))), (.lit (.bl true)), (.lit (.bl false)), (.lit .non), (.lit (.str "0")), (.tup [(.lit (.int 0))]), (.lst [(.lit (.int 0))]), (.lit (.int 99))])])])) [some (.ref b), some (.tup ts), none, none] h = .next [some (.ref b), some (.tup ts), some (.int r), some odd] h2 := by
    have eA : evT ⟨callM PP k, glbP, []⟩ (.call 16 [(.var 0), (.bin .Add (.fn .len [(.var 1)]) (.lit (.int 1)))]) [some (.ref b), some (.tup ts), none, none] h = .ok (.v (.int r)) h1 := ev_call (vs := [.ref b, .int ((ts.length : Int) + 1)]) (h1 := h) (by simp only [x_lit, x_var, x_glb, x_tup, x_lst, x_dct, x_bin, x_neg, x_not, x_and, x_or, x_ite, x_cmp, x_chain, x_idx, x_slc, x_rev, x_isi, x_fn, x_mth, x_call, x_callk, x_src, evs, evTs, evO, evIfs, evE, y_asg, y_sub, y_aug, y_exp, y_ifs, y_ret, y_retN, y_pass, y_brk, y_cnt, y_rse, evSs, Res.bind_ok, Res.bind_exc, Res.bind_bad, Res.of_some, Res.of_none, settle_v, settle_t, Res.noX_ok, Res.st_ok, Res.st_exc, Res.st_bad, SR.then_next, SR.then_ret, SR.then_brk, SR.then_cnt, SR.then_exc, SR.then_bad, SR.out, List.getElem?_cons_zero, List.getElem?_cons_succ, List.set_cons_zero, List.set_cons_succ, bindT, bindTs, Option.bind_some, Option.bind_none, Option.map_some, Option.map_none, vOf, if_true, if_false, Bool.false_eq_true, Bool.not_true, Bool.not_false, List.map_cons, List.map_nil, wipeM, Ev.locked, reduceCtorEq, f1, tru, List.length_cons, List.length_nil, Nat.reduceAdd, Nat.zero_add, sz0, sz1, sz2, sz3, sz4, sz5, sz6, sz7, sz8, sz9, sz10, sz11, sz12, sz13, sz14, sz15, sz16, sz17, sz18, sz19, sz20, sz21, sz22, sz23, b_len_tup, bin_add]) e1
    have eL : evT ⟨callM PP k, glbP, []⟩ (.lst [(.lit (.int 3)), (.neg (.lit (.int 1))), (.lit (.bl true)), (.lit (.bl false)), (.lit .non), (.lit (.str "0")), (.tup [(.lit (.int 0))]), (.lst [(.lit (.int 0))]), (.lit (.int 99))]) [some (.ref b), some (.tup ts), none, none] h1 = .ok (.t (odds h1.length)) (h1 ++ [.lst [.int 0]]) := ev_lst (by simp only [x_lit, x_var, x_glb, x_tup, x_lst, x_dct, x_bin, x_neg, x_not, x_and, x_or, x_ite, x_cmp, x_chain, x_idx, x_slc, x_rev, x_isi, x_fn, x_mth, x_call, x_callk, x_src, evs, evTs, evO, evIfs, evE, y_asg, y_sub, y_aug, y_exp, y_ifs, y_ret, y_retN, y_pass, y_brk, y_cnt, y_rse, evSs, Res.bind_ok, Res.bind_exc, Res.bind_bad, Res.of_some, Res.of_none, settle_v, settle_t, Res.noX_ok, Res.st_ok, Res.st_exc, Res.st_bad, SR.then_next, SR.then_ret, SR.then_brk, SR.then_cnt, SR.then_exc, SR.then_bad, SR.out, List.getElem?_cons_zero, List.getElem?_cons_succ, List.set_cons_zero, List.set_cons_succ, bindT, bindTs, Option.bind_some, Option.bind_none, Option.map_some, Option.map_none, vOf, if_true, if_false, Bool.false_eq_true, Bool.not_true, Bool.not_false, List.map_cons, List.map_nil, wipeM, Ev.locked, reduceCtorEq, f1, tru, List.length_cons, List.length_nil, Nat.reduceAdd, Nat.zero_add, sz0, sz1, sz2, sz3, sz4, sz5, sz6, sz7, sz8, sz9, sz10, sz11, sz12, sz13, sz14, sz15, sz16, sz17, sz18, sz19, sz20, sz21, sz22, sz23, odds]) (by simp [odds])
    have eB : evT ⟨callM PP k, glbP, []⟩ (.call 17 [(.var 0), (.lst [(.lit (.int 3)), (.neg (.lit (.int 1))), (.lit (.bl true)), (.lit (.bl false)), (.lit .non), (.lit (.str "0")), (.tup [(.lit (.int 0))]), (.lst [(.lit (.int 0))]), (.lit (.int 99))])]) [some (.ref b), some (.tup ts), none, none] h1 = .ok (.v odd) h2 := ev_call (evs_cons (v := .ref b) (h1 := h1) (set_v (by simp only [x_lit, x_var, x_glb, x_tup, x_lst, x_dct, x_bin, x_neg, x_not, x_and, x_or, x_ite, x_cmp, x_chain, x_idx, x_slc, x_rev, x_isi, x_fn, x_mth, x_call, x_callk, x_src, evs, evTs, evO, evIfs, evE, y_asg, y_sub, y_aug, y_exp, y_ifs, y_ret, y_retN, y_pass, y_brk, y_cnt, y_rse, evSs, Res.bind_ok, Res.bind_exc, Res.bind_bad, Res.of_some, Res.of_none, settle_v, settle_t, Res.noX_ok, Res.st_ok, Res.st_exc, Res.st_bad, SR.then_next, SR.then_ret, SR.then_brk, SR.then_cnt, SR.then_exc, SR.then_bad, SR.out, List.getElem?_cons_zero, List.getElem?_cons_succ, List.set_cons_zero, List.set_cons_succ, bindT, bindTs, Option.bind_some, Option.bind_none, Option.map_some, Option.map_none, vOf, if_true, if_false, Bool.false_eq_true, Bool.not_true, Bool.not_false, List.map_cons, List.map_nil, wipeM, Ev.locked, reduceCtorEq, f1, tru, List.length_cons, List.length_nil, Nat.reduceAdd, Nat.zero_add, sz0, sz1, sz2, sz3, sz4, sz5, sz6, sz7, sz8, sz9, sz10, sz11, sz12, sz13, sz14, sz15, sz16, sz17, sz18, sz19, sz20, sz21, sz22, sz23])) (evs_cons (set_t eL) evs_nil)) e2
    exact st_asg (v := .tup [.int r, odd]) (set_v (ev_tup (evs_cons (set_v eA) (evs_cons (set_v eB) evs_nil)) (by simp))) rfl
  rw [seq_next s1]
  clear s1 e1 e2
  have c1 := cutL_len ts none (some r)
  have c2 := cutL_len ts (some (r + 1)) none
  have c3 := cutL_len ts (some r) none
  have a1 : ∀ h : MH, binT h .Add (.v (.tup ts)) (.v (.tup [.int 0])) = some (.v (.tup (ts ++ [.int 0]))) := fun h => add_tup (by simp; omega)
  have a2 : ∀ h : MH, binT h .Add (.v (.tup (cutL ts none (some r)))) (.v (.tup [odd])) = some (.v (.tup (cutL ts none (some r) ++ [odd]))) := fun h => add_tup (by simp; omega)
  have a3 : ∀ h : MH, binT h .Add (.v (.tup (cutL ts none (some r) ++ [odd]))) (.v (.tup (cutL ts (some (r + 1)) none))) = some (.v (.tup (cutL ts none (some r) ++ [odd] ++ cutL ts (some (r + 1)) none))) := fun h => add_tup (by simp; omega)
  have a4 : ∀ h : MH, binT h .Add (.v (.tup (cutL ts none (some r) ++ [odd]))) (.v (.tup (cutL ts (some r) none))) = some (.v (.tup (cutL ts none (some r) ++ [odd] ++ cutL ts (some r) none))) := fun h => add_tup (by simp; omega)
  let h3 : MH := h2 ++ [.lst ts]
  let h4 : MH := h3 ++ [.dk []]
  let h5 : MH := h4 ++ [.lst []]
  let xs : List MV := [.tup ts, .ref h2.length, .tup (ts ++ [.int 0]), .tup (cutL ts none (some r) ++ [odd] ++ cutL ts (some (r + 1)) none), .tup (cutL ts none (some r) ++ [odd] ++ cutL ts (some r) none), .non, .int 0, .str "main", .str "0", .ref h3.length, .tup [.tup ts], .tup [.int 0, .int 1, .int 2, .int 0], .ref h4.length, .tup ts.reverse]
  have l3 : h3.length = h2.length + 1 := by simp [h3]
  have l4 : h4.length = h2.length + 2 := by simp [h4, l3]
  have l5 : h5.length = h2.length + 3 := by simp [h5, l4]
  have P : Pre h2 (h5 ++ [.lst xs]) := ((Pre.app h2 [.lst ts]).trans ((Pre.app h3 [.dk []]).trans (Pre.app h4 [.lst []]))).trans (Pre.app h5 _)
  refine ⟨h5.length, xs, h5 ++ [.lst xs], ?_, pre_at _, by simp [xs], ?_, (b2.pre P).le (by omega), (o1.trans (((Pre.app h1 [MO.lst [.int 0]]).trans (Pre.app _ _)).bo.trans o2)).trans P.bo, by omega⟩
  · rw [seq_ret (v := .ref h5.length) (h' := h5 ++ [.lst xs]), out_ret]
    refine st_ret (set_t (ev_lst ?_ (by simp [xs])))
    simp only [x_lit, x_var, x_glb, x_tup, x_lst, x_dct, x_bin, x_neg, x_not, x_and, x_or, x_ite, x_cmp, x_chain, x_idx, x_slc, x_rev, x_isi, x_fn, x_mth, x_call, x_callk, x_src, evs, evTs, evO, evIfs, evE, y_asg, y_sub, y_aug, y_exp, y_ifs, y_ret, y_retN, y_pass, y_brk, y_cnt, y_rse, evSs, Res.bind_ok, Res.bind_exc, Res.bind_bad, Res.of_some, Res.of_none, settle_v, settle_t, Res.noX_ok, Res.st_ok, Res.st_exc, Res.st_bad, SR.then_next, SR.then_ret, SR.then_brk, SR.then_cnt, SR.then_exc, SR.then_bad, SR.out, List.getElem?_cons_zero, List.getElem?_cons_succ, List.set_cons_zero, List.set_cons_succ, bindT, bindTs, Option.bind_some, Option.bind_none, Option.map_some, Option.map_none, vOf, if_true, if_false, Bool.false_eq_true, Bool.not_true, Bool.not_false, List.map_cons, List.map_nil, wipeM, Ev.locked, reduceCtorEq, f1, tru, List.length_cons, List.length_nil, Nat.reduceAdd, Nat.zero_add, sz0, sz1, sz2, sz3, sz4, sz5, sz6, sz7, sz8, sz9, sz10, sz11, sz12, sz13, sz14, sz15, sz16, sz17, sz18, sz19, sz20, sz21, sz22, sz23, slc_tup, lis_tup, a1, a2, a3, a4, bin_add, List.not_mem_nil, h3, h4, h5, xs]
  · have q3 : (h5 ++ [MO.lst xs])[h2.length]? = some (.lst ts) := by
      apply Pre.app; apply Pre.app; apply Pre.app; exact pre_at _
    have q4 : (h5 ++ [MO.lst xs])[h3.length]? = some (.dk []) := by
      apply Pre.app; apply Pre.app; exact pre_at _
    have q5 : (h5 ++ [MO.lst xs])[h4.length]? = some (.lst []) := by
      apply Pre.app; exact pre_at _
    obtain ⟨dd, -⟩ := d0 _ P
    generalize h5 ++ [MO.lst xs] = h6 at *
    have dd' : D h6 20 3 odd := dd.up
    have ft : ∀ ys, Fr b h5.length (.tup ys) := fun ys i e => nomatch e
    have mix : ∀ lo hi lo' hi', D h6 20 4 (.tup (cutL ts lo hi ++ [odd] ++ cutL ts lo' hi')) := by
      intro lo hi lo' hi'
      have z1 := cutL_len ts lo hi
      have z2 := cutL_len ts lo' hi'
      refine ⟨by simp; omega, fun x hx => ?_⟩
      rcases List.mem_append.mp hx with m | m
      · rcases List.mem_append.mp m with m | m
        · exact td _ _ _ x (cutL_mem m)
        · simp at m; subst m; exact dd'
      · exact td _ _ _ x (cutL_mem m)
    intro x hx
    simp only [xs, List.mem_cons, List.not_mem_nil, or_false] at hx
    rcases hx with rfl | rfl | rfl | rfl | rfl | rfl | rfl | rfl | rfl | rfl | rfl | rfl | rfl | rfl
    · exact ⟨⟨by omega, fun x hx => td _ _ _ x hx⟩, ft _⟩
    · exact ⟨.inl ⟨ts, q3, by omega, fun x hx => td _ _ _ x hx⟩, fun i e => by cases e; omega⟩
    · refine ⟨⟨by simp; omega, fun x hx => ?_⟩, ft _⟩
      rcases List.mem_append.mp hx with m | m
      · exact td _ _ _ x m
      · simp at m; subst m; exact Dint
    · exact ⟨mix _ _ _ _, ft _⟩
    · exact ⟨mix _ _ _ _, ft _⟩
    · exact ⟨trivial, fun i e => nomatch e⟩
    · exact ⟨trivial, fun i e => nomatch e⟩
    · exact ⟨trivial, fun i e => nomatch e⟩
    · exact ⟨trivial, fun i e => nomatch e⟩
    · exact ⟨.inr ⟨[], q4, by simp, by simp⟩, fun i e => by cases e; omega⟩
    · refine ⟨⟨by simp, fun x hx => ?_⟩, ft _⟩
      simp at hx; subst hx
      exact ⟨by omega, fun x hx => td _ _ _ x hx⟩
    · refine ⟨⟨by simp, fun x hx => ?_⟩, ft _⟩
      simp at hx
      rcases hx with rfl | rfl | rfl | rfl <;> exact Dint
    · exact ⟨.inl ⟨[], q5, by simp, by simp⟩, fun i e => by cases e; omega⟩
    · refine ⟨⟨by simp; omega, fun x hx => ?_⟩, ft _⟩
      exact td _ _ _ x (List.mem_reverse.mp hx)
end
end MP.Q

set_option linter.all false
set_option autoImplicit false
set_option maxRecDepth 100000
namespace MP.Q
open PySem PyProof.Rows L2
def bodyN : List MSt := [.asg (.nm 5) (.call 21 [(.var 2)]),
 .asg (.nm 6) (.call 30 [(.lit (.int 0)), (.var 2), (.var 1)]),
 .ifs (.not (.call 18 [(.lst [(.call 6 [(.var 2)]), (.callk 6 [] [0] [(.var 2)])]), (.lst [(.var 5), (.var 5)])])) [.ret (.lit (.bl false))] [],
 .ifs (.not (.ite (.var 5) (.call 18 [(.var 6), (.lst [(.lit (.str "told")), (.call 27 [(.var 2)])])]) (.call 31 [(.var 6), (.lit (.str "thread")), (.var 2)]))) [.ret (.lit (.bl false))] [],
 .asg (.nm 1) (.not (.var 1))]
def bodyM : List MSt := [.asg (.nm 5) (.call 22 [(.var 2)]),
 .ifs (.not (.call 18 [(.lst [(.call 7 [(.var 2)]), (.callk 7 [] [0] [(.var 2)])]), (.lst [(.var 5), (.var 5)])])) [.ret (.lit (.bl false))] []]
def bodyT : List MSt := [.asg (.nm 5) (.call 29 [(.var 2)]),
 .asg (.nm 6) (.call 30 [(.lit (.int 1)), (.var 2), (.var 1)]),
 .ifs (.not (.ite (.cmp .IsNot (.var 5) (.lit .non)) (.call 18 [(.var 6), (.lst [(.lit (.str "told")), (.var 5)])]) (.call 31 [(.var 6), (.lit (.str "text")), (.var 2)]))) [.ret (.lit (.bl false))] [],
 .asg (.nm 1) (.not (.var 1))]
section
variable {k : Nat} {L : List Nat} {h : MH} {S : SubT} {E : Ev}
theorem ev_notb {m : ME} {σ : MS} {t : Bool} {h1 : MH} (e : evT E m σ h = .ok (.v (.bl t)) h1) : evT E (.not m) σ h = .ok (.v (.bl (!t))) h1 := by
  rw [x_not, e, Res.bind_ok]; rfl
theorem st_ifs {t : ME} {a b : List MSt} {σ : MS} {c : Bool} {h1 : MH} (e : evT E t σ h = .ok (.v (.bl c)) h1) : evS S E (.ifs t a b) σ h = if c then evSs S E a σ h1 else evSs S E b σ h1 := by
  rw [y_ifs, e, Res.st_ok]
  cases c <;> rfl
theorem st_not {m : ME} {a : List MSt} {σ : MS} {h1 : MH} (e : evT E m σ h = .ok (.v (.bl true)) h1) : evS S E (.ifs (.not m) a []) σ h = .next σ h1 := by
  rw [st_ifs (ev_notb e), if_neg (by simp), seq_nil]
theorem ev_iteb {t a b : ME} {σ : MS} {c : Bool} {h1 : MH} (e : evT E t σ h = .ok (.v (.bl c)) h1) : evT E (.ite t a b) σ h = if c then evT E a σ h1 else evT E b σ h1 := by
  rw [x_ite, e, Res.bind_ok]
  cases c <;> rfl
theorem D_ne {B n : Nat} {v : MV} (d : D h B n v) : v ≠ .ref h.length := by
  rintro rfl
  cases n with
  | zero => exact d.elim
  | succ n =>
    rcases d with ⟨xs, e, -⟩ | ⟨xs, e, -⟩ <;> (have := (List.getElem?_eq_some_iff.mp e).1; omega)
theorem body_N (hk : 20 ≤ k) {b : Nat} {nm : Bool} {x : MV} {th inp c5 c6 : Option MV} {B : Nat} (d : D h B 4 x) (hB : B ≤ 900) :
    ∃ c5' c6' h', evSs subP ⟨callM PP k, glbP, []⟩ bodyN [some (.ref b), some (.bl nm), some x, th, inp, c5, c6] h = .next [some (.ref b), some (.bl (!nm)), some x, th, inp, c5', c6'] h' ∧ Gr x h h' := by
  have od : okd h x = true := okn_d (n := 0) (d.okn (by omega))
  have f1 := s_law_is_thread (k := k) (L := []) (by omega) od
  have f2 := s_asked0 (k := k) (L := []) (nm := nm) (by omega) od
  have s1 : evS subP ⟨callM PP k, glbP, []⟩ (.asg (.nm 5) (.call 21 [(.var 2)])) [some (.ref b), some (.bl nm), some x, th, inp, c5, c6] h = .next [some (.ref b), some (.bl nm), some x, th, inp, some (.bl (isThr x)), c6] h := by
    simp only [x_lit, x_var, x_glb, x_tup, x_lst, x_dct, x_bin, x_neg, x_not, x_and, x_or, x_ite, x_cmp, x_chain, x_idx, x_slc, x_rev, x_isi, x_fn, x_mth, x_call, x_callk, x_src, evs, evTs, evO, evIfs, evE, y_asg, y_sub, y_aug, y_exp, y_ifs, y_ret, y_retN, y_pass, y_brk, y_cnt, y_rse, evSs, Res.bind_ok, Res.bind_exc, Res.bind_bad, Res.of_some, Res.of_none, settle_v, settle_t, Res.noX_ok, Res.st_ok, Res.st_exc, Res.st_bad, SR.then_next, SR.then_ret, SR.then_brk, SR.then_cnt, SR.then_exc, SR.then_bad, SR.out, List.getElem?_cons_zero, List.getElem?_cons_succ, List.set_cons_zero, List.set_cons_succ, bindT, bindTs, Option.bind_some, Option.bind_none, Option.map_some, Option.map_none, vOf, if_true, if_false, Bool.false_eq_true, Bool.not_true, Bool.not_false, List.map_cons, List.map_nil, wipeM, Ev.locked, reduceCtorEq, f1, tru, List.length_cons, List.length_nil, Nat.reduceAdd, Nat.zero_add, sz0, sz1, sz2, sz3, sz4, sz5, sz6, sz7, sz8, sz9, sz10, sz11, sz12, sz13, sz14, sz15, sz16, sz17, sz18, sz19, sz20, sz21, sz22, sz23, f1]
  have s2 : evS subP ⟨callM PP k, glbP, []⟩ (.asg (.nm 6) (.call 30 [(.lit (.int 0)), (.var 2), (.var 1)])) [some (.ref b), some (.bl nm), some x, th, inp, some (.bl (isThr x)), c6] h = .next [some (.ref b), some (.bl nm), some x, th, inp, some (.bl (isThr x)), some (.ref h.length)] (h ++ [.lst (if isThr x then [.str "told", .str (dotsV x)] else [.str "thread", x])]) :=
    st_asg (set_v (ev_call (vs := [.int 0, x, .bl nm]) (h1 := h) (by simp only [x_lit, x_var, x_glb, x_tup, x_lst, x_dct, x_bin, x_neg, x_not, x_and, x_or, x_ite, x_cmp, x_chain, x_idx, x_slc, x_rev, x_isi, x_fn, x_mth, x_call, x_callk, x_src, evs, evTs, evO, evIfs, evE, y_asg, y_sub, y_aug, y_exp, y_ifs, y_ret, y_retN, y_pass, y_brk, y_cnt, y_rse, evSs, Res.bind_ok, Res.bind_exc, Res.bind_bad, Res.of_some, Res.of_none, settle_v, settle_t, Res.noX_ok, Res.st_ok, Res.st_exc, Res.st_bad, SR.then_next, SR.then_ret, SR.then_brk, SR.then_cnt, SR.then_exc, SR.then_bad, SR.out, List.getElem?_cons_zero, List.getElem?_cons_succ, List.set_cons_zero, List.set_cons_succ, bindT, bindTs, Option.bind_some, Option.bind_none, Option.map_some, Option.map_none, vOf, if_true, if_false, Bool.false_eq_true, Bool.not_true, Bool.not_false, List.map_cons, List.map_nil, wipeM, Ev.locked, reduceCtorEq, f1, tru, List.length_cons, List.length_nil, Nat.reduceAdd, Nat.zero_add, sz0, sz1, sz2, sz3, sz4, sz5, sz6, sz7, sz8, sz9, sz10, sz11, sz12, sz13, sz14, sz15, sz16, sz17, sz18, sz19, sz20, sz21, sz22, sz23]) f2)) rfl
  generalize eh : h ++ [MO.lst (if isThr x then [.str "told", .str (dotsV x)] else [.str "thread", x])] = h1 at s2
  have p1 : Pre h h1 := by rw [← eh]; exact Pre.app _ _
  have q1 : h1[h.length]? = some (.lst (if isThr x then [.str "told", .str (dotsV x)] else [.str "thread", x])) := by rw [← eh]; exact pre_at _
  have od1 : okd h1 x = true := okn_d (n := 0) (okn_pre p1 (d.okn (by omega)))
  have f3 := s_is_thread (k := k) (L := []) (by omega) od1
  generalize et : isThr x = t at *
  let h2 : MH := h1 ++ [.lst [.bl t, .bl t]]
  let h3 : MH := h2 ++ [.lst [.bl t, .bl t]]
  have p3 : Pre h1 h3 := (Pre.app h1 _).trans (Pre.app h2 _)
  have g1 : h3[h1.length]? = some (.lst [.bl t, .bl t]) := Pre.app h2 _ _ _ (pre_at _)
  have g2 : h3[h2.length]? = some (.lst [.bl t, .bl t]) := pre_at _
  have f4 : callM PP k [] 18 [.ref h1.length, .ref h2.length] h3 = .ok (.bl true) h3 := same_flats (by omega) g1 g2 (by simp) (B := 0) (n := 0) (fun y hy => by simp at hy; subst hy; trivial) (by omega) (by omega)
  have s3 : evS subP ⟨callM PP k, glbP, []⟩ (.ifs (.not (.call 18 [(.lst [(.call 6 [(.var 2)]), (.callk 6 [] [0] [(.var 2)])]), (.lst [(.var 5), (.var 5)])])) [.ret (.lit (.bl false))] []) [some (.ref b), some (.bl nm), some x, th, inp, some (.bl t), some (.ref h.length)] h1 = .next [some (.ref b), some (.bl nm), some x, th, inp, some (.bl t), some (.ref h.length)] h3 := by
    refine st_not (ev_call (vs := [.ref h1.length, .ref h2.length]) (h1 := h3) (evs_cons (set_t (ev_lst (vs := [.bl t, .bl t]) ?_ (by simp))) (evs_cons (set_t (ev_lst (vs := [.bl t, .bl t]) ?_ (by simp))) evs_nil)) f4)
    · simp only [x_lit, x_var, x_glb, x_tup, x_lst, x_dct, x_bin, x_neg, x_not, x_and, x_or, x_ite, x_cmp, x_chain, x_idx, x_slc, x_rev, x_isi, x_fn, x_mth, x_call, x_callk, x_src, evs, evTs, evO, evIfs, evE, y_asg, y_sub, y_aug, y_exp, y_ifs, y_ret, y_retN, y_pass, y_brk, y_cnt, y_rse, evSs, Res.bind_ok, Res.bind_exc, Res.bind_bad, Res.of_some, Res.of_none, settle_v, settle_t, Res.noX_ok, Res.st_ok, Res.st_exc, Res.st_bad, SR.then_next, SR.then_ret, SR.then_brk, SR.then_cnt, SR.then_exc, SR.then_bad, SR.out, List.getElem?_cons_zero, List.getElem?_cons_succ, List.set_cons_zero, List.set_cons_succ, bindT, bindTs, Option.bind_some, Option.bind_none, Option.map_some, Option.map_none, vOf, if_true, if_false, Bool.false_eq_true, Bool.not_true, Bool.not_false, List.map_cons, List.map_nil, wipeM, Ev.locked, reduceCtorEq, f1, tru, List.length_cons, List.length_nil, Nat.reduceAdd, Nat.zero_add, sz0, sz1, sz2, sz3, sz4, sz5, sz6, sz7, sz8, sz9, sz10, sz11, sz12, sz13, sz14, sz15, sz16, sz17, sz18, sz19, sz20, sz21, sz22, sz23, arr1, f3]
    · simp only [x_lit, x_var, x_glb, x_tup, x_lst, x_dct, x_bin, x_neg, x_not, x_and, x_or, x_ite, x_cmp, x_chain, x_idx, x_slc, x_rev, x_isi, x_fn, x_mth, x_call, x_callk, x_src, evs, evTs, evO, evIfs, evE, y_asg, y_sub, y_aug, y_exp, y_ifs, y_ret, y_retN, y_pass, y_brk, y_cnt, y_rse, evSs, Res.bind_ok, Res.bind_exc, Res.bind_bad, Res.of_some, Res.of_none, settle_v, settle_t, Res.noX_ok, Res.st_ok, Res.st_exc, Res.st_bad, SR.then_next, SR.then_ret, SR.then_brk, SR.then_cnt, SR.then_exc, SR.then_bad, SR.out, List.getElem?_cons_zero, List.getElem?_cons_succ, List.set_cons_zero, List.set_cons_succ, bindT, bindTs, Option.bind_some, Option.bind_none, Option.map_some, Option.map_none, vOf, if_true, if_false, Bool.false_eq_true, Bool.not_true, Bool.not_false, List.map_cons, List.map_nil, wipeM, Ev.locked, reduceCtorEq, f1, tru, List.length_cons, List.length_nil, Nat.reduceAdd, Nat.zero_add, sz0, sz1, sz2, sz3, sz4, sz5, sz6, sz7, sz8, sz9, sz10, sz11, sz12, sz13, sz14, sz15, sz16, sz17, sz18, sz19, sz20, sz21, sz22, sz23]; rfl
  have q3 := p3 _ _ q1
  have s5 : ∀ h' : MH, evS subP ⟨callM PP k, glbP, []⟩ (.asg (.nm 1) (.not (.var 1))) [some (.ref b), some (.bl nm), some x, th, inp, some (.bl t), some (.ref h.length)] h' = .next [some (.ref b), some (.bl (!nm)), some x, th, inp, some (.bl t), some (.ref h.length)] h' := by
    intro h'
    exact st_asg (set_v (ev_notb (by simp only [x_lit, x_var, x_glb, x_tup, x_lst, x_dct, x_bin, x_neg, x_not, x_and, x_or, x_ite, x_cmp, x_chain, x_idx, x_slc, x_rev, x_isi, x_fn, x_mth, x_call, x_callk, x_src, evs, evTs, evO, evIfs, evE, y_asg, y_sub, y_aug, y_exp, y_ifs, y_ret, y_retN, y_pass, y_brk, y_cnt, y_rse, evSs, Res.bind_ok, Res.bind_exc, Res.bind_bad, Res.of_some, Res.of_none, settle_v, settle_t, Res.noX_ok, Res.st_ok, Res.st_exc, Res.st_bad, SR.then_next, SR.then_ret, SR.then_brk, SR.then_cnt, SR.then_exc, SR.then_bad, SR.out, List.getElem?_cons_zero, List.getElem?_cons_succ, List.set_cons_zero, List.set_cons_succ, bindT, bindTs, Option.bind_some, Option.bind_none, Option.map_some, Option.map_none, vOf, if_true, if_false, Bool.false_eq_true, Bool.not_true, Bool.not_false, List.map_cons, List.map_nil, wipeM, Ev.locked, reduceCtorEq, f1, tru, List.length_cons, List.length_nil, Nat.reduceAdd, Nat.zero_add, sz0, sz1, sz2, sz3, sz4, sz5, sz6, sz7, sz8, sz9, sz10, sz11, sz12, sz13, sz14, sz15, sz16, sz17, sz18, sz19, sz20, sz21, sz22, sz23]))) rfl
  cases t with
  | true =>
    have f5 := s_dots (k := k) (L := []) (h := h3) (by omega) et
    let h4 : MH := h3 ++ [.lst [.str "told", .str (dotsV x)]]
    have q4 : h4[h.length]? = some (.lst [.str "told", .str (dotsV x)]) := Pre.app h3 _ _ _ (by simpa using q3)
    have f6 : callM PP k [] 18 [.ref h.length, .ref h3.length] h4 = .ok (.bl true) h4 := same_flats (by omega) q4 (pre_at _) (by simp) (B := 0) (n := 0) (fun y hy => by simp at hy; rcases hy with rfl | rfl <;> trivial) (by omega) (by omega)
    have s4 : evS subP ⟨callM PP k, glbP, []⟩ (.ifs (.not (.ite (.var 5) (.call 18 [(.var 6), (.lst [(.lit (.str "told")), (.call 27 [(.var 2)])])]) (.call 31 [(.var 6), (.lit (.str "thread")), (.var 2)]))) [.ret (.lit (.bl false))] []) [some (.ref b), some (.bl nm), some x, th, inp, some (.bl true), some (.ref h.length)] h3 = .next [some (.ref b), some (.bl nm), some x, th, inp, some (.bl true), some (.ref h.length)] h4 := by
      refine st_not ((ev_iteb (c := true) (h1 := h3) (by simp only [x_lit, x_var, x_glb, x_tup, x_lst, x_dct, x_bin, x_neg, x_not, x_and, x_or, x_ite, x_cmp, x_chain, x_idx, x_slc, x_rev, x_isi, x_fn, x_mth, x_call, x_callk, x_src, evs, evTs, evO, evIfs, evE, y_asg, y_sub, y_aug, y_exp, y_ifs, y_ret, y_retN, y_pass, y_brk, y_cnt, y_rse, evSs, Res.bind_ok, Res.bind_exc, Res.bind_bad, Res.of_some, Res.of_none, settle_v, settle_t, Res.noX_ok, Res.st_ok, Res.st_exc, Res.st_bad, SR.then_next, SR.then_ret, SR.then_brk, SR.then_cnt, SR.then_exc, SR.then_bad, SR.out, List.getElem?_cons_zero, List.getElem?_cons_succ, List.set_cons_zero, List.set_cons_succ, bindT, bindTs, Option.bind_some, Option.bind_none, Option.map_some, Option.map_none, vOf, if_true, if_false, Bool.false_eq_true, Bool.not_true, Bool.not_false, List.map_cons, List.map_nil, wipeM, Ev.locked, reduceCtorEq, f1, tru, List.length_cons, List.length_nil, Nat.reduceAdd, Nat.zero_add, sz0, sz1, sz2, sz3, sz4, sz5, sz6, sz7, sz8, sz9, sz10, sz11, sz12, sz13, sz14, sz15, sz16, sz17, sz18, sz19, sz20, sz21, sz22, sz23])).trans ((if_pos rfl).trans ?_))
      refine ev_call (vs := [.ref h.length, .ref h3.length]) (h1 := h4) (evs_cons (h1 := h3) (set_v (by simp only [x_lit, x_var, x_glb, x_tup, x_lst, x_dct, x_bin, x_neg, x_not, x_and, x_or, x_ite, x_cmp, x_chain, x_idx, x_slc, x_rev, x_isi, x_fn, x_mth, x_call, x_callk, x_src, evs, evTs, evO, evIfs, evE, y_asg, y_sub, y_aug, y_exp, y_ifs, y_ret, y_retN, y_pass, y_brk, y_cnt, y_rse, evSs, Res.bind_ok, Res.bind_exc, Res.bind_bad, Res.of_some, Res.of_none, settle_v, settle_t, Res.noX_ok, Res.st_ok, Res.st_exc, Res.st_bad, SR.then_next, SR.then_ret, SR.then_brk, SR.then_cnt, SR.then_exc, SR.then_bad, SR.out, List.getElem?_cons_zero, List.getElem?_cons_succ, List.set_cons_zero, List.set_cons_succ, bindT, bindTs, Option.bind_some, Option.bind_none, Option.map_some, Option.map_none, vOf, if_true, if_false, Bool.false_eq_true, Bool.not_true, Bool.not_false, List.map_cons, List.map_nil, wipeM, Ev.locked, reduceCtorEq, f1, tru, List.length_cons, List.length_nil, Nat.reduceAdd, Nat.zero_add, sz0, sz1, sz2, sz3, sz4, sz5, sz6, sz7, sz8, sz9, sz10, sz11, sz12, sz13, sz14, sz15, sz16, sz17, sz18, sz19, sz20, sz21, sz22, sz23])) (evs_cons (set_t (ev_lst (vs := [.str "told", .str (dotsV x)]) ?_ (by simp))) evs_nil)) f6
      simp only [x_lit, x_var, x_glb, x_tup, x_lst, x_dct, x_bin, x_neg, x_not, x_and, x_or, x_ite, x_cmp, x_chain, x_idx, x_slc, x_rev, x_isi, x_fn, x_mth, x_call, x_callk, x_src, evs, evTs, evO, evIfs, evE, y_asg, y_sub, y_aug, y_exp, y_ifs, y_ret, y_retN, y_pass, y_brk, y_cnt, y_rse, evSs, Res.bind_ok, Res.bind_exc, Res.bind_bad, Res.of_some, Res.of_none, settle_v, settle_t, Res.noX_ok, Res.st_ok, Res.st_exc, Res.st_bad, SR.then_next, SR.then_ret, SR.then_brk, SR.then_cnt, SR.then_exc, SR.then_bad, SR.out, List.getElem?_cons_zero, List.getElem?_cons_succ, List.set_cons_zero, List.set_cons_succ, bindT, bindTs, Option.bind_some, Option.bind_none, Option.map_some, Option.map_none, vOf, if_true, if_false, Bool.false_eq_true, Bool.not_true, Bool.not_false, List.map_cons, List.map_nil, wipeM, Ev.locked, reduceCtorEq, f1, tru, List.length_cons, List.length_nil, Nat.reduceAdd, Nat.zero_add, sz0, sz1, sz2, sz3, sz4, sz5, sz6, sz7, sz8, sz9, sz10, sz11, sz12, sz13, sz14, sz15, sz16, sz17, sz18, sz19, sz20, sz21, sz22, sz23, f5]
    exact ⟨_, _, h4, by rw [bodyN, seq_next s1, seq_next s2, seq_next s3, seq_next s4, seq_next (s5 h4), seq_nil], Gr.ofPre ((p1.trans p3).trans (Pre.app h3 _))⟩
  | false =>
    have q3' : h3[h.length]? = some (.lst [.str "thread", x]) := by simpa using q3
    obtain ⟨h4, f6, g⟩ := s_refusal (k := k) (by omega) ((d.pre p1).pre p3) (by omega) (by omega) q3' (D_ne d)
    have s4 : evS subP ⟨callM PP k, glbP, []⟩ (.ifs (.not (.ite (.var 5) (.call 18 [(.var 6), (.lst [(.lit (.str "told")), (.call 27 [(.var 2)])])]) (.call 31 [(.var 6), (.lit (.str "thread")), (.var 2)]))) [.ret (.lit (.bl false))] []) [some (.ref b), some (.bl nm), some x, th, inp, some (.bl false), some (.ref h.length)] h3 = .next [some (.ref b), some (.bl nm), some x, th, inp, some (.bl false), some (.ref h.length)] h4 := by
      refine st_not ((ev_iteb (c := false) (h1 := h3) (by simp only [x_lit, x_var, x_glb, x_tup, x_lst, x_dct, x_bin, x_neg, x_not, x_and, x_or, x_ite, x_cmp, x_chain, x_idx, x_slc, x_rev, x_isi, x_fn, x_mth, x_call, x_callk, x_src, evs, evTs, evO, evIfs, evE, y_asg, y_sub, y_aug, y_exp, y_ifs, y_ret, y_retN, y_pass, y_brk, y_cnt, y_rse, evSs, Res.bind_ok, Res.bind_exc, Res.bind_bad, Res.of_some, Res.of_none, settle_v, settle_t, Res.noX_ok, Res.st_ok, Res.st_exc, Res.st_bad, SR.then_next, SR.then_ret, SR.then_brk, SR.then_cnt, SR.then_exc, SR.then_bad, SR.out, List.getElem?_cons_zero, List.getElem?_cons_succ, List.set_cons_zero, List.set_cons_succ, bindT, bindTs, Option.bind_some, Option.bind_none, Option.map_some, Option.map_none, vOf, if_true, if_false, Bool.false_eq_true, Bool.not_true, Bool.not_false, List.map_cons, List.map_nil, wipeM, Ev.locked, reduceCtorEq, f1, tru, List.length_cons, List.length_nil, Nat.reduceAdd, Nat.zero_add, sz0, sz1, sz2, sz3, sz4, sz5, sz6, sz7, sz8, sz9, sz10, sz11, sz12, sz13, sz14, sz15, sz16, sz17, sz18, sz19, sz20, sz21, sz22, sz23])).trans ((if_neg (by simp)).trans ?_))
      exact ev_call (vs := [.ref h.length, .str "thread", x]) (h1 := h3) (by simp only [x_lit, x_var, x_glb, x_tup, x_lst, x_dct, x_bin, x_neg, x_not, x_and, x_or, x_ite, x_cmp, x_chain, x_idx, x_slc, x_rev, x_isi, x_fn, x_mth, x_call, x_callk, x_src, evs, evTs, evO, evIfs, evE, y_asg, y_sub, y_aug, y_exp, y_ifs, y_ret, y_retN, y_pass, y_brk, y_cnt, y_rse, evSs, Res.bind_ok, Res.bind_exc, Res.bind_bad, Res.of_some, Res.of_none, settle_v, settle_t, Res.noX_ok, Res.st_ok, Res.st_exc, Res.st_bad, SR.then_next, SR.then_ret, SR.then_brk, SR.then_cnt, SR.then_exc, SR.then_bad, SR.out, List.getElem?_cons_zero, List.getElem?_cons_succ, List.set_cons_zero, List.set_cons_succ, bindT, bindTs, Option.bind_some, Option.bind_none, Option.map_some, Option.map_none, vOf, if_true, if_false, Bool.false_eq_true, Bool.not_true, Bool.not_false, List.map_cons, List.map_nil, wipeM, Ev.locked, reduceCtorEq, f1, tru, List.length_cons, List.length_nil, Nat.reduceAdd, Nat.zero_add, sz0, sz1, sz2, sz3, sz4, sz5, sz6, sz7, sz8, sz9, sz10, sz11, sz12, sz13, sz14, sz15, sz16, sz17, sz18, sz19, sz20, sz21, sz22, sz23]) f6
    exact ⟨_, _, h4, by rw [bodyN, seq_next s1, seq_next s2, seq_next s3, seq_next s4, seq_next (s5 h4), seq_nil], Gr.preL (p1.trans p3) g⟩
theorem body_T (hk : 20 ≤ k) {b : Nat} {nm : Bool} {x : MV} {th inp c5 c6 : Option MV} {B : Nat} (d : D h B 4 x) (hB : B ≤ 900) (ok : ∀ z, x = .str z → tOk z = true ∧ thrV z = rdS z) :
    ∃ c5' c6' h', evSs subP ⟨callM PP k, glbP, []⟩ bodyT [some (.ref b), some (.bl nm), some x, th, inp, c5, c6] h = .next [some (.ref b), some (.bl (!nm)), some x, th, inp, c5', c6'] h' ∧ Gr x h h' := by
  have er : rdP x = rdL x := by
    cases x with
    | str z => exact (ok z rfl).2
    | _ => rfl
  obtain ⟨h0, f1, p0⟩ := s_law_read (k := k) (L := []) (by omega) d.okv
  have s1 : evS subP ⟨callM PP k, glbP, []⟩ (.asg (.nm 5) (.call 29 [(.var 2)])) [some (.ref b), some (.bl nm), some x, th, inp, c5, c6] h = .next [some (.ref b), some (.bl nm), some x, th, inp, some (rdL x), c6] h0 :=
    st_asg (set_v (ev_call (vs := [x]) (h1 := h) (by simp only [x_lit, x_var, x_glb, x_tup, x_lst, x_dct, x_bin, x_neg, x_not, x_and, x_or, x_ite, x_cmp, x_chain, x_idx, x_slc, x_rev, x_isi, x_fn, x_mth, x_call, x_callk, x_src, evs, evTs, evO, evIfs, evE, y_asg, y_sub, y_aug, y_exp, y_ifs, y_ret, y_retN, y_pass, y_brk, y_cnt, y_rse, evSs, Res.bind_ok, Res.bind_exc, Res.bind_bad, Res.of_some, Res.of_none, settle_v, settle_t, Res.noX_ok, Res.st_ok, Res.st_exc, Res.st_bad, SR.then_next, SR.then_ret, SR.then_brk, SR.then_cnt, SR.then_exc, SR.then_bad, SR.out, List.getElem?_cons_zero, List.getElem?_cons_succ, List.set_cons_zero, List.set_cons_succ, bindT, bindTs, Option.bind_some, Option.bind_none, Option.map_some, Option.map_none, vOf, if_true, if_false, Bool.false_eq_true, Bool.not_true, Bool.not_false, List.map_cons, List.map_nil, wipeM, Ev.locked, reduceCtorEq, f1, tru, List.length_cons, List.length_nil, Nat.reduceAdd, Nat.zero_add, sz0, sz1, sz2, sz3, sz4, sz5, sz6, sz7, sz8, sz9, sz10, sz11, sz12, sz13, sz14, sz15, sz16, sz17, sz18, sz19, sz20, sz21, sz22, sz23]) f1)) rfl
  have d0 := d.pre p0
  have f2 := s_asked1 (k := k) (L := []) (nm := nm) (by omega) d0.okv (fun z e => (ok z e).1)
  rw [er] at f2
  have s2 : evS subP ⟨callM PP k, glbP, []⟩ (.asg (.nm 6) (.call 30 [(.lit (.int 1)), (.var 2), (.var 1)])) [some (.ref b), some (.bl nm), some x, th, inp, some (rdL x), c6] h0 = .next [some (.ref b), some (.bl nm), some x, th, inp, some (rdL x), some (.ref h0.length)] (h0 ++ [.lst (if rdL x = .non then [.str "text", x] else [.str "told", rdL x])]) :=
    st_asg (set_v (ev_call (vs := [.int 1, x, .bl nm]) (h1 := h0) (by simp only [x_lit, x_var, x_glb, x_tup, x_lst, x_dct, x_bin, x_neg, x_not, x_and, x_or, x_ite, x_cmp, x_chain, x_idx, x_slc, x_rev, x_isi, x_fn, x_mth, x_call, x_callk, x_src, evs, evTs, evO, evIfs, evE, y_asg, y_sub, y_aug, y_exp, y_ifs, y_ret, y_retN, y_pass, y_brk, y_cnt, y_rse, evSs, Res.bind_ok, Res.bind_exc, Res.bind_bad, Res.of_some, Res.of_none, settle_v, settle_t, Res.noX_ok, Res.st_ok, Res.st_exc, Res.st_bad, SR.then_next, SR.then_ret, SR.then_brk, SR.then_cnt, SR.then_exc, SR.then_bad, SR.out, List.getElem?_cons_zero, List.getElem?_cons_succ, List.set_cons_zero, List.set_cons_succ, bindT, bindTs, Option.bind_some, Option.bind_none, Option.map_some, Option.map_none, vOf, if_true, if_false, Bool.false_eq_true, Bool.not_true, Bool.not_false, List.map_cons, List.map_nil, wipeM, Ev.locked, reduceCtorEq, f1, tru, List.length_cons, List.length_nil, Nat.reduceAdd, Nat.zero_add, sz0, sz1, sz2, sz3, sz4, sz5, sz6, sz7, sz8, sz9, sz10, sz11, sz12, sz13, sz14, sz15, sz16, sz17, sz18, sz19, sz20, sz21, sz22, sz23]) f2)) rfl
  generalize eh : h0 ++ [MO.lst (if rdL x = .non then [.str "text", x] else [.str "told", rdL x])] = h1 at s2
  have p1 : Pre h0 h1 := by rw [← eh]; exact Pre.app _ _
  have q1 : h1[h0.length]? = some (.lst (if rdL x = .non then [.str "text", x] else [.str "told", rdL x])) := by rw [← eh]; exact pre_at _
  have cs : rdL x = .non ∨ ∃ xs, rdL x = .tup xs ∧ isThr (.tup xs) = true := by
    rw [← er]
    cases x with
    | str z => exact thrV_cases z
    | _ => exact .inl rfl
  have s5 : ∀ (h' : MH) (c5 c6 : Option MV), evS subP ⟨callM PP k, glbP, []⟩ (.asg (.nm 1) (.not (.var 1))) [some (.ref b), some (.bl nm), some x, th, inp, c5, c6] h' = .next [some (.ref b), some (.bl (!nm)), some x, th, inp, c5, c6] h' := by
    intro h' c5 c6
    exact st_asg (set_v (ev_notb (by simp only [x_lit, x_var, x_glb, x_tup, x_lst, x_dct, x_bin, x_neg, x_not, x_and, x_or, x_ite, x_cmp, x_chain, x_idx, x_slc, x_rev, x_isi, x_fn, x_mth, x_call, x_callk, x_src, evs, evTs, evO, evIfs, evE, y_asg, y_sub, y_aug, y_exp, y_ifs, y_ret, y_retN, y_pass, y_brk, y_cnt, y_rse, evSs, Res.bind_ok, Res.bind_exc, Res.bind_bad, Res.of_some, Res.of_none, settle_v, settle_t, Res.noX_ok, Res.st_ok, Res.st_exc, Res.st_bad, SR.then_next, SR.then_ret, SR.then_brk, SR.then_cnt, SR.then_exc, SR.then_bad, SR.out, List.getElem?_cons_zero, List.getElem?_cons_succ, List.set_cons_zero, List.set_cons_succ, bindT, bindTs, Option.bind_some, Option.bind_none, Option.map_some, Option.map_none, vOf, if_true, if_false, Bool.false_eq_true, Bool.not_true, Bool.not_false, List.map_cons, List.map_nil, wipeM, Ev.locked, reduceCtorEq, f1, tru, List.length_cons, List.length_nil, Nat.reduceAdd, Nat.zero_add, sz0, sz1, sz2, sz3, sz4, sz5, sz6, sz7, sz8, sz9, sz10, sz11, sz12, sz13, sz14, sz15, sz16, sz17, sz18, sz19, sz20, sz21, sz22, sz23]))) rfl
  generalize rdL x = r at *
  rcases cs with rfl | ⟨xs, rfl, ht⟩
  · rw [if_pos rfl] at q1
    obtain ⟨h4, f6, g⟩ := s_refusal (k := k) (by omega) (d0.pre p1) (by omega) (by omega) q1 (D_ne d0)
    have s4 : evS subP ⟨callM PP k, glbP, []⟩ (.ifs (.not (.ite (.cmp .IsNot (.var 5) (.lit .non)) (.call 18 [(.var 6), (.lst [(.lit (.str "told")), (.var 5)])]) (.call 31 [(.var 6), (.lit (.str "text")), (.var 2)]))) [.ret (.lit (.bl false))] []) [some (.ref b), some (.bl nm), some x, th, inp, some .non, some (.ref h0.length)] h1 = .next [some (.ref b), some (.bl nm), some x, th, inp, some .non, some (.ref h0.length)] h4 := by
      refine st_not ((ev_iteb (c := false) (h1 := h1) (by simp only [x_lit, x_var, x_glb, x_tup, x_lst, x_dct, x_bin, x_neg, x_not, x_and, x_or, x_ite, x_cmp, x_chain, x_idx, x_slc, x_rev, x_isi, x_fn, x_mth, x_call, x_callk, x_src, evs, evTs, evO, evIfs, evE, y_asg, y_sub, y_aug, y_exp, y_ifs, y_ret, y_retN, y_pass, y_brk, y_cnt, y_rse, evSs, Res.bind_ok, Res.bind_exc, Res.bind_bad, Res.of_some, Res.of_none, settle_v, settle_t, Res.noX_ok, Res.st_ok, Res.st_exc, Res.st_bad, SR.then_next, SR.then_ret, SR.then_brk, SR.then_cnt, SR.then_exc, SR.then_bad, SR.out, List.getElem?_cons_zero, List.getElem?_cons_succ, List.set_cons_zero, List.set_cons_succ, bindT, bindTs, Option.bind_some, Option.bind_none, Option.map_some, Option.map_none, vOf, if_true, if_false, Bool.false_eq_true, Bool.not_true, Bool.not_false, List.map_cons, List.map_nil, wipeM, Ev.locked, reduceCtorEq, f1, tru, List.length_cons, List.length_nil, Nat.reduceAdd, Nat.zero_add, sz0, sz1, sz2, sz3, sz4, sz5, sz6, sz7, sz8, sz9, sz10, sz11, sz12, sz13, sz14, sz15, sz16, sz17, sz18, sz19, sz20, sz21, sz22, sz23, cmpT, isT])).trans ((if_neg (by simp)).trans ?_))
      exact ev_call (vs := [.ref h0.length, .str "text", x]) (h1 := h1) (by simp only [x_lit, x_var, x_glb, x_tup, x_lst, x_dct, x_bin, x_neg, x_not, x_and, x_or, x_ite, x_cmp, x_chain, x_idx, x_slc, x_rev, x_isi, x_fn, x_mth, x_call, x_callk, x_src, evs, evTs, evO, evIfs, evE, y_asg, y_sub, y_aug, y_exp, y_ifs, y_ret, y_retN, y_pass, y_brk, y_cnt, y_rse, evSs, Res.bind_ok, Res.bind_exc, Res.bind_bad, Res.of_some, Res.of_none, settle_v, settle_t, Res.noX_ok, Res.st_ok, Res.st_exc, Res.st_bad, SR.then_next, SR.then_ret, SR.then_brk, SR.then_cnt, SR.then_exc, SR.then_bad, SR.out, List.getElem?_cons_zero, List.getElem?_cons_succ, List.set_cons_zero, List.set_cons_succ, bindT, bindTs, Option.bind_some, Option.bind_none, Option.map_some, Option.map_none, vOf, if_true, if_false, Bool.false_eq_true, Bool.not_true, Bool.not_false, List.map_cons, List.map_nil, wipeM, Ev.locked, reduceCtorEq, f1, tru, List.length_cons, List.length_nil, Nat.reduceAdd, Nat.zero_add, sz0, sz1, sz2, sz3, sz4, sz5, sz6, sz7, sz8, sz9, sz10, sz11, sz12, sz13, sz14, sz15, sz16, sz17, sz18, sz19, sz20, sz21, sz22, sz23]) f6
    exact ⟨_, _, h4, by rw [bodyT, seq_next s1, seq_next s2, seq_next s4, seq_next (s5 h4 _ _), seq_nil], Gr.preL (p0.trans p1) g⟩
  · rw [if_neg (by simp)] at q1
    let h4 : MH := h1 ++ [.lst [.str "told", .tup xs]]
    have q4 : h4[h0.length]? = some (.lst [.str "told", .tup xs]) := Pre.app h1 _ _ _ q1
    have f6 : callM PP k [] 18 [.ref h0.length, .ref h1.length] h4 = .ok (.bl true) h4 := same_flats (by omega) q4 (pre_at _) (by simp) (B := 3) (n := 1) (fun y hy => by
      simp at hy
      rcases hy with rfl | rfl
      · trivial
      · exact thr_D ht (Nat.le_refl _)) (by omega) (by omega)
    have s4 : evS subP ⟨callM PP k, glbP, []⟩ (.ifs (.not (.ite (.cmp .IsNot (.var 5) (.lit .non)) (.call 18 [(.var 6), (.lst [(.lit (.str "told")), (.var 5)])]) (.call 31 [(.var 6), (.lit (.str "text")), (.var 2)]))) [.ret (.lit (.bl false))] []) [some (.ref b), some (.bl nm), some x, th, inp, some (.tup xs), some (.ref h0.length)] h1 = .next [some (.ref b), some (.bl nm), some x, th, inp, some (.tup xs), some (.ref h0.length)] h4 := by
      refine st_not ((ev_iteb (c := true) (h1 := h1) (by simp only [x_lit, x_var, x_glb, x_tup, x_lst, x_dct, x_bin, x_neg, x_not, x_and, x_or, x_ite, x_cmp, x_chain, x_idx, x_slc, x_rev, x_isi, x_fn, x_mth, x_call, x_callk, x_src, evs, evTs, evO, evIfs, evE, y_asg, y_sub, y_aug, y_exp, y_ifs, y_ret, y_retN, y_pass, y_brk, y_cnt, y_rse, evSs, Res.bind_ok, Res.bind_exc, Res.bind_bad, Res.of_some, Res.of_none, settle_v, settle_t, Res.noX_ok, Res.st_ok, Res.st_exc, Res.st_bad, SR.then_next, SR.then_ret, SR.then_brk, SR.then_cnt, SR.then_exc, SR.then_bad, SR.out, List.getElem?_cons_zero, List.getElem?_cons_succ, List.set_cons_zero, List.set_cons_succ, bindT, bindTs, Option.bind_some, Option.bind_none, Option.map_some, Option.map_none, vOf, if_true, if_false, Bool.false_eq_true, Bool.not_true, Bool.not_false, List.map_cons, List.map_nil, wipeM, Ev.locked, reduceCtorEq, f1, tru, List.length_cons, List.length_nil, Nat.reduceAdd, Nat.zero_add, sz0, sz1, sz2, sz3, sz4, sz5, sz6, sz7, sz8, sz9, sz10, sz11, sz12, sz13, sz14, sz15, sz16, sz17, sz18, sz19, sz20, sz21, sz22, sz23, cmpT, isT])).trans ((if_pos rfl).trans ?_))
      exact ev_call (vs := [.ref h0.length, .ref h1.length]) (h1 := h4) (evs_cons (h1 := h1) (set_v (by simp only [x_lit, x_var, x_glb, x_tup, x_lst, x_dct, x_bin, x_neg, x_not, x_and, x_or, x_ite, x_cmp, x_chain, x_idx, x_slc, x_rev, x_isi, x_fn, x_mth, x_call, x_callk, x_src, evs, evTs, evO, evIfs, evE, y_asg, y_sub, y_aug, y_exp, y_ifs, y_ret, y_retN, y_pass, y_brk, y_cnt, y_rse, evSs, Res.bind_ok, Res.bind_exc, Res.bind_bad, Res.of_some, Res.of_none, settle_v, settle_t, Res.noX_ok, Res.st_ok, Res.st_exc, Res.st_bad, SR.then_next, SR.then_ret, SR.then_brk, SR.then_cnt, SR.then_exc, SR.then_bad, SR.out, List.getElem?_cons_zero, List.getElem?_cons_succ, List.set_cons_zero, List.set_cons_succ, bindT, bindTs, Option.bind_some, Option.bind_none, Option.map_some, Option.map_none, vOf, if_true, if_false, Bool.false_eq_true, Bool.not_true, Bool.not_false, List.map_cons, List.map_nil, wipeM, Ev.locked, reduceCtorEq, f1, tru, List.length_cons, List.length_nil, Nat.reduceAdd, Nat.zero_add, sz0, sz1, sz2, sz3, sz4, sz5, sz6, sz7, sz8, sz9, sz10, sz11, sz12, sz13, sz14, sz15, sz16, sz17, sz18, sz19, sz20, sz21, sz22, sz23])) (evs_cons (set_t (ev_lst (vs := [.str "told", .tup xs]) (by simp only [x_lit, x_var, x_glb, x_tup, x_lst, x_dct, x_bin, x_neg, x_not, x_and, x_or, x_ite, x_cmp, x_chain, x_idx, x_slc, x_rev, x_isi, x_fn, x_mth, x_call, x_callk, x_src, evs, evTs, evO, evIfs, evE, y_asg, y_sub, y_aug, y_exp, y_ifs, y_ret, y_retN, y_pass, y_brk, y_cnt, y_rse, evSs, Res.bind_ok, Res.bind_exc, Res.bind_bad, Res.of_some, Res.of_none, settle_v, settle_t, Res.noX_ok, Res.st_ok, Res.st_exc, Res.st_bad, SR.then_next, SR.then_ret, SR.then_brk, SR.then_cnt, SR.then_exc, SR.then_bad, SR.out, List.getElem?_cons_zero, List.getElem?_cons_succ, List.set_cons_zero, List.set_cons_succ, bindT, bindTs, Option.bind_some, Option.bind_none, Option.map_some, Option.map_none, vOf, if_true, if_false, Bool.false_eq_true, Bool.not_true, Bool.not_false, List.map_cons, List.map_nil, wipeM, Ev.locked, reduceCtorEq, f1, tru, List.length_cons, List.length_nil, Nat.reduceAdd, Nat.zero_add, sz0, sz1, sz2, sz3, sz4, sz5, sz6, sz7, sz8, sz9, sz10, sz11, sz12, sz13, sz14, sz15, sz16, sz17, sz18, sz19, sz20, sz21, sz22, sz23]) (by simp))) evs_nil)) f6
    exact ⟨_, _, h4, by rw [bodyT, seq_next s1, seq_next s2, seq_next s4, seq_next (s5 h4 _ _), seq_nil], Gr.ofPre ((p0.trans p1).trans (Pre.app h1 _))⟩
/-- the script stays -/
def Sc (h h' : MH) : Prop := ∀ (s : Nat) (ns : List Int), h[s]? = some (.scr ns) → h'[s]? = some (.scr ns)
theorem Sc.refl (h : MH) : Sc h h := fun _ _ e => e
theorem Sc.trans {a b c : MH} (x : Sc a b) (y : Sc b c) : Sc a c := fun s ns e => y s ns (x s ns e)
theorem Pre.sc {h h' : MH} (x : Pre h h') : Sc h h' := fun s ns e => x _ _ e
theorem Bo.sc {b : Nat} {n : Int} {h h' : MH} (x : Bo b h h') (y : Bx h b n) : Sc h h' := fun s ns e => x.at' s _ (by
  rintro rfl
  obtain ⟨a, f, c, m, e', -⟩ := y
  rw [e] at e'; cases e') e
theorem Gr.sc {v : MV} {B n : Nat} {h h' : MH} (x : Gr v h h') (d : D h B n v) : Sc h h' := fun s ns e => x.at' s _ (by
  rintro rfl
  cases n with
  | zero => exact d.elim
  | succ n =>
    rcases d with ⟨xs, e', -⟩ | ⟨xs, e', -⟩ <;> (rw [e] at e'; cases e')) e
/-- the loop over near values -/
theorem loop_V {hS : MH} {body : List MSt} {b p : Nat} {n : Int} {xs0 : List MV} {th inp : Option MV} (Pv : MV → Prop) (hp0 : p ≠ b)
    (hb : ∀ (h : MH) (nm : Bool) (x : MV) (c5 c6 : Option MV) (B : Nat), D h B 4 x → B ≤ 900 → Pv x → ∃ c5' c6' h', evSs S E body [some (.ref b), some (.bl nm), some x, th, inp, c5, c6] h = .next [some (.ref b), some (.bl (!nm)), some x, th, inp, c5', c6'] h' ∧ Gr x h h') :
    ∀ (xs : List MV) (σ : MS) (h : MH), (h[p]? = some (.lst xs0) ∧ xs.length ≤ 30 ∧ (∀ x ∈ xs, D h (60 - xs.length) 4 x ∧ Fr b p x ∧ Pv x) ∧ Bx h b n ∧ Sc hS h ∧ ∃ nm c2 c5 c6, σ = [some (.ref b), some (.bl nm), c2, th, inp, c5, c6]) →
    ∃ σ' h', loopS ⟨some p, none, xs0⟩ (fun x σ h => (match bindT (.nm 2) x σ with
      | some σ' => evSs S E body σ' h
      | none => .bad)) xs σ h = .next σ' h' ∧ Bx h' b n ∧ Sc hS h' ∧ ∃ nm c2 c5 c6, σ' = [some (.ref b), some (.bl nm), c2, th, inp, c5, c6] := by
  intro xs σ h i
  obtain ⟨σ', h', e, i'⟩ := loopS_inv (t := ⟨some p, none, xs0⟩) (f := fun x σ h => (match bindT (.nm 2) x σ with
      | some σ' => evSs S E body σ' h
      | none => .bad)) (fun xs σ h => h[p]? = some (.lst xs0) ∧ xs.length ≤ 30 ∧ (∀ x ∈ xs, D h (60 - xs.length) 4 x ∧ Fr b p x ∧ Pv x) ∧ Bx h b n ∧ Sc hS h ∧ ∃ nm c2 c5 c6, σ = [some (.ref b), some (.bl nm), c2, th, inp, c5, c6])
    (fun xs σ h i => still_ref i.1)
    (fun x xs σ h ⟨i1, i2, i3, i4, iS, nm, c2, c5, c6, i5⟩ => by
      subst i5
      obtain ⟨dx, fx, px⟩ := i3 x (by simp)
      rw [List.length_cons] at i2
      obtain ⟨c5', c6', h', e, g⟩ := hb h nm x c5 c6 _ dx (by omega) px
      refine ⟨_, h', e, g.at' p _ (fun e => (fx p e).2 rfl) i1, by omega, fun y hy => ?_, ?_, iS.trans (g.sc dx), !nm, some x, c5', c6', rfl⟩
      · obtain ⟨dy, fy, py⟩ := i3 y (by simp [hy])
        refine ⟨?_, fy, py⟩
        have := dy.gr g
        rw [List.length_cons, show 60 - (xs.length + 1) + 1 = 60 - xs.length by omega] at this
        exact this
      · obtain ⟨a, f, c, m, e', r⟩ := i4
        exact ⟨a, f, c, m, g.at' b _ (fun e => (fx b e).1 rfl) e', r⟩) xs σ h i
  exact ⟨σ', h', e, i'.2.2.2.1, i'.2.2.2.2.1, i'.2.2.2.2.2⟩
end
end MP.Q

set_option linter.all false
set_option autoImplicit false
set_option maxRecDepth 100000
namespace MP.Q
open PySem PyProof.Rows L2
/-! ### what is read of any short text -/
def dgs : List Nat := [48, 49, 50, 51, 52, 53, 54, 55, 56, 57]
theorem inDig_at (c : Nat) : inDig (.str ⟨#[c]⟩) = (decide (48 ≤ c) && decide (c ≤ 57)) := by
  have e : (Str.ofString "0123456789").cps.toList = dgs := by decide
  have := StrLaws.found_one (Str.ofString "0123456789") c
  rw [e] at this
  show (!(Builtin.Str.occurrences (Str.ofString "0123456789") ⟨#[c]⟩ 0 (Str.ofString "0123456789").length 1).isEmpty) = _
  rw [this]
  simp only [dgs, List.mem_cons, List.not_mem_nil, or_false]
  by_cases h : 48 ≤ c ∧ c ≤ 57
  · rw [decide_eq_true (by omega), decide_eq_true h.1, decide_eq_true h.2]; rfl
  · rw [decide_eq_false (by omega)]
    by_cases h1 : 48 ≤ c
    · rw [decide_eq_true h1, decide_eq_false (by omega)]; rfl
    · rw [decide_eq_false h1]; rfl
abbrev SS (a : List Nat) : Str := ⟨a.toArray⟩
theorem ss_eq (z : Str) : ∃ a, z = SS a := ⟨z.cps.toList, by cases z; simp⟩
theorem ss_len (a : List Nat) : (SS a).length = a.length := by simp [Str.length]
theorem ss_list (a : List Nat) : (SS a).cps.toList = a := rfl
theorem chars_all (a : List Nat) : (chars (SS a)).all inDig = true ↔ NumText.AllDigits a := by
  simp only [chars, ss_list, List.all_map, List.all_eq_true, NumText.AllDigits, Function.comp, inDig_at, Bool.and_eq_true, decide_eq_true_eq]
theorem starts_m (a : List Nat) : Txt.startswith (SS a) "-" = (match a with | 45 :: _ => true | _ => false) := by
  have e : (Str.ofString "-") = SS [45] := by decide
  rw [e]
  unfold Txt.startswith Builtin.Str.subAt
  rw [ss_len, ss_len]
  cases a with
  | nil => rfl
  | cons c r =>
    have : ((SS (c :: r)).cps.extract 0 (0 + [45].length)) = #[c] := by
      show ((c :: r).toArray.extract 0 1) = #[c]
      simp
    rw [this]
    by_cases q : c = 45
    · subst q; simp
    · have q' : (#[c] == (#[45] : Array Nat)) = false := by simp [q]
      show (decide _ && (#[c] == (#[45] : Array Nat))) = _
      rw [q', Bool.and_false]
      split
      · rename_i e; cases e; exact absurd rfl q
      · rfl
theorem cut_m (c : Nat) (r : List Nat) : L2.cutS (SS (c :: r)) (some 1) none = SS r := by
  unfold L2.cutS
  have e1 : HT.sIx (SS (c :: r)).length 0 (some 1) = 1 := by
    rw [show HT.sIx (SS (c :: r)).length 0 (some 1) = min 1 (SS (c :: r)).length from HT.sIx_nat _ _ 1, ss_len]; simp
  rw [e1, HT.sIx_none, ss_len, ss_list]
  simp
theorem m45t {c : Nat} {r : List Nat} (q : c ≠ 45) : (match c :: r with | 45 :: _ => true | _ => false) = false := by
  split
  · rename_i e; cases e; exact absurd rfl q
  · rfl
theorem m45s {c : Nat} {r : List Nat} (q : c ≠ 45) : (match c :: r with | 45 :: r => SS r | _ => SS (c :: r)) = SS (c :: r) := by
  split
  · rename_i e; cases e; exact absurd rfl q
  · rfl
theorem digZ_neg (r : List Nat) : digZ (SS (45 :: r)) = SS r := by
  unfold digZ
  rw [starts_m]
  exact cut_m 45 r
theorem digZ_pos {c : Nat} (r : List Nat) (q : c ≠ 45) : digZ (SS (c :: r)) = SS (c :: r) := by
  unfold digZ
  rw [starts_m, m45t q, if_neg (by simp)]
theorem digZ_nil : digZ (SS []) = SS [] := by
  unfold digZ
  rw [starts_m]
  rfl
theorem ss_nil (a : List Nat) : SS a = "" ↔ a = [] := by
  constructor
  · intro h
    have e : ("" : Str) = SS [] := by decide
    rw [e] at h
    have := congrArg (fun z : Str => z.cps.toList) h
    simpa using this
  · rintro rfl; decide
theorem ss_inj {a b : List Nat} (h : SS a = SS b) : a = b := by
  have := congrArg (fun z : Str => z.cps.toList) h
  simpa using this
/-- a part that isn't bad: digits behind a sign or none -/
theorem bad_cases {z : Str} (h : badZ z = false) : ∃ d, d ≠ [] ∧ NumText.AllDigits d ∧ digZ z = SS d ∧ (z = SS (45 :: d) ∨ (z = SS d)) := by
  obtain ⟨a, rfl⟩ := ss_eq z
  unfold badZ at h
  rw [Bool.or_eq_false_iff, decide_eq_false_iff_not, Bool.not_eq_false'] at h
  match a, h with
  | [], h => rw [digZ_nil] at h; exact absurd ((ss_nil []).mpr rfl) h.1
  | c :: r, h =>
    by_cases q : c = 45
    · subst q
      rw [digZ_neg] at h
      exact ⟨r, fun z => h.1 ((ss_nil r).mpr z), (chars_all r).mp h.2, digZ_neg r, .inl rfl⟩
    · rw [digZ_pos r q] at h
      exact ⟨c :: r, by simp, (chars_all _).mp h.2, digZ_pos r q, .inr rfl⟩
theorem digZ_len (z : Str) : (digZ z).length ≤ z.length := by
  obtain ⟨a, rfl⟩ := ss_eq z
  match a with
  | [] => rw [digZ_nil]; exact Nat.le_refl _
  | c :: r =>
    by_cases q : c = 45
    · subst q; rw [digZ_neg, ss_len, ss_len]; simp
    · rw [digZ_pos r q]; exact Nat.le_refl _
theorem text_some {z : Str} (hl : z.length ≤ 100) (h : badZ z = false) : ∃ n, PySem.intText? z = some n := by
  obtain ⟨d, h1, h2, -, h4 | h4⟩ := bad_cases h
  · subst h4
    exact ⟨_, PySem.intText_neg (x := SS (45 :: d)) rfl h2 h1 (by omega)⟩
  · subst h4
    exact ⟨_, PySem.intText_digits (x := SS d) h2 h1 (by omega)⟩
theorem intOk_all {z : Str} (hl : z.length ≤ 100) : intOk z = true := by
  have := digZ_len z
  simp only [intOk, Bool.and_eq_true, Bool.or_eq_true, decide_eq_true_eq]
  refine ⟨hl, by omega, ?_⟩
  cases h : badZ z with
  | true => exact .inl rfl
  | false =>
    obtain ⟨n, e⟩ := text_some hl h
    obtain ⟨d, h1, -, h3, -⟩ := bad_cases h
    refine .inr ⟨?_, .inr (by rw [e]; rfl)⟩
    rw [h3]
    cases d with
    | nil => exact absurd rfl h1
    | cons c r => rfl
theorem intV_cases (z : Str) : intV z = .non ∨ ∃ n, intV z = .int n := by
  unfold intV
  split
  · exact .inl rfl
  · split
    · exact .inl rfl
    · split
      · exact .inr ⟨_, rfl⟩
      · exact .inl rfl
theorem inL_flat : ∀ {xs : List MV}, (∀ x ∈ xs, x = .non ∨ ∃ n, x = .int n) → ∃ ds, MV.toDs xs = some ds ∧ PyData.depthAll ds = 0 ∧ (ds.any fun e => PyData.eqv e .none) = hasNon xs
  | [], _ => ⟨[], rfl, rfl, rfl⟩
  | x :: xs, h => by
    obtain ⟨ds, e1, e2, e3⟩ := inL_flat fun y hy => h y (List.mem_cons_of_mem _ hy)
    rcases h x (by simp) with rfl | ⟨n, rfl⟩
    · refine ⟨.none :: ds, by simp [MV.toDs, MV.toD, e1], by simp [PyData.depthAll, PyData.depth, e2], ?_⟩
      rw [List.any_cons, e3, hasNon, hasNon, List.any_cons]; rfl
    · refine ⟨.int n :: ds, by simp [MV.toDs, MV.toD, e1], by simp [PyData.depthAll, PyData.depth, e2], ?_⟩
      rw [List.any_cons, e3, hasNon, hasNon, List.any_cons]; rfl
theorem tOk_all {z : Str} (hl : z.length ≤ 100) : tOk z = true := by
  have fl : ∀ x ∈ partsZ z, x = .non ∨ ∃ n, x = .int n := by
    intro x hx
    obtain ⟨y, -, rfl⟩ := List.mem_map.mp hx
    exact intV_cases y
  simp only [tOk, Bool.and_eq_true, Bool.or_eq_true, decide_eq_true_eq, List.all_eq_true]
  refine ⟨hl, .inr ⟨fun y hy => intOk_all (Nat.le_trans (part_short hy) hl), ?_, fun x hx => ?_⟩⟩
  · obtain ⟨ds, e1, e2, e3⟩ := inL_flat fl
    have : min (PyData.depthAll ds) PyData.none.depth ≤ 60 := by omega
    rw [inL, show MV.toD .non = some PyData.none from rfl, Option.bind_some, e1, Option.bind_some, if_pos this, e3]
  · rcases fl x hx with rfl | ⟨n, rfl⟩
    · exact .inr rfl
    · exact .inl rfl
theorem intV_dig {z : Str} (hl : z.length ≤ 4000) (h : within 0 2 (intV z) = true) : digS (intV z) = z := by
  unfold intV at h ⊢
  cases hb : badZ z with
  | true => rw [hb] at h; cases h
  | false =>
    rw [hb] at h
    simp only [Bool.false_eq_true, if_false] at h ⊢
    cases hd : ledZ z with
    | true => rw [hd] at h; cases h
    | false =>
      rw [hd] at h
      simp only [Bool.false_eq_true, if_false] at h ⊢
      obtain ⟨d, h1, h2, h3, h4⟩ := bad_cases hb
      unfold ledZ at hd
      rw [h3] at hd
      match d, h1, h2, h3, h4, hd with
      | c :: r, _, h2, h3, h4, hd =>
        have hc := h2.head
        have hh : headZ (SS (c :: r)) = SS [c] := rfl
        rw [hh] at hd
        have z0 : ("0" : Str) = SS [48] := by decide
        rw [z0] at hd
        rcases h4 with rfl | rfl
        · have e := PySem.intText_neg (x := SS (45 :: c :: r)) rfl h2 (by simp) (by omega)
          rw [e] at h
          simp only [within, Bool.and_eq_true, decide_eq_true_eq] at h
          have c48 : c ≠ 48 := by
            rintro rfl
            rw [decide_eq_true rfl, decide_eq_false (fun q => by have := ss_inj q; simp at this)] at hd
            cases hd
          have := NumText.digitsVal_pos (c := c) (cs := r) (by omega)
          omega
        · have e := PySem.intText_digits (x := SS (c :: r)) h2 (by simp [ss_list]) (by omega)
          rw [e] at h ⊢
          simp only [within, Bool.and_eq_true, decide_eq_true_eq, ss_list] at h
          by_cases c48 : c = 48
          · subst c48
            rw [decide_eq_true rfl, Bool.true_and, Bool.not_eq_false', decide_eq_true_eq] at hd
            have := ss_inj hd
            cases this
            decide
          · have c49 : 49 ≤ c := by omega
            cases r with
            | nil =>
              have v : NumText.digitsVal [c] = c - 48 := by simp [NumText.digitsVal]
              rw [v] at h
              have : c = 49 ∨ c = 50 := by omega
              rcases this with rfl | rfl <;> decide
            | cons d r =>
              have ne : d :: r ≠ [] := by simp
              have sn := NumText.digitsVal_snoc (c :: (d :: r).dropLast) ((d :: r).getLast ne)
              have es : c :: (d :: r).dropLast ++ [(d :: r).getLast ne] = c :: d :: r := by
                rw [List.cons_append, List.dropLast_concat_getLast]
              rw [es] at sn
              have := NumText.digitsVal_pos (c := c) (cs := (d :: r).dropLast) c49
              omega
theorem thrV_dots {z : Str} (hl : z.length ≤ 4000) {xs : List MV} (h : thrV z = .tup xs) : dotsV (.tup xs) = z := by
  unfold thrV at h
  split at h
  · rename_i e
    cases h
    exact e.symm
  · split at h
    · cases h
    · split at h
      · rename_i q
        cases h
        simp only [isThr, Bool.and_eq_true, List.all_eq_true] at q
        have ed : (partsZ z).map digS = Txt.split z "." := by
          unfold partsZ
          rw [List.map_map]
          have : ∀ ys : List Str, (∀ y ∈ ys, digS (intV y) = y) → ys.map (digS ∘ intV) = ys := by
            intro ys hy
            induction ys with
            | nil => rfl
            | cons y ys ih => rw [List.map_cons, ih fun w hw => hy w (List.mem_cons_of_mem _ hw)]; exact congrArg (· :: ys) (hy y (by simp))
          exact this _ fun y hy => intV_dig (Nat.le_trans (part_short hy) hl) (q.2 _ (List.mem_map.mpr ⟨y, hy, rfl⟩))
        have ne : partsZ z ≠ [] := by
          intro e
          have := split_pos z "."
          rw [← ed, e] at this
          simp at this
        cases ep : partsZ z with
        | nil => exact absurd ep ne
        | cons x r =>
          rw [ep] at ed
          show Txt.join "." ((x :: r).map digS) = z
          rw [ed]
          show Builtin.Str.glued _ _ = _
          rw [StrLaws.glued_eq_join, StrLaws.join_split]
      · cases h
theorem thrV_back : ∀ t ∈ thr40, thrV (dotsV t) = t := by
  have : (thr40.all fun t => decide (thrV (dotsV t) = t)) = true := by decide +kernel
  intro t ht
  exact of_decide_eq_true (List.all_eq_true.mp this t ht)
theorem read_same {z : Str} (hl : z.length ≤ 4000) : thrV z = rdS z := by
  have key : ∀ t ∈ thr40.filter (fun t => decide (dotsV t = z)), thrV z = t := by
    intro t ht
    obtain ⟨h1, h2⟩ := List.mem_filter.mp ht
    rw [← of_decide_eq_true h2]
    exact thrV_back t h1
  unfold rdS
  rcases thrV_cases z with h | ⟨xs, h, ht⟩
  · cases e : thr40.filter (fun t => decide (dotsV t = z)) with
    | nil => rw [h]; rfl
    | cons t r =>
      have q := key t (by rw [e]; simp)
      rw [h] at q
      have m : t ∈ thr40 := (List.mem_filter.mp (show t ∈ thr40.filter (fun t => decide (dotsV t = z)) by rw [e]; simp)).1
      have := thr_is m
      rw [← q] at this
      cases this
  · have m : MV.tup xs ∈ thr40.filter (fun t => decide (dotsV t = z)) := List.mem_filter.mpr ⟨thr_mem ht, decide_eq_true (thrV_dots hl h)⟩
    cases e : thr40.filter (fun t => decide (dotsV t = z)) with
    | nil => rw [e] at m; simp at m
    | cons t r => exact key t (by rw [e]; simp)
end MP.Q

set_option linter.all false
set_option autoImplicit false
set_option maxRecDepth 100000
namespace MP.Q
open PySem PyProof.Rows L2
/-! ### threads in their order -/
def rkT : MV → Nat
  | .tup [.int a] => (a.toNat + 1) * 16
  | .tup [.int a, .int b] => (a.toNat + 1) * 16 + (b.toNat + 1) * 4
  | .tup [.int a, .int b, .int c] => (a.toNat + 1) * 16 + (b.toNat + 1) * 4 + (c.toNat + 1)
  | _ => 0
theorem rk_lt : ∀ x ∈ thr40, ∀ y ∈ thr40, ltV x y = decide (rkT x < rkT y) := by
  have : (thr40.all fun x => thr40.all fun y => ltV x y == decide (rkT x < rkT y)) = true := by decide +kernel
  intro x hx y hy
  exact eq_of_beq (List.all_eq_true.mp (List.all_eq_true.mp this x hx) y hy)
theorem rk_inj : ∀ x ∈ thr40, ∀ y ∈ thr40, rkT x = rkT y → x = y := by
  have : (thr40.all fun x => thr40.all fun y => !decide (rkT x = rkT y) || decide (x = y)) = true := by decide +kernel
  intro x hx y hy e
  have := List.all_eq_true.mp (List.all_eq_true.mp this x hx) y hy
  rw [decide_eq_true e] at this
  exact of_decide_eq_true (by simpa using this)
theorem leD_thr {x y : MV} (ex : isThr x = true) (ey : isThr y = true) : leD x y = decide (rkT x ≤ rkT y) := by
  have h1 := rk_lt y (thr_mem ey) x (thr_mem ex)
  obtain ⟨ns, rfl, -, -⟩ := thr_ints ex
  obtain ⟨ms, rfl, -, -⟩ := thr_ints ey
  have e1 : ltT [] (.v (.tup (ms.map .int))) (.v (.tup (ns.map .int))) = some (W.dataLt (.tuple (ms.map .int)) (.tuple (ns.map .int))) := by
    have z1 := W.alike_ints ms ns
    have z2 := W.depth_ints ns
    have z3 := W.depth_ints ms
    simp [ltT, TV.toD, MV.toD, toDs_ints, W.alike, z1, ltT.MV.noneD, PyData.depth, z2, z3]
  rw [ltV, e1] at h1
  have e2 : leD (.tup (ns.map .int)) (.tup (ms.map .int)) = !(W.dataLt (.tuple (ms.map .int)) (.tuple (ns.map .int))) := by
    simp only [leD, MV.toD, toDs_ints, Option.map_some]
  rw [e2]
  rw [Option.getD_some] at h1
  rw [h1]
  by_cases q : rkT (.tup (ms.map .int)) < rkT (.tup (ns.map .int))
  · rw [decide_eq_true q, decide_eq_false (by omega)]; rfl
  · rw [decide_eq_false q, decide_eq_true (by omega)]; rfl
theorem sort_thr {ys : List MV} (ht : ∀ y ∈ ys, isThr y = true) (nd : ys.Nodup) : (sortT ys).Pairwise (fun a b => ltV a b = true) := by
  have e : sortT ys = ys.mergeSort fun a b => decide (rkT a ≤ rkT b) := W.sort_congr fun a ha b hb => leD_thr (ht a ha) (ht b hb)
  have pw : (ys.mergeSort fun a b => decide (rkT a ≤ rkT b)).Pairwise fun a b => decide (rkT a ≤ rkT b) = true := by
    refine W.sort_pairwise ⟨fun a b c => ?_, fun a b => ?_⟩ ys
    all_goals simp only [decide_eq_true_eq]; omega
  have pm : (ys.mergeSort fun a b => decide (rkT a ≤ rkT b)).Perm ys := List.mergeSort_perm _ _
  have nd' : (ys.mergeSort fun a b => decide (rkT a ≤ rkT b)).Nodup := pm.symm.nodup nd
  rw [e]
  refine (pw.and nd').imp_of_mem ?_
  intro a b ma mb ⟨h1, h2⟩
  have ta := thr_mem (ht a (pm.mem_iff.mp ma))
  have tb := thr_mem (ht b (pm.mem_iff.mp mb))
  rw [rk_lt a ta b tb]
  refine decide_eq_true ?_
  have h1' := of_decide_eq_true h1
  rcases Nat.lt_or_ge (rkT a) (rkT b) with q | q
  · exact q
  · exact absurd (rk_inj a ta b tb (by omega)) h2
theorem asc_of {xs : List MV} (h : xs.Pairwise (fun a b => ltV a b = true)) : ascB xs = true := by
  unfold ascB
  rw [List.all_eq_true]
  intro x hx
  obtain ⟨j, hj, rfl⟩ := mem_rng hx
  have j1 : j < xs.length := by omega
  have j2 : j + 1 < xs.length := by omega
  have q := List.pairwise_iff_getElem.mp h j (j + 1) j1 j2 (by omega)
  simp only [ascF]
  rw [show (1 + (j : Int) - 1).toNat = j by omega, show (1 + (j : Int)).toNat = j + 1 by omega]
  simpa [List.getD_eq_getElem?_getD, j1, j2] using q
theorem sortOk_thr {ys : List MV} (ht : ∀ y ∈ ys, isThr y = true) : sortOk ys = true := by
  have key : ∀ ys : List MV, (∀ y ∈ ys, isThr y = true) → ∃ nss : List (List Int), MV.toDs ys = some (nss.map fun ns => PyData.tuple (ns.map .int)) := by
    intro ys
    induction ys with
    | nil => intro _; exact ⟨[], rfl⟩
    | cons y ys ih =>
      intro h
      obtain ⟨nss, e⟩ := ih fun z hz => h z (by simp [hz])
      obtain ⟨ns, rfl, -, -⟩ := thr_ints (h y (by simp))
      refine ⟨ns :: nss, ?_⟩
      simp [MV.toDs, MV.toD, toDs_ints, e]
  obtain ⟨nss, e⟩ := key ys ht
  unfold sortOk
  rw [e]
  simp only [Bool.and_eq_true, Bool.or_eq_true, List.all_eq_true, decide_eq_true_eq]
  refine ⟨fun d hd e' he => ?_, fun d hd => ?_, .inl fun d hd => ?_⟩
  · obtain ⟨ns, -, rfl⟩ := List.mem_map.mp hd
    obtain ⟨ms, -, rfl⟩ := List.mem_map.mp he
    exact W.alike_ints ns ms
  · obtain ⟨ns, -, rfl⟩ := List.mem_map.mp hd
    have : (PyData.tuple (ns.map .int)).depth ≤ 1 := by
      have := W.depth_ints ns
      simp only [PyData.depth, this]; omega
    omega
  · obtain ⟨ns, -, rfl⟩ := List.mem_map.mp hd
    rfl
/-! the dict of rows -/
abbrev KK := List L2.Key
def kT (ks : KK) : MV := .tup (ks.map keyV)
structure KV (kvs : List (KK × MV)) : Prop where
  nd : (kvs.map Prod.fst).Nodup
  ok : ∀ kv ∈ kvs, (∃ ns : List Int, kv.1 = ns.map Sum.inl) ∧ isThr (kT kv.1) = true ∧ isRow kv.2 = true
theorem KV.nil : KV [] := ⟨List.nodup_nil, fun _ h => nomatch h⟩
theorem put_fst {kvs : List (KK × MV)} {k : KK} {v : MV} : (putKV kvs k v).map Prod.fst = if kvs.any (fun kv => decide (kv.1 = k)) then kvs.map Prod.fst else kvs.map Prod.fst ++ [k] := by
  unfold putKV
  split
  · rw [List.map_map]
    refine List.map_congr_left fun kv _ => ?_
    show (if kv.1 = k then (kv.1, v) else kv).1 = kv.1
    split <;> rfl
  · simp
theorem KV.put {kvs : List (KK × MV)} (h : KV kvs) {ns : List Int} {v : MV} (ht : isThr (.tup (ns.map .int)) = true) (hv : isRow v = true) : KV (putKV kvs (ns.map Sum.inl) v) := by
  have ek : kT (ns.map Sum.inl) = .tup (ns.map .int) := by
    simp only [kT, List.map_map]; rfl
  refine ⟨?_, fun kv m => ?_⟩
  · rw [put_fst]
    split
    · exact h.nd
    · rename_i q
      rw [List.nodup_append]
      refine ⟨h.nd, by simp, fun a ha b hb => ?_⟩
      simp at hb
      subst hb
      rintro rfl
      obtain ⟨kv, m, e⟩ := List.mem_map.mp ha
      exact q (List.any_eq_true.mpr ⟨kv, m, decide_eq_true e⟩)
  · unfold putKV at m
    split at m
    · obtain ⟨kv0, m0, rfl⟩ := List.mem_map.mp m
      split
      · have := h.ok kv0 m0
        exact ⟨this.1, this.2.1, hv⟩
      · exact h.ok kv0 m0
    · rcases List.mem_append.mp m with m | m
      · exact h.ok kv m
      · simp at m; subst m
        exact ⟨⟨ns, rfl⟩, by rw [ek]; exact ht, hv⟩
theorem keysOf_map : ∀ ks : KK, keysOf (ks.map keyV) = some ks
  | [] => rfl
  | k :: ks => by rw [List.map_cons, keysOf, keyOf_keyV, Option.bind_some, keysOf_map ks]; rfl
theorem getK_of {kvs : List (KK × MV)} {kv : KK × MV} (m : kv ∈ kvs) : ∃ kv' ∈ kvs, getK kvs kv.1 = some kv'.2 := by
  induction kvs with
  | nil => cases m
  | cons a r ih =>
    obtain ⟨a1, a2⟩ := a
    by_cases e : a1 = kv.1
    · exact ⟨(a1, a2), by simp, by rw [getK, if_pos e]⟩
    · rcases List.mem_cons.mp m with rfl | m
      · exact absurd rfl e
      · obtain ⟨kv', m', e'⟩ := ih m
        exact ⟨kv', by simp [m'], by rw [getK, if_neg e]; exact e'⟩
def rowOf (kvs : List (KK × MV)) : MV → MV
  | .tup ks => ((keysOf ks).bind (getK kvs)).getD .non
  | _ => .non
theorem KV.row {kvs : List (KK × MV)} (h : KV kvs) {kv : KK × MV} (m : kv ∈ kvs) : isRow (rowOf kvs (kT kv.1)) = true := by
  obtain ⟨kv', m', e⟩ := getK_of m
  simp only [rowOf, kT, keysOf_map, Option.bind_some, e, Option.getD_some]
  exact (h.ok kv' m').2.2
theorem key_inj : ∀ {a b : L2.Key}, keyV a = keyV b → a = b := by
  intro a b e
  cases a <;> cases b <;> simp [keyV] at e <;> simp [e]
theorem KV.nodup {kvs : List (KK × MV)} (h : KV kvs) : (kvs.map fun kv => kT kv.1).Nodup := by
  have e : (kvs.map fun kv => kT kv.1) = (kvs.map Prod.fst).map kT := by rw [List.map_map]; rfl
  rw [e]
  refine List.pairwise_map.mpr (h.nd.imp fun {a b} n q => n ?_)
  simp only [kT, MV.tup.injEq] at q
  exact (List.map_inj_right fun x y e => key_inj e).mp q
end MP.Q

set_option linter.all false
set_option autoImplicit false
set_option maxRecDepth 100000
namespace MP.Q
open PySem PyProof.Rows L2
theorem bo_new {b d : Nat} {h0 h : MH} {o : MO} (x : Bo b h0 h) (hd : h0.length ≤ d) : Bo b h0 (h.set d o) := by
  refine ⟨by rw [List.length_set]; exact x.len, fun i o' n e => ?_⟩
  have := (List.getElem?_eq_some_iff.mp e).1
  rw [List.getElem?_set_ne (by omega)]
  exact x.at' i o' n e
theorem bx_set {b d : Nat} {h : MH} {o : MO} {n : Int} (x : Bx h b n) (hd : d ≠ b) : Bx (h.set d o) b n := by
  obtain ⟨a, f, c, m, e, r⟩ := x
  exact ⟨a, f, c, m, by rw [List.getElem?_set_ne hd]; exact e, r⟩
def rowL : ME := .lc (.call 17 [(.var 0), (.lst [(.lit (.int 0)), (.lit (.int 1)), (.bin .Sub (.lit (.int 0)) (.call 16 [(.var 0), (.lit (.int 99))])), (.bin .Add (.bin .Pow (.lit (.int 10)) (.lit (.int 20))) (.call 16 [(.var 0), (.lit (.int 9))]))])]) (.nm 5) (.rng [(.var 3)]) [] [("item", 5)]
def bodyD : List MSt := [.asg (.nm 3) (.ite (.cmp .Eq (.call 16 [(.var 0), (.lit (.int 6))]) (.lit (.int 0))) (.lit (.int 20)) (.call 16 [(.var 0), (.lit (.int 5))])),
 .sub (.var 1) (.call 23 [(.var 0)]) (.fn .tuple [rowL])]
/-- a pair of inputs -/
def isPr (x : MV) : Prop := ∃ t r, x = .tup [t, r] ∧ isThr t = true ∧ isRow r = true
section
variable {k : Nat} {L : List Nat} {h : MH} {S : SubT} {E : Ev}
theorem row_lc (hk : 3 ≤ k) {b : Nat} {n m : Int} {z1 z2 z4 z5 : Option MV} (hb : Bx h b n) (hn : n ≤ 100000) (h0 : 0 ≤ m) (h1 : m ≤ 20) :
    ∃ ys h', evT ⟨callM PP k, glbP, []⟩ rowL [some (.ref b), z1, z2, some (.int m), z4, z5] h = .ok (.t ys) h' ∧ isRow (.tup ys) = true ∧ Bx h' b (n + 60) ∧ Bo b h h' := by
  have il : ((rngI 0 m).length : Int) = m := by simp [rngI]; omega
  obtain ⟨ys, h2, e2, py, ly, i2⟩ := ev_lc_inv (E := ⟨callM PP k, glbP, []⟩) (h := h) (elt := .call 17 [(.var 0), (.lst [(.lit (.int 0)), (.lit (.int 1)), (.bin .Sub (.lit (.int 0)) (.call 16 [(.var 0), (.lit (.int 99))])), (.bin .Add (.bin .Pow (.lit (.int 10)) (.lit (.int 20))) (.call 16 [(.var 0), (.lit (.int 9))]))])]) (tg := .nm 5) (src := .rng [(.var 3)]) (own := [("item", 5)]) (σ := [some (.ref b), z1, z2, some (.int m), z4, z5]) (it := ⟨none, none, rngI 0 m⟩) (h1 := h)
    (fun xs h' => (xs.length : Int) ≤ 20 ∧ Bx h' b (n + 3 * (m - xs.length)) ∧ Bo b h h') (fun y => isInt y = true)
    (ev_rng (by simp only [x_lit, x_var, x_glb, x_tup, x_lst, x_dct, x_bin, x_neg, x_not, x_and, x_or, x_ite, x_cmp, x_chain, x_idx, x_slc, x_rev, x_isi, x_fn, x_mth, x_call, x_callk, x_src, evs, evTs, evO, evIfs, evE, y_asg, y_sub, y_aug, y_exp, y_ifs, y_ret, y_retN, y_pass, y_brk, y_cnt, y_rse, evSs, Res.bind_ok, Res.bind_exc, Res.bind_bad, Res.of_some, Res.of_none, settle_v, settle_t, Res.noX_ok, Res.st_ok, Res.st_exc, Res.st_bad, SR.then_next, SR.then_ret, SR.then_brk, SR.then_cnt, SR.then_exc, SR.then_bad, SR.out, List.getElem?_cons_zero, List.getElem?_cons_succ, List.set_cons_zero, List.set_cons_succ, bindT, bindTs, Option.bind_some, Option.bind_none, Option.map_some, Option.map_none, vOf, if_true, if_false, Bool.false_eq_true, Bool.not_true, Bool.not_false, List.map_cons, List.map_nil, wipeM, Ev.locked, reduceCtorEq, f1, tru, List.length_cons, List.length_nil, Nat.reduceAdd, Nat.zero_add, sz0, sz1, sz2, sz3, sz4, sz5, sz6, sz7, sz8, sz9, sz10, sz11, sz12, sz13, sz14, sz15, sz16, sz17, sz18, sz19, sz20, sz21, sz22, sz23]) (rngOf1 (b := m) (by omega))) rfl ⟨by show ((rngI 0 m).length : Int) ≤ 20; omega, hb.le (by show n ≤ n + 3 * (m - ((rngI 0 m).length : Int)); omega), Bo.refl _ _⟩ (fun _ _ _ => rfl)
    (fun x xs h0 ⟨l, bb, oo⟩ => by
      rw [List.length_cons] at l bb
      push_cast at l bb
      obtain ⟨r1, h1, e1, q1, b1, o1⟩ := s_take (k := k) (L := []) (by omega) bb (by omega) (many := 99) (by omega) (by omega)
      obtain ⟨r2, h2, e2, q2, b2, o2⟩ := s_take (k := k) (L := []) (by omega) b1 (by omega) (many := 9) (by omega) (by omega)
      have lb2 := b2.lt
      have pw := bin_pow (h := h1) (i := 10) (j := 20) (by omega) (by omega) (by omega)
      let zs : List MV := [.int 0, .int 1, .int (0 - r1), .int ((10 : Int) ^ (20 : Int).toNat + r2)]
      obtain ⟨v, h3, e3, vm, b3, o3⟩ := s_pick (k := k) (L := []) (by omega) (b2.pre (Pre.app h2 [MO.lst zs])) (by omega) (p := h2.length) (xs := zs) (pre_at _) (by omega) (by simp [zs]) (by simp [zs])
      refine ⟨[some (.ref b), z1, z2, some (.int m), z4, some x], v, h3, ?_, ?_, ?_, by omega, b3.le (by omega), ((oo.trans o1).trans o2).trans ((Pre.app h2 _).bo.trans o3)⟩
      · simp only [x_lit, x_var, x_glb, x_tup, x_lst, x_dct, x_bin, x_neg, x_not, x_and, x_or, x_ite, x_cmp, x_chain, x_idx, x_slc, x_rev, x_isi, x_fn, x_mth, x_call, x_callk, x_src, evs, evTs, evO, evIfs, evE, y_asg, y_sub, y_aug, y_exp, y_ifs, y_ret, y_retN, y_pass, y_brk, y_cnt, y_rse, evSs, Res.bind_ok, Res.bind_exc, Res.bind_bad, Res.of_some, Res.of_none, settle_v, settle_t, Res.noX_ok, Res.st_ok, Res.st_exc, Res.st_bad, SR.then_next, SR.then_ret, SR.then_brk, SR.then_cnt, SR.then_exc, SR.then_bad, SR.out, List.getElem?_cons_zero, List.getElem?_cons_succ, List.set_cons_zero, List.set_cons_succ, bindT, bindTs, Option.bind_some, Option.bind_none, Option.map_some, Option.map_none, vOf, if_true, if_false, Bool.false_eq_true, Bool.not_true, Bool.not_false, List.map_cons, List.map_nil, wipeM, Ev.locked, reduceCtorEq, f1, tru, List.length_cons, List.length_nil, Nat.reduceAdd, Nat.zero_add, sz0, sz1, sz2, sz3, sz4, sz5, sz6, sz7, sz8, sz9, sz10, sz11, sz12, sz13, sz14, sz15, sz16, sz17, sz18, sz19, sz20, sz21, sz22, sz23]
      · refine set_v (ev_call (vs := [.ref b, .ref h2.length]) (h1 := h2 ++ [.lst zs]) (evs_cons (h1 := h0) (v := .ref b) (set_v (by simp only [x_lit, x_var, x_glb, x_tup, x_lst, x_dct, x_bin, x_neg, x_not, x_and, x_or, x_ite, x_cmp, x_chain, x_idx, x_slc, x_rev, x_isi, x_fn, x_mth, x_call, x_callk, x_src, evs, evTs, evO, evIfs, evE, y_asg, y_sub, y_aug, y_exp, y_ifs, y_ret, y_retN, y_pass, y_brk, y_cnt, y_rse, evSs, Res.bind_ok, Res.bind_exc, Res.bind_bad, Res.of_some, Res.of_none, settle_v, settle_t, Res.noX_ok, Res.st_ok, Res.st_exc, Res.st_bad, SR.then_next, SR.then_ret, SR.then_brk, SR.then_cnt, SR.then_exc, SR.then_bad, SR.out, List.getElem?_cons_zero, List.getElem?_cons_succ, List.set_cons_zero, List.set_cons_succ, bindT, bindTs, Option.bind_some, Option.bind_none, Option.map_some, Option.map_none, vOf, if_true, if_false, Bool.false_eq_true, Bool.not_true, Bool.not_false, List.map_cons, List.map_nil, wipeM, Ev.locked, reduceCtorEq, f1, tru, List.length_cons, List.length_nil, Nat.reduceAdd, Nat.zero_add, sz0, sz1, sz2, sz3, sz4, sz5, sz6, sz7, sz8, sz9, sz10, sz11, sz12, sz13, sz14, sz15, sz16, sz17, sz18, sz19, sz20, sz21, sz22, sz23])) (evs_cons (set_t (ev_lst (vs := zs) ?_ (by simp [zs]))) evs_nil)) e3)
        simp only [x_lit, x_var, x_glb, x_tup, x_lst, x_dct, x_bin, x_neg, x_not, x_and, x_or, x_ite, x_cmp, x_chain, x_idx, x_slc, x_rev, x_isi, x_fn, x_mth, x_call, x_callk, x_src, evs, evTs, evO, evIfs, evE, y_asg, y_sub, y_aug, y_exp, y_ifs, y_ret, y_retN, y_pass, y_brk, y_cnt, y_rse, evSs, Res.bind_ok, Res.bind_exc, Res.bind_bad, Res.of_some, Res.of_none, settle_v, settle_t, Res.noX_ok, Res.st_ok, Res.st_exc, Res.st_bad, SR.then_next, SR.then_ret, SR.then_brk, SR.then_cnt, SR.then_exc, SR.then_bad, SR.out, List.getElem?_cons_zero, List.getElem?_cons_succ, List.set_cons_zero, List.set_cons_succ, bindT, bindTs, Option.bind_some, Option.bind_none, Option.map_some, Option.map_none, vOf, if_true, if_false, Bool.false_eq_true, Bool.not_true, Bool.not_false, List.map_cons, List.map_nil, wipeM, Ev.locked, reduceCtorEq, f1, tru, List.length_cons, List.length_nil, Nat.reduceAdd, Nat.zero_add, sz0, sz1, sz2, sz3, sz4, sz5, sz6, sz7, sz8, sz9, sz10, sz11, sz12, sz13, sz14, sz15, sz16, sz17, sz18, sz19, sz20, sz21, sz22, sz23, e1, pw, e2, bin_sub, bin_add, zs]
      · simp only [zs, List.mem_cons, List.not_mem_nil, or_false] at vm
        rcases vm with rfl | rfl | rfl | rfl <;> rfl)
  refine ⟨ys, h2, e2, ?_, i2.2.1.le (by simp; omega), i2.2.2⟩
  simp only [isRow, Bool.and_eq_true, decide_eq_true_eq, List.all_eq_true]
  refine ⟨?_, py⟩
  have : (ys.length : Int) = (rngI 0 m).length := by rw [ly]
  omega
/-- a turn of the loop that fills the dict -/
theorem body_D (hk : 4 ≤ k) {b d : Nat} {n : Int} {kvs : List (KK × MV)} {h0 : MH} {z2 z3 z4 z5 : Option MV} (hb : Bx h b n) (hn : n ≤ 90000) (hd : h[d]? = some (.dt kvs)) (K : KV kvs) (hl : kvs.length ≤ 100) (ne : d ≠ b) (h0d : h0.length ≤ d) (bo : Bo b h0 h) :
    ∃ c3 kvs' h', evSs S ⟨callM PP k, glbP, []⟩ bodyD [some (.ref b), some (.ref d), z2, z3, z4, z5] h = .next [some (.ref b), some (.ref d), z2, c3, z4, z5] h' ∧ Bx h' b (n + 70) ∧ h'[d]? = some (.dt kvs') ∧ KV kvs' ∧ kvs'.length ≤ kvs.length + 1 ∧ Bo b h0 h' := by
  obtain ⟨r1, h1, e1, q1, b1, o1⟩ := s_take (k := k) (L := []) (by omega) hb (by omega) (many := 6) (by omega) (by omega)
  have st1 : ∃ m h2, evS S ⟨callM PP k, glbP, []⟩ (.asg (.nm 3) (.ite (.cmp .Eq (.call 16 [(.var 0), (.lit (.int 6))]) (.lit (.int 0))) (.lit (.int 20)) (.call 16 [(.var 0), (.lit (.int 5))]))) [some (.ref b), some (.ref d), z2, z3, z4, z5] h = .next [some (.ref b), some (.ref d), z2, some (.int m), z4, z5] h2 ∧ 0 ≤ m ∧ m ≤ 20 ∧ Bx h2 b (n + 2) ∧ Bo b h h2 := by
    have ec : evT ⟨callM PP k, glbP, []⟩ (.cmp .Eq (.call 16 [(.var 0), (.lit (.int 6))]) (.lit (.int 0))) [some (.ref b), some (.ref d), z2, z3, z4, z5] h = .ok (.v (.bl (decide (r1 = 0)))) h1 := by
      simp only [x_lit, x_var, x_glb, x_tup, x_lst, x_dct, x_bin, x_neg, x_not, x_and, x_or, x_ite, x_cmp, x_chain, x_idx, x_slc, x_rev, x_isi, x_fn, x_mth, x_call, x_callk, x_src, evs, evTs, evO, evIfs, evE, y_asg, y_sub, y_aug, y_exp, y_ifs, y_ret, y_retN, y_pass, y_brk, y_cnt, y_rse, evSs, Res.bind_ok, Res.bind_exc, Res.bind_bad, Res.of_some, Res.of_none, settle_v, settle_t, Res.noX_ok, Res.st_ok, Res.st_exc, Res.st_bad, SR.then_next, SR.then_ret, SR.then_brk, SR.then_cnt, SR.then_exc, SR.then_bad, SR.out, List.getElem?_cons_zero, List.getElem?_cons_succ, List.set_cons_zero, List.set_cons_succ, bindT, bindTs, Option.bind_some, Option.bind_none, Option.map_some, Option.map_none, vOf, if_true, if_false, Bool.false_eq_true, Bool.not_true, Bool.not_false, List.map_cons, List.map_nil, wipeM, Ev.locked, reduceCtorEq, f1, tru, List.length_cons, List.length_nil, Nat.reduceAdd, Nat.zero_add, sz0, sz1, sz2, sz3, sz4, sz5, sz6, sz7, sz8, sz9, sz10, sz11, sz12, sz13, sz14, sz15, sz16, sz17, sz18, sz19, sz20, sz21, sz22, sz23, e1, cmpT, eqT_int]
    by_cases q : r1 = 0
    · refine ⟨20, h1, st_asg (set_v ((ev_iteb ec).trans ?_)) rfl, by omega, by omega, b1.le (by omega), o1⟩
      rw [decide_eq_true q, if_pos rfl]; simp only [x_lit, x_var, x_glb, x_tup, x_lst, x_dct, x_bin, x_neg, x_not, x_and, x_or, x_ite, x_cmp, x_chain, x_idx, x_slc, x_rev, x_isi, x_fn, x_mth, x_call, x_callk, x_src, evs, evTs, evO, evIfs, evE, y_asg, y_sub, y_aug, y_exp, y_ifs, y_ret, y_retN, y_pass, y_brk, y_cnt, y_rse, evSs, Res.bind_ok, Res.bind_exc, Res.bind_bad, Res.of_some, Res.of_none, settle_v, settle_t, Res.noX_ok, Res.st_ok, Res.st_exc, Res.st_bad, SR.then_next, SR.then_ret, SR.then_brk, SR.then_cnt, SR.then_exc, SR.then_bad, SR.out, List.getElem?_cons_zero, List.getElem?_cons_succ, List.set_cons_zero, List.set_cons_succ, bindT, bindTs, Option.bind_some, Option.bind_none, Option.map_some, Option.map_none, vOf, if_true, if_false, Bool.false_eq_true, Bool.not_true, Bool.not_false, List.map_cons, List.map_nil, wipeM, Ev.locked, reduceCtorEq, f1, tru, List.length_cons, List.length_nil, Nat.reduceAdd, Nat.zero_add, sz0, sz1, sz2, sz3, sz4, sz5, sz6, sz7, sz8, sz9, sz10, sz11, sz12, sz13, sz14, sz15, sz16, sz17, sz18, sz19, sz20, sz21, sz22, sz23]
    · obtain ⟨r2, h2, e2, q2, b2, o2⟩ := s_take (k := k) (L := []) (by omega) b1 (by omega) (many := 5) (by omega) (by omega)
      refine ⟨r2, h2, st_asg (set_v ((ev_iteb ec).trans ?_)) rfl, by omega, by omega, b2.le (by omega), o1.trans o2⟩
      rw [decide_eq_false q, if_neg (by simp)]; simp only [x_lit, x_var, x_glb, x_tup, x_lst, x_dct, x_bin, x_neg, x_not, x_and, x_or, x_ite, x_cmp, x_chain, x_idx, x_slc, x_rev, x_isi, x_fn, x_mth, x_call, x_callk, x_src, evs, evTs, evO, evIfs, evE, y_asg, y_sub, y_aug, y_exp, y_ifs, y_ret, y_retN, y_pass, y_brk, y_cnt, y_rse, evSs, Res.bind_ok, Res.bind_exc, Res.bind_bad, Res.of_some, Res.of_none, settle_v, settle_t, Res.noX_ok, Res.st_ok, Res.st_exc, Res.st_bad, SR.then_next, SR.then_ret, SR.then_brk, SR.then_cnt, SR.then_exc, SR.then_bad, SR.out, List.getElem?_cons_zero, List.getElem?_cons_succ, List.set_cons_zero, List.set_cons_succ, bindT, bindTs, Option.bind_some, Option.bind_none, Option.map_some, Option.map_none, vOf, if_true, if_false, Bool.false_eq_true, Bool.not_true, Bool.not_false, List.map_cons, List.map_nil, wipeM, Ev.locked, reduceCtorEq, f1, tru, List.length_cons, List.length_nil, Nat.reduceAdd, Nat.zero_add, sz0, sz1, sz2, sz3, sz4, sz5, sz6, sz7, sz8, sz9, sz10, sz11, sz12, sz13, sz14, sz15, sz16, sz17, sz18, sz19, sz20, sz21, sz22, sz23, e2]
  obtain ⟨m, h2, s1, m0, m1, b2, o2⟩ := st1
  obtain ⟨ys, h3, e3, ry, b3, o3⟩ := row_lc (k := k) (h := h2) (by omega) (z1 := some (.ref d)) (z2 := z2) (z4 := z4) (z5 := z5) b2 (by omega) m0 m1
  obtain ⟨th, h4, e4, tt, b4, o4⟩ := s_law_thread (k := k) (L := []) (by omega) b3 (by omega)
  have od : Bo b h h4 := (o2.trans o3).trans o4
  have hd4 := od.at' d _ ne hd
  obtain ⟨ns, rfl, -, -⟩ := thr_ints tt
  have lt4 := (List.getElem?_eq_some_iff.mp hd4).1
  have ek : keysOf (ns.map .int) = some (ns.map Sum.inl) := by
    have := keysOf_map (ns.map Sum.inl)
    rw [List.map_map] at this
    exact this
  have sz : kvs.length < sizeLine := Nat.lt_of_le_of_lt (show kvs.length ≤ 1000 by omega) (by decide)
  have st : setItT [] h4 (.ref d) (.tup (ns.map .int)) (.tup ys) = some (h4.set d (.dt (putKV kvs (ns.map Sum.inl) (.tup ys)))) := by
    simp only [setItT, hd4, ek, Option.bind_some]
    rw [if_neg (by simp [sz])]
  refine ⟨some (.int m), putKV kvs (ns.map Sum.inl) (.tup ys), h4.set d (.dt (putKV kvs (ns.map Sum.inl) (.tup ys))), ?_, (bx_set b4 ne).le (by omega), List.getElem?_set_self lt4, K.put tt ry, ?_, bo_new (bo.trans od) h0d⟩
  · rw [bodyD, seq_next s1]
    generalize rowL = mm at e3
    have tp : fnT h3 .tuple [.t ys] = some (.v (.tup ys)) := rfl
    rw [seq_next (σ' := [some (.ref b), some (.ref d), z2, some (.int m), z4, z5]) (h' := h4.set d (.dt (putKV kvs (ns.map Sum.inl) (.tup ys)))), seq_nil]
    simp only [x_lit, x_var, x_glb, x_tup, x_lst, x_dct, x_bin, x_neg, x_not, x_and, x_or, x_ite, x_cmp, x_chain, x_idx, x_slc, x_rev, x_isi, x_fn, x_mth, x_call, x_callk, x_src, evs, evTs, evO, evIfs, evE, y_asg, y_sub, y_aug, y_exp, y_ifs, y_ret, y_retN, y_pass, y_brk, y_cnt, y_rse, evSs, Res.bind_ok, Res.bind_exc, Res.bind_bad, Res.of_some, Res.of_none, settle_v, settle_t, Res.noX_ok, Res.st_ok, Res.st_exc, Res.st_bad, SR.then_next, SR.then_ret, SR.then_brk, SR.then_cnt, SR.then_exc, SR.then_bad, SR.out, List.getElem?_cons_zero, List.getElem?_cons_succ, List.set_cons_zero, List.set_cons_succ, bindT, bindTs, Option.bind_some, Option.bind_none, Option.map_some, Option.map_none, vOf, if_true, if_false, Bool.false_eq_true, Bool.not_true, Bool.not_false, List.map_cons, List.map_nil, wipeM, Ev.locked, reduceCtorEq, f1, tru, List.length_cons, List.length_nil, Nat.reduceAdd, Nat.zero_add, sz0, sz1, sz2, sz3, sz4, sz5, sz6, sz7, sz8, sz9, sz10, sz11, sz12, sz13, sz14, sz15, sz16, sz17, sz18, sz19, sz20, sz21, sz22, sz23, e3, tp, e4, st]
  · unfold putKV
    split <;> simp
def pairs (kvs : List (KK × MV)) : List MV := (sortT (kvs.map fun kv => kT kv.1)).map fun x => .tup [x, rowOf kvs x]
theorem s_law_inputs (hk : 5 ≤ k) {b : Nat} {n : Int} (hb : Bx h b n) (hn : n ≤ 50000) :
    ∃ prs h', callM PP k [] 24 [.ref b] h = .ok (.tup prs) h' ∧ isInp (.tup prs) = true ∧ prs.length ≤ 6 ∧ (∀ x ∈ prs, isPr x) ∧ Bx h' b (n + 500) ∧ Bo b h h' := by
  obtain ⟨k, rfl⟩ : ∃ j, k = j + 1 := ⟨k - 1, by omega⟩
  have lb := hb.lt
  have s1 : evS subP ⟨callM PP k, glbP, []⟩ (.asg (.nm 1) (.dct true)) [some (.ref b), none, none, none, none, none] h = .next [some (.ref b), some (.ref h.length), none, none, none, none] (h ++ [.dt []]) := by
    simp only [x_lit, x_var, x_glb, x_tup, x_lst, x_dct, x_bin, x_neg, x_not, x_and, x_or, x_ite, x_cmp, x_chain, x_idx, x_slc, x_rev, x_isi, x_fn, x_mth, x_call, x_callk, x_src, evs, evTs, evO, evIfs, evE, y_asg, y_sub, y_aug, y_exp, y_ifs, y_ret, y_retN, y_pass, y_brk, y_cnt, y_rse, evSs, Res.bind_ok, Res.bind_exc, Res.bind_bad, Res.of_some, Res.of_none, settle_v, settle_t, Res.noX_ok, Res.st_ok, Res.st_exc, Res.st_bad, SR.then_next, SR.then_ret, SR.then_brk, SR.then_cnt, SR.then_exc, SR.then_bad, SR.out, List.getElem?_cons_zero, List.getElem?_cons_succ, List.set_cons_zero, List.set_cons_succ, bindT, bindTs, Option.bind_some, Option.bind_none, Option.map_some, Option.map_none, vOf, if_true, if_false, Bool.false_eq_true, Bool.not_true, Bool.not_false, List.map_cons, List.map_nil, wipeM, Ev.locked, reduceCtorEq, f1, tru, List.length_cons, List.length_nil, Nat.reduceAdd, Nat.zero_add, sz0, sz1, sz2, sz3, sz4, sz5, sz6, sz7, sz8, sz9, sz10, sz11, sz12, sz13, sz14, sz15, sz16, sz17, sz18, sz19, sz20, sz21, sz22, sz23, List.not_mem_nil]
  obtain ⟨r, h1, e1, q1, b1, o1⟩ := s_take (k := k) (L := []) (by omega) (hb.pre (Pre.app h [MO.dt []])) (by omega) (many := 7) (by omega) (by omega)
  have il : ((rngI 0 r).length : Int) = r := by simp [rngI]; omega
  have hd1 : h1[h.length]? = some (.dt []) := o1.at' _ _ (by omega) (pre_at _)
  obtain ⟨σ', h2, e2, kvs, i1, i2, i3, i4, i5, c2, c3, eσ⟩ := loopS_inv (t := ⟨none, none, rngI 0 r⟩) (f := fun x σ h => (match bindT (.nm 2) x σ with
      | some σ' => evSs subP ⟨callM PP k, glbP, []⟩ bodyD σ' h
      | none => .bad)) (fun xs σ h' => ∃ kvs, h'[h.length]? = some (.dt kvs) ∧ KV kvs ∧ kvs.length + xs.length ≤ 6 ∧ Bx h' b (n + 500 - 70 * xs.length) ∧ Bo b h h' ∧ ∃ c2 c3, σ = [some (.ref b), some (.ref h.length), c2, c3, none, none])
    (fun _ _ _ _ => rfl)
    (fun x xs σ h' ⟨kvs, i1, i2, i3, i4, i5, c2, c3, i6⟩ => by
      subst i6
      rw [List.length_cons] at i3 i4
      push_cast at i4
      obtain ⟨c3', kvs', h3, e, j1, j2, j3, j4, j5⟩ := body_D (S := subP) (k := k) (by omega) (z2 := some x) (z3 := c3) (z4 := none) (z5 := none) (h0 := h) i4 (by omega) i1 i2 (by omega) (by omega) (Nat.le_refl _) i5
      exact ⟨_, h3, e, kvs', j2, j3, by omega, j1.le (by omega), j5, _, _, rfl⟩)
    (rngI 0 r) [some (.ref b), some (.ref h.length), none, none, none, none] h1 ⟨[], hd1, KV.nil, by simp; omega, b1.le (by omega), (Pre.app h _).bo.trans o1, none, none, rfl⟩
  subst eσ
  have s2 : evS subP ⟨callM PP k, glbP, []⟩ (.fors (.nm 2) (.rng [(.call 16 [(.var 0), (.lit (.int 7))])]) bodyD) [some (.ref b), some (.ref h.length), none, none, none, none] (h ++ [.dt []]) = .next [some (.ref b), some (.ref h.length), c2, c3, none, none] h2 :=
    fors_ev (it := ⟨none, none, rngI 0 r⟩) (ev_rng (by simp only [x_lit, x_var, x_glb, x_tup, x_lst, x_dct, x_bin, x_neg, x_not, x_and, x_or, x_ite, x_cmp, x_chain, x_idx, x_slc, x_rev, x_isi, x_fn, x_mth, x_call, x_callk, x_src, evs, evTs, evO, evIfs, evE, y_asg, y_sub, y_aug, y_exp, y_ifs, y_ret, y_retN, y_pass, y_brk, y_cnt, y_rse, evSs, Res.bind_ok, Res.bind_exc, Res.bind_bad, Res.of_some, Res.of_none, settle_v, settle_t, Res.noX_ok, Res.st_ok, Res.st_exc, Res.st_bad, SR.then_next, SR.then_ret, SR.then_brk, SR.then_cnt, SR.then_exc, SR.then_bad, SR.out, List.getElem?_cons_zero, List.getElem?_cons_succ, List.set_cons_zero, List.set_cons_succ, bindT, bindTs, Option.bind_some, Option.bind_none, Option.map_some, Option.map_none, vOf, if_true, if_false, Bool.false_eq_true, Bool.not_true, Bool.not_false, List.map_cons, List.map_nil, wipeM, Ev.locked, reduceCtorEq, f1, tru, List.length_cons, List.length_nil, Nat.reduceAdd, Nat.zero_add, sz0, sz1, sz2, sz3, sz4, sz5, sz6, sz7, sz8, sz9, sz10, sz11, sz12, sz13, sz14, sz15, sz16, sz17, sz18, sz19, sz20, sz21, sz22, sz23, e1]) (rngOf1 (b := r) (by omega))) rfl e2
  have tk : ∀ y ∈ (kvs.map fun kv => kT kv.1), isThr y = true := by
    intro y hy
    obtain ⟨kv, m, rfl⟩ := List.mem_map.mp hy
    exact (i2.ok kv m).2.1
  have hs := sort_thr tk i2.nodup
  have sm : ∀ x ∈ sortT (kvs.map fun kv => kT kv.1), ∃ kv ∈ kvs, x = kT kv.1 := by
    intro x hx
    have : x ∈ (kvs.map fun kv => kT kv.1) := (List.mergeSort_perm _ _).mem_iff.mp hx
    obtain ⟨kv, m, rfl⟩ := List.mem_map.mp this
    exact ⟨kv, m, rfl⟩
  have f1 : fnT h2 .list [.v (.ref h.length)] = some (.t (kvs.map fun kv => kT kv.1)) := by
    show lisT h2 (.v (.ref h.length)) = _
    simp only [lisT, i1]; rfl
  have f2 : fnT h2 .sorted [.t (kvs.map fun kv => kT kv.1)] = some (.t (sortT (kvs.map fun kv => kT kv.1))) := by
    show (listOf h2 (.t (kvs.map fun kv => kT kv.1))).bind (fun xs => if sortOk xs then some (TV.t (sortT xs)) else none) = _
    rw [lt_t, Option.bind_some, if_pos (sortOk_thr tk)]
  have lc : evT ⟨callM PP k, glbP, []⟩ (.lc (.tup [(.var 4), (.idx (.var 1) (.var 4))]) (.nm 4) (.e (.fn .sorted [(.fn .list [(.var 1)])])) [] [("thread", 4)]) [some (.ref b), some (.ref h.length), c2, c3, none, none] h2 = .ok (.t (pairs kvs)) h2 := by
    rw [ev_lc (it := ⟨none, none, sortT (kvs.map fun kv => kT kv.1)⟩) (g := fun x => some (.tup [x, rowOf kvs x])), filt_some]
    · rfl
    · exact ev_src (x := .t (sortT (kvs.map fun kv => kT kv.1))) (by simp only [x_lit, x_var, x_glb, x_tup, x_lst, x_dct, x_bin, x_neg, x_not, x_and, x_or, x_ite, x_cmp, x_chain, x_idx, x_slc, x_rev, x_isi, x_fn, x_mth, x_call, x_callk, x_src, evs, evTs, evO, evIfs, evE, y_asg, y_sub, y_aug, y_exp, y_ifs, y_ret, y_retN, y_pass, y_brk, y_cnt, y_rse, evSs, Res.bind_ok, Res.bind_exc, Res.bind_bad, Res.of_some, Res.of_none, settle_v, settle_t, Res.noX_ok, Res.st_ok, Res.st_exc, Res.st_bad, SR.then_next, SR.then_ret, SR.then_brk, SR.then_cnt, SR.then_exc, SR.then_bad, SR.out, List.getElem?_cons_zero, List.getElem?_cons_succ, List.set_cons_zero, List.set_cons_succ, bindT, bindTs, Option.bind_some, Option.bind_none, Option.map_some, Option.map_none, vOf, if_true, if_false, Bool.false_eq_true, Bool.not_true, Bool.not_false, List.map_cons, List.map_nil, wipeM, Ev.locked, reduceCtorEq, f1, tru, List.length_cons, List.length_nil, Nat.reduceAdd, Nat.zero_add, sz0, sz1, sz2, sz3, sz4, sz5, sz6, sz7, sz8, sz9, sz10, sz11, sz12, sz13, sz14, sz15, sz16, sz17, sz18, sz19, sz20, sz21, sz22, sz23, f1, f2]) rfl rfl
    · rfl
    · intro x hx
      obtain ⟨kv, m, rfl⟩ := sm x hx
      obtain ⟨kv', m', e⟩ := getK_of m
      have ix : idxT h2 (.v (.ref h.length)) (kT kv.1) = some (rowOf kvs (kT kv.1)) := by
        have : rowOf kvs (kT kv.1) = kv'.2 := by simp only [rowOf, kT, keysOf_map, Option.bind_some, e, Option.getD_some]
        rw [this]
        simp only [idxT, i1, kT, keysOf_map, Option.bind_some, e]
      simp only [x_lit, x_var, x_glb, x_tup, x_lst, x_dct, x_bin, x_neg, x_not, x_and, x_or, x_ite, x_cmp, x_chain, x_idx, x_slc, x_rev, x_isi, x_fn, x_mth, x_call, x_callk, x_src, evs, evTs, evO, evIfs, evE, y_asg, y_sub, y_aug, y_exp, y_ifs, y_ret, y_retN, y_pass, y_brk, y_cnt, y_rse, evSs, Res.bind_ok, Res.bind_exc, Res.bind_bad, Res.of_some, Res.of_none, settle_v, settle_t, Res.noX_ok, Res.st_ok, Res.st_exc, Res.st_bad, SR.then_next, SR.then_ret, SR.then_brk, SR.then_cnt, SR.then_exc, SR.then_bad, SR.out, List.getElem?_cons_zero, List.getElem?_cons_succ, List.set_cons_zero, List.set_cons_succ, bindT, bindTs, Option.bind_some, Option.bind_none, Option.map_some, Option.map_none, vOf, if_true, if_false, Bool.false_eq_true, Bool.not_true, Bool.not_false, List.map_cons, List.map_nil, wipeM, Ev.locked, reduceCtorEq, f1, tru, List.length_cons, List.length_nil, Nat.reduceAdd, Nat.zero_add, sz0, sz1, sz2, sz3, sz4, sz5, sz6, sz7, sz8, sz9, sz10, sz11, sz12, sz13, sz14, sz15, sz16, sz17, sz18, sz19, sz20, sz21, sz22, sz23, ix]
  refine ⟨pairs kvs, h2, ?_, ?_, ?_, ?_, i4.le (by simp), i5⟩
  · rw [c__law_inputs, show m__law_inputs = [.asg (.nm 1) (.dct true), .fors (.nm 2) (.rng [(.call 16 [(.var 0), (.lit (.int 7))])]) bodyD, .ret (.fn .tuple [.lc (.tup [(.var 4), (.idx (.var 1) (.var 4))]) (.nm 4) (.e (.fn .sorted [(.fn .list [(.var 1)])])) [] [("thread", 4)]])] from rfl, seq_next s1, seq_next s2]
    generalize (ME.lc (.tup [(.var 4), (.idx (.var 1) (.var 4))]) (.nm 4) (.e (.fn .sorted [(.fn .list [(.var 1)])])) [] [("thread", 4)]) = m at lc ⊢
    have tp : fnT h2 .tuple [.t (pairs kvs)] = some (.v (.tup (pairs kvs))) := rfl
    simp only [x_lit, x_var, x_glb, x_tup, x_lst, x_dct, x_bin, x_neg, x_not, x_and, x_or, x_ite, x_cmp, x_chain, x_idx, x_slc, x_rev, x_isi, x_fn, x_mth, x_call, x_callk, x_src, evs, evTs, evO, evIfs, evE, y_asg, y_sub, y_aug, y_exp, y_ifs, y_ret, y_retN, y_pass, y_brk, y_cnt, y_rse, evSs, Res.bind_ok, Res.bind_exc, Res.bind_bad, Res.of_some, Res.of_none, settle_v, settle_t, Res.noX_ok, Res.st_ok, Res.st_exc, Res.st_bad, SR.then_next, SR.then_ret, SR.then_brk, SR.then_cnt, SR.then_exc, SR.then_bad, SR.out, List.getElem?_cons_zero, List.getElem?_cons_succ, List.set_cons_zero, List.set_cons_succ, bindT, bindTs, Option.bind_some, Option.bind_none, Option.map_some, Option.map_none, vOf, if_true, if_false, Bool.false_eq_true, Bool.not_true, Bool.not_false, List.map_cons, List.map_nil, wipeM, Ev.locked, reduceCtorEq, f1, tru, List.length_cons, List.length_nil, Nat.reduceAdd, Nat.zero_add, sz0, sz1, sz2, sz3, sz4, sz5, sz6, sz7, sz8, sz9, sz10, sz11, sz12, sz13, sz14, sz15, sz16, sz17, sz18, sz19, sz20, sz21, sz22, sz23, lc, tp]
  · have ep : (pairs kvs).map fstV = sortT (kvs.map fun kv => kT kv.1) := by
      unfold pairs
      rw [List.map_map]
      exact (List.map_congr_left (fun _ _ => rfl)).trans (List.map_id _)
    simp only [isInp, Bool.and_eq_true, List.all_eq_true]
    refine ⟨fun x hx => ?_, by rw [ep]; exact asc_of hs, fun x hx => ?_⟩
    · obtain ⟨y, my, rfl⟩ := List.mem_map.mp hx
      obtain ⟨kv, m, rfl⟩ := sm y my
      exact ⟨rfl, (i2.ok kv m).2.1⟩
    · obtain ⟨y, my, rfl⟩ := List.mem_map.mp hx
      obtain ⟨kv, m, rfl⟩ := sm y my
      exact i2.row m
  · unfold pairs sortT
    rw [List.length_map, List.length_mergeSort, List.length_map]
    simp at i3; exact i3
  · intro x hx
    obtain ⟨y, my, rfl⟩ := List.mem_map.mp hx
    obtain ⟨kv, m, rfl⟩ := sm y my
    exact ⟨_, _, rfl, (i2.ok kv m).2.1, i2.row m⟩
end
end MP.Q

set_option linter.all false
set_option autoImplicit false
set_option maxRecDepth 100000
namespace MP.Q
open PySem PyProof.Rows L2
/-- what isinstance may be asked of stays so -/
def OkM (h h' : MH) : Prop := ∀ v : MV, okv h v = true → okv h' v = true
theorem OkM.refl (h : MH) : OkM h h := fun _ e => e
theorem OkM.trans {a b c : MH} (x : OkM a b) (y : OkM b c) : OkM a c := fun v e => y v (x v e)
theorem OkM.pre {h h' : MH} (x : Pre h h') : OkM h h' := fun _ e => okv_pre x e
theorem OkM.bo {b : Nat} {n : Int} {h h' : MH} (x : Bo b h h') (y : Bx h' b n) : OkM h h' := by
  intro v e
  cases v with
  | ref p =>
    by_cases q : p = b
    · subst q
      obtain ⟨a, f, c, m, e', -⟩ := y
      simp [okv, isiOk, e']
    · simp only [okv, isiOk] at e ⊢
      cases r : h[p]? with
      | none => rw [r] at e; cases e
      | some o => rw [x.at' _ _ q r]; rw [r] at e; exact e
  | _ => rfl
theorem OkM.set {h : MH} {f : Nat} {xs : List MV} (hf : f < h.length) : OkM h (h.set f (.lst xs)) := by
  intro v e
  cases v with
  | ref p =>
    by_cases q : f = p
    · subst q
      simp [okv, isiOk, hf]
    · simp only [okv, isiOk] at e ⊢
      rw [List.getElem?_set_ne q]; exact e
  | _ => rfl
theorem OkM.okn {h h' : MH} (x : OkM h h') : ∀ {n : Nat} {v : MV}, okn h n v = true → okn h' n v = true
  | 0, v, e => x v e
  | n + 1, v, e => by
    cases v with
    | tup xs =>
      simp only [MP.Q.okn, Bool.and_eq_true, List.all_eq_true] at e ⊢
      exact ⟨e.1, fun y hy => x.okn (e.2 y hy)⟩
    | _ => exact x _ e
theorem okn_int {h : MH} {n : Nat} {i : Int} : okn h n (.int i) = true := by cases n <;> rfl
theorem okn_tup {h : MH} {n : Nat} {xs : List MV} (l : xs.length ≤ 1000) (hx : ∀ x ∈ xs, okn h n x = true) : okn h (n + 1) (.tup xs) = true := by
  simp only [okn, Bool.and_eq_true, decide_eq_true_eq, List.all_eq_true]
  exact ⟨l, hx⟩
theorem int_is {x : MV} (e : isInt x = true) : ∃ i, x = .int i := by
  cases x <;> first | exact ⟨_, rfl⟩ | cases e
theorem row_un {v : MV} (e : isRow v = true) : ∃ xs, v = .tup xs ∧ xs.length ≤ 20 ∧ ∀ x ∈ xs, ∃ i, x = MV.int i := by
  cases v with
  | tup xs =>
    simp only [isRow, Bool.and_eq_true, decide_eq_true_eq, List.all_eq_true] at e
    exact ⟨xs, rfl, e.1, fun x hx => int_is (e.2 x hx)⟩
  | _ => cases e
theorem okn_ints {h : MH} {n : Nat} {xs : List MV} (l : xs.length ≤ 1000) (hx : ∀ x ∈ xs, ∃ i, x = MV.int i) : okn h (n + 1) (.tup xs) = true := okn_tup l fun x m => by
  obtain ⟨i, rfl⟩ := hx x m; exact okn_int
theorem thr_ok {h : MH} {n : Nat} {v : MV} (e : isThr v = true) : okn h (n + 1) v = true := by
  obtain ⟨ns, rfl, l, -⟩ := thr_ints e
  exact okn_ints (by rw [List.length_map]; omega) fun x m => by obtain ⟨i, -, rfl⟩ := List.mem_map.mp m; exact ⟨i, rfl⟩
theorem row_ok {h : MH} {n : Nat} {v : MV} (e : isRow v = true) : okn h (n + 1) v = true := by
  obtain ⟨xs, rfl, l, hx⟩ := row_un e
  exact okn_ints (by omega) hx
theorem pr_ok {h : MH} {n : Nat} {x : MV} (e : isPr x) : okn h (n + 2) x = true := by
  obtain ⟨t, r, rfl, ht, hr⟩ := e
  refine okn_tup (by simp) fun y hy => ?_
  simp at hy
  rcases hy with rfl | rfl
  · exact thr_ok ht
  · exact row_ok hr
theorem ints_toD : ∀ {xs : List MV}, (∀ x ∈ xs, ∃ i, x = MV.int i) → ∃ ds, MV.toDs xs = some ds
  | [], _ => ⟨[], rfl⟩
  | x :: xs, h => by
    obtain ⟨i, rfl⟩ := h x (by simp)
    obtain ⟨ds, e⟩ := ints_toD (xs := xs) fun y hy => h y (by simp [hy])
    exact ⟨_, by simp [MV.toDs, MV.toD, e]; rfl⟩
theorem prs_toD : ∀ {xs : List MV}, (∀ x ∈ xs, isPr x) → ∃ ds, MV.toDs xs = some ds
  | [], _ => ⟨[], rfl⟩
  | x :: xs, h => by
    obtain ⟨t, r, rfl, ht, hr⟩ := h x (by simp)
    obtain ⟨ds, e⟩ := prs_toD (xs := xs) fun y hy => h y (by simp [hy])
    obtain ⟨ns, rfl, -, -⟩ := thr_ints ht
    obtain ⟨rs, rfl, -, hx⟩ := row_un hr
    obtain ⟨ds', e'⟩ := ints_toD hx
    exact ⟨_, by simp [MV.toDs, MV.toD, e, e', toDs_ints]; rfl⟩
def bodyI3 : List MSt := [.asg (.nm 3) (.call 16 [(.var 0), (.fn .len [(.var 1)])]),
 .asg (.tp [(.nm 8), (.nm 9)]) (.idx (.var 1) (.var 3)),
 .asg (.nm 4) (.call 17 [(.var 0), (.lst [(.lit (.bl true)), (.lit .non), (.lit (.str "1")), (.tup [(.lit (.int 1))]), (.lst [(.lit (.int 1))]), (.lit (.bl false))])]),
 .asg (.nm 5) (.call 16 [(.var 0), (.bin .Add (.fn .len [(.var 9)]) (.lit (.int 1)))]),
 .asg (.nm 6) (.lst [(.tup [(.var 8), (.bin .Add (.var 9) (.tup [(.var 4)]))]), (.tup [(.var 8), (.bin .Add (.bin .Add (.slc (.var 9) none (some (.var 5))) (.tup [(.var 4)])) (.slc (.var 9) (some (.bin .Add (.var 5) (.lit (.int 1)))) none))]), (.tup [(.var 8), (.bin .Mult (.tup [(.lit (.int 7))]) (.lit (.int 20)))]), (.tup [(.var 8), (.bin .Mult (.tup [(.lit (.int 7))]) (.lit (.int 21)))]), (.tup [(.bin .Add (.var 8) (.tup [(.lit (.int 3))])), (.var 9)]), (.tup [(.var 8), (.lit .non)])]),
 .fors (.nm 7) (.e (.bin .Add (.var 6) (.lst [(.lst [(.var 8), (.var 9)]), (.tup [(.var 8), (.fn .list [(.var 9)])]), (.tup [(.fn .list [(.var 8)]), (.var 9)])]))) [.exp (.mth .append (.var 2) [(.bin .Add (.bin .Add (.slc (.var 1) none (some (.var 3))) (.tup [(.var 7)])) (.slc (.var 1) (some (.bin .Add (.var 3) (.lit (.int 1)))) none))])]]
section
variable {k : Nat} {L : List Nat} {h : MH} {S : SubT} {E : Ev}
theorem mul7 {j : Int} (h1 : 2 ≤ j) (h2 : j ≤ 1000) : binT h .Mult (.v (.tup [.int 7])) (.v (.int j)) = some (.v (.tup (List.replicate j.toNat [MV.int 7]).flatten)) := by
  rw [show binT h .Mult (.v (.tup [.int 7])) (.v (.int j)) = if decide ([MV.int 7] ≠ [] ∧ 2 ≤ j ∧ j ≤ 1000 ∧ [MV.int 7].length ≤ 1000) then some (.v (.tup (List.replicate j.toNat [MV.int 7]).flatten)) else none from rfl, if_pos (decide_eq_true ⟨by simp, h1, h2, by simp⟩)]
theorem mem7 {j : Nat} : ∀ x ∈ (List.replicate j [MV.int 7]).flatten, ∃ i, x = MV.int i := by
  intro x hx
  obtain ⟨l, hl, hx⟩ := List.mem_flatten.mp hx
  rw [List.eq_of_mem_replicate hl] at hx
  simp at hx
  exact ⟨7, hx⟩
theorem len7 {j : Nat} : (List.replicate j [MV.int 7]).flatten.length = j := by
  simp [List.length_flatten]
/-- the loop that puts each changed one in the place of the drawn one -/
theorem loop_C {b f : Nat} {n r : Int} {prs : List MV} {h0 hS : MH} {z4 z5 z6 z8 z9 : Option MV} {ys : List MV} (hp : prs.length ≤ 6) (hpr : ∀ x ∈ prs, isPr x) (ne : f ≠ b) (hf0 : h0.length ≤ f) :
    ∀ (xs : List MV) (σ : MS) (h : MH), (∃ acc c7, h[f]? = some (.lst acc) ∧ acc.length + xs.length ≤ 100 ∧ (∀ x ∈ acc, okn h 3 x = true) ∧ (∀ x ∈ xs, okn hS 2 x = true) ∧ OkM hS h ∧ Bx h b n ∧ Bo b h0 h ∧ σ = [some (.ref b), some (.tup prs), some (.ref f), some (.int r), z4, z5, z6, c7, z8, z9]) →
    ∃ σ' h', loopS ⟨none, none, ys⟩ (fun x σ h => (match bindT (.nm 7) x σ with
      | some σ' => evSs S E [.exp (.mth .append (.var 2) [(.bin .Add (.bin .Add (.slc (.var 1) none (some (.var 3))) (.tup [(.var 7)])) (.slc (.var 1) (some (.bin .Add (.var 3) (.lit (.int 1)))) none))])] σ' h
      | none => .bad)) xs σ h = .next σ' h' ∧ ∃ acc c7, h'[f]? = some (.lst acc) ∧ (∀ x ∈ acc, okn h' 3 x = true) ∧ Bx h' b n ∧ Bo b h0 h' ∧ σ' = [some (.ref b), some (.tup prs), some (.ref f), some (.int r), z4, z5, z6, c7, z8, z9] := by
  intro xs σ h i
  obtain ⟨σ', h', e, acc, c7, i1, i2, i3, i4, i5, i6, i7, i8⟩ := loopS_inv (t := ⟨none, none, ys⟩) (f := fun x σ h => (match bindT (.nm 7) x σ with
      | some σ' => evSs S E [.exp (.mth .append (.var 2) [(.bin .Add (.bin .Add (.slc (.var 1) none (some (.var 3))) (.tup [(.var 7)])) (.slc (.var 1) (some (.bin .Add (.var 3) (.lit (.int 1)))) none))])] σ' h
      | none => .bad)) (fun xs σ h => ∃ acc c7, h[f]? = some (.lst acc) ∧ acc.length + xs.length ≤ 100 ∧ (∀ x ∈ acc, okn h 3 x = true) ∧ (∀ x ∈ xs, okn hS 2 x = true) ∧ OkM hS h ∧ Bx h b n ∧ Bo b h0 h ∧ σ = [some (.ref b), some (.tup prs), some (.ref f), some (.int r), z4, z5, z6, c7, z8, z9])
    (fun _ _ _ _ => rfl) (fun x xs σ h ⟨acc, c7, i1, i2, i3, i4, i5, i6, i7, i8⟩ => by
      subst i8
      rw [List.length_cons] at i2
      have c1 := cutL_len prs none (some r)
      have c2 := cutL_len prs (some (r + 1)) none
      have a2 : ∀ h : MH, binT h .Add (.v (.tup (cutL prs none (some r)))) (.v (.tup [x])) = some (.v (.tup (cutL prs none (some r) ++ [x]))) := fun h => add_tup (by simp; omega)
      have a3 : ∀ h : MH, binT h .Add (.v (.tup (cutL prs none (some r) ++ [x]))) (.v (.tup (cutL prs (some (r + 1)) none))) = some (.v (.tup (cutL prs none (some r) ++ [x] ++ cutL prs (some (r + 1)) none))) := fun h => add_tup (by simp; omega)
      have hm : mOk h .append (.ref f) = true := by simp [mOk, mOk.isL, lst_ref i1]
      have lt := (List.getElem?_eq_some_iff.mp i1).1
      generalize ey : cutL prs none (some r) ++ [x] ++ cutL prs (some (r + 1)) none = ws at a3
      have me := m_append_v (y := .tup ws) i1 (by omega)
      have oks : OkM h (h.set f (.lst (acc ++ [.tup ws]))) := OkM.set lt
      have ow : okn hS 3 (.tup ws) = true := by
        subst ey
        refine okn_tup (by simp; omega) fun y hy => ?_
        rcases List.mem_append.mp hy with m | m
        · rcases List.mem_append.mp m with m | m
          · exact pr_ok (hpr y (cutL_mem m))
          · simp at m; subst m; exact i4 y (by simp)
        · exact pr_ok (hpr y (cutL_mem m))
      refine ⟨[some (.ref b), some (.tup prs), some (.ref f), some (.int r), z4, z5, z6, some x, z8, z9], h.set f (.lst (acc ++ [.tup ws])), ?_, acc ++ [.tup ws], some x, List.getElem?_set_self lt, by simp; omega, ?_, fun y hy => i4 y (by simp [hy]), i5.trans oks, bx_set i6 ne, bo_new i7 hf0, rfl⟩
      · simp only [x_lit, x_var, x_glb, x_tup, x_lst, x_dct, x_bin, x_neg, x_not, x_and, x_or, x_ite, x_cmp, x_chain, x_idx, x_slc, x_rev, x_isi, x_fn, x_mth, x_call, x_callk, x_src, evs, evTs, evO, evIfs, evE, y_asg, y_sub, y_aug, y_exp, y_ifs, y_ret, y_retN, y_pass, y_brk, y_cnt, y_rse, evSs, Res.bind_ok, Res.bind_exc, Res.bind_bad, Res.of_some, Res.of_none, settle_v, settle_t, Res.noX_ok, Res.st_ok, Res.st_exc, Res.st_bad, SR.then_next, SR.then_ret, SR.then_brk, SR.then_cnt, SR.then_exc, SR.then_bad, SR.out, List.getElem?_cons_zero, List.getElem?_cons_succ, List.set_cons_zero, List.set_cons_succ, bindT, bindTs, Option.bind_some, Option.bind_none, Option.map_some, Option.map_none, vOf, if_true, if_false, Bool.false_eq_true, Bool.not_true, Bool.not_false, List.map_cons, List.map_nil, wipeM, Ev.locked, reduceCtorEq, f1, tru, List.length_cons, List.length_nil, Nat.reduceAdd, Nat.zero_add, sz0, sz1, sz2, sz3, sz4, sz5, sz6, sz7, sz8, sz9, sz10, sz11, sz12, sz13, sz14, sz15, sz16, sz17, sz18, sz19, sz20, sz21, sz22, sz23, hm, slc_tup, bin_add, a2, a3, me]
      · intro y hy
        rcases List.mem_append.mp hy with m | m
        · exact oks.okn (i3 y m)
        · simp at m; subst m
          exact (i5.trans oks).okn ow) xs σ h i
  exact ⟨σ', h', e, acc, c7, i1, i3, i6, i7, i8⟩
end
end MP.Q

set_option linter.all false
set_option autoImplicit false
set_option maxRecDepth 100000
namespace MP.Q
open PySem PyProof.Rows L2
def odd6 (q : Nat) : List MV := [.bl true, .non, .str "1", .tup [.int 1], .ref q, .bl false]
section
variable {k : Nat} {L : List Nat} {h : MH} {S : SubT} {E : Ev}
theorem block_I (hk : 3 ≤ k) {b f : Nat} {n : Int} {prs acc : List MV} {h0 : MH} {z3 z4 z5 z6 z7 z8 z9 : Option MV} (hb : Bx h b n) (hn : n ≤ 90000) (hf : h[f]? = some (.lst acc)) (hl : acc.length ≤ 30) (ha : ∀ x ∈ acc, okn h 3 x = true) (ne : f ≠ b) (hf0 : h0.length ≤ f) (bo : Bo b h0 h) (hp : prs.length ≤ 6) (hpr : ∀ x ∈ prs, isPr x) (hne : prs ≠ []) :
    ∃ acc' c3 c4 c5 c6 c7 c8 c9 h', evSs S ⟨callM PP k, glbP, []⟩ bodyI3 [some (.ref b), some (.tup prs), some (.ref f), z3, z4, z5, z6, z7, z8, z9] h = .next [some (.ref b), some (.tup prs), some (.ref f), c3, c4, c5, c6, c7, c8, c9] h' ∧ h'[f]? = some (.lst acc') ∧ (∀ x ∈ acc', okn h' 3 x = true) ∧ Bx h' b (n + 3) ∧ Bo b h0 h' := by
  have lp : 0 < prs.length := List.length_pos_iff.mpr hne
  obtain ⟨r, h1, e1, q1, b1, o1⟩ := s_take (k := k) (L := []) (by omega) hb (by omega) (many := (prs.length : Int)) (by omega) (by omega)
  have rl : r.toNat < prs.length := by omega
  obtain ⟨t, rw', ep, ht, hr⟩ := hpr _ (List.getElem_mem rl)
  have ix : idxT h1 (.v (.tup prs)) (.int r) = some (.tup [t, rw']) := atI_at q1.1 (by rw [List.getElem?_eq_getElem rl, ep])
  obtain ⟨rws, rfl, rwl, rwi⟩ := row_un hr
  obtain ⟨ts, rfl, tl, -, -⟩ := thr_un ht
  have lb1 := b1.lt
  have s1 : evS S ⟨callM PP k, glbP, []⟩ (.asg (.nm 3) (.call 16 [(.var 0), (.fn .len [(.var 1)])])) [some (.ref b), some (.tup prs), some (.ref f), z3, z4, z5, z6, z7, z8, z9] h = .next [some (.ref b), some (.tup prs), some (.ref f), some (.int r), z4, z5, z6, z7, z8, z9] h1 :=
    st_asg (set_v (ev_call (vs := [.ref b, .int (prs.length : Int)]) (h1 := h) (by simp only [x_lit, x_var, x_glb, x_tup, x_lst, x_dct, x_bin, x_neg, x_not, x_and, x_or, x_ite, x_cmp, x_chain, x_idx, x_slc, x_rev, x_isi, x_fn, x_mth, x_call, x_callk, x_src, evs, evTs, evO, evIfs, evE, y_asg, y_sub, y_aug, y_exp, y_ifs, y_ret, y_retN, y_pass, y_brk, y_cnt, y_rse, evSs, Res.bind_ok, Res.bind_exc, Res.bind_bad, Res.of_some, Res.of_none, settle_v, settle_t, Res.noX_ok, Res.st_ok, Res.st_exc, Res.st_bad, SR.then_next, SR.then_ret, SR.then_brk, SR.then_cnt, SR.then_exc, SR.then_bad, SR.out, List.getElem?_cons_zero, List.getElem?_cons_succ, List.set_cons_zero, List.set_cons_succ, bindT, bindTs, Option.bind_some, Option.bind_none, Option.map_some, Option.map_none, vOf, if_true, if_false, Bool.false_eq_true, Bool.not_true, Bool.not_false, List.map_cons, List.map_nil, wipeM, Ev.locked, reduceCtorEq, f1, tru, List.length_cons, List.length_nil, Nat.reduceAdd, Nat.zero_add, sz0, sz1, sz2, sz3, sz4, sz5, sz6, sz7, sz8, sz9, sz10, sz11, sz12, sz13, sz14, sz15, sz16, sz17, sz18, sz19, sz20, sz21, sz22, sz23, b_len_tup]) e1)) rfl
  have s2 : evS S ⟨callM PP k, glbP, []⟩ (.asg (.tp [(.nm 8), (.nm 9)]) (.idx (.var 1) (.var 3))) [some (.ref b), some (.tup prs), some (.ref f), some (.int r), z4, z5, z6, z7, z8, z9] h1 = .next [some (.ref b), some (.tup prs), some (.ref f), some (.int r), z4, z5, z6, z7, some (.tup ts), some (.tup rws)] h1 :=
    st_asg (v := .tup [.tup ts, .tup rws]) (by simp only [x_lit, x_var, x_glb, x_tup, x_lst, x_dct, x_bin, x_neg, x_not, x_and, x_or, x_ite, x_cmp, x_chain, x_idx, x_slc, x_rev, x_isi, x_fn, x_mth, x_call, x_callk, x_src, evs, evTs, evO, evIfs, evE, y_asg, y_sub, y_aug, y_exp, y_ifs, y_ret, y_retN, y_pass, y_brk, y_cnt, y_rse, evSs, Res.bind_ok, Res.bind_exc, Res.bind_bad, Res.of_some, Res.of_none, settle_v, settle_t, Res.noX_ok, Res.st_ok, Res.st_exc, Res.st_bad, SR.then_next, SR.then_ret, SR.then_brk, SR.then_cnt, SR.then_exc, SR.then_bad, SR.out, List.getElem?_cons_zero, List.getElem?_cons_succ, List.set_cons_zero, List.set_cons_succ, bindT, bindTs, Option.bind_some, Option.bind_none, Option.map_some, Option.map_none, vOf, if_true, if_false, Bool.false_eq_true, Bool.not_true, Bool.not_false, List.map_cons, List.map_nil, wipeM, Ev.locked, reduceCtorEq, f1, tru, List.length_cons, List.length_nil, Nat.reduceAdd, Nat.zero_add, sz0, sz1, sz2, sz3, sz4, sz5, sz6, sz7, sz8, sz9, sz10, sz11, sz12, sz13, sz14, sz15, sz16, sz17, sz18, sz19, sz20, sz21, sz22, sz23, ix]) rfl
  obtain ⟨odd, h2, e2, om, b2, o2⟩ := s_pick (k := k) (L := []) (by omega) ((b1.pre (Pre.app h1 [MO.lst [.int 1]])).pre (Pre.app _ [MO.lst (odd6 h1.length)])) (by omega) (p := (h1 ++ [MO.lst [.int 1]]).length) (xs := odd6 h1.length) (pre_at _) (by rw [List.length_append]; simp; omega) (by simp [odd6]) (by simp [odd6])
  have hz : h2[h1.length]? = some (.lst [.int 1]) := o2.at' _ _ (by omega) get_mid
  have s3 : evS S ⟨callM PP k, glbP, []⟩ (.asg (.nm 4) (.call 17 [(.var 0), (.lst [(.lit (.bl true)), (.lit .non), (.lit (.str "1")), (.tup [(.lit (.int 1))]), (.lst [(.lit (.int 1))]), (.lit (.bl false))])])) [some (.ref b), some (.tup prs), some (.ref f), some (.int r), z4, z5, z6, z7, some (.tup ts), some (.tup rws)] h1 = .next [some (.ref b), some (.tup prs), some (.ref f), some (.int r), some odd, z5, z6, z7, some (.tup ts), some (.tup rws)] h2 :=
    st_asg (set_v (ev_call (evs_cons (v := .ref b) (h1 := h1) (set_v (by simp only [x_lit, x_var, x_glb, x_tup, x_lst, x_dct, x_bin, x_neg, x_not, x_and, x_or, x_ite, x_cmp, x_chain, x_idx, x_slc, x_rev, x_isi, x_fn, x_mth, x_call, x_callk, x_src, evs, evTs, evO, evIfs, evE, y_asg, y_sub, y_aug, y_exp, y_ifs, y_ret, y_retN, y_pass, y_brk, y_cnt, y_rse, evSs, Res.bind_ok, Res.bind_exc, Res.bind_bad, Res.of_some, Res.of_none, settle_v, settle_t, Res.noX_ok, Res.st_ok, Res.st_exc, Res.st_bad, SR.then_next, SR.then_ret, SR.then_brk, SR.then_cnt, SR.then_exc, SR.then_bad, SR.out, List.getElem?_cons_zero, List.getElem?_cons_succ, List.set_cons_zero, List.set_cons_succ, bindT, bindTs, Option.bind_some, Option.bind_none, Option.map_some, Option.map_none, vOf, if_true, if_false, Bool.false_eq_true, Bool.not_true, Bool.not_false, List.map_cons, List.map_nil, wipeM, Ev.locked, reduceCtorEq, f1, tru, List.length_cons, List.length_nil, Nat.reduceAdd, Nat.zero_add, sz0, sz1, sz2, sz3, sz4, sz5, sz6, sz7, sz8, sz9, sz10, sz11, sz12, sz13, sz14, sz15, sz16, sz17, sz18, sz19, sz20, sz21, sz22, sz23])) (evs_cons (set_t (ev_lst (vs := odd6 h1.length) (h' := h1 ++ [MO.lst [.int 1]]) (by simp only [x_lit, x_var, x_glb, x_tup, x_lst, x_dct, x_bin, x_neg, x_not, x_and, x_or, x_ite, x_cmp, x_chain, x_idx, x_slc, x_rev, x_isi, x_fn, x_mth, x_call, x_callk, x_src, evs, evTs, evO, evIfs, evE, y_asg, y_sub, y_aug, y_exp, y_ifs, y_ret, y_retN, y_pass, y_brk, y_cnt, y_rse, evSs, Res.bind_ok, Res.bind_exc, Res.bind_bad, Res.of_some, Res.of_none, settle_v, settle_t, Res.noX_ok, Res.st_ok, Res.st_exc, Res.st_bad, SR.then_next, SR.then_ret, SR.then_brk, SR.then_cnt, SR.then_exc, SR.then_bad, SR.out, List.getElem?_cons_zero, List.getElem?_cons_succ, List.set_cons_zero, List.set_cons_succ, bindT, bindTs, Option.bind_some, Option.bind_none, Option.map_some, Option.map_none, vOf, if_true, if_false, Bool.false_eq_true, Bool.not_true, Bool.not_false, List.map_cons, List.map_nil, wipeM, Ev.locked, reduceCtorEq, f1, tru, List.length_cons, List.length_nil, Nat.reduceAdd, Nat.zero_add, sz0, sz1, sz2, sz3, sz4, sz5, sz6, sz7, sz8, sz9, sz10, sz11, sz12, sz13, sz14, sz15, sz16, sz17, sz18, sz19, sz20, sz21, sz22, sz23, odd6]) (by simp [odd6]))) evs_nil)) e2)) rfl
  obtain ⟨pl, h3, e3, q3, b3, o3⟩ := s_take (k := k) (L := []) (by omega) b2 (by omega) (many := (rws.length : Int) + 1) (by omega) (by omega)
  have s4 : evS S ⟨callM PP k, glbP, []⟩ (.asg (.nm 5) (.call 16 [(.var 0), (.bin .Add (.fn .len [(.var 9)]) (.lit (.int 1)))])) [some (.ref b), some (.tup prs), some (.ref f), some (.int r), some odd, z5, z6, z7, some (.tup ts), some (.tup rws)] h2 = .next [some (.ref b), some (.tup prs), some (.ref f), some (.int r), some odd, some (.int pl), z6, z7, some (.tup ts), some (.tup rws)] h3 :=
    st_asg (set_v (ev_call (vs := [.ref b, .int ((rws.length : Int) + 1)]) (h1 := h2) (by simp only [x_lit, x_var, x_glb, x_tup, x_lst, x_dct, x_bin, x_neg, x_not, x_and, x_or, x_ite, x_cmp, x_chain, x_idx, x_slc, x_rev, x_isi, x_fn, x_mth, x_call, x_callk, x_src, evs, evTs, evO, evIfs, evE, y_asg, y_sub, y_aug, y_exp, y_ifs, y_ret, y_retN, y_pass, y_brk, y_cnt, y_rse, evSs, Res.bind_ok, Res.bind_exc, Res.bind_bad, Res.of_some, Res.of_none, settle_v, settle_t, Res.noX_ok, Res.st_ok, Res.st_exc, Res.st_bad, SR.then_next, SR.then_ret, SR.then_brk, SR.then_cnt, SR.then_exc, SR.then_bad, SR.out, List.getElem?_cons_zero, List.getElem?_cons_succ, List.set_cons_zero, List.set_cons_succ, bindT, bindTs, Option.bind_some, Option.bind_none, Option.map_some, Option.map_none, vOf, if_true, if_false, Bool.false_eq_true, Bool.not_true, Bool.not_false, List.map_cons, List.map_nil, wipeM, Ev.locked, reduceCtorEq, f1, tru, List.length_cons, List.length_nil, Nat.reduceAdd, Nat.zero_add, sz0, sz1, sz2, sz3, sz4, sz5, sz6, sz7, sz8, sz9, sz10, sz11, sz12, sz13, sz14, sz15, sz16, sz17, sz18, sz19, sz20, sz21, sz22, sz23, b_len_tup, bin_add]) e3)) rfl
  have lb3 := b3.lt
  have ok3 : OkM h h3 := ((((OkM.bo o1 b1).trans (OkM.pre (Pre.app h1 [MO.lst [.int 1]]))).trans (OkM.pre (Pre.app _ [MO.lst (odd6 h1.length)]))).trans (OkM.bo o2 b2)).trans (OkM.bo o3 b3)
  have bo3 : Bo b h0 h3 := (((bo.trans o1).trans ((Pre.app h1 [MO.lst [.int 1]]).trans (Pre.app _ [MO.lst (odd6 h1.length)])).bo).trans o2).trans o3
  have hf3 : h3[f]? = some (.lst acc) := o3.at' _ _ ne (o2.at' _ _ ne (Pre.app _ _ _ _ (Pre.app h1 _ _ _ (o1.at' _ _ ne hf))))
  have oko : okv h3 odd = true := by
    refine OkM.bo o3 b3 _ ?_
    simp only [odd6, List.mem_cons, List.not_mem_nil, or_false] at om
    rcases om with rfl | rfl | rfl | rfl | rfl | rfl <;> first | rfl | (simp [okv, isiOk, hz])
  have c1 := cutL_len rws none (some pl)
  have c2 := cutL_len rws (some (pl + 1)) none
  have a1 : ∀ h : MH, binT h .Add (.v (.tup rws)) (.v (.tup [odd])) = some (.v (.tup (rws ++ [odd]))) := fun h => add_tup (by simp; omega)
  have a2 : ∀ h : MH, binT h .Add (.v (.tup (cutL rws none (some pl)))) (.v (.tup [odd])) = some (.v (.tup (cutL rws none (some pl) ++ [odd]))) := fun h => add_tup (by simp; omega)
  have a3 : ∀ h : MH, binT h .Add (.v (.tup (cutL rws none (some pl) ++ [odd]))) (.v (.tup (cutL rws (some (pl + 1)) none))) = some (.v (.tup (cutL rws none (some pl) ++ [odd] ++ cutL rws (some (pl + 1)) none))) := fun h => add_tup (by simp; omega)
  have a4 : ∀ h : MH, binT h .Add (.v (.tup ts)) (.v (.tup [.int 3])) = some (.v (.tup (ts ++ [.int 3]))) := fun h => add_tup (by simp; omega)
  have m1 : ∀ h : MH, binT h .Mult (.v (.tup [.int 7])) (.v (.int 20)) = some (.v (.tup (List.replicate (20 : Int).toNat [MV.int 7]).flatten)) := fun h => mul7 (by omega) (by omega)
  have m2 : ∀ h : MH, binT h .Mult (.v (.tup [.int 7])) (.v (.int 21)) = some (.v (.tup (List.replicate (21 : Int).toNat [MV.int 7]).flatten)) := fun h => mul7 (by omega) (by omega)
  generalize eg1 : cutL rws none (some pl) ++ [odd] ++ cutL rws (some (pl + 1)) none = w2 at a3
  have kw2 : ∀ h : MH, OkM h3 h → okn h 1 (.tup w2) = true := by
    intro h' o
    subst eg1
    refine okn_tup (by simp; omega) fun y hy => ?_
    rcases List.mem_append.mp hy with m | m
    · rcases List.mem_append.mp m with m | m
      · obtain ⟨i, rfl⟩ := rwi y (cutL_mem m); exact okn_int
      · simp at m; subst m; exact o _ oko
    · obtain ⟨i, rfl⟩ := rwi y (cutL_mem m); exact okn_int
  have l20 : (List.replicate (20 : Int).toNat [MV.int 7]).flatten.length ≤ 1000 := by rw [len7]; decide
  have l21 : (List.replicate (21 : Int).toNat [MV.int 7]).flatten.length ≤ 1000 := by rw [len7]; decide
  have i20 : ∀ x ∈ (List.replicate (20 : Int).toNat [MV.int 7]).flatten, ∃ i, x = MV.int i := mem7
  have i21 : ∀ x ∈ (List.replicate (21 : Int).toNat [MV.int 7]).flatten, ∃ i, x = MV.int i := mem7
  generalize (List.replicate (20 : Int).toNat [MV.int 7]).flatten = w20 at *
  generalize (List.replicate (21 : Int).toNat [MV.int 7]).flatten = w21 at *
  let six : List MV := [.tup [.tup ts, .tup (rws ++ [odd])], .tup [.tup ts, .tup w2], .tup [.tup ts, .tup w20], .tup [.tup ts, .tup w21], .tup [.tup (ts ++ [.int 3]), .tup rws], .tup [.tup ts, .non]]
  let h4 : MH := h3 ++ [.lst six]
  have s5 : evS S ⟨callM PP k, glbP, []⟩ (.asg (.nm 6) (.lst [(.tup [(.var 8), (.bin .Add (.var 9) (.tup [(.var 4)]))]), (.tup [(.var 8), (.bin .Add (.bin .Add (.slc (.var 9) none (some (.var 5))) (.tup [(.var 4)])) (.slc (.var 9) (some (.bin .Add (.var 5) (.lit (.int 1)))) none))]), (.tup [(.var 8), (.bin .Mult (.tup [(.lit (.int 7))]) (.lit (.int 20)))]), (.tup [(.var 8), (.bin .Mult (.tup [(.lit (.int 7))]) (.lit (.int 21)))]), (.tup [(.bin .Add (.var 8) (.tup [(.lit (.int 3))])), (.var 9)]), (.tup [(.var 8), (.lit .non)])])) [some (.ref b), some (.tup prs), some (.ref f), some (.int r), some odd, some (.int pl), z6, z7, some (.tup ts), some (.tup rws)] h3 = .next [some (.ref b), some (.tup prs), some (.ref f), some (.int r), some odd, some (.int pl), some (.ref h3.length), z7, some (.tup ts), some (.tup rws)] h4 := by
    refine st_asg (set_t (ev_lst (vs := six) ?_ (by simp [six]))) rfl
    simp only [x_lit, x_var, x_glb, x_tup, x_lst, x_dct, x_bin, x_neg, x_not, x_and, x_or, x_ite, x_cmp, x_chain, x_idx, x_slc, x_rev, x_isi, x_fn, x_mth, x_call, x_callk, x_src, evs, evTs, evO, evIfs, evE, y_asg, y_sub, y_aug, y_exp, y_ifs, y_ret, y_retN, y_pass, y_brk, y_cnt, y_rse, evSs, Res.bind_ok, Res.bind_exc, Res.bind_bad, Res.of_some, Res.of_none, settle_v, settle_t, Res.noX_ok, Res.st_ok, Res.st_exc, Res.st_bad, SR.then_next, SR.then_ret, SR.then_brk, SR.then_cnt, SR.then_exc, SR.then_bad, SR.out, List.getElem?_cons_zero, List.getElem?_cons_succ, List.set_cons_zero, List.set_cons_succ, bindT, bindTs, Option.bind_some, Option.bind_none, Option.map_some, Option.map_none, vOf, if_true, if_false, Bool.false_eq_true, Bool.not_true, Bool.not_false, List.map_cons, List.map_nil, wipeM, Ev.locked, reduceCtorEq, f1, tru, List.length_cons, List.length_nil, Nat.reduceAdd, Nat.zero_add, sz0, sz1, sz2, sz3, sz4, sz5, sz6, sz7, sz8, sz9, sz10, sz11, sz12, sz13, sz14, sz15, sz16, sz17, sz18, sz19, sz20, sz21, sz22, sz23, slc_tup, bin_add, a1, a2, a3, a4, m1, m2, six]
  let h5 : MH := h4 ++ [.lst [.tup ts, .tup rws]]
  let h6 : MH := h5 ++ [.lst rws]
  let h7 : MH := h6 ++ [.lst ts]
  let three : List MV := [.ref h4.length, .tup [.tup ts, .ref h5.length], .tup [.ref h6.length, .tup rws]]
  have p47 : Pre h4 h7 := ((Pre.app h4 [.lst [.tup ts, .tup rws]]).trans (Pre.app h5 [.lst rws])).trans (Pre.app h6 [.lst ts])
  have p37 : Pre h3 h7 := (Pre.app h3 [.lst six]).trans p47
  have g6 : h7[h3.length]? = some (.lst six) := p47 _ _ (pre_at _)
  have g4 : h7[h4.length]? = some (.lst [.tup ts, .tup rws]) := Pre.app h6 _ _ _ (Pre.app h5 _ _ _ (pre_at _))
  have g5 : h7[h5.length]? = some (.lst rws) := Pre.app h6 _ _ _ (pre_at _)
  have g7 : h7[h6.length]? = some (.lst ts) := pre_at _
  have esrc : evI ⟨callM PP k, glbP, []⟩ (.e (.bin .Add (.var 6) (.lst [(.lst [(.var 8), (.var 9)]), (.tup [(.var 8), (.fn .list [(.var 9)])]), (.tup [(.fn .list [(.var 8)]), (.var 9)])]))) [some (.ref b), some (.tup prs), some (.ref f), some (.int r), some odd, some (.int pl), some (.ref h3.length), z7, some (.tup ts), some (.tup rws)] h4 = .ok ⟨none, none, six ++ three⟩ h7 := by
    have add := add_lst (h := h7) (a := .v (.ref h3.length)) (b := .t three) (fun x e => nomatch e) (lst_ref g6) rfl (by simp [six, three])
    have el : evT ⟨callM PP k, glbP, []⟩ (.lst [(.lst [(.var 8), (.var 9)]), (.tup [(.var 8), (.fn .list [(.var 9)])]), (.tup [(.fn .list [(.var 8)]), (.var 9)])]) [some (.ref b), some (.tup prs), some (.ref f), some (.int r), some odd, some (.int pl), some (.ref h3.length), z7, some (.tup ts), some (.tup rws)] h4 = .ok (.t three) h7 := by
      refine ev_lst ?_ (by simp [three])
      simp only [x_lit, x_var, x_glb, x_tup, x_lst, x_dct, x_bin, x_neg, x_not, x_and, x_or, x_ite, x_cmp, x_chain, x_idx, x_slc, x_rev, x_isi, x_fn, x_mth, x_call, x_callk, x_src, evs, evTs, evO, evIfs, evE, y_asg, y_sub, y_aug, y_exp, y_ifs, y_ret, y_retN, y_pass, y_brk, y_cnt, y_rse, evSs, Res.bind_ok, Res.bind_exc, Res.bind_bad, Res.of_some, Res.of_none, settle_v, settle_t, Res.noX_ok, Res.st_ok, Res.st_exc, Res.st_bad, SR.then_next, SR.then_ret, SR.then_brk, SR.then_cnt, SR.then_exc, SR.then_bad, SR.out, List.getElem?_cons_zero, List.getElem?_cons_succ, List.set_cons_zero, List.set_cons_succ, bindT, bindTs, Option.bind_some, Option.bind_none, Option.map_some, Option.map_none, vOf, if_true, if_false, Bool.false_eq_true, Bool.not_true, Bool.not_false, List.map_cons, List.map_nil, wipeM, Ev.locked, reduceCtorEq, f1, tru, List.length_cons, List.length_nil, Nat.reduceAdd, Nat.zero_add, sz0, sz1, sz2, sz3, sz4, sz5, sz6, sz7, sz8, sz9, sz10, sz11, sz12, sz13, sz14, sz15, sz16, sz17, sz18, sz19, sz20, sz21, sz22, sz23, lis_tup, three, h5, h6, h7]
    refine ev_src (x := .t (six ++ three)) ?_ rfl rfl
    rw [x_bin, x_var]
    simp only [List.getElem?_cons_zero, List.getElem?_cons_succ, Res.bind_ok]
    rw [el, Res.bind_ok, add, Res.of_some]
  have tok : ∀ (h : MH) (n : Nat), okn h (n + 1) (.tup ts) = true := fun h n => thr_ok ht
  have rok : ∀ (h : MH) (n : Nat), okn h (n + 1) (.tup rws) = true := fun h n => row_ok hr
  have pr2 : ∀ (h : MH) (x y : MV), okn h 1 x = true → okn h 1 y = true → okn h 2 (.tup [x, y]) = true := by
    intro h x y hx hy
    refine okn_tup (by simp) fun z hz => ?_
    simp at hz
    rcases hz with rfl | rfl
    · exact hx
    · exact hy
  have o37 : OkM h3 h7 := OkM.pre p37
  have nine : ∀ x ∈ six ++ three, okn h7 2 x = true := by
    intro x hx
    simp only [six, three, List.mem_append, List.mem_cons, List.not_mem_nil, or_false] at hx
    rcases hx with (rfl | rfl | rfl | rfl | rfl | rfl) | (rfl | rfl | rfl)
    · refine pr2 _ _ _ (tok _ _) (okn_tup (by simp; omega) fun y hy => ?_)
      rcases List.mem_append.mp hy with m | m
      · obtain ⟨i, rfl⟩ := rwi y m; exact okn_int
      · simp at m; subst m; exact o37 _ oko
    · exact pr2 _ _ _ (tok _ _) (kw2 _ o37)
    · exact pr2 _ _ _ (tok _ _) (okn_ints l20 i20)
    · exact pr2 _ _ _ (tok _ _) (okn_ints l21 i21)
    · refine pr2 _ _ _ (okn_ints (by simp; omega) fun y hy => ?_) (rok _ _)
      rcases List.mem_append.mp hy with m | m
      · obtain ⟨ns, e, -, -⟩ := thr_ints ht
        injection e with e
        rw [e] at m
        obtain ⟨i, -, rfl⟩ := List.mem_map.mp m; exact ⟨i, rfl⟩
      · simp at m; exact ⟨3, m⟩
    · exact pr2 _ _ _ (tok _ _) rfl
    · simp [okn, okv, isiOk, g4]
    · exact pr2 _ _ _ (tok _ _) (by simp [okn, okv, isiOk, g5])
    · exact pr2 _ _ _ (by simp [okn, okv, isiOk, g7]) (rok _ _)
  obtain ⟨σ', h8, e8, acc', c7, j1, j2, j3, j4, j5⟩ := loop_C (S := S) (E := ⟨callM PP k, glbP, []⟩) (n := n + 3) (r := r) (h0 := h0) (hS := h7) (z4 := some odd) (z5 := some (.int pl)) (z6 := some (.ref h3.length)) (z8 := some (.tup ts)) (z9 := some (.tup rws)) (ys := six ++ three) hp hpr ne hf0 (six ++ three) [some (.ref b), some (.tup prs), some (.ref f), some (.int r), some odd, some (.int pl), some (.ref h3.length), z7, some (.tup ts), some (.tup rws)] h7
    ⟨acc, z7, p37 _ _ hf3, by simp [six, three]; omega, fun x hx => (ok3.trans o37).okn (ha x hx), nine, OkM.refl _, (b3.pre p37).le (by omega), bo3.trans p37.bo, rfl⟩
  subst j5
  have s6 := fors_ev (S := S) (E := ⟨callM PP k, glbP, []⟩) (tg := .nm 7) (body := [.exp (.mth .append (.var 2) [(.bin .Add (.bin .Add (.slc (.var 1) none (some (.var 3))) (.tup [(.var 7)])) (.slc (.var 1) (some (.bin .Add (.var 3) (.lit (.int 1)))) none))])]) esrc rfl e8
  exact ⟨acc', _, _, _, _, _, _, _, h8, by rw [bodyI3, seq_next s1, seq_next s2, seq_next s3, seq_next s4, seq_next s5, seq_next s6, seq_nil], j1, j2, j3, j4⟩
end
end MP.Q

set_option linter.all false
set_option autoImplicit false
set_option maxRecDepth 100000
namespace MP.Q
open PySem PyProof.Rows L2
section
variable {k : Nat} {L : List Nat} {h : MH} {S : SubT} {E : Ev}
theorem s_near_inputs (hk : 4 ≤ k) {b : Nat} {n : Int} {prs : List MV} (hb : Bx h b n) (hn : n ≤ 80000) (hp : prs.length ≤ 6) (hpr : ∀ x ∈ prs, isPr x) :
    ∃ p xs h', callM PP k [] 26 [.ref b, .tup prs] h = .ok (.ref p) h' ∧ h'[p]? = some (.lst xs) ∧ (∀ x ∈ xs, okn h' 3 x = true) ∧ Bx h' b (n + 3) ∧ Bo b h h' ∧ p ≠ b := by
  obtain ⟨k, rfl⟩ : ∃ j, k = j + 1 := ⟨k - 1, by omega⟩
  have lb := hb.lt
  have c1 := cutL_len prs none (some 1)
  have a1 : ∀ h : MH, binT h .Add (.v (.tup prs)) (.v (.tup (cutL prs none (some 1)))) = some (.v (.tup (prs ++ cutL prs none (some 1)))) := fun h => add_tup (by omega)
  have a2 : ∀ h : MH, binT h .Add (.v (.tup prs)) (.v (.tup [.tup [.tup [.int 2, .int 2, .int 2], .tup [.int 1]], .tup [.tup [.int 2, .int 2, .int 2], .tup [.int 2]]])) = some (.v (.tup (prs ++ [.tup [.tup [.int 2, .int 2, .int 2], .tup [.int 1]], .tup [.tup [.int 2, .int 2, .int 2], .tup [.int 2]]]))) := fun h => add_tup (by simp; omega)
  let h3 : MH := h ++ [.lst prs]
  let h4 : MH := h3 ++ [.dk []]
  let xs : List MV := [.tup prs, .ref h.length, .tup prs.reverse, .tup (prs ++ cutL prs none (some 1)), .tup (prs ++ [.tup [.tup [.int 2, .int 2, .int 2], .tup [.int 1]], .tup [.tup [.int 2, .int 2, .int 2], .tup [.int 2]]]), .non, .int 5, .str "x", .ref h3.length, .tup [.tup []], .tup [.non], .tup [.int 1, .int 2], .tup [.tup [.tup [], .tup [.int 1], .int 2]]]
  let h5 : MH := h4 ++ [.lst xs]
  have s1 : evS subP ⟨callM PP k, glbP, []⟩ (.asg (.nm 2) (.lst [(.var 1), (.fn .list [(.var 1)]), (.rev (.var 1)), (.bin .Add (.var 1) (.slc (.var 1) none (some (.lit (.int 1))))), (.bin .Add (.var 1) (.tup [(.tup [(.tup [(.lit (.int 2)), (.lit (.int 2)), (.lit (.int 2))]), (.tup [(.lit (.int 1))])]), (.tup [(.tup [(.lit (.int 2)), (.lit (.int 2)), (.lit (.int 2))]), (.tup [(.lit (.int 2))])])])), (.lit .non), (.lit (.int 5)), (.lit (.str "x")), (.dct false), (.tup [(.tup [])]), (.tup [(.lit .non)]), (.tup [(.lit (.int 1)), (.lit (.int 2))]), (.tup [(.tup [(.tup []), (.tup [(.lit (.int 1))]), (.lit (.int 2))])])])) [some (.ref b), some (.tup prs), none, none, none, none, none, none, none, none] h = .next [some (.ref b), some (.tup prs), some (.ref h4.length), none, none, none, none, none, none, none] h5 := by
    refine st_asg (set_t (ev_lst (vs := xs) ?_ (by simp [xs]))) rfl
    simp only [x_lit, x_var, x_glb, x_tup, x_lst, x_dct, x_bin, x_neg, x_not, x_and, x_or, x_ite, x_cmp, x_chain, x_idx, x_slc, x_rev, x_isi, x_fn, x_mth, x_call, x_callk, x_src, evs, evTs, evO, evIfs, evE, y_asg, y_sub, y_aug, y_exp, y_ifs, y_ret, y_retN, y_pass, y_brk, y_cnt, y_rse, evSs, Res.bind_ok, Res.bind_exc, Res.bind_bad, Res.of_some, Res.of_none, settle_v, settle_t, Res.noX_ok, Res.st_ok, Res.st_exc, Res.st_bad, SR.then_next, SR.then_ret, SR.then_brk, SR.then_cnt, SR.then_exc, SR.then_bad, SR.out, List.getElem?_cons_zero, List.getElem?_cons_succ, List.set_cons_zero, List.set_cons_succ, bindT, bindTs, Option.bind_some, Option.bind_none, Option.map_some, Option.map_none, vOf, if_true, if_false, Bool.false_eq_true, Bool.not_true, Bool.not_false, List.map_cons, List.map_nil, wipeM, Ev.locked, reduceCtorEq, f1, tru, List.length_cons, List.length_nil, Nat.reduceAdd, Nat.zero_add, sz0, sz1, sz2, sz3, sz4, sz5, sz6, sz7, sz8, sz9, sz10, sz11, sz12, sz13, sz14, sz15, sz16, sz17, sz18, sz19, sz20, sz21, sz22, sz23, slc_tup, lis_tup, a1, a2, List.not_mem_nil, h3, h4, xs]
  have p5 : Pre h h5 := ((Pre.app h [.lst prs]).trans (Pre.app h3 [.dk []])).trans (Pre.app h4 [.lst xs])
  have g2 : h5[h.length]? = some (.lst prs) := Pre.app h4 _ _ _ (Pre.app h3 _ _ _ (pre_at _))
  have g9 : h5[h3.length]? = some (.dk []) := Pre.app h4 _ _ _ (pre_at _)
  have gx : h5[h4.length]? = some (.lst xs) := pre_at _
  let h6 : MH := h5 ++ [.lst (xs ++ [.tup [.tup [.tup []]]])]
  have s2 : evS subP ⟨callM PP k, glbP, []⟩ (.asg (.nm 2) (.bin .Add (.var 2) (.lst [(.tup [(.tup [(.tup [])])])]))) [some (.ref b), some (.tup prs), some (.ref h4.length), none, none, none, none, none, none, none] h5 = .next [some (.ref b), some (.tup prs), some (.ref h5.length), none, none, none, none, none, none, none] h6 := by
    have add := add_lst (h := h5) (a := .v (.ref h4.length)) (b := .t [.tup [.tup [.tup []]]]) (fun x e => nomatch e) (lst_ref gx) rfl (by simp [xs])
    have el : evT ⟨callM PP k, glbP, []⟩ (.lst [(.tup [(.tup [(.tup [])])])]) [some (.ref b), some (.tup prs), some (.ref h4.length), none, none, none, none, none, none, none] h5 = .ok (.t [.tup [.tup [.tup []]]]) h5 := ev_lst (by simp only [x_lit, x_var, x_glb, x_tup, x_lst, x_dct, x_bin, x_neg, x_not, x_and, x_or, x_ite, x_cmp, x_chain, x_idx, x_slc, x_rev, x_isi, x_fn, x_mth, x_call, x_callk, x_src, evs, evTs, evO, evIfs, evE, y_asg, y_sub, y_aug, y_exp, y_ifs, y_ret, y_retN, y_pass, y_brk, y_cnt, y_rse, evSs, Res.bind_ok, Res.bind_exc, Res.bind_bad, Res.of_some, Res.of_none, settle_v, settle_t, Res.noX_ok, Res.st_ok, Res.st_exc, Res.st_bad, SR.then_next, SR.then_ret, SR.then_brk, SR.then_cnt, SR.then_exc, SR.then_bad, SR.out, List.getElem?_cons_zero, List.getElem?_cons_succ, List.set_cons_zero, List.set_cons_succ, bindT, bindTs, Option.bind_some, Option.bind_none, Option.map_some, Option.map_none, vOf, if_true, if_false, Bool.false_eq_true, Bool.not_true, Bool.not_false, List.map_cons, List.map_nil, wipeM, Ev.locked, reduceCtorEq, f1, tru, List.length_cons, List.length_nil, Nat.reduceAdd, Nat.zero_add, sz0, sz1, sz2, sz3, sz4, sz5, sz6, sz7, sz8, sz9, sz10, sz11, sz12, sz13, sz14, sz15, sz16, sz17, sz18, sz19, sz20, sz21, sz22, sz23]) (by simp)
    refine st_asg (set_t ?_) rfl
    rw [x_bin, x_var]
    simp only [List.getElem?_cons_zero, List.getElem?_cons_succ, Res.bind_ok]
    rw [el, Res.bind_ok, add, Res.of_some]
  have p6 : Pre h5 h6 := Pre.app _ _
  have ok6 : ∀ x ∈ xs ++ [.tup [.tup [.tup []]]], okn h6 3 x = true := by
    have pr : ∀ x ∈ prs, okn h6 2 x = true := fun x hx => pr_ok (hpr x hx)
    intro x hx
    simp only [xs, List.mem_append, List.mem_cons, List.not_mem_nil, or_false] at hx
    rcases hx with (rfl | rfl | rfl | rfl | rfl | rfl | rfl | rfl | rfl | rfl | rfl | rfl | rfl) | rfl
    · exact okn_tup (by omega) pr
    · simp [okn, okv, isiOk, p6 _ _ g2]
    · exact okn_tup (by simp; omega) fun y hy => pr y (List.mem_reverse.mp hy)
    · refine okn_tup (by simp; omega) fun y hy => ?_
      rcases List.mem_append.mp hy with m | m
      · exact pr y m
      · exact pr y (cutL_mem m)
    · refine okn_tup (by simp; omega) fun y hy => ?_
      rcases List.mem_append.mp hy with m | m
      · exact pr y m
      · simp at m
        rcases m with rfl | rfl <;> rfl
    · rfl
    · rfl
    · rfl
    · simp [okn, okv, isiOk, p6 _ _ g9]
    · rfl
    · rfl
    · rfl
    · rfl
    · rfl
  obtain ⟨ds, eds⟩ := prs_toD hpr
  have ec : evT ⟨callM PP k, glbP, []⟩ (.cmp .NotEq (.var 1) (.tup [])) [some (.ref b), some (.tup prs), some (.ref h5.length), none, none, none, none, none, none, none] h6 = .ok (.v (.bl (!prs.isEmpty))) h6 := by
    simp only [x_lit, x_var, x_glb, x_tup, x_lst, x_dct, x_bin, x_neg, x_not, x_and, x_or, x_ite, x_cmp, x_chain, x_idx, x_slc, x_rev, x_isi, x_fn, x_mth, x_call, x_callk, x_src, evs, evTs, evO, evIfs, evE, y_asg, y_sub, y_aug, y_exp, y_ifs, y_ret, y_retN, y_pass, y_brk, y_cnt, y_rse, evSs, Res.bind_ok, Res.bind_exc, Res.bind_bad, Res.of_some, Res.of_none, settle_v, settle_t, Res.noX_ok, Res.st_ok, Res.st_exc, Res.st_bad, SR.then_next, SR.then_ret, SR.then_brk, SR.then_cnt, SR.then_exc, SR.then_bad, SR.out, List.getElem?_cons_zero, List.getElem?_cons_succ, List.set_cons_zero, List.set_cons_succ, bindT, bindTs, Option.bind_some, Option.bind_none, Option.map_some, Option.map_none, vOf, if_true, if_false, Bool.false_eq_true, Bool.not_true, Bool.not_false, List.map_cons, List.map_nil, wipeM, Ev.locked, reduceCtorEq, f1, tru, List.length_cons, List.length_nil, Nat.reduceAdd, Nat.zero_add, sz0, sz1, sz2, sz3, sz4, sz5, sz6, sz7, sz8, sz9, sz10, sz11, sz12, sz13, sz14, sz15, sz16, sz17, sz18, sz19, sz20, sz21, sz22, sz23, cmpT, eqT_tnil eds]
  have ne5 : h5.length ≠ b := by
    have := p5.len
    omega
  have fin : ∃ acc c3 c4 c5 c6 c7 c8 c9 h', evS subP ⟨callM PP k, glbP, []⟩ (.ifs (.cmp .NotEq (.var 1) (.tup [])) bodyI3 []) [some (.ref b), some (.tup prs), some (.ref h5.length), none, none, none, none, none, none, none] h6 = .next [some (.ref b), some (.tup prs), some (.ref h5.length), c3, c4, c5, c6, c7, c8, c9] h' ∧ h'[h5.length]? = some (.lst acc) ∧ (∀ x ∈ acc, okn h' 3 x = true) ∧ Bx h' b (n + 3) ∧ Bo b h h' := by
    by_cases q : prs = []
    · refine ⟨_, none, none, none, none, none, none, none, h6, ?_, pre_at _, ok6, (hb.pre (p5.trans p6)).le (by omega), (p5.trans p6).bo⟩
      rw [st_ifs ec, if_neg (by simp [q]), seq_nil]
    · obtain ⟨acc, c3, c4, c5, c6, c7, c8, c9, h', e, i1, i2, i3, i4⟩ := block_I (S := subP) (k := k) (h := h6) (f := h5.length) (acc := xs ++ [.tup [.tup [.tup []]]]) (h0 := h) (z3 := none) (z4 := none) (z5 := none) (z6 := none) (z7 := none) (z8 := none) (z9 := none) (by omega) (hb.pre (p5.trans p6)) (by omega) (pre_at _) (by simp [xs]) ok6 ne5 p5.len (p5.trans p6).bo hp hpr q
      refine ⟨acc, c3, c4, c5, c6, c7, c8, c9, h', ?_, i1, i2, i3, i4⟩
      rw [st_ifs ec, if_pos (by simp [q]), e]
  obtain ⟨acc, c3, c4, c5, c6, c7, c8, c9, h', e, i1, i2, i3, i4⟩ := fin
  refine ⟨h5.length, acc, h', ?_, i1, i2, i3, i4, ne5⟩
  rw [c__law_near_inputs, show m__law_near_inputs = [_, _, .ifs (.cmp .NotEq (.var 1) (.tup [])) bodyI3 [], _] from rfl, seq_next s1, seq_next s2, seq_next e]
  rw [seq_ret (v := .ref h5.length) (h' := h') (by simp only [x_lit, x_var, x_glb, x_tup, x_lst, x_dct, x_bin, x_neg, x_not, x_and, x_or, x_ite, x_cmp, x_chain, x_idx, x_slc, x_rev, x_isi, x_fn, x_mth, x_call, x_callk, x_src, evs, evTs, evO, evIfs, evE, y_asg, y_sub, y_aug, y_exp, y_ifs, y_ret, y_retN, y_pass, y_brk, y_cnt, y_rse, evSs, Res.bind_ok, Res.bind_exc, Res.bind_bad, Res.of_some, Res.of_none, settle_v, settle_t, Res.noX_ok, Res.st_ok, Res.st_exc, Res.st_bad, SR.then_next, SR.then_ret, SR.then_brk, SR.then_cnt, SR.then_exc, SR.then_bad, SR.out, List.getElem?_cons_zero, List.getElem?_cons_succ, List.set_cons_zero, List.set_cons_succ, bindT, bindTs, Option.bind_some, Option.bind_none, Option.map_some, Option.map_none, vOf, if_true, if_false, Bool.false_eq_true, Bool.not_true, Bool.not_false, List.map_cons, List.map_nil, wipeM, Ev.locked, reduceCtorEq, f1, tru, List.length_cons, List.length_nil, Nat.reduceAdd, Nat.zero_add, sz0, sz1, sz2, sz3, sz4, sz5, sz6, sz7, sz8, sz9, sz10, sz11, sz12, sz13, sz14, sz15, sz16, sz17, sz18, sz19, sz20, sz21, sz22, sz23]), out_ret]
/-- a turn over near inputs -/
theorem body_Mx (hk : 20 ≤ k) {b : Nat} {nm : Option MV} {x : MV} {th inp c5 c6 : Option MV} (ox : okn h 3 x = true) :
    ∃ c5' h', evSs S ⟨callM PP k, glbP, []⟩ bodyM [some (.ref b), nm, some x, th, inp, c5, c6] h = .next [some (.ref b), nm, some x, th, inp, c5', c6] h' ∧ Pre h h' := by
  have f1 := s_are_inputs (k := k) (L := []) (by omega) ox
  obtain ⟨t2, f2⟩ := s_is_inputs (k := k) (L := []) (by omega) ox
  have ox2 : okn (h ++ t2) 3 x = true := okn_app _ ox
  obtain ⟨t3, f3⟩ := s_is_inputs (k := k) (L := []) (by omega) ox2
  generalize isInp x = t at *
  have s1 : evS S ⟨callM PP k, glbP, []⟩ (.asg (.nm 5) (.call 22 [(.var 2)])) [some (.ref b), nm, some x, th, inp, c5, c6] h = .next [some (.ref b), nm, some x, th, inp, some (.bl t), c6] h := by
    simp only [x_lit, x_var, x_glb, x_tup, x_lst, x_dct, x_bin, x_neg, x_not, x_and, x_or, x_ite, x_cmp, x_chain, x_idx, x_slc, x_rev, x_isi, x_fn, x_mth, x_call, x_callk, x_src, evs, evTs, evO, evIfs, evE, y_asg, y_sub, y_aug, y_exp, y_ifs, y_ret, y_retN, y_pass, y_brk, y_cnt, y_rse, evSs, Res.bind_ok, Res.bind_exc, Res.bind_bad, Res.of_some, Res.of_none, settle_v, settle_t, Res.noX_ok, Res.st_ok, Res.st_exc, Res.st_bad, SR.then_next, SR.then_ret, SR.then_brk, SR.then_cnt, SR.then_exc, SR.then_bad, SR.out, List.getElem?_cons_zero, List.getElem?_cons_succ, List.set_cons_zero, List.set_cons_succ, bindT, bindTs, Option.bind_some, Option.bind_none, Option.map_some, Option.map_none, vOf, if_true, if_false, Bool.false_eq_true, Bool.not_true, Bool.not_false, List.map_cons, List.map_nil, wipeM, Ev.locked, reduceCtorEq, f1, tru, List.length_cons, List.length_nil, Nat.reduceAdd, Nat.zero_add, sz0, sz1, sz2, sz3, sz4, sz5, sz6, sz7, sz8, sz9, sz10, sz11, sz12, sz13, sz14, sz15, sz16, sz17, sz18, sz19, sz20, sz21, sz22, sz23, f1]
  let h1 : MH := h ++ t2 ++ t3
  let h2 : MH := h1 ++ [.lst [.bl t, .bl t]]
  let h3 : MH := h2 ++ [.lst [.bl t, .bl t]]
  have g1 : h3[h1.length]? = some (.lst [.bl t, .bl t]) := Pre.app h2 _ _ _ (pre_at _)
  have g2 : h3[h2.length]? = some (.lst [.bl t, .bl t]) := pre_at _
  have f4 : callM PP k [] 18 [.ref h1.length, .ref h2.length] h3 = .ok (.bl true) h3 := same_flats (by omega) g1 g2 (by simp) (B := 0) (n := 0) (fun y hy => by simp at hy; subst hy; trivial) (by omega) (by omega)
  have s3 : evS S ⟨callM PP k, glbP, []⟩ (.ifs (.not (.call 18 [(.lst [(.call 7 [(.var 2)]), (.callk 7 [] [0] [(.var 2)])]), (.lst [(.var 5), (.var 5)])])) [.ret (.lit (.bl false))] []) [some (.ref b), nm, some x, th, inp, some (.bl t), c6] h = .next [some (.ref b), nm, some x, th, inp, some (.bl t), c6] h3 := by
    refine st_not (ev_call (vs := [.ref h1.length, .ref h2.length]) (h1 := h3) (evs_cons (set_t (ev_lst (vs := [.bl t, .bl t]) (h' := h1) ?_ (by simp))) (evs_cons (set_t (ev_lst (vs := [.bl t, .bl t]) (h' := h2) ?_ (by simp))) evs_nil)) f4)
    · simp only [x_lit, x_var, x_glb, x_tup, x_lst, x_dct, x_bin, x_neg, x_not, x_and, x_or, x_ite, x_cmp, x_chain, x_idx, x_slc, x_rev, x_isi, x_fn, x_mth, x_call, x_callk, x_src, evs, evTs, evO, evIfs, evE, y_asg, y_sub, y_aug, y_exp, y_ifs, y_ret, y_retN, y_pass, y_brk, y_cnt, y_rse, evSs, Res.bind_ok, Res.bind_exc, Res.bind_bad, Res.of_some, Res.of_none, settle_v, settle_t, Res.noX_ok, Res.st_ok, Res.st_exc, Res.st_bad, SR.then_next, SR.then_ret, SR.then_brk, SR.then_cnt, SR.then_exc, SR.then_bad, SR.out, List.getElem?_cons_zero, List.getElem?_cons_succ, List.set_cons_zero, List.set_cons_succ, bindT, bindTs, Option.bind_some, Option.bind_none, Option.map_some, Option.map_none, vOf, if_true, if_false, Bool.false_eq_true, Bool.not_true, Bool.not_false, List.map_cons, List.map_nil, wipeM, Ev.locked, reduceCtorEq, f1, tru, List.length_cons, List.length_nil, Nat.reduceAdd, Nat.zero_add, sz0, sz1, sz2, sz3, sz4, sz5, sz6, sz7, sz8, sz9, sz10, sz11, sz12, sz13, sz14, sz15, sz16, sz17, sz18, sz19, sz20, sz21, sz22, sz23, arr1, f2, f3]; rfl
    · simp only [x_lit, x_var, x_glb, x_tup, x_lst, x_dct, x_bin, x_neg, x_not, x_and, x_or, x_ite, x_cmp, x_chain, x_idx, x_slc, x_rev, x_isi, x_fn, x_mth, x_call, x_callk, x_src, evs, evTs, evO, evIfs, evE, y_asg, y_sub, y_aug, y_exp, y_ifs, y_ret, y_retN, y_pass, y_brk, y_cnt, y_rse, evSs, Res.bind_ok, Res.bind_exc, Res.bind_bad, Res.of_some, Res.of_none, settle_v, settle_t, Res.noX_ok, Res.st_ok, Res.st_exc, Res.st_bad, SR.then_next, SR.then_ret, SR.then_brk, SR.then_cnt, SR.then_exc, SR.then_bad, SR.out, List.getElem?_cons_zero, List.getElem?_cons_succ, List.set_cons_zero, List.set_cons_succ, bindT, bindTs, Option.bind_some, Option.bind_none, Option.map_some, Option.map_none, vOf, if_true, if_false, Bool.false_eq_true, Bool.not_true, Bool.not_false, List.map_cons, List.map_nil, wipeM, Ev.locked, reduceCtorEq, f1, tru, List.length_cons, List.length_nil, Nat.reduceAdd, Nat.zero_add, sz0, sz1, sz2, sz3, sz4, sz5, sz6, sz7, sz8, sz9, sz10, sz11, sz12, sz13, sz14, sz15, sz16, sz17, sz18, sz19, sz20, sz21, sz22, sz23]; rfl
  exact ⟨_, h3, by rw [bodyM, seq_next s1, seq_next s3, seq_nil], ((Pre.app h t2).trans (Pre.app _ t3)).trans ((Pre.app h1 _).trans (Pre.app h2 _))⟩
theorem loop_M {hS : MH} (hk : 20 ≤ k) {b p : Nat} {n : Int} {xs0 : List MV} {th inp nm : Option MV} :
    ∀ (xs : List MV) (σ : MS) (h : MH), (h[p]? = some (.lst xs0) ∧ (∀ x ∈ xs, okn h 3 x = true) ∧ Bx h b n ∧ Sc hS h ∧ ∃ c2 c5 c6, σ = [some (.ref b), nm, c2, th, inp, c5, c6]) →
    ∃ σ' h', loopS ⟨some p, none, xs0⟩ (fun x σ h => (match bindT (.nm 2) x σ with
      | some σ' => evSs S ⟨callM PP k, glbP, []⟩ bodyM σ' h
      | none => .bad)) xs σ h = .next σ' h' ∧ Bx h' b n ∧ Sc hS h' ∧ ∃ c2 c5 c6, σ' = [some (.ref b), nm, c2, th, inp, c5, c6] := by
  intro xs σ h i
  obtain ⟨σ', h', e, i'⟩ := loopS_inv (t := ⟨some p, none, xs0⟩) (f := fun x σ h => (match bindT (.nm 2) x σ with
      | some σ' => evSs S ⟨callM PP k, glbP, []⟩ bodyM σ' h
      | none => .bad)) (fun xs σ h => h[p]? = some (.lst xs0) ∧ (∀ x ∈ xs, okn h 3 x = true) ∧ Bx h b n ∧ Sc hS h ∧ ∃ c2 c5 c6, σ = [some (.ref b), nm, c2, th, inp, c5, c6])
    (fun xs σ h i => still_ref i.1)
    (fun x xs σ h ⟨i1, i2, i3, iS, c2, c5, c6, i4⟩ => by
      subst i4
      obtain ⟨c5', h', e, pr⟩ := body_Mx (S := S) hk (b := b) (nm := nm) (th := th) (inp := inp) (c5 := c5) (c6 := c6) (i2 x (by simp))
      exact ⟨_, h', e, pr _ _ i1, fun y hy => okn_pre pr (i2 y (by simp [hy])), i3.pre pr, iS.trans pr.sc, some x, c5', c6, rfl⟩) xs σ h i
  exact ⟨σ', h', e, i'.2.2.1, i'.2.2.2.1, i'.2.2.2.2⟩
end
end MP.Q

set_option linter.all false
set_option autoImplicit false
set_option maxRecDepth 100000
namespace MP.Q
open PySem PyProof.Rows L2
def mores : List Str := [".", "0", " ", "3", "m", "-1", "00", "\n", ".."]
section
variable {k : Nat} {L : List Nat} {h : MH} {S : SubT} {E : Ev}
theorem dots_len {t : MV} (ht : isThr t = true) : (dotsV t).length ≤ 5 := by
  have : (thr40.all fun t => decide ((dotsV t).length ≤ 5)) = true := by decide +kernel
  exact of_decide_eq_true (List.all_eq_true.mp this t (thr_mem ht))
theorem mores_len : ∀ m ∈ mores, m.length ≤ 2 := by
  have : (mores.all fun t => decide (t.length ≤ 2)) = true := by decide +kernel
  exact fun m hm => of_decide_eq_true (List.all_eq_true.mp this m hm)
theorem cutS_len (z : Str) (lo hi : Option Int) : (L2.cutS z lo hi).length ≤ z.length := by
  unfold L2.cutS
  show ((List.take _ (List.drop _ z.cps.toList)).toArray).size ≤ z.cps.size
  rw [List.size_toArray, List.length_take, List.length_drop, Array.length_toList]; omega
theorem add_str {x y : Str} (l : x.length + y.length ≤ 1000) : binT h .Add (.v (.str x)) (.v (.str y)) = some (.v (.str (x ++ y))) := by
  rw [show binT h .Add (.v (.str x)) (.v (.str y)) = addT h (.v (.str x)) (.v (.str y)) from rfl, addT, if_pos (le_line l)]
theorem s_texts (hk : 4 ≤ k) {b : Nat} {n : Int} {th : MV} (hb : Bx h b n) (hn : n ≤ 80000) (ht : isThr th = true) :
    ∃ p xs h', callM PP k [] 28 [.ref b, th] h = .ok (.ref p) h' ∧ h'[p]? = some (.lst xs) ∧ xs.length ≤ 30 ∧ (∀ x ∈ xs, D h' 20 4 x ∧ Fr b p x ∧ ∀ z, x = .str z → tOk z = true ∧ thrV z = rdS z) ∧ Bx h' b (n + 2) ∧ Bo b h h' ∧ p ≠ b := by
  obtain ⟨k, rfl⟩ : ∃ j, k = j + 1 := ⟨k - 1, by omega⟩
  have lb := hb.lt
  have zl := dots_len ht
  have f1 := s_dots (k := k) (L := []) (h := h) (by omega) ht
  generalize dotsV th = z at zl f1
  obtain ⟨r, h1, e1, q1, b1, o1⟩ := s_take (k := k) (L := []) (by omega) hb (by omega) (many := (z.length : Int) + 1) (by omega) (by omega)
  have lb1 := b1.lt
  obtain ⟨mv, h2, e2, mm, b2, o2⟩ := s_pick (k := k) (L := []) (by omega) (b1.pre (Pre.app h1 [MO.lst (mores.map .str)])) (by omega) (p := h1.length) (xs := mores.map .str) (pre_at _) (by omega) (by simp [mores]) (by simp [mores])
  obtain ⟨m, mm', rfl⟩ := List.mem_map.mp mm
  have ml := mores_len m mm'
  have lb2 := b2.lt
  have ln := len_str (h := h) (z := z) (by omega)
  have s1 : evS subP ⟨callM PP k, glbP, []⟩ (.asg (.nm 2) (.call 27 [(.var 1)])) [some (.ref b), some th, none, none, none, none] h = .next [some (.ref b), some th, some (.str z), none, none, none] h := by
    simp only [x_lit, x_var, x_glb, x_tup, x_lst, x_dct, x_bin, x_neg, x_not, x_and, x_or, x_ite, x_cmp, x_chain, x_idx, x_slc, x_rev, x_isi, x_fn, x_mth, x_call, x_callk, x_src, evs, evTs, evO, evIfs, evE, y_asg, y_sub, y_aug, y_exp, y_ifs, y_ret, y_retN, y_pass, y_brk, y_cnt, y_rse, evSs, Res.bind_ok, Res.bind_exc, Res.bind_bad, Res.of_some, Res.of_none, settle_v, settle_t, Res.noX_ok, Res.st_ok, Res.st_exc, Res.st_bad, SR.then_next, SR.then_ret, SR.then_brk, SR.then_cnt, SR.then_exc, SR.then_bad, SR.out, List.getElem?_cons_zero, List.getElem?_cons_succ, List.set_cons_zero, List.set_cons_succ, bindT, bindTs, Option.bind_some, Option.bind_none, Option.map_some, Option.map_none, vOf, if_true, if_false, Bool.false_eq_true, Bool.not_true, Bool.not_false, List.map_cons, List.map_nil, wipeM, Ev.locked, reduceCtorEq, f1, tru, List.length_cons, List.length_nil, Nat.reduceAdd, Nat.zero_add, sz0, sz1, sz2, sz3, sz4, sz5, sz6, sz7, sz8, sz9, sz10, sz11, sz12, sz13, sz14, sz15, sz16, sz17, sz18, sz19, sz20, sz21, sz22, sz23, f1]
  have s2 : evS subP ⟨callM PP k, glbP, []⟩ (.asg (.nm 3) (.call 16 [(.var 0), (.bin .Add (.fn .len [(.var 2)]) (.lit (.int 1)))])) [some (.ref b), some th, some (.str z), none, none, none] h = .next [some (.ref b), some th, some (.str z), some (.int r), none, none] h1 :=
    st_asg (set_v (ev_call (vs := [.ref b, .int ((z.length : Int) + 1)]) (h1 := h) (by simp only [x_lit, x_var, x_glb, x_tup, x_lst, x_dct, x_bin, x_neg, x_not, x_and, x_or, x_ite, x_cmp, x_chain, x_idx, x_slc, x_rev, x_isi, x_fn, x_mth, x_call, x_callk, x_src, evs, evTs, evO, evIfs, evE, y_asg, y_sub, y_aug, y_exp, y_ifs, y_ret, y_retN, y_pass, y_brk, y_cnt, y_rse, evSs, Res.bind_ok, Res.bind_exc, Res.bind_bad, Res.of_some, Res.of_none, settle_v, settle_t, Res.noX_ok, Res.st_ok, Res.st_exc, Res.st_bad, SR.then_next, SR.then_ret, SR.then_brk, SR.then_cnt, SR.then_exc, SR.then_bad, SR.out, List.getElem?_cons_zero, List.getElem?_cons_succ, List.set_cons_zero, List.set_cons_succ, bindT, bindTs, Option.bind_some, Option.bind_none, Option.map_some, Option.map_none, vOf, if_true, if_false, Bool.false_eq_true, Bool.not_true, Bool.not_false, List.map_cons, List.map_nil, wipeM, Ev.locked, reduceCtorEq, f1, tru, List.length_cons, List.length_nil, Nat.reduceAdd, Nat.zero_add, sz0, sz1, sz2, sz3, sz4, sz5, sz6, sz7, sz8, sz9, sz10, sz11, sz12, sz13, sz14, sz15, sz16, sz17, sz18, sz19, sz20, sz21, sz22, sz23, ln, bin_add]) e1)) rfl
  have s3 : evS subP ⟨callM PP k, glbP, []⟩ (.asg (.nm 4) (.call 17 [(.var 0), (.lst [(.lit (.str ".")), (.lit (.str "0")), (.lit (.str " ")), (.lit (.str "3")), (.lit (.str "m")), (.lit (.str "-1")), (.lit (.str "00")), (.lit (.str "\n")), (.lit (.str ".."))])])) [some (.ref b), some th, some (.str z), some (.int r), none, none] h1 = .next [some (.ref b), some th, some (.str z), some (.int r), some (.str m), none] h2 :=
    st_asg (set_v (ev_call (evs_cons (v := .ref b) (h1 := h1) (set_v (by simp only [x_lit, x_var, x_glb, x_tup, x_lst, x_dct, x_bin, x_neg, x_not, x_and, x_or, x_ite, x_cmp, x_chain, x_idx, x_slc, x_rev, x_isi, x_fn, x_mth, x_call, x_callk, x_src, evs, evTs, evO, evIfs, evE, y_asg, y_sub, y_aug, y_exp, y_ifs, y_ret, y_retN, y_pass, y_brk, y_cnt, y_rse, evSs, Res.bind_ok, Res.bind_exc, Res.bind_bad, Res.of_some, Res.of_none, settle_v, settle_t, Res.noX_ok, Res.st_ok, Res.st_exc, Res.st_bad, SR.then_next, SR.then_ret, SR.then_brk, SR.then_cnt, SR.then_exc, SR.then_bad, SR.out, List.getElem?_cons_zero, List.getElem?_cons_succ, List.set_cons_zero, List.set_cons_succ, bindT, bindTs, Option.bind_some, Option.bind_none, Option.map_some, Option.map_none, vOf, if_true, if_false, Bool.false_eq_true, Bool.not_true, Bool.not_false, List.map_cons, List.map_nil, wipeM, Ev.locked, reduceCtorEq, f1, tru, List.length_cons, List.length_nil, Nat.reduceAdd, Nat.zero_add, sz0, sz1, sz2, sz3, sz4, sz5, sz6, sz7, sz8, sz9, sz10, sz11, sz12, sz13, sz14, sz15, sz16, sz17, sz18, sz19, sz20, sz21, sz22, sz23])) (evs_cons (set_t (ev_lst (vs := mores.map .str) (h' := h1) (by simp only [x_lit, x_var, x_glb, x_tup, x_lst, x_dct, x_bin, x_neg, x_not, x_and, x_or, x_ite, x_cmp, x_chain, x_idx, x_slc, x_rev, x_isi, x_fn, x_mth, x_call, x_callk, x_src, evs, evTs, evO, evIfs, evE, y_asg, y_sub, y_aug, y_exp, y_ifs, y_ret, y_retN, y_pass, y_brk, y_cnt, y_rse, evSs, Res.bind_ok, Res.bind_exc, Res.bind_bad, Res.of_some, Res.of_none, settle_v, settle_t, Res.noX_ok, Res.st_ok, Res.st_exc, Res.st_bad, SR.then_next, SR.then_ret, SR.then_brk, SR.then_cnt, SR.then_exc, SR.then_bad, SR.out, List.getElem?_cons_zero, List.getElem?_cons_succ, List.set_cons_zero, List.set_cons_succ, bindT, bindTs, Option.bind_some, Option.bind_none, Option.map_some, Option.map_none, vOf, if_true, if_false, Bool.false_eq_true, Bool.not_true, Bool.not_false, List.map_cons, List.map_nil, wipeM, Ev.locked, reduceCtorEq, f1, tru, List.length_cons, List.length_nil, Nat.reduceAdd, Nat.zero_add, sz0, sz1, sz2, sz3, sz4, sz5, sz6, sz7, sz8, sz9, sz10, sz11, sz12, sz13, sz14, sz15, sz16, sz17, sz18, sz19, sz20, sz21, sz22, sz23, mores]) (by simp [mores]))) evs_nil)) e2)) rfl
  have c1 := cutS_len z none (some r)
  have c2 := cutS_len z (some r) none
  have c3 := cutS_len z (some (r + 1)) none
  have sl : ∀ (h : MH) lo hi, slcT h (.v (.str z)) lo hi = some (.v (.str (L2.cutS z lo hi))) := fun h lo hi => slc_str (by omega)
  generalize L2.cutS z none (some r) = u1 at *
  generalize eu2 : L2.cutS z (some r) none = u2 at *
  generalize eu3 : L2.cutS z (some (r + 1)) none = u3 at *
  generalize eu1 : L2.cutS z none (some r) = u1' at *
  have c1' : u1'.length ≤ z.length := by rw [← eu1]; exact cutS_len _ _ _
  have a1 : ∀ h : MH, binT h .Add (.v (.str u1')) (.v (.str m)) = some (.v (.str (u1' ++ m))) := fun h => add_str (by omega)
  have a2 : ∀ h : MH, binT h .Add (.v (.str (u1' ++ m))) (.v (.str u2)) = some (.v (.str (u1' ++ m ++ u2))) := fun h => add_str (by rw [Str.length_append]; omega)
  have a3 : ∀ h : MH, binT h .Add (.v (.str u1')) (.v (.str u3)) = some (.v (.str (u1' ++ u3))) := fun h => add_str (by omega)
  have l1 : ("." : Str).length = 1 := rfl
  have a4 : ∀ h : MH, binT h .Add (.v (.str ".")) (.v (.str z)) = some (.v (.str ((Str.ofString ".") ++ z))) := fun h => add_str (by rw [l1]; omega)
  have a5 : ∀ h : MH, binT h .Add (.v (.str z)) (.v (.str ".")) = some (.v (.str (z ++ (Str.ofString ".")))) := fun h => add_str (by rw [l1]; omega)
  have y1 := sl h2 none (some r)
  have y2 := sl h2 (some r) none
  have y3 := sl h2 (some (r + 1)) none
  rw [eu1] at y1
  rw [eu2] at y2
  rw [eu3] at y3
  let zs : List Str := [z, u1' ++ m ++ u2, u1' ++ u3, (Str.ofString ".") ++ z, z ++ (Str.ofString "."), "", "Main", "main.0", "0.0.0.0", "01", "1.02", "+1", "- 1", " main", "3", "2.1.0"]
  have zsl : ∀ y ∈ zs, y.length ≤ 100 := by
    intro y hy
    simp only [zs, List.mem_cons, List.not_mem_nil, or_false] at hy
    rcases hy with rfl | rfl | rfl | rfl | rfl | rfl | rfl | rfl | rfl | rfl | rfl | rfl | rfl | rfl | rfl | rfl
    · omega
    · rw [Str.length_append, Str.length_append]; omega
    · rw [Str.length_append]; omega
    · rw [Str.length_append, l1]; omega
    · rw [Str.length_append, l1]; omega
    all_goals decide
  let h3 : MH := h2 ++ [.lst (zs.map .str)]
  have s4 : evS subP ⟨callM PP k, glbP, []⟩ (.asg (.nm 5) (.lst [(.var 2), (.bin .Add (.bin .Add (.slc (.var 2) none (some (.var 3))) (.var 4)) (.slc (.var 2) (some (.var 3)) none)), (.bin .Add (.slc (.var 2) none (some (.var 3))) (.slc (.var 2) (some (.bin .Add (.var 3) (.lit (.int 1)))) none)), (.bin .Add (.lit (.str ".")) (.var 2)), (.bin .Add (.var 2) (.lit (.str "."))), (.lit (.str "")), (.lit (.str "Main")), (.lit (.str "main.0")), (.lit (.str "0.0.0.0")), (.lit (.str "01")), (.lit (.str "1.02")), (.lit (.str "+1")), (.lit (.str "- 1")), (.lit (.str " main")), (.lit (.str "3")), (.lit (.str "2.1.0"))])) [some (.ref b), some th, some (.str z), some (.int r), some (.str m), none] h2 = .next [some (.ref b), some th, some (.str z), some (.int r), some (.str m), some (.ref h2.length)] h3 := by
    refine st_asg (set_t (ev_lst (vs := zs.map .str) ?_ (by simp [zs]))) rfl
    simp only [x_lit, x_var, x_glb, x_tup, x_lst, x_dct, x_bin, x_neg, x_not, x_and, x_or, x_ite, x_cmp, x_chain, x_idx, x_slc, x_rev, x_isi, x_fn, x_mth, x_call, x_callk, x_src, evs, evTs, evO, evIfs, evE, y_asg, y_sub, y_aug, y_exp, y_ifs, y_ret, y_retN, y_pass, y_brk, y_cnt, y_rse, evSs, Res.bind_ok, Res.bind_exc, Res.bind_bad, Res.of_some, Res.of_none, settle_v, settle_t, Res.noX_ok, Res.st_ok, Res.st_exc, Res.st_bad, SR.then_next, SR.then_ret, SR.then_brk, SR.then_cnt, SR.then_exc, SR.then_bad, SR.out, List.getElem?_cons_zero, List.getElem?_cons_succ, List.set_cons_zero, List.set_cons_succ, bindT, bindTs, Option.bind_some, Option.bind_none, Option.map_some, Option.map_none, vOf, if_true, if_false, Bool.false_eq_true, Bool.not_true, Bool.not_false, List.map_cons, List.map_nil, wipeM, Ev.locked, reduceCtorEq, f1, tru, List.length_cons, List.length_nil, Nat.reduceAdd, Nat.zero_add, sz0, sz1, sz2, sz3, sz4, sz5, sz6, sz7, sz8, sz9, sz10, sz11, sz12, sz13, sz14, sz15, sz16, sz17, sz18, sz19, sz20, sz21, sz22, sz23, y1, y2, y3, bin_add, a1, a2, a3, a4, a5, zs]
  have g3 : h3[h2.length]? = some (.lst (zs.map .str)) := pre_at _
  let h4 : MH := h3 ++ [.lst [.str z]]
  let h5 : MH := h4 ++ [.dk []]
  let seven : List MV := [.non, .int 5, .tup [], .ref h3.length, .ref h4.length, .bl true, th]
  let h6 : MH := h5 ++ [.lst (zs.map .str ++ seven)]
  have p35 : Pre h3 h5 := (Pre.app h3 [.lst [.str z]]).trans (Pre.app h4 [.dk []])
  have s5 : evS subP ⟨callM PP k, glbP, []⟩ (.ret (.bin .Add (.var 5) (.lst [(.lit .non), (.lit (.int 5)), (.tup []), (.lst [(.var 2)]), (.dct false), (.lit (.bl true)), (.var 1)]))) [some (.ref b), some th, some (.str z), some (.int r), some (.str m), some (.ref h2.length)] h3 = .ret (.ref h5.length) h6 := by
    have add := add_lst (h := h5) (a := .v (.ref h2.length)) (b := .t seven) (fun x e => nomatch e) (lst_ref (p35 _ _ g3)) rfl (by simp [zs, seven])
    have el : evT ⟨callM PP k, glbP, []⟩ (.lst [(.lit .non), (.lit (.int 5)), (.tup []), (.lst [(.var 2)]), (.dct false), (.lit (.bl true)), (.var 1)]) [some (.ref b), some th, some (.str z), some (.int r), some (.str m), some (.ref h2.length)] h3 = .ok (.t seven) h5 := by
      refine ev_lst ?_ (by simp [seven])
      simp only [x_lit, x_var, x_glb, x_tup, x_lst, x_dct, x_bin, x_neg, x_not, x_and, x_or, x_ite, x_cmp, x_chain, x_idx, x_slc, x_rev, x_isi, x_fn, x_mth, x_call, x_callk, x_src, evs, evTs, evO, evIfs, evE, y_asg, y_sub, y_aug, y_exp, y_ifs, y_ret, y_retN, y_pass, y_brk, y_cnt, y_rse, evSs, Res.bind_ok, Res.bind_exc, Res.bind_bad, Res.of_some, Res.of_none, settle_v, settle_t, Res.noX_ok, Res.st_ok, Res.st_exc, Res.st_bad, SR.then_next, SR.then_ret, SR.then_brk, SR.then_cnt, SR.then_exc, SR.then_bad, SR.out, List.getElem?_cons_zero, List.getElem?_cons_succ, List.set_cons_zero, List.set_cons_succ, bindT, bindTs, Option.bind_some, Option.bind_none, Option.map_some, Option.map_none, vOf, if_true, if_false, Bool.false_eq_true, Bool.not_true, Bool.not_false, List.map_cons, List.map_nil, wipeM, Ev.locked, reduceCtorEq, f1, tru, List.length_cons, List.length_nil, Nat.reduceAdd, Nat.zero_add, sz0, sz1, sz2, sz3, sz4, sz5, sz6, sz7, sz8, sz9, sz10, sz11, sz12, sz13, sz14, sz15, sz16, sz17, sz18, sz19, sz20, sz21, sz22, sz23, List.not_mem_nil, seven, h4, h5]
    refine st_ret (set_t ?_)
    rw [x_bin, x_var]
    simp only [List.getElem?_cons_zero, List.getElem?_cons_succ, Res.bind_ok]
    rw [el, Res.bind_ok, add, Res.of_some]
  have p26 : Pre h2 h6 := ((Pre.app h2 [.lst (zs.map .str)]).trans p35).trans (Pre.app h5 _)
  have g4 : h6[h3.length]? = some (.lst [.str z]) := Pre.app h5 _ _ _ (Pre.app h4 _ _ _ (pre_at _))
  have g5 : h6[h4.length]? = some (.dk []) := Pre.app h5 _ _ _ (pre_at _)
  have l3 : h3.length = h2.length + 1 := by simp [h3]
  have l4 : h4.length = h2.length + 2 := by simp [h4, l3]
  have l5 : h5.length = h2.length + 3 := by simp [h5, l4]
  refine ⟨h5.length, zs.map .str ++ seven, h6, ?_, pre_at _, by simp [zs, seven], ?_, (b2.pre p26).le (by omega), ((o1.trans (Pre.app h1 _).bo).trans o2).trans p26.bo, by omega⟩
  · rw [c__law_texts, show m__law_texts = [_, _, _, _, _] from rfl, seq_next s1, seq_next s2, seq_next s3, seq_next s4, seq_ret s5, out_ret]
  · intro x hx
    rcases List.mem_append.mp hx with m' | m'
    · obtain ⟨y, hy, rfl⟩ := List.mem_map.mp m'
      refine ⟨trivial, fun i e => (nomatch e), fun w e => ?_⟩
      cases e
      have := zsl y hy
      exact ⟨tOk_all this, read_same (by omega)⟩
    · simp only [seven, List.mem_cons, List.not_mem_nil, or_false] at m'
      rcases m' with rfl | rfl | rfl | rfl | rfl | rfl | rfl
      · exact ⟨trivial, fun i e => (nomatch e), fun w e => (nomatch e)⟩
      · exact ⟨trivial, fun i e => (nomatch e), fun w e => (nomatch e)⟩
      · exact ⟨⟨by simp, by simp⟩, fun i e => (nomatch e), fun w e => (nomatch e)⟩
      · exact ⟨.inl ⟨_, g4, by simp, fun x hx => by simp at hx; subst hx; exact trivial⟩, fun i e => by cases e; omega, fun w e => (nomatch e)⟩
      · exact ⟨.inr ⟨_, g5, by simp, by simp⟩, fun i e => by cases e; omega, fun w e => (nomatch e)⟩
      · exact ⟨trivial, fun i e => (nomatch e), fun w e => (nomatch e)⟩
      · obtain ⟨ns, rfl, -, -⟩ := thr_ints ht
        exact ⟨thr_D ht (by omega), fun i e => (nomatch e), fun w e => (nomatch e)⟩
theorem ev_srcr {m : ME} {σ : MS} {h' : MH} {p : Nat} {xs : List MV} (e1 : evT E m σ h = .ok (.v (.ref p)) h') (e2 : h'[p]? = some (.lst xs)) : evI E (.e m) σ h = .ok ⟨some p, none, xs⟩ h' := ev_src e1 (it_ref e2) rfl
theorem s_right (hk : 40 ≤ k) {b : Nat} {n : Int} {nm : Bool} (hb : Bx h b n) (hn : n ≤ 40000) :
    ∃ h', callM PP k [] 32 [.ref b, .bl nm] h = .ok (.bl true) h' ∧ Bx h' b (n + 600) ∧ Sc h h' := by
  obtain ⟨k, rfl⟩ : ∃ j, k = j + 1 := ⟨k - 1, by omega⟩
  obtain ⟨th, h1, e1, ht, b1, o1⟩ := s_law_thread (k := k) (L := []) (by omega) hb (by omega)
  obtain ⟨prs, h2, e2, hi, pl, pp, b2, o2⟩ := s_law_inputs (k := k) (by omega) b1 (by omega)
  have s1 : evS subP ⟨callM PP k, glbP, []⟩ (.asg (.tp [(.nm 3), (.nm 4)]) (.tup [(.call 23 [(.var 0)]), (.call 24 [(.var 0)])])) [some (.ref b), some (.bl nm), none, none, none, none, none] h = .next [some (.ref b), some (.bl nm), none, some th, some (.tup prs), none, none] h2 := by
    refine st_asg (v := .tup [th, .tup prs]) (set_v (ev_tup (evs_cons (h1 := h1) (set_v (ev_call (vs := [.ref b]) (h1 := h) ?_ e1)) (evs_cons (set_v (ev_call (vs := [.ref b]) (h1 := h1) ?_ e2)) evs_nil)) (by simp))) rfl
    · simp only [x_lit, x_var, x_glb, x_tup, x_lst, x_dct, x_bin, x_neg, x_not, x_and, x_or, x_ite, x_cmp, x_chain, x_idx, x_slc, x_rev, x_isi, x_fn, x_mth, x_call, x_callk, x_src, evs, evTs, evO, evIfs, evE, y_asg, y_sub, y_aug, y_exp, y_ifs, y_ret, y_retN, y_pass, y_brk, y_cnt, y_rse, evSs, Res.bind_ok, Res.bind_exc, Res.bind_bad, Res.of_some, Res.of_none, settle_v, settle_t, Res.noX_ok, Res.st_ok, Res.st_exc, Res.st_bad, SR.then_next, SR.then_ret, SR.then_brk, SR.then_cnt, SR.then_exc, SR.then_bad, SR.out, List.getElem?_cons_zero, List.getElem?_cons_succ, List.set_cons_zero, List.set_cons_succ, bindT, bindTs, Option.bind_some, Option.bind_none, Option.map_some, Option.map_none, vOf, if_true, if_false, Bool.false_eq_true, Bool.not_true, Bool.not_false, List.map_cons, List.map_nil, wipeM, Ev.locked, reduceCtorEq, f1, tru, List.length_cons, List.length_nil, Nat.reduceAdd, Nat.zero_add, sz0, sz1, sz2, sz3, sz4, sz5, sz6, sz7, sz8, sz9, sz10, sz11, sz12, sz13, sz14, sz15, sz16, sz17, sz18, sz19, sz20, sz21, sz22, sz23]
    · simp only [x_lit, x_var, x_glb, x_tup, x_lst, x_dct, x_bin, x_neg, x_not, x_and, x_or, x_ite, x_cmp, x_chain, x_idx, x_slc, x_rev, x_isi, x_fn, x_mth, x_call, x_callk, x_src, evs, evTs, evO, evIfs, evE, y_asg, y_sub, y_aug, y_exp, y_ifs, y_ret, y_retN, y_pass, y_brk, y_cnt, y_rse, evSs, Res.bind_ok, Res.bind_exc, Res.bind_bad, Res.of_some, Res.of_none, settle_v, settle_t, Res.noX_ok, Res.st_ok, Res.st_exc, Res.st_bad, SR.then_next, SR.then_ret, SR.then_brk, SR.then_cnt, SR.then_exc, SR.then_bad, SR.out, List.getElem?_cons_zero, List.getElem?_cons_succ, List.set_cons_zero, List.set_cons_succ, bindT, bindTs, Option.bind_some, Option.bind_none, Option.map_some, Option.map_none, vOf, if_true, if_false, Bool.false_eq_true, Bool.not_true, Bool.not_false, List.map_cons, List.map_nil, wipeM, Ev.locked, reduceCtorEq, f1, tru, List.length_cons, List.length_nil, Nat.reduceAdd, Nat.zero_add, sz0, sz1, sz2, sz3, sz4, sz5, sz6, sz7, sz8, sz9, sz10, sz11, sz12, sz13, sz14, sz15, sz16, sz17, sz18, sz19, sz20, sz21, sz22, sz23]
  have oki : okn h2 3 (.tup prs) = true := okn_tup (by omega) fun x hx => pr_ok (pp x hx)
  have okt : okd h2 th = true := okn_d (n := 0) (thr_ok ht)
  have f1 := s_are_inputs (k := k) (L := []) (by omega) oki
  have f2 := s_law_is_thread (k := k) (L := []) (by omega) okt
  rw [hi] at f1
  rw [ht] at f2
  have s2 : evS subP ⟨callM PP k, glbP, []⟩ (.ifs (.or (.not (.call 22 [(.var 4)])) (.not (.call 21 [(.var 3)]))) [.ret (.lit (.bl false))] []) [some (.ref b), some (.bl nm), none, some th, some (.tup prs), none, none] h2 = .next [some (.ref b), some (.bl nm), none, some th, some (.tup prs), none, none] h2 := by
    simp only [x_lit, x_var, x_glb, x_tup, x_lst, x_dct, x_bin, x_neg, x_not, x_and, x_or, x_ite, x_cmp, x_chain, x_idx, x_slc, x_rev, x_isi, x_fn, x_mth, x_call, x_callk, x_src, evs, evTs, evO, evIfs, evE, y_asg, y_sub, y_aug, y_exp, y_ifs, y_ret, y_retN, y_pass, y_brk, y_cnt, y_rse, evSs, Res.bind_ok, Res.bind_exc, Res.bind_bad, Res.of_some, Res.of_none, settle_v, settle_t, Res.noX_ok, Res.st_ok, Res.st_exc, Res.st_bad, SR.then_next, SR.then_ret, SR.then_brk, SR.then_cnt, SR.then_exc, SR.then_bad, SR.out, List.getElem?_cons_zero, List.getElem?_cons_succ, List.set_cons_zero, List.set_cons_succ, bindT, bindTs, Option.bind_some, Option.bind_none, Option.map_some, Option.map_none, vOf, if_true, if_false, Bool.false_eq_true, Bool.not_true, Bool.not_false, List.map_cons, List.map_nil, wipeM, Ev.locked, reduceCtorEq, f1, tru, List.length_cons, List.length_nil, Nat.reduceAdd, Nat.zero_add, sz0, sz1, sz2, sz3, sz4, sz5, sz6, sz7, sz8, sz9, sz10, sz11, sz12, sz13, sz14, sz15, sz16, sz17, sz18, sz19, sz20, sz21, sz22, sz23, f1, f2]
  obtain ⟨p3, xs3, h3, e3, g3, l3, d3, b3, o3, n3⟩ := s_near_threads (k := k) (by omega) b2 (by omega) ht
  obtain ⟨σ4, h4, e4, b4, sc4, nm4, c2, c5, c6, rfl⟩ := loop_V (hS := h3) (S := subP) (body := bodyN) (n := n + 4 + 500 + 2) (xs0 := xs3) (th := some th) (inp := some (.tup prs)) (fun _ => True) n3
    (fun h nm x c5 c6 B d hB _ => body_N (k := k) (by omega) d hB) xs3 [some (.ref b), some (.bl nm), none, some th, some (.tup prs), none, none] h3
    ⟨g3, by omega, fun x hx => ⟨(d3 x hx).1.le (by omega), (d3 x hx).2, trivial⟩, b3, Sc.refl _, nm, none, none, none, rfl⟩
  have s3 : evS subP ⟨callM PP k, glbP, []⟩ (.fors (.nm 2) (.e (.call 25 [(.var 0), (.var 3)])) bodyN) [some (.ref b), some (.bl nm), none, some th, some (.tup prs), none, none] h2 = .next [some (.ref b), some (.bl nm4), c2, some th, some (.tup prs), c5, c6] h4 :=
    fors_ev (ev_srcr (ev_call (vs := [.ref b, th]) (h1 := h2) (by simp only [x_lit, x_var, x_glb, x_tup, x_lst, x_dct, x_bin, x_neg, x_not, x_and, x_or, x_ite, x_cmp, x_chain, x_idx, x_slc, x_rev, x_isi, x_fn, x_mth, x_call, x_callk, x_src, evs, evTs, evO, evIfs, evE, y_asg, y_sub, y_aug, y_exp, y_ifs, y_ret, y_retN, y_pass, y_brk, y_cnt, y_rse, evSs, Res.bind_ok, Res.bind_exc, Res.bind_bad, Res.of_some, Res.of_none, settle_v, settle_t, Res.noX_ok, Res.st_ok, Res.st_exc, Res.st_bad, SR.then_next, SR.then_ret, SR.then_brk, SR.then_cnt, SR.then_exc, SR.then_bad, SR.out, List.getElem?_cons_zero, List.getElem?_cons_succ, List.set_cons_zero, List.set_cons_succ, bindT, bindTs, Option.bind_some, Option.bind_none, Option.map_some, Option.map_none, vOf, if_true, if_false, Bool.false_eq_true, Bool.not_true, Bool.not_false, List.map_cons, List.map_nil, wipeM, Ev.locked, reduceCtorEq, f1, tru, List.length_cons, List.length_nil, Nat.reduceAdd, Nat.zero_add, sz0, sz1, sz2, sz3, sz4, sz5, sz6, sz7, sz8, sz9, sz10, sz11, sz12, sz13, sz14, sz15, sz16, sz17, sz18, sz19, sz20, sz21, sz22, sz23]) e3) g3) rfl e4
  obtain ⟨p5, xs5, h5, e5, g5, d5, b5, o5, n5⟩ := s_near_inputs (k := k) (by omega) b4 (by omega) pl pp
  obtain ⟨σ6, h6, e6, b6, sc6, c2', c5', c6', rfl⟩ := loop_M (hS := h5) (S := subP) (k := k) (by omega) (p := p5) (n := n + 4 + 500 + 2 + 3) (xs0 := xs5) (th := some th) (inp := some (.tup prs)) (nm := some (.bl nm4)) xs5 [some (.ref b), some (.bl nm4), c2, some th, some (.tup prs), c5, c6] h5
    ⟨g5, d5, b5, Sc.refl _, c2, c5, c6, rfl⟩
  have s4 : evS subP ⟨callM PP k, glbP, []⟩ (.fors (.nm 2) (.e (.call 26 [(.var 0), (.var 4)])) bodyM) [some (.ref b), some (.bl nm4), c2, some th, some (.tup prs), c5, c6] h4 = .next [some (.ref b), some (.bl nm4), c2', some th, some (.tup prs), c5', c6'] h6 :=
    fors_ev (ev_srcr (ev_call (vs := [.ref b, .tup prs]) (h1 := h4) (by simp only [x_lit, x_var, x_glb, x_tup, x_lst, x_dct, x_bin, x_neg, x_not, x_and, x_or, x_ite, x_cmp, x_chain, x_idx, x_slc, x_rev, x_isi, x_fn, x_mth, x_call, x_callk, x_src, evs, evTs, evO, evIfs, evE, y_asg, y_sub, y_aug, y_exp, y_ifs, y_ret, y_retN, y_pass, y_brk, y_cnt, y_rse, evSs, Res.bind_ok, Res.bind_exc, Res.bind_bad, Res.of_some, Res.of_none, settle_v, settle_t, Res.noX_ok, Res.st_ok, Res.st_exc, Res.st_bad, SR.then_next, SR.then_ret, SR.then_brk, SR.then_cnt, SR.then_exc, SR.then_bad, SR.out, List.getElem?_cons_zero, List.getElem?_cons_succ, List.set_cons_zero, List.set_cons_succ, bindT, bindTs, Option.bind_some, Option.bind_none, Option.map_some, Option.map_none, vOf, if_true, if_false, Bool.false_eq_true, Bool.not_true, Bool.not_false, List.map_cons, List.map_nil, wipeM, Ev.locked, reduceCtorEq, f1, tru, List.length_cons, List.length_nil, Nat.reduceAdd, Nat.zero_add, sz0, sz1, sz2, sz3, sz4, sz5, sz6, sz7, sz8, sz9, sz10, sz11, sz12, sz13, sz14, sz15, sz16, sz17, sz18, sz19, sz20, sz21, sz22, sz23]) e5) g5) rfl e6
  obtain ⟨p7, xs7, h7, e7, g7, l7, d7, b7, o7, n7⟩ := s_texts (k := k) (by omega) b6 (by omega) ht
  obtain ⟨σ8, h8, e8, b8, sc8, nm8, c2'', c5'', c6'', rfl⟩ := loop_V (hS := h7) (S := subP) (body := bodyT) (n := n + 4 + 500 + 2 + 3 + 2) (xs0 := xs7) (th := some th) (inp := some (.tup prs)) (fun x => ∀ z, x = .str z → tOk z = true ∧ thrV z = rdS z) n7
    (fun h nm x c5 c6 B d hB ok => body_T (k := k) (by omega) d hB ok) xs7 [some (.ref b), some (.bl nm4), c2', some th, some (.tup prs), c5', c6'] h7
    ⟨g7, by omega, fun x hx => ⟨(d7 x hx).1.le (by omega), (d7 x hx).2.1, (d7 x hx).2.2⟩, b7, Sc.refl _, nm4, c2', c5', c6', rfl⟩
  have s5 : evS subP ⟨callM PP k, glbP, []⟩ (.fors (.nm 2) (.e (.call 28 [(.var 0), (.var 3)])) bodyT) [some (.ref b), some (.bl nm4), c2', some th, some (.tup prs), c5', c6'] h6 = .next [some (.ref b), some (.bl nm8), c2'', some th, some (.tup prs), c5'', c6''] h8 :=
    fors_ev (ev_srcr (ev_call (vs := [.ref b, th]) (h1 := h6) (by simp only [x_lit, x_var, x_glb, x_tup, x_lst, x_dct, x_bin, x_neg, x_not, x_and, x_or, x_ite, x_cmp, x_chain, x_idx, x_slc, x_rev, x_isi, x_fn, x_mth, x_call, x_callk, x_src, evs, evTs, evO, evIfs, evE, y_asg, y_sub, y_aug, y_exp, y_ifs, y_ret, y_retN, y_pass, y_brk, y_cnt, y_rse, evSs, Res.bind_ok, Res.bind_exc, Res.bind_bad, Res.of_some, Res.of_none, settle_v, settle_t, Res.noX_ok, Res.st_ok, Res.st_exc, Res.st_bad, SR.then_next, SR.then_ret, SR.then_brk, SR.then_cnt, SR.then_exc, SR.then_bad, SR.out, List.getElem?_cons_zero, List.getElem?_cons_succ, List.set_cons_zero, List.set_cons_succ, bindT, bindTs, Option.bind_some, Option.bind_none, Option.map_some, Option.map_none, vOf, if_true, if_false, Bool.false_eq_true, Bool.not_true, Bool.not_false, List.map_cons, List.map_nil, wipeM, Ev.locked, reduceCtorEq, f1, tru, List.length_cons, List.length_nil, Nat.reduceAdd, Nat.zero_add, sz0, sz1, sz2, sz3, sz4, sz5, sz6, sz7, sz8, sz9, sz10, sz11, sz12, sz13, sz14, sz15, sz16, sz17, sz18, sz19, sz20, sz21, sz22, sz23]) e7) g7) rfl e8
  refine ⟨h8, ?_, b8.le (by omega), ((((((o1.sc hb).trans (o2.sc b1)).trans (o3.sc b2)).trans sc4).trans (o5.sc b4)).trans sc6).trans ((o7.sc b6).trans sc8)⟩
  rw [c__law_right, show m__law_right = [_, _, .fors (.nm 2) (.e (.call 25 [(.var 0), (.var 3)])) bodyN, .fors (.nm 2) (.e (.call 26 [(.var 0), (.var 4)])) bodyM, .fors (.nm 2) (.e (.call 28 [(.var 0), (.var 3)])) bodyT, _] from rfl, seq_next s1, seq_next s2, seq_next s3, seq_next s4, seq_next s5]
  rw [seq_ret (v := .bl true) (h' := h8) (by simp only [x_lit, x_var, x_glb, x_tup, x_lst, x_dct, x_bin, x_neg, x_not, x_and, x_or, x_ite, x_cmp, x_chain, x_idx, x_slc, x_rev, x_isi, x_fn, x_mth, x_call, x_callk, x_src, evs, evTs, evO, evIfs, evE, y_asg, y_sub, y_aug, y_exp, y_ifs, y_ret, y_retN, y_pass, y_brk, y_cnt, y_rse, evSs, Res.bind_ok, Res.bind_exc, Res.bind_bad, Res.of_some, Res.of_none, settle_v, settle_t, Res.noX_ok, Res.st_ok, Res.st_exc, Res.st_bad, SR.then_next, SR.then_ret, SR.then_brk, SR.then_cnt, SR.then_exc, SR.then_bad, SR.out, List.getElem?_cons_zero, List.getElem?_cons_succ, List.set_cons_zero, List.set_cons_succ, bindT, bindTs, Option.bind_some, Option.bind_none, Option.map_some, Option.map_none, vOf, if_true, if_false, Bool.false_eq_true, Bool.not_true, Bool.not_false, List.map_cons, List.map_nil, wipeM, Ev.locked, reduceCtorEq, f1, tru, List.length_cons, List.length_nil, Nat.reduceAdd, Nat.zero_add, sz0, sz1, sz2, sz3, sz4, sz5, sz6, sz7, sz8, sz9, sz10, sz11, sz12, sz13, sz14, sz15, sz16, sz17, sz18, sz19, sz20, sz21, sz22, sz23]), out_ret]
end
end MP.Q

set_option linter.all false
set_option autoImplicit false
set_option maxRecDepth 100000
namespace MP.Q
open PySem PyProof.Rows L2
section
variable {k : Nat} {L : List Nat} {h : MH} {S : SubT} {E : Ev}
theorem lt_int (i j : Int) : ltT h (.v (.int i)) (.v (.int j)) = some (decide (i < j)) := by
  have e : ltT h (.v (.int i)) (.v (.int j)) = if W.alike (.int i) (.int j) && (!ltT.MV.noneD (.int i) && decide (min (PyData.int i).depth (PyData.int j).depth ≤ 60)) then some (W.dataLt (.int i) (.int j)) else none := rfl
  rw [e, W.dataLt_int]
  exact if_pos rfl
theorem len_scr {s : Nat} {ns : List Int} (hs : h[s]? = some (.scr ns)) : fnT h .len [.v (.ref s)] = some (.v (.int ns.length)) := by
  simp [fnT, f1, lenT, hs, listOf]
theorem idx_scr {s : Nat} {ns : List Int} (hs : h[s]? = some (.scr ns)) {i : Int} : idxT h (.v (.ref s)) (.int i) = L2.atI (ns.map .int) i := by
  simp [idxT, hs, listOf]
theorem intsOf_map : ∀ ns : List Int, intsOf (ns.map .int) = some ns
  | [] => rfl
  | n :: ns => by rw [List.map_cons, intsOf, intsOf_map ns]; rfl
theorem s_cell (hk : 1 ≤ k) {s : Nat} {ns : List Int} (hs : h[s]? = some (.scr ns)) (hl : ns.length ≤ 63) {j : Int} (j0 : 0 ≤ j) (j1 : j ≤ 10) : ∃ g, callM PP k L 14 [.ref s, .int j] h = .ok (.int g) h := by
  obtain ⟨k, rfl⟩ : ∃ j, k = j + 1 := ⟨k - 1, by omega⟩
  rw [c__law_cell]
  by_cases q : j < ns.length
  · have hj : j.toNat < (ns.map MV.int).length := by rw [List.length_map]; omega
    have a : L2.atI (ns.map MV.int) j = some (.int (ns[j.toNat]'(by simpa using hj))) := atI_at j0 (by rw [List.getElem?_eq_getElem hj, List.getElem_map])
    refine ⟨ns[j.toNat]'(by simpa using hj), ?_⟩
    simp only [m__law_cell, x_lit, x_var, x_glb, x_tup, x_lst, x_dct, x_bin, x_neg, x_not, x_and, x_or, x_ite, x_cmp, x_chain, x_idx, x_slc, x_rev, x_isi, x_fn, x_mth, x_call, x_callk, x_src, evs, evTs, evO, evIfs, evE, y_asg, y_sub, y_aug, y_exp, y_ifs, y_ret, y_retN, y_pass, y_brk, y_cnt, y_rse, evSs, Res.bind_ok, Res.bind_exc, Res.bind_bad, Res.of_some, Res.of_none, settle_v, settle_t, Res.noX_ok, Res.st_ok, Res.st_exc, Res.st_bad, SR.then_next, SR.then_ret, SR.then_brk, SR.then_cnt, SR.then_exc, SR.then_bad, SR.out, List.getElem?_cons_zero, List.getElem?_cons_succ, List.set_cons_zero, List.set_cons_succ, bindT, bindTs, Option.bind_some, Option.bind_none, Option.map_some, Option.map_none, vOf, if_true, if_false, Bool.false_eq_true, Bool.not_true, Bool.not_false, List.map_cons, List.map_nil, wipeM, Ev.locked, reduceCtorEq, f1, tru, List.length_cons, List.length_nil, Nat.reduceAdd, Nat.zero_add, sz0, sz1, sz2, sz3, sz4, sz5, sz6, sz7, sz8, sz9, sz10, sz11, sz12, sz13, sz14, sz15, sz16, sz17, sz18, sz19, sz20, sz21, sz22, sz23, len_scr hs, cmpT, lt_int, decide_eq_true q, idx_scr hs, a]
  · have sl : slcT h (.v (.ref s)) none (some 1) = some (.t ((ns.map .int).take (min 1 ns.length))) := by
      have e : slcT h (.v (.ref s)) none (some 1) = (listOf h (.v (.ref s))).map fun xs => TV.t (cutL xs none (some 1)) := rfl
      have e2 : listOf h (.v (.ref s)) = some (ns.map .int) := by simp [listOf, hs]
      rw [e, e2, Option.map_some]
      unfold cutL
      have e1 : HT.sIx (ns.map MV.int).length (ns.map MV.int).length (some 1) = min 1 (ns.map MV.int).length := HT.sIx_nat _ _ 1
      rw [e1, HT.sIx_none, List.drop_zero, Nat.sub_zero, List.length_map]
    have sm : fnT h .sum [.t ((ns.map .int).take (min 1 ns.length))] = some (.v (.int (ns.take (min 1 ns.length)).sum)) := by
      have e : fnT h .sum [.t ((ns.map .int).take (min 1 ns.length))] = (intsOf ((ns.map .int).take (min 1 ns.length))).map fun ns => TV.v (.int ns.sum) := rfl
      rw [e, ← List.map_take, intsOf_map]; rfl
    have ml := bin_mul (h := h) (i := 6211) (j := j) (by omega) (by omega)
    have md := bin_mod (h := h) (i := (ns.take (min 1 ns.length)).sum) (j := 1000033) (by omega)
    refine ⟨6211 * j + (ns.take (min 1 ns.length)).sum % 1000033, ?_⟩
    simp only [m__law_cell, x_lit, x_var, x_glb, x_tup, x_lst, x_dct, x_bin, x_neg, x_not, x_and, x_or, x_ite, x_cmp, x_chain, x_idx, x_slc, x_rev, x_isi, x_fn, x_mth, x_call, x_callk, x_src, evs, evTs, evO, evIfs, evE, y_asg, y_sub, y_aug, y_exp, y_ifs, y_ret, y_retN, y_pass, y_brk, y_cnt, y_rse, evSs, Res.bind_ok, Res.bind_exc, Res.bind_bad, Res.of_some, Res.of_none, settle_v, settle_t, Res.noX_ok, Res.st_ok, Res.st_exc, Res.st_bad, SR.then_next, SR.then_ret, SR.then_brk, SR.then_cnt, SR.then_exc, SR.then_bad, SR.out, List.getElem?_cons_zero, List.getElem?_cons_succ, List.set_cons_zero, List.set_cons_succ, bindT, bindTs, Option.bind_some, Option.bind_none, Option.map_some, Option.map_none, vOf, if_true, if_false, Bool.false_eq_true, Bool.not_true, Bool.not_false, List.map_cons, List.map_nil, wipeM, Ev.locked, reduceCtorEq, f1, tru, List.length_cons, List.length_nil, Nat.reduceAdd, Nat.zero_add, sz0, sz1, sz2, sz3, sz4, sz5, sz6, sz7, sz8, sz9, sz10, sz11, sz12, sz13, sz14, sz15, sz16, sz17, sz18, sz19, sz20, sz21, sz22, sz23, len_scr hs, cmpT, lt_int, decide_eq_false q, ml, sl, sm, fn_int, md, bin_add]
theorem s_box (hk : 1 ≤ k) {g : Int} : ∃ h', callM PP k L 15 [.int g] h = .ok (.ref h.length) h' ∧ Bx h' h.length 0 ∧ Pre h h' := by
  obtain ⟨k, rfl⟩ : ∃ j, k = j + 1 := ⟨k - 1, by omega⟩
  have pw := bin_pow (h := h) (i := 10) (j := 18) (by omega) (by omega) (by omega)
  have ab : fnT h .abs [.v (.int g)] = some (.v (.int (if g < 0 then -g else g))) := rfl
  generalize (if g < 0 then -g else g) = a at ab
  have md := bin_mod (h := h) (i := a) (j := 2147483629) (by omega)
  refine ⟨h ++ [.lst [.int a, .bl (decide ((10 : Int) ^ (18 : Int).toNat ≤ a)), .int (a % 2147483629), .int 0]], ?_, ⟨_, _, _, _, pre_at _, Int.emod_nonneg _ (by omega), ?_, by omega, by omega⟩, Pre.app _ _⟩
  · rw [c__law_box, show m__law_box = [_] from rfl]
    rw [seq_ret (v := .ref h.length) (h' := h ++ [.lst [.int a, .bl (decide ((10 : Int) ^ (18 : Int).toNat ≤ a)), .int (a % 2147483629), .int 0]]), out_ret]
    refine st_ret (set_t (ev_lst ?_ (by simp)))
    simp only [x_lit, x_var, x_glb, x_tup, x_lst, x_dct, x_bin, x_neg, x_not, x_and, x_or, x_ite, x_cmp, x_chain, x_idx, x_slc, x_rev, x_isi, x_fn, x_mth, x_call, x_callk, x_src, evs, evTs, evO, evIfs, evE, y_asg, y_sub, y_aug, y_exp, y_ifs, y_ret, y_retN, y_pass, y_brk, y_cnt, y_rse, evSs, Res.bind_ok, Res.bind_exc, Res.bind_bad, Res.of_some, Res.of_none, settle_v, settle_t, Res.noX_ok, Res.st_ok, Res.st_exc, Res.st_bad, SR.then_next, SR.then_ret, SR.then_brk, SR.then_cnt, SR.then_exc, SR.then_bad, SR.out, List.getElem?_cons_zero, List.getElem?_cons_succ, List.set_cons_zero, List.set_cons_succ, bindT, bindTs, Option.bind_some, Option.bind_none, Option.map_some, Option.map_none, vOf, if_true, if_false, Bool.false_eq_true, Bool.not_true, Bool.not_false, List.map_cons, List.map_nil, wipeM, Ev.locked, reduceCtorEq, f1, tru, List.length_cons, List.length_nil, Nat.reduceAdd, Nat.zero_add, sz0, sz1, sz2, sz3, sz4, sz5, sz6, sz7, sz8, sz9, sz10, sz11, sz12, sz13, sz14, sz15, sz16, sz17, sz18, sz19, sz20, sz21, sz22, sz23, ab, pw, cmpT, icmp, fn_int, md]
  · have := Int.emod_lt_of_pos a (show (0 : Int) < 2147483629 by omega)
    omega
def bodyL3 : List MSt := [.ifs (.not (.call 32 [(.var 2), (.cmp .Eq (.call 16 [(.var 2), (.lit (.int 2))]) (.lit (.int 0)))])) [.ret (.lit (.bl false))] []]
def bodyLaw : List MSt := [.asg (.nm 2) (.call 15 [(.call 14 [(.var 0), (.var 1)])]),
 .fors (.nm 3) (.rng [(.lit (.int 3))]) bodyL3]
theorem turn_L (hk : 50 ≤ k) {b s : Nat} {n : Int} {z1 z3 : Option MV} (hb : Bx h b n) (hn : n ≤ 30000) : ∃ h', evSs subP ⟨callM PP k, glbP, []⟩ bodyL3 [some (.ref s), z1, some (.ref b), z3] h = .next [some (.ref s), z1, some (.ref b), z3] h' ∧ Bx h' b (n + 601) ∧ Sc h h' := by
  obtain ⟨r, h1, e1, q1, b1, o1⟩ := s_take (k := k) (L := []) (by omega) hb (by omega) (many := 2) (by omega) (by omega)
  obtain ⟨h2, e2, b2, s2⟩ := s_right (k := k) (by omega) (nm := decide (r = 0)) b1 (by omega)
  refine ⟨h2, ?_, b2.le (by omega), (o1.sc hb).trans s2⟩
  have st : evS subP ⟨callM PP k, glbP, []⟩ (.ifs (.not (.call 32 [(.var 2), (.cmp .Eq (.call 16 [(.var 2), (.lit (.int 2))]) (.lit (.int 0)))])) [.ret (.lit (.bl false))] []) [some (.ref s), z1, some (.ref b), z3] h = .next [some (.ref s), z1, some (.ref b), z3] h2 := by
    refine st_not (ev_call (vs := [.ref b, .bl (decide (r = 0))]) (h1 := h1) ?_ e2)
    simp only [x_lit, x_var, x_glb, x_tup, x_lst, x_dct, x_bin, x_neg, x_not, x_and, x_or, x_ite, x_cmp, x_chain, x_idx, x_slc, x_rev, x_isi, x_fn, x_mth, x_call, x_callk, x_src, evs, evTs, evO, evIfs, evE, y_asg, y_sub, y_aug, y_exp, y_ifs, y_ret, y_retN, y_pass, y_brk, y_cnt, y_rse, evSs, Res.bind_ok, Res.bind_exc, Res.bind_bad, Res.of_some, Res.of_none, settle_v, settle_t, Res.noX_ok, Res.st_ok, Res.st_exc, Res.st_bad, SR.then_next, SR.then_ret, SR.then_brk, SR.then_cnt, SR.then_exc, SR.then_bad, SR.out, List.getElem?_cons_zero, List.getElem?_cons_succ, List.set_cons_zero, List.set_cons_succ, bindT, bindTs, Option.bind_some, Option.bind_none, Option.map_some, Option.map_none, vOf, if_true, if_false, Bool.false_eq_true, Bool.not_true, Bool.not_false, List.map_cons, List.map_nil, wipeM, Ev.locked, reduceCtorEq, f1, tru, List.length_cons, List.length_nil, Nat.reduceAdd, Nat.zero_add, sz0, sz1, sz2, sz3, sz4, sz5, sz6, sz7, sz8, sz9, sz10, sz11, sz12, sz13, sz14, sz15, sz16, sz17, sz18, sz19, sz20, sz21, sz22, sz23, e1, cmpT, eqT_int]
  rw [bodyL3, seq_next st, seq_nil]
theorem rng3' : rngI 0 3 = [.int 0, .int 1, .int 2] := rng3
theorem body_L (hk : 50 ≤ k) {s : Nat} {ns : List Int} {j : Int} {z2 z3 : Option MV} (hs : h[s]? = some (.scr ns)) (hl : ns.length ≤ 63) (j0 : 0 ≤ j) (j1 : j ≤ 10) : ∃ c2 c3 h', evSs subP ⟨callM PP k, glbP, []⟩ bodyLaw [some (.ref s), some (.int j), z2, z3] h = .next [some (.ref s), some (.int j), c2, c3] h' ∧ Sc h h' := by
  obtain ⟨g, e1⟩ := s_cell (k := k) (L := []) (by omega) hs hl j0 j1
  obtain ⟨h1, e2, b1, p1⟩ := s_box (k := k) (L := []) (h := h) (by omega) (g := g)
  have s1 : evS subP ⟨callM PP k, glbP, []⟩ (.asg (.nm 2) (.call 15 [(.call 14 [(.var 0), (.var 1)])])) [some (.ref s), some (.int j), z2, z3] h = .next [some (.ref s), some (.int j), some (.ref h.length), z3] h1 := by
    refine st_asg (set_v (ev_call (vs := [.int g]) (h1 := h) (evs_cons (set_v (ev_call (vs := [.ref s, .int j]) (h1 := h) ?_ e1)) evs_nil) e2)) rfl
    simp only [x_lit, x_var, x_glb, x_tup, x_lst, x_dct, x_bin, x_neg, x_not, x_and, x_or, x_ite, x_cmp, x_chain, x_idx, x_slc, x_rev, x_isi, x_fn, x_mth, x_call, x_callk, x_src, evs, evTs, evO, evIfs, evE, y_asg, y_sub, y_aug, y_exp, y_ifs, y_ret, y_retN, y_pass, y_brk, y_cnt, y_rse, evSs, Res.bind_ok, Res.bind_exc, Res.bind_bad, Res.of_some, Res.of_none, settle_v, settle_t, Res.noX_ok, Res.st_ok, Res.st_exc, Res.st_bad, SR.then_next, SR.then_ret, SR.then_brk, SR.then_cnt, SR.then_exc, SR.then_bad, SR.out, List.getElem?_cons_zero, List.getElem?_cons_succ, List.set_cons_zero, List.set_cons_succ, bindT, bindTs, Option.bind_some, Option.bind_none, Option.map_some, Option.map_none, vOf, if_true, if_false, Bool.false_eq_true, Bool.not_true, Bool.not_false, List.map_cons, List.map_nil, wipeM, Ev.locked, reduceCtorEq, f1, tru, List.length_cons, List.length_nil, Nat.reduceAdd, Nat.zero_add, sz0, sz1, sz2, sz3, sz4, sz5, sz6, sz7, sz8, sz9, sz10, sz11, sz12, sz13, sz14, sz15, sz16, sz17, sz18, sz19, sz20, sz21, sz22, sz23]
  obtain ⟨h2, e3, b2, c2⟩ := turn_L (k := k) (s := s) (z1 := some (.int j)) (z3 := some (.int 0)) hk b1 (by omega)
  obtain ⟨h3, e4, b3, c3⟩ := turn_L (k := k) (s := s) (z1 := some (.int j)) (z3 := some (.int 1)) hk b2 (by omega)
  obtain ⟨h4, e5, b4, c4⟩ := turn_L (k := k) (s := s) (z1 := some (.int j)) (z3 := some (.int 2)) hk b3 (by omega)
  have s2 : evS subP ⟨callM PP k, glbP, []⟩ (.fors (.nm 3) (.rng [(.lit (.int 3))]) bodyL3) [some (.ref s), some (.int j), some (.ref h.length), z3] h1 = .next [some (.ref s), some (.int j), some (.ref h.length), some (.int 2)] h4 := by
    refine fors_ev (it := ⟨none, none, rngI 0 3⟩) (h' := h1) (ev_rng (by simp only [x_lit, x_var, x_glb, x_tup, x_lst, x_dct, x_bin, x_neg, x_not, x_and, x_or, x_ite, x_cmp, x_chain, x_idx, x_slc, x_rev, x_isi, x_fn, x_mth, x_call, x_callk, x_src, evs, evTs, evO, evIfs, evE, y_asg, y_sub, y_aug, y_exp, y_ifs, y_ret, y_retN, y_pass, y_brk, y_cnt, y_rse, evSs, Res.bind_ok, Res.bind_exc, Res.bind_bad, Res.of_some, Res.of_none, settle_v, settle_t, Res.noX_ok, Res.st_ok, Res.st_exc, Res.st_bad, SR.then_next, SR.then_ret, SR.then_brk, SR.then_cnt, SR.then_exc, SR.then_bad, SR.out, List.getElem?_cons_zero, List.getElem?_cons_succ, List.set_cons_zero, List.set_cons_succ, bindT, bindTs, Option.bind_some, Option.bind_none, Option.map_some, Option.map_none, vOf, if_true, if_false, Bool.false_eq_true, Bool.not_true, Bool.not_false, List.map_cons, List.map_nil, wipeM, Ev.locked, reduceCtorEq, f1, tru, List.length_cons, List.length_nil, Nat.reduceAdd, Nat.zero_add, sz0, sz1, sz2, sz3, sz4, sz5, sz6, sz7, sz8, sz9, sz10, sz11, sz12, sz13, sz14, sz15, sz16, sz17, sz18, sz19, sz20, sz21, sz22, sz23]) (rngOf1 (b := 3) (by omega))) rfl ?_
    dsimp only
    rw [rng3', loopS_cons rfl (σ' := [some (.ref s), some (.int j), some (.ref h.length), some (.int 0)]) (h' := h2) (by simp only [bindT, List.set_cons_succ, List.set_cons_zero]; exact e3),
      loopS_cons rfl (σ' := [some (.ref s), some (.int j), some (.ref h.length), some (.int 1)]) (h' := h3) (by simp only [bindT, List.set_cons_succ, List.set_cons_zero]; exact e4),
      loopS_cons rfl (σ' := [some (.ref s), some (.int j), some (.ref h.length), some (.int 2)]) (h' := h4) (by simp only [bindT, List.set_cons_succ, List.set_cons_zero]; exact e5)]
    exact loopS_nil rfl
  exact ⟨_, _, h4, by rw [bodyLaw, seq_next s1, seq_next s2, seq_nil], p1.sc.trans (c2.trans (c3.trans c4))⟩
theorem mx {i j : Int} : fnT h .max [.v (.int i), .v (.int j)] = some (.v (.int (if j > i then j else i))) := rfl
theorem mn {i j : Int} : fnT h .min [.v (.int i), .v (.int j)] = some (.v (.int (if j < i then j else i))) := rfl
/-- THE PLAIN LAW -/
theorem plain_law (ns : List Int) (hl : ns.length ≤ 63) : ∃ h, callM PP 60 [] 33 [.ref 0] [.scr ns] = .ok (.bl true) h := by
  have hs : ([MO.scr ns] : MH)[0]? = some (.scr ns) := rfl
  obtain ⟨m, em, m0, m1⟩ : ∃ m : Int, (if (if (ns.length : Int) < 5 then (ns.length : Int) else 5) > 2 then (if (ns.length : Int) < 5 then (ns.length : Int) else 5) else 2) = m ∧ 0 ≤ m ∧ m ≤ 5 := ⟨_, rfl, by split <;> split <;> omega, by split <;> split <;> omega⟩
  obtain ⟨σ', h', e, i1, c1, c2, c3, rfl⟩ := loopS_inv (t := ⟨none, none, rngI 0 m⟩) (f := fun x σ h => (match bindT (.nm 1) x σ with
      | some σ' => evSs subP ⟨callM PP 59, glbP, []⟩ bodyLaw σ' h
      | none => .bad)) (fun xs σ h => (h[0]? = some (.scr ns) ∧ (∀ x ∈ xs, x ∈ rngI 0 m)) ∧ ∃ c1 c2 c3, σ = [some (.ref 0), c1, c2, c3])
    (fun _ _ _ _ => rfl)
    (fun x xs σ h ⟨⟨i1, i2⟩, c1, c2, c3, i3⟩ => by
      subst i3
      obtain ⟨j, hj, rfl⟩ := mem_rng (i2 x (by simp))
      obtain ⟨c2', c3', h', e, sc⟩ := body_L (k := 59) (j := 0 + (j : Int)) (z2 := c2) (z3 := c3) (by omega) i1 hl (by omega) (by omega)
      exact ⟨_, h', e, ⟨sc _ _ i1, fun y hy => i2 y (by simp [hy])⟩, _, _, _, rfl⟩)
    (rngI 0 m) [some (.ref 0), none, none, none] [.scr ns] ⟨⟨hs, fun x hx => hx⟩, none, none, none, rfl⟩
  refine ⟨h', ?_⟩
  rw [c_law, show m_law = [.fors (.nm 1) (.rng [(.fn .max [(.lit (.int 2)), (.fn .min [(.lit (.int 5)), (.fn .len [(.var 0)])])])]) bodyLaw, _] from rfl]
  rw [seq_next (fors_ev (it := ⟨none, none, rngI 0 m⟩) (h' := [.scr ns]) ?_ rfl e), seq_ret (v := .bl true) (h' := h') (by simp only [x_lit, x_var, x_glb, x_tup, x_lst, x_dct, x_bin, x_neg, x_not, x_and, x_or, x_ite, x_cmp, x_chain, x_idx, x_slc, x_rev, x_isi, x_fn, x_mth, x_call, x_callk, x_src, evs, evTs, evO, evIfs, evE, y_asg, y_sub, y_aug, y_exp, y_ifs, y_ret, y_retN, y_pass, y_brk, y_cnt, y_rse, evSs, Res.bind_ok, Res.bind_exc, Res.bind_bad, Res.of_some, Res.of_none, settle_v, settle_t, Res.noX_ok, Res.st_ok, Res.st_exc, Res.st_bad, SR.then_next, SR.then_ret, SR.then_brk, SR.then_cnt, SR.then_exc, SR.then_bad, SR.out, List.getElem?_cons_zero, List.getElem?_cons_succ, List.set_cons_zero, List.set_cons_succ, bindT, bindTs, Option.bind_some, Option.bind_none, Option.map_some, Option.map_none, vOf, if_true, if_false, Bool.false_eq_true, Bool.not_true, Bool.not_false, List.map_cons, List.map_nil, wipeM, Ev.locked, reduceCtorEq, f1, tru, List.length_cons, List.length_nil, Nat.reduceAdd, Nat.zero_add, sz0, sz1, sz2, sz3, sz4, sz5, sz6, sz7, sz8, sz9, sz10, sz11, sz12, sz13, sz14, sz15, sz16, sz17, sz18, sz19, sz20, sz21, sz22, sz23]), out_ret]
  refine ev_rng (vs := [.int m]) ?_ (rngOf1 (b := m) (by omega))
  simp only [x_lit, x_var, x_glb, x_tup, x_lst, x_dct, x_bin, x_neg, x_not, x_and, x_or, x_ite, x_cmp, x_chain, x_idx, x_slc, x_rev, x_isi, x_fn, x_mth, x_call, x_callk, x_src, evs, evTs, evO, evIfs, evE, y_asg, y_sub, y_aug, y_exp, y_ifs, y_ret, y_retN, y_pass, y_brk, y_cnt, y_rse, evSs, Res.bind_ok, Res.bind_exc, Res.bind_bad, Res.of_some, Res.of_none, settle_v, settle_t, Res.noX_ok, Res.st_ok, Res.st_exc, Res.st_bad, SR.then_next, SR.then_ret, SR.then_brk, SR.then_cnt, SR.then_exc, SR.then_bad, SR.out, List.getElem?_cons_zero, List.getElem?_cons_succ, List.set_cons_zero, List.set_cons_succ, bindT, bindTs, Option.bind_some, Option.bind_none, Option.map_some, Option.map_none, vOf, if_true, if_false, Bool.false_eq_true, Bool.not_true, Bool.not_false, List.map_cons, List.map_nil, wipeM, Ev.locked, reduceCtorEq, f1, tru, List.length_cons, List.length_nil, Nat.reduceAdd, Nat.zero_add, sz0, sz1, sz2, sz3, sz4, sz5, sz6, sz7, sz8, sz9, sz10, sz11, sz12, sz13, sz14, sz15, sz16, sz17, sz18, sz19, sz20, sz21, sz22, sz23, len_scr hs, mn, mx, em]
end
end MP.Q

set_option Elab.async false
set_option linter.all false
set_option autoImplicit false
set_option maxRecDepth 100000
set_option maxHeartbeats 0
namespace MP
open PySem PyProof.Rows L2
def clsBody : Stmt → List Stmt
  | .ClassDef _ _ _ b _ _ _ _ _ _ _ => b
  | _ => []

abbrev top (i : Nat) : Stmt := (PySem.Challenge.pw_turnpairs_k17_threads_and_inputs).main.body.getD i (.Pass ⟨0, 0, 0, 0⟩)
def d_is_integer : DI := ⟨"is_integer", defArgs (top 6), defBody (top 6), defScope (top 6), ⟨"is_integer", 1, ["value"], m_is_integer, []⟩⟩
def d_is_within : DI := ⟨"is_within", defArgs (top 7), defBody (top 7), defScope (top 7), ⟨"is_within", 3, ["value", "low", "high"], m_is_within, []⟩⟩
def d_is_index : DI := ⟨"is_index", defArgs (top 8), defBody (top 8), defScope (top 8), ⟨"is_index", 2, ["value", "many"], m_is_index, []⟩⟩
def d_is_tuple : DI := ⟨"is_tuple", defArgs (top 9), defBody (top 9), defScope (top 9), ⟨"is_tuple", 2, ["value", "many"], m_is_tuple, []⟩⟩
def d_ascends : DI := ⟨"ascends", defArgs (top 10), defBody (top 10), defScope (top 10), ⟨"ascends", 1, ["items", "at"], m_ascends, []⟩⟩
def d_integer_in : DI := ⟨"integer_in", defArgs (top 11), defBody (top 11), defScope (top 11), ⟨"integer_in", 1, ["text", "digits", "sign"], m_integer_in, []⟩⟩
def d_is_thread : DI := ⟨"is_thread", defArgs (top 16), defBody (top 16), defScope (top 16), ⟨"is_thread", 1, ["value", "k"], m_is_thread, [(0, ["value"], [0])]⟩⟩
def d_is_inputs : DI := ⟨"is_inputs", defArgs (top 17), defBody (top 17), defScope (top 17), ⟨"is_inputs", 1, ["value", "item", "thread", "row"], m_is_inputs, [(0, ["value"], [0])]⟩⟩
def d_is_row : DI := ⟨"is_row", defArgs (top 18), defBody (top 18), defScope (top 18), ⟨"is_row", 1, ["value", "item"], m_is_row, []⟩⟩
def d_check_thread : DI := ⟨"check_thread", defArgs (top 19), defBody (top 19), defScope (top 19), ⟨"check_thread", 1, ["thread"], m_check_thread, []⟩⟩
def d_thread_text : DI := ⟨"thread_text", defArgs (top 20), defBody (top 20), defScope (top 20), ⟨"thread_text", 1, ["thread", "k"], m_thread_text, []⟩⟩
def d_write_thread : DI := ⟨"write_thread", defArgs (top 21), defBody (top 21), defScope (top 21), ⟨"write_thread", 1, ["thread"], m_write_thread, [(0, ["thread"], [0])]⟩⟩
def d_thread_in : DI := ⟨"thread_in", defArgs (top 22), defBody (top 22), defScope (top 22), ⟨"thread_in", 1, ["text", "found", "part"], m_thread_in, []⟩⟩
def d_read_thread : DI := ⟨"read_thread", defArgs (top 23), defBody (top 23), defScope (top 23), ⟨"read_thread", 1, ["text", "found"], m_read_thread, [(0, ["text"], [0])]⟩⟩
def d__law_cell : DI := ⟨"_law_cell", defArgs (top 25), defBody (top 25), defScope (top 25), ⟨"_law_cell", 2, ["script", "k"], m__law_cell, []⟩⟩
def d__law_box : DI := ⟨"_law_box", defArgs (top 26), defBody (top 26), defScope (top 26), ⟨"_law_box", 1, ["great"], m__law_box, []⟩⟩
def d__law_take : DI := ⟨"_law_take", defArgs (top 27), defBody (top 27), defScope (top 27), ⟨"_law_take", 2, ["box", "many", "mixed", "digit"], m__law_take, []⟩⟩
def d__law_pick : DI := ⟨"_law_pick", defArgs (top 28), defBody (top 28), defScope (top 28), ⟨"_law_pick", 2, ["box", "items"], m__law_pick, []⟩⟩
def d__law_same : DI := ⟨"_law_same", defArgs (top 29), defBody (top 29), defScope (top 29), ⟨"_law_same", 2, ["given", "due", "k", "key"], m__law_same, []⟩⟩
def d__law_grown : DI := ⟨"_law_grown", defArgs (top 30), defBody (top 30), defScope (top 30), ⟨"_law_grown", 1, ["value"], m__law_grown, []⟩⟩
def d__law_is_whole : DI := ⟨"_law_is_whole", defArgs (top 31), defBody (top 31), defScope (top 31), ⟨"_law_is_whole", 3, ["value", "low", "high"], m__law_is_whole, []⟩⟩
def d__law_is_thread : DI := ⟨"_law_is_thread", defArgs (top 32), defBody (top 32), defScope (top 32), ⟨"_law_is_thread", 1, ["value", "k"], m__law_is_thread, []⟩⟩
def d__law_are_inputs : DI := ⟨"_law_are_inputs", defArgs (top 33), defBody (top 33), defScope (top 33), ⟨"_law_are_inputs", 1, ["value", "one", "k", "item"], m__law_are_inputs, []⟩⟩
def d__law_thread : DI := ⟨"_law_thread", defArgs (top 34), defBody (top 34), defScope (top 34), ⟨"_law_thread", 1, ["box", "turn"], m__law_thread, []⟩⟩
def d__law_inputs : DI := ⟨"_law_inputs", defArgs (top 35), defBody (top 35), defScope (top 35), ⟨"_law_inputs", 1, ["box", "found", "turn", "many", "thread", "item"], m__law_inputs, []⟩⟩
def d__law_near_threads : DI := ⟨"_law_near_threads", defArgs (top 36), defBody (top 36), defScope (top 36), ⟨"_law_near_threads", 2, ["box", "thread", "at", "odd"], m__law_near_threads, []⟩⟩
def d__law_near_inputs : DI := ⟨"_law_near_inputs", defArgs (top 37), defBody (top 37), defScope (top 37), ⟨"_law_near_inputs", 2, ["box", "inputs", "found", "at", "odd", "place", "changed", "one", "thread", "row"], m__law_near_inputs, []⟩⟩
def d__law_dots : DI := ⟨"_law_dots", defArgs (top 38), defBody (top 38), defScope (top 38), ⟨"_law_dots", 1, ["thread", "k"], m__law_dots, []⟩⟩
def d__law_texts : DI := ⟨"_law_texts", defArgs (top 39), defBody (top 39), defScope (top 39), ⟨"_law_texts", 2, ["box", "thread", "text", "at", "more", "found"], m__law_texts, []⟩⟩
def d__law_read : DI := ⟨"_law_read", defArgs (top 40), defBody (top 40), defScope (top 40), ⟨"_law_read", 1, ["text", "found", "turn", "same", "longer", "thread", "a"], m__law_read, []⟩⟩
def d__law_asked : DI := ⟨"_law_asked", defArgs (top 41), defBody (top 41), defScope (top 41), ⟨"_law_asked", 3, ["which", "value", "named", "e"], m__law_asked, []⟩⟩
def d__law_refusal : DI := ⟨"_law_refusal", defArgs (top 42), defBody (top 42), defScope (top 42), ⟨"_law_refusal", 3, ["told", "word", "value"], m__law_refusal, []⟩⟩
def d__law_right : DI := ⟨"_law_right", defArgs (top 43), defBody (top 43), defScope (top 43), ⟨"_law_right", 2, ["box", "named", "value", "thread", "inputs", "due", "told"], m__law_right, []⟩⟩
def d_law : DI := ⟨"law", defArgs (top 44), defBody (top 44), defScope (top 44), ⟨"law", 1, ["script", "k", "box", "turn"], m_law, []⟩⟩
def i_InvalidText : II := ⟨1, "InvalidText", defArgs ((clsBody (top 2)).getD 0 (.Pass ⟨0, 0, 0, 0⟩)), defBody ((clsBody (top 2)).getD 0 (.Pass ⟨0, 0, 0, 0⟩)), defScope ((clsBody (top 2)).getD 0 (.Pass ⟨0, 0, 0, 0⟩)), ["self", "given"], "TurnError"⟩
def i_InvalidThread : II := ⟨2, "InvalidThread", defArgs ((clsBody (top 3)).getD 0 (.Pass ⟨0, 0, 0, 0⟩)), defBody ((clsBody (top 3)).getD 0 (.Pass ⟨0, 0, 0, 0⟩)), defScope ((clsBody (top 3)).getD 0 (.Pass ⟨0, 0, 0, 0⟩)), ["self", "given"], "TurnError"⟩
def et : ETab := ⟨[("TurnError", none), ("InvalidText", some 1), ("InvalidThread", some 1)], [[], ["given"], ["given"]], [[true, false, false], [true, true, false], [true, false, true]]⟩
def tx : Txt := ⟨[d_is_integer, d_is_within, d_is_index, d_is_tuple, d_ascends, d_integer_in, d_is_thread, d_is_inputs, d_is_row, d_check_thread, d_thread_text, d_write_thread, d_thread_in, d_read_thread, d__law_cell, d__law_box, d__law_take, d__law_pick, d__law_same, d__law_grown, d__law_is_whole, d__law_is_thread, d__law_are_inputs, d__law_thread, d__law_inputs, d__law_near_threads, d__law_near_inputs, d__law_dots, d__law_texts, d__law_read, d__law_asked, d__law_refusal, d__law_right, d_law], [i_InvalidText, i_InvalidThread], et, [("DIGITS", (.str "0123456789")), ("MOST_CHILDREN", (.int 3)), ("MOST_NAME", (.int 3)), ("MOST_INPUTS", (.int 20))]⟩
theorem b_is_integer : d_is_integer.Bd := ⟨fun _ _ _ _ _ _ us hl => match us, hl with | [_], _ => rfl, fun _ h => nomatch h⟩
theorem b_is_within : d_is_within.Bd := ⟨fun _ _ _ _ _ _ us hl => match us, hl with | [_, _, _], _ => rfl, fun _ h => nomatch h⟩
theorem b_is_index : d_is_index.Bd := ⟨fun _ _ _ _ _ _ us hl => match us, hl with | [_, _], _ => rfl, fun _ h => nomatch h⟩
theorem b_is_tuple : d_is_tuple.Bd := ⟨fun _ _ _ _ _ _ us hl => match us, hl with | [_, _], _ => rfl, fun _ h => nomatch h⟩
theorem b_ascends : d_ascends.Bd := ⟨fun _ _ _ _ _ _ us hl => match us, hl with | [_], _ => rfl, fun _ h => nomatch h⟩
theorem b_integer_in : d_integer_in.Bd := ⟨fun _ _ _ _ _ _ us hl => match us, hl with | [_], _ => rfl, fun _ h => nomatch h⟩
theorem b_is_thread : d_is_thread.Bd := ⟨fun _ _ _ _ _ _ us hl => match us, hl with | [_], _ => rfl, List.forall_mem_cons.2 ⟨fun _ _ _ _ _ _ us ws h1 h2 => match us, ws, h1, h2 with | [], [_], _, _ => rfl, fun _ h => nomatch h⟩⟩
theorem b_is_inputs : d_is_inputs.Bd := ⟨fun _ _ _ _ _ _ us hl => match us, hl with | [_], _ => rfl, List.forall_mem_cons.2 ⟨fun _ _ _ _ _ _ us ws h1 h2 => match us, ws, h1, h2 with | [], [_], _, _ => rfl, fun _ h => nomatch h⟩⟩
theorem b_is_row : d_is_row.Bd := ⟨fun _ _ _ _ _ _ us hl => match us, hl with | [_], _ => rfl, fun _ h => nomatch h⟩
theorem b_check_thread : d_check_thread.Bd := ⟨fun _ _ _ _ _ _ us hl => match us, hl with | [_], _ => rfl, fun _ h => nomatch h⟩
theorem b_thread_text : d_thread_text.Bd := ⟨fun _ _ _ _ _ _ us hl => match us, hl with | [_], _ => rfl, fun _ h => nomatch h⟩
theorem b_write_thread : d_write_thread.Bd := ⟨fun _ _ _ _ _ _ us hl => match us, hl with | [_], _ => rfl, List.forall_mem_cons.2 ⟨fun _ _ _ _ _ _ us ws h1 h2 => match us, ws, h1, h2 with | [], [_], _, _ => rfl, fun _ h => nomatch h⟩⟩
theorem b_thread_in : d_thread_in.Bd := ⟨fun _ _ _ _ _ _ us hl => match us, hl with | [_], _ => rfl, fun _ h => nomatch h⟩
theorem b_read_thread : d_read_thread.Bd := ⟨fun _ _ _ _ _ _ us hl => match us, hl with | [_], _ => rfl, List.forall_mem_cons.2 ⟨fun _ _ _ _ _ _ us ws h1 h2 => match us, ws, h1, h2 with | [], [_], _, _ => rfl, fun _ h => nomatch h⟩⟩
theorem b__law_cell : d__law_cell.Bd := ⟨fun _ _ _ _ _ _ us hl => match us, hl with | [_, _], _ => rfl, fun _ h => nomatch h⟩
theorem b__law_box : d__law_box.Bd := ⟨fun _ _ _ _ _ _ us hl => match us, hl with | [_], _ => rfl, fun _ h => nomatch h⟩
theorem b__law_take : d__law_take.Bd := ⟨fun _ _ _ _ _ _ us hl => match us, hl with | [_, _], _ => rfl, fun _ h => nomatch h⟩
theorem b__law_pick : d__law_pick.Bd := ⟨fun _ _ _ _ _ _ us hl => match us, hl with | [_, _], _ => rfl, fun _ h => nomatch h⟩
theorem b__law_same : d__law_same.Bd := ⟨fun _ _ _ _ _ _ us hl => match us, hl with | [_, _], _ => rfl, fun _ h => nomatch h⟩
theorem b__law_grown : d__law_grown.Bd := ⟨fun _ _ _ _ _ _ us hl => match us, hl with | [_], _ => rfl, fun _ h => nomatch h⟩
theorem b__law_is_whole : d__law_is_whole.Bd := ⟨fun _ _ _ _ _ _ us hl => match us, hl with | [_, _, _], _ => rfl, fun _ h => nomatch h⟩
theorem b__law_is_thread : d__law_is_thread.Bd := ⟨fun _ _ _ _ _ _ us hl => match us, hl with | [_], _ => rfl, fun _ h => nomatch h⟩
theorem b__law_are_inputs : d__law_are_inputs.Bd := ⟨fun _ _ _ _ _ _ us hl => match us, hl with | [_], _ => rfl, fun _ h => nomatch h⟩
theorem b__law_thread : d__law_thread.Bd := ⟨fun _ _ _ _ _ _ us hl => match us, hl with | [_], _ => rfl, fun _ h => nomatch h⟩
theorem b__law_inputs : d__law_inputs.Bd := ⟨fun _ _ _ _ _ _ us hl => match us, hl with | [_], _ => rfl, fun _ h => nomatch h⟩
theorem b__law_near_threads : d__law_near_threads.Bd := ⟨fun _ _ _ _ _ _ us hl => match us, hl with | [_, _], _ => rfl, fun _ h => nomatch h⟩
theorem b__law_near_inputs : d__law_near_inputs.Bd := ⟨fun _ _ _ _ _ _ us hl => match us, hl with | [_, _], _ => rfl, fun _ h => nomatch h⟩
theorem b__law_dots : d__law_dots.Bd := ⟨fun _ _ _ _ _ _ us hl => match us, hl with | [_], _ => rfl, fun _ h => nomatch h⟩
theorem b__law_texts : d__law_texts.Bd := ⟨fun _ _ _ _ _ _ us hl => match us, hl with | [_, _], _ => rfl, fun _ h => nomatch h⟩
theorem b__law_read : d__law_read.Bd := ⟨fun _ _ _ _ _ _ us hl => match us, hl with | [_], _ => rfl, fun _ h => nomatch h⟩
theorem b__law_asked : d__law_asked.Bd := ⟨fun _ _ _ _ _ _ us hl => match us, hl with | [_, _, _], _ => rfl, fun _ h => nomatch h⟩
theorem b__law_refusal : d__law_refusal.Bd := ⟨fun _ _ _ _ _ _ us hl => match us, hl with | [_, _, _], _ => rfl, fun _ h => nomatch h⟩
theorem b__law_right : d__law_right.Bd := ⟨fun _ _ _ _ _ _ us hl => match us, hl with | [_, _], _ => rfl, fun _ h => nomatch h⟩
theorem b_law : d_law.Bd := ⟨fun _ _ _ _ _ _ us hl => match us, hl with | [_], _ => rfl, fun _ h => nomatch h⟩
theorem bi_InvalidText : i_InvalidText.Bd := ⟨fun _ _ _ _ _ _ us hl => match us, hl with | [_, _], _ => rfl⟩
theorem bi_InvalidThread : i_InvalidThread.Bd := ⟨fun _ _ _ _ _ _ us hl => match us, hl with | [_, _], _ => rfl⟩
theorem tx_bd : tx.Bd := ⟨List.forall_mem_cons.2 ⟨b_is_integer, List.forall_mem_cons.2 ⟨b_is_within, List.forall_mem_cons.2 ⟨b_is_index, List.forall_mem_cons.2 ⟨b_is_tuple, List.forall_mem_cons.2 ⟨b_ascends, List.forall_mem_cons.2 ⟨b_integer_in, List.forall_mem_cons.2 ⟨b_is_thread, List.forall_mem_cons.2 ⟨b_is_inputs, List.forall_mem_cons.2 ⟨b_is_row, List.forall_mem_cons.2 ⟨b_check_thread, List.forall_mem_cons.2 ⟨b_thread_text, List.forall_mem_cons.2 ⟨b_write_thread, List.forall_mem_cons.2 ⟨b_thread_in, List.forall_mem_cons.2 ⟨b_read_thread, List.forall_mem_cons.2 ⟨b__law_cell, List.forall_mem_cons.2 ⟨b__law_box, List.forall_mem_cons.2 ⟨b__law_take, List.forall_mem_cons.2 ⟨b__law_pick, List.forall_mem_cons.2 ⟨b__law_same, List.forall_mem_cons.2 ⟨b__law_grown, List.forall_mem_cons.2 ⟨b__law_is_whole, List.forall_mem_cons.2 ⟨b__law_is_thread, List.forall_mem_cons.2 ⟨b__law_are_inputs, List.forall_mem_cons.2 ⟨b__law_thread, List.forall_mem_cons.2 ⟨b__law_inputs, List.forall_mem_cons.2 ⟨b__law_near_threads, List.forall_mem_cons.2 ⟨b__law_near_inputs, List.forall_mem_cons.2 ⟨b__law_dots, List.forall_mem_cons.2 ⟨b__law_texts, List.forall_mem_cons.2 ⟨b__law_read, List.forall_mem_cons.2 ⟨b__law_asked, List.forall_mem_cons.2 ⟨b__law_refusal, List.forall_mem_cons.2 ⟨b__law_right, List.forall_mem_cons.2 ⟨b_law, fun _ h => nomatch h⟩⟩⟩⟩⟩⟩⟩⟩⟩⟩⟩⟩⟩⟩⟩⟩⟩⟩⟩⟩⟩⟩⟩⟩⟩⟩⟩⟩⟩⟩⟩⟩⟩⟩, List.forall_mem_cons.2 ⟨bi_InvalidText, List.forall_mem_cons.2 ⟨bi_InvalidThread, fun _ h => nomatch h⟩⟩⟩
theorem tx_ok : tx.ok = true := by decide +kernel
abbrev R : PySem.W.OpenRow := PySem.W.OpenLaw.row PySem.Challenge.rw_turnpairs_k17_threads_and_inputs
abbrev hk : PySem.W.Hook := hookM 6 [] tx.fn tx.ex
def ob (s : PySem.W.SharedT) : He.AlD × Bool := obsM 6 [] tx.fn tx.ex (HandSHeadRun.getT s)
theorem ob_eq (s : PySem.W.SharedT) : ob s = hk.obs s.abs := obsM_eq (HandSHeadRun.getT_eq s)
def loose : List PySem.Str := (["__name__", "TurnError", "InvalidText", "InvalidThread", "is_integer", "is_within", "is_index", "is_tuple", "ascends", "integer_in", "is_thread", "is_inputs", "is_row", "check_thread", "thread_text", "write_thread", "thread_in", "read_thread", "_law_cell", "_law_box", "_law_take", "_law_pick", "_law_same", "_law_grown", "_law_is_whole", "_law_is_thread", "_law_are_inputs", "_law_thread", "_law_inputs", "_law_near_threads"] : List PySem.Str) ++ (["_law_near_inputs", "_law_dots", "_law_texts", "_law_read", "_law_asked", "_law_refusal", "_law_right", "DIGITS", "MOST_CHILDREN", "MOST_NAME", "MOST_INPUTS"] : List PySem.Str)
theorem run (w : World) : HandSHeadRun.RunEq R (PySem.W.view R.prog [44]) hk ob 4000 loose w := by
  intro os
  kernel_rfl
end MP
open PySem PySem.W PySem.Calls PyProof.Rows
theorem law_of (hev : ∀ ns : List Int, ns.length ≤ 63 → ∃ h, MP.callM MP.tx.prog 60 [] 33 [.ref 0] [.scr ns] = .ok (.bl true) h) : PySem.Challenge.rw_turnpairs_k17_threads_and_inputs.Holds := by
  w_on; o_law
  refine HandSHeadRun.head_any (r := OpenLaw.row PySem.Challenge.rw_turnpairs_k17_threads_and_inputs) (q := view (OpenLaw.row PySem.Challenge.rw_turnpairs_k17_threads_and_inputs).prog [44]) (H := MP.hk) (ob := MP.ob) (M := 4000) (loose := MP.loose) (d := HandSHeadRun.topDef (OpenLaw.row PySem.Challenge.rw_turnpairs_k17_threads_and_inputs).prog 44) (kwd := []) MP.ob_eq
    (by kernel_rfl) (fun s => by kernel_rfl) MP.run (by kernel_rfl) (by kernel_rfl) (by kernel_rfl) (by rfl) (by first | assumption | decide +kernel) (by decide +kernel) ⟨rfl, rfl, rfl, rfl, rfl, by decide +kernel⟩ ?hw ?hc
  case hw => w_witness2
  case hc =>
    refine L2.walk_ofE (l := PySem.Challenge.rw_turnpairs_k17_threads_and_inputs) (n := 63) (k := 62) (x := "script") (CX := MP.cxA (PySem.Challenge.rw_turnpairs_k17_threads_and_inputs).prog) rfl (by decide) (by kernel_rfl) ⟨rfl, by decide, by decide⟩ ?F (fun H s e s' h => MP.cxA_no H s e s' h)
    intro w mg fa h Y G hmg0
    obtain ⟨K, KX, sd, ex, nl⟩ := Y
    have hmg : mg ("law" : PySem.Str) = some (.ref fa) := by
      have e : (HandSHeadRun.topDef (OpenLaw.row PySem.Challenge.rw_turnpairs_k17_threads_and_inputs).prog 44).name = ("law" : PySem.Str) := by kernel_rfl
      rw [← e]
      exact hmg0
    obtain ⟨fd, sp, h1, h2, h3⟩ := MP.law_facts (P := (PySem.Challenge.rw_turnpairs_k17_threads_and_inputs).prog) (w := w) (k := 60) (i := 33) (D := MP.d_law) KX G sd ex nl MP.tx_ok MP.tx_bd rfl rfl rfl rfl hmg hev
    exact ⟨K, fd, sp, KX, h1, h2, h3⟩

namespace MP
open PySem PyProof.Rows L2
theorem tx_prog : tx.prog = Q.PP := by
  have h1 : tx.prog.defs = Q.PP.defs := rfl
  have h2 : tx.prog.glb = Q.PP.glb := rfl
  have h3 : tx.prog.sub = Q.PP.sub := rfl
  show MProg.mk tx.prog.defs tx.prog.glb tx.prog.sub = MProg.mk Q.PP.defs Q.PP.glb Q.PP.sub
  rw [h1, h2, h3]
end MP

theorem PySem.Challenge.cw_turnpairs_k17_threads_and_inputs_holds : PySem.Challenge.rw_turnpairs_k17_threads_and_inputs.Holds := by
  refine law_of fun ns hl => ?_
  rw [MP.tx_prog]
  exact MP.Q.plain_law ns hl

